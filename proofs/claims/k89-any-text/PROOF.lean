import PyProof.Rows.All
import Wide.All
import OpenK.AllK
import Wide.FinOn
import HandS.ForMost
import HandS.Walk
import HandS.Zip
import HandS.Deep
import HandS.TupAny
import HandS.TupLe
import HandS.Flow
import HandS.ExcInit
import HandS.ExcValue
import HandS.Lambda
import HandS.TupMul
import KE.DataEq
import HandS.Text
import KE.DataMinMax
import KE.SortData
import KE.DataIsa
import PyProof.ReprRoads
import HandS.RaiseMore
import KE.GoesNew
import HandS.Style
import HandS.Conv
import HandS.TupSets
import HandS.SetFor
import HandS.Strs
import KE.KExcSuper
import KE.KExcIs
import KE.KTryMore
import HandS.Ends
import HandS.Dict
import HandS.Small
import PyProof.StrLawsRepr
import Wide.Txt
import KE.IntTextLaws
import KE.IntTextText
import PySem.Challenge.RW_sumsshown_k89_whole_any_text
set_option Elab.async false
set_option linter.all false
set_option maxRecDepth 100000
/-! P1: a layer of plain data over HandS: results, the draws, the part of the heap that is seen, steps. -/
namespace PD
open PySem L2

/-- nothing of the module is data here -/
abbrev K0 : PySem.W.Frag := []
/-- the state of the draws of a law -/
structure Draw where
  cells : List Int
  great : List Int
  a : Int
  b : Int

/-- a result: a value, an error (its class by number, what it keeps), or stuck -/
inductive Res (α : Type) where
  | ok (x : α) (S : Draw)
  | exc (c : Nat) (d : PyData) (S : Draw)
  | bad

def Res.bind {α β : Type} : Res α → (α → Draw → Res β) → Res β
  | .ok x S, f => f x S
  | .exc c d S, _ => .exc c d S
  | .bad, _ => .bad

def Res.Post {α : Type} (P : α → Draw → Prop) (E : Nat → PyData → Draw → Prop) : Res α → Prop
  | .ok x S => P x S
  | .exc c d S => E c d S
  | .bad => False

theorem Res.Post.mono {α : Type} {P P' : α → Draw → Prop} {E E' : Nat → PyData → Draw → Prop} {r : Res α} (h : r.Post P E) (hp : ∀ x S, P x S → P' x S) (he : ∀ c d S, E c d S → E' c d S) : r.Post P' E' := by
  cases r with
  | ok x S => exact hp _ _ h
  | exc c d S => exact he _ _ _ h
  | bad => exact h

@[simp] theorem Res.bind_ok {α β : Type} (x : α) (S : Draw) (f : α → Draw → Res β) : (Res.ok x S).bind f = f x S := rfl
@[simp] theorem Res.bind_exc {α β : Type} (c : Nat) (d : PyData) (S : Draw) (f : α → Draw → Res β) : (Res.exc c d S : Res α).bind f = .exc c d S := rfl
@[simp] theorem Res.bind_bad {α β : Type} (f : α → Draw → Res β) : (Res.bad : Res α).bind f = .bad := rfl

/-- how the draws' state lies in a dict: the two lists' places, the rest -/
structure Mch where
  lay : Draw → Addr → Addr → List (Key × V)
  refs : ∀ S pc pg k a, (k, V.ref a) ∈ lay S pc pg → a = pc ∨ a = pg
  hc : ∀ S pc pg, ∃ k, (k, V.ref pc) ∈ lay S pc pg
  hg : ∀ S pc pg, ∃ k, (k, V.ref pg) ∈ lay S pc pg

def Mst (H : Hp) (pm a : Addr) : Prop := a = pm ∨ ∃ kvs k, H pm = some (.dK kvs) ∧ (k, V.ref a) ∈ kvs

def StAt (M : Mch) (H : Hp) (pm : Addr) (S : Draw) : Prop :=
  ∃ pc pg, pc ≠ pg ∧ H pm = some (.dK (M.lay S pc pg)) ∧ H pc = some (.lst (S.cells.map V.int)) ∧ H pg = some (.lst (S.great.map V.int))

inductive Kd where
  | nrm | own | hnd | scr | exv
  deriving DecidableEq

/-- what a frame's judgements hang on -/
structure Cfg where
  M : Mch
  /-- the module's own objects (a script may be one) -/
  K : PySem.W.Frag

  pm : Addr
  /-- not of this frame's making -/
  Z : Addr → Prop
  kd : List Kd
  /-- the errors: names, with the name of what they keep; where their classes stand -/
  ex : List (Nat × Str × Option Str)
  ea : Nat → Addr
  /-- the tables of code objects of those that make lambdas -/
  T : List (Addr × Str)
  /-- what is wanted of an error: its number, what it keeps -/
  XQ : Nat → PyData → Draw → L2.St → Hp → Hp → Prop

/-- W: what is seen of the heap H; the draws' state lies apart -/
structure Vw (C : Cfg) (W H : Hp) (S : Draw) : Prop where
  sub : ∀ a o, W a = some o → H a = some o
  hid : ∀ a, Mst H C.pm a → W a = none
  st : StAt C.M H C.pm S
  tab : LamX.Tabs C.T H
  nt : ∀ a ps, W a ≠ some (.tbl ps)

structure Stp (pm : Addr) (H W H' W' : Hp) : Prop where
  w : ∀ a o, W a = some o → W' a = some o
  k : ∀ a o, H a = some o → ¬ Mst H pm a → (∀ ps, o ≠ .tbl ps) → H' a = some o ∧ ¬ Mst H' pm a
  t : ∀ a o, H a = some o → ∃ o', H' a = some o'
  f : ∀ a o, W' a = some o → W a = none → H a = none

theorem Stp.refl (pm : Addr) (H W : Hp) : Stp pm H W H W :=
  ⟨fun _ _ h => h, fun _ _ h n _ => ⟨h, n⟩, fun _ o h => ⟨o, h⟩, fun a o h n => by rw [n] at h; cases h⟩
theorem Stp.trans {pm : Addr} {H W H1 W1 H2 W2 : Hp} (a : Stp pm H W H1 W1) (b : Stp pm H1 W1 H2 W2) : Stp pm H W H2 W2 where
  w := fun c o h => b.w c o (a.w c o h)
  k := fun c o h n q => let ⟨h1, n1⟩ := a.k c o h n q; b.k c o h1 n1 q
  t := fun c o h => let ⟨o1, h1⟩ := a.t c o h; b.t c o1 h1
  f := fun c o h n => by
    cases e : W1 c with
    | some u => exact a.f c u e n
    | none =>
      have h1 := b.f c o h e
      cases e2 : H c with
      | none => rfl
      | some u =>
        obtain ⟨o', h2⟩ := a.t c u e2
        rw [h1] at h2
        cases h2
/-- what was hidden is shown: a thing that was not there at the beginning -/
theorem Stp.see {pm : Addr} {H W H' W' : Hp} (s : Stp pm H W H' W') {p : Addr} {o : HO} (hn : H p = none) (hw : W' p = none) : Stp pm H W H' (upd W' p o) where
  w := fun c u h => by
    have h1 := s.w c u h
    rw [upd_ne (fun e => by rw [e, hw] at h1; cases h1)]
    exact h1
  k := s.k
  t := s.t
  f := fun c u h n => by
    by_cases e : c = p
    · rw [e]; exact hn
    · rw [upd_ne e] at h
      exact s.f c u h n

theorem Mst.mem {M : Mch} {H : Hp} {pm a : Addr} {S : Draw} (st : StAt M H pm S) (m : Mst H pm a) : ∃ o, H a = some o := by
  obtain ⟨pc, pg, _, h1, h2, h3⟩ := st
  rcases m with rfl | ⟨kvs, k, e, hm⟩
  · exact ⟨_, h1⟩
  · rw [h1] at e
    cases e
    rcases M.refs _ _ _ _ _ hm with rfl | rfl
    · exact ⟨_, h2⟩
    · exact ⟨_, h3⟩
theorem Vw.new_ne {C : Cfg} {W H : Hp} {S : Draw} (v : Vw C W H S) {q : Addr} (hq : H q = none) : ¬ Mst H C.pm q := fun m => by
  obtain ⟨o, e⟩ := Mst.mem v.st m
  rw [hq] at e
  cases e
theorem Vw.pm_ne {C : Cfg} {W H : Hp} {S : Draw} (v : Vw C W H S) {q : Addr} (hq : H q = none) : C.pm ≠ q := fun e => v.new_ne hq (.inl e.symm)
theorem Vw.wnone {C : Cfg} {W H : Hp} {S : Draw} (v : Vw C W H S) {q : Addr} (hq : H q = none) : W q = none := by
  cases e : W q with
  | none => rfl
  | some o => have := v.sub q o e; rw [hq] at this; cases this
theorem mst_upd {H : Hp} {pm q a : Addr} {o : HO} (h : pm ≠ q) : Mst (upd H q o) pm a ↔ Mst H pm a := by
  unfold Mst
  rw [upd_ne h]
theorem StAt.upd {M : Mch} {H : Hp} {pm : Addr} {S : Draw} (st : StAt M H pm S) {q : Addr} {o : HO} (hq : ¬ Mst H pm q) : StAt M (upd H q o) pm S := by
  obtain ⟨pc, pg, ne, h1, h2, h3⟩ := st
  have n0 : pm ≠ q := fun e => hq (.inl e.symm)
  have n1 : pc ≠ q := fun e => by
    obtain ⟨k, hk⟩ := M.hc S pc pg
    exact hq (e ▸ .inr ⟨_, k, h1, hk⟩)
  have n2 : pg ≠ q := fun e => by
    obtain ⟨k, hk⟩ := M.hg S pc pg
    exact hq (e ▸ .inr ⟨_, k, h1, hk⟩)
  exact ⟨pc, pg, ne, by rw [upd_ne n0]; exact h1, by rw [upd_ne n1]; exact h2, by rw [upd_ne n2]; exact h3⟩

theorem tabs_upd {T : List (Addr × Str)} {H : Hp} (t : LamX.Tabs T H) {q : Addr} {o : HO} (hq : H q = none) : LamX.Tabs T (upd H q o) := t.ext fun b u h => by rw [upd_ne (ne_of_none h hq)]; exact h
theorem ext_lst {φ : Heap → Prop} {vs : List V} : HO.ext φ ≠ .lst vs := fun z => by cases z
/-- what is no table and no code object is written -/
theorem tabs_put {T : List (Addr × Str)} {H : Hp} (t : LamX.Tabs T H) {q : Addr} {o : HO} (hq : ∀ u, H q = some u → (∀ ps, u ≠ .tbl ps) ∧ ∀ φ, u ≠ .ext φ) : LamX.Tabs T (upd H q o) := fun p hp => by
  obtain ⟨ps, h1, h2, h3⟩ := t p hp
  refine ⟨ps, ?_, h2, fun pos cv hc => ?_⟩
  · rw [upd_ne (fun z => (hq _ (by rw [← z]; exact h1)).1 ps rfl)]
    exact h1
  · obtain ⟨c, e1, e2⟩ := h3 pos cv hc
    refine ⟨c, e1, ?_⟩
    rw [upd_ne (fun z => (hq _ (by rw [← z]; exact e2)).2 _ rfl)]
    exact e2
theorem nt_upd {W : Hp} (t : ∀ a ps, W a ≠ some (.tbl ps)) {q : Addr} {o : HO} (ho : ∀ ps, o ≠ .tbl ps) : ∀ a ps, upd W q o a ≠ some (.tbl ps) := fun a ps z => by
  by_cases e : a = q
  · rw [e, upd_same] at z
    exact ho ps (Option.some.inj z)
  · rw [upd_ne e] at z
    exact t a ps z
/-- a new thing, seen -/
theorem Vw.new {C : Cfg} {W H : Hp} {S : Draw} (v : Vw C W H S) {q : Addr} {o : HO} (hq : H q = none) (ho : ∀ ps, o ≠ .tbl ps := by intro ps z; cases z) : Vw C (upd W q o) (upd H q o) S where
  sub := fun a u h => by
    by_cases e : a = q
    · subst e; rw [upd_same] at h ⊢; exact h
    · rw [upd_ne e] at h ⊢; exact v.sub a u h
  hid := fun a m => by
    have m' := (mst_upd (v.pm_ne hq)).mp m
    rw [upd_ne (fun e => v.new_ne hq (by rw [← e]; exact m'))]
    exact v.hid a m'
  st := v.st.upd (v.new_ne hq)
  tab := tabs_upd v.tab hq
  nt := nt_upd v.nt ho
/-- .. hidden -/
theorem Vw.newH {C : Cfg} {W H : Hp} {S : Draw} (v : Vw C W H S) {q : Addr} {o : HO} (hq : H q = none) : Vw C W (upd H q o) S where
  sub := fun a u h => by
    have h1 := v.sub a u h
    rw [upd_ne (ne_of_none h1 hq)]
    exact h1
  hid := fun a m => v.hid a ((mst_upd (v.pm_ne hq)).mp m)
  st := v.st.upd (v.new_ne hq)
  tab := tabs_upd v.tab hq
  nt := v.nt
/-- a hidden thing is written -/
theorem Vw.put {C : Cfg} {W H : Hp} {S : Draw} (v : Vw C W H S) {q : Addr} {o : HO} {vs : List V} (hl : H q = some (.lst vs)) (hw : W q = none) (hm : ¬ Mst H C.pm q) : Vw C W (upd H q o) S where
  sub := fun a u h => by
    have h1 := v.sub a u h
    rw [upd_ne (fun e => by rw [e, hw] at h; cases h)]
    exact h1
  hid := fun a m => v.hid a ((mst_upd (fun e => hm (.inl e.symm))).mp m)
  st := v.st.upd hm
  tab := tabs_put v.tab fun u h => by
    rw [hl] at h
    cases h
    exact ⟨fun ps z => (by cases z), fun φ z => (by cases z)⟩
  nt := v.nt
/-- a hidden thing is shown -/
theorem Vw.see {C : Cfg} {W H : Hp} {S : Draw} (v : Vw C W H S) {q : Addr} {o : HO} (hq : H q = some o) (hm : ¬ Mst H C.pm q) (ho : ∀ ps, o ≠ .tbl ps := by intro ps z; cases z) : Vw C (upd W q o) H S where
  sub := fun a u h => by
    by_cases e : a = q
    · subst e; rw [upd_same] at h; rw [← h]; exact hq
    · rw [upd_ne e] at h; exact v.sub a u h
  hid := fun a m => by
    rw [upd_ne (fun e => hm (by rw [← e]; exact m))]
    exact v.hid a m
  st := v.st
  tab := v.tab
  nt := nt_upd v.nt ho
theorem Stp.new {C : Cfg} {W H : Hp} {S : Draw} (v : Vw C W H S) {q : Addr} {o : HO} (hq : H q = none) : Stp C.pm H W (upd H q o) (upd W q o) where
  w := fun a u h => by rw [upd_ne (ne_of_none h (v.wnone hq))]; exact h
  k := fun a u h n _ => ⟨by rw [upd_ne (ne_of_none h hq)]; exact h, fun m => n ((mst_upd (v.pm_ne hq)).mp m)⟩
  t := fun a u h => ⟨u, by rw [upd_ne (ne_of_none h hq)]; exact h⟩
  f := fun a u h n => by
    by_cases e : a = q
    · rw [e]; exact hq
    · rw [upd_ne e, n] at h; cases h
theorem Stp.newH {C : Cfg} {W H : Hp} {S : Draw} (v : Vw C W H S) {q : Addr} {o : HO} (hq : H q = none) : Stp C.pm H W (upd H q o) W where
  w := fun a u h => h
  k := fun a u h n _ => ⟨by rw [upd_ne (ne_of_none h hq)]; exact h, fun m => n ((mst_upd (v.pm_ne hq)).mp m)⟩
  t := fun a u h => ⟨u, by rw [upd_ne (ne_of_none h hq)]; exact h⟩
  f := fun a u h n => by rw [n] at h; cases h
/-- a hidden thing that was not there at the beginning is written -/
theorem Stp.put {C : Cfg} {W H W' H' : Hp} (s : Stp C.pm H W H' W') {q : Addr} {o : HO} (hn : H q = none) (hm : ¬ Mst H' C.pm q) : Stp C.pm H W (upd H' q o) W' where
  w := s.w
  k := fun a u h n q => by
    obtain ⟨h1, n1⟩ := s.k a u h n q
    exact ⟨by rw [upd_ne (ne_of_none h hn)]; exact h1, fun m => n1 ((mst_upd (fun e => hm (.inl e.symm))).mp m)⟩
  t := fun a u h => by
    obtain ⟨o', h1⟩ := s.t a u h
    exact ⟨o', by rw [upd_ne (ne_of_none h hn)]; exact h1⟩
  f := s.f

/-! ### data in the seen part -/
theorem rd_mono {W W' : Hp} (h : ∀ a o, W a = some o → W' a = some o) {a : Addr} {u : HO} (r : Rd W a u) : Rd W' a u := by
  rcases r with r | ⟨o, r⟩
  · exact .inl (h _ _ r)
  · exact .inr ⟨o, h _ _ r⟩
theorem sqL_mono {K : PySem.W.Frag} {W W' : Hp} (h : ∀ a o, W a = some o → W' a = some o) {a : Addr} {xs : List V} (r : SqL K W a xs) : SqL K W' a xs := by
  rcases r with r | r
  · exact .inl (rd_mono h r)
  · exact .inr r
theorem sqT_mono {K : PySem.W.Frag} {W W' : Hp} (h : ∀ a o, W a = some o → W' a = some o) {a : Addr} {xs : List V} (r : SqT K W a xs) : SqT K W' a xs := by
  rcases r with r | r
  · exact .inl (rd_mono h r)
  · exact .inr r
mutual
theorem dp_mono {K : PySem.W.Frag} {W W' : Hp} (h : ∀ a o, W a = some o → W' a = some o) : ∀ {v : V} {d : PyData}, Dp K W v d → Dp K W' v d
  | _, _, .non => .non
  | _, _, .bl b => .bl b
  | _, _, .int i => .int i
  | _, _, .str x => .str x
  | _, _, .lst a b => .lst (sqL_mono h a) (dpAll_mono h b)
  | _, _, .tup a b => .tup (sqT_mono h a) (dpAll_mono h b)
theorem dpAll_mono {K : PySem.W.Frag} {W W' : Hp} (h : ∀ a o, W a = some o → W' a = some o) : ∀ {vs : List V} {ds : List PyData}, DpAll K W vs ds → DpAll K W' vs ds
  | _, _, .nil => .nil
  | _, _, .cons a b => .cons (dp_mono h a) (dpAll_mono h b)
end
theorem dpAll_len {K : PySem.W.Frag} {W : Hp} : ∀ {vs : List V} {ds : List PyData}, DpAll K W vs ds → vs.length = ds.length
  | _, _, .nil => rfl
  | _, _, .cons _ b => by rw [List.length_cons, List.length_cons, dpAll_len b]
theorem dpAll_get {K : PySem.W.Frag} {W : Hp} : ∀ {vs : List V} {ds : List PyData} {i : Nat} {d : PyData}, DpAll K W vs ds → ds[i]? = some d → ∃ v, vs[i]? = some v ∧ Dp K W v d
  | _, _, _, _, .nil, e => by simp at e
  | _, _, 0, _, .cons a _, e => by simp at e; subst e; exact ⟨_, rfl, a⟩
  | _, _, i + 1, d, .cons _ b, e => by
    obtain ⟨v, h1, h2⟩ := dpAll_get (i := i) (d := d) b (by simpa using e)
    exact ⟨v, by simpa using h1, h2⟩
theorem dpAll_getV {K : PySem.W.Frag} {W : Hp} {vs : List V} {ds : List PyData} {i : Nat} {v : V} (h : DpAll K W vs ds) (e : vs[i]? = some v) : ∃ d, ds[i]? = some d ∧ Dp K W v d := by
  have hl := dpAll_len h
  have hi : i < ds.length := by rw [← hl]; exact (List.getElem?_eq_some_iff.mp e).1
  obtain ⟨v', h1, h2⟩ := dpAll_get h (List.getElem?_eq_getElem hi)
  rw [e] at h1
  cases h1
  exact ⟨_, List.getElem?_eq_getElem hi, h2⟩
theorem dpAll_append {K : PySem.W.Frag} {W : Hp} : ∀ {vs us : List V} {ds es : List PyData}, DpAll K W vs ds → DpAll K W us es → DpAll K W (vs ++ us) (ds ++ es)
  | _, _, _, _, .nil, h => h
  | _, _, _, _, .cons a b, h => .cons a (dpAll_append b h)
theorem dpAll_take {K : PySem.W.Frag} {W : Hp} : ∀ {vs : List V} {ds : List PyData} (n : Nat), DpAll K W vs ds → DpAll K W (vs.take n) (ds.take n)
  | _, _, 0, _ => by simpa using DpAll.nil
  | _, _, n + 1, .nil => by simpa using DpAll.nil
  | _, _, n + 1, .cons a b => by simpa using DpAll.cons a (dpAll_take n b)
theorem dpAll_drop {K : PySem.W.Frag} {W : Hp} : ∀ {vs : List V} {ds : List PyData} (n : Nat), DpAll K W vs ds → DpAll K W (vs.drop n) (ds.drop n)
  | _, _, 0, h => by simpa using h
  | _, _, n + 1, .nil => by simpa using DpAll.nil
  | _, _, n + 1, .cons a b => by simpa using dpAll_drop n b
theorem dpAll_set {K : PySem.W.Frag} {W : Hp} {v : V} {d : PyData} (h : Dp K W v d) : ∀ {vs : List V} {ds : List PyData} (n : Nat), DpAll K W vs ds → DpAll K W (vs.set n v) (ds.set n d)
  | _, _, _, .nil => by simpa using DpAll.nil
  | _, _, 0, .cons a b => by simpa using DpAll.cons h b
  | _, _, n + 1, .cons a b => by simpa using DpAll.cons a (dpAll_set h n b)

/-- a list that is read: seen, a hidden one of ours, or the module's -/
inductive Rdl (C : Cfg) (H W : Hp) (p : Addr) (vs : List V) : Prop where
  | see (h : SqL K0 W p vs) : Rdl C H W p vs
  | own (h : H p = some (.lst vs)) (m : ¬ Mst H C.pm p) : Rdl C H W p vs
  | mod (h : SqL C.K (fun _ => none) p vs) : Rdl C H W p vs
theorem sq0 {K : PySem.W.Frag} {H : Hp} {a : Addr} {xs : List V} (h : SqL K0 H a xs) : SqL K H a xs := by
  rcases h with h | ⟨o, its, n, hk, _⟩
  · exact .inl h
  · cases hk
theorem sqT0 {K : PySem.W.Frag} {H : Hp} {a : Addr} {xs : List V} (h : SqT K0 H a xs) : SqT K H a xs := by
  rcases h with h | ⟨o, its, n, hk, _⟩
  · exact .inl h
  · cases hk
theorem rd0 {H : Hp} {a : Addr} {xs : List V} (h : SqL K0 H a xs) : Rd H a (.lst xs) := by
  rcases h with h | ⟨o, its, n, hk, _⟩
  · exact h
  · cases hk
mutual
theorem dp0 {K : PySem.W.Frag} {W : Hp} : ∀ {v : V} {d : PyData}, Dp K0 W v d → Dp K W v d
  | _, _, .non => .non
  | _, _, .bl b => .bl b
  | _, _, .int i => .int i
  | _, _, .str x => .str x
  | _, _, .lst a b => .lst (sq0 a) (dpAll0 b)
  | _, _, .tup a b => .tup (sqT0 a) (dpAll0 b)
theorem dpAll0 {K : PySem.W.Frag} {W : Hp} : ∀ {vs : List V} {ds : List PyData}, DpAll K0 W vs ds → DpAll K W vs ds
  | _, _, .nil => .nil
  | _, _, .cons a b => .cons (dp0 a) (dpAll0 b)
end
theorem ints_dpAll {K : PySem.W.Frag} {W : Hp} (ns : List Int) : DpAll K W (ns.map V.int) (ns.map .int) := by
  induction ns with
  | nil => exact .nil
  | cons n r ih => exact .cons (.int n) ih
theorem Rdl.sq {C : Cfg} {H W : Hp} {S : Draw} {p : Addr} {vs : List V} (r : Rdl C H W p vs) (v : Vw C W H S) : SqL C.K H p vs := by
  cases r with
  | see h => exact sq0 (sqL_mono v.sub h)
  | own h m => exact .of h
  | mod h => exact sqL_mono (fun _ _ e => by cases e) h
theorem Rdl.stp {C : Cfg} {H W H' W' : Hp} {p : Addr} {vs : List V} (r : Rdl C H W p vs) (s : Stp C.pm H W H' W') : Rdl C H' W' p vs := by
  cases r with
  | see h => exact .see (sqL_mono s.w h)
  | own h m => exact .own (s.k p _ h m (fun ps z => by cases z)).1 (s.k p _ h m (fun ps z => by cases z)).2
  | mod h => exact .mod h

/-- a value that is read: data that are seen, a hidden list of ours, or the script -/
inductive Rdt (C : Cfg) (H W : Hp) : V → PyData → Prop where
  | see {v : V} {d : PyData} (h : Dp K0 W v d) : Rdt C H W v d
  | own {p : Addr} {vs : List V} {ds : List PyData} (h : H p = some (.lst vs)) (m : ¬ Mst H C.pm p) (a : DpAll K0 W vs ds) : Rdt C H W (.ref p) (.list ds)
  | mod {p : Addr} {ns : List Int} (h : SqL C.K (fun _ => none) p (ns.map V.int)) : Rdt C H W (.ref p) (.list (ns.map .int))
theorem Rdt.dp {C : Cfg} {H W : Hp} {S : Draw} {v : V} {d : PyData} (r : Rdt C H W v d) (w : Vw C W H S) : Dp C.K H v d := by
  cases r with
  | see h => exact dp0 (dp_mono w.sub h)
  | own h m a => exact .lst (.of h) (dpAll0 (dpAll_mono w.sub a))
  | mod h => exact .lst (sqL_mono (fun _ _ e => by cases e) h) (ints_dpAll _)
theorem Rdt.stp {C : Cfg} {H W H' W' : Hp} {v : V} {d : PyData} (r : Rdt C H W v d) (s : Stp C.pm H W H' W') : Rdt C H' W' v d := by
  cases r with
  | see h => exact .see (dp_mono s.w h)
  | own h m a => exact .own (s.k _ _ h m (fun ps z => by cases z)).1 (s.k _ _ h m (fun ps z => by cases z)).2 (dpAll_mono s.w a)
  | mod h => exact .mod h
theorem Rdt.list {C : Cfg} {H W : Hp} {v : V} {ds : List PyData} (r : Rdt C H W v (.list ds)) : ∃ p vs, v = .ref p ∧ Rdl C H W p vs ∧ DpAll K0 W vs ds := by
  cases r with
  | see h => cases h with | lst a b => exact ⟨_, _, rfl, .see a, b⟩
  | own h m a => exact ⟨_, _, rfl, .own h m, a⟩
  | mod h => exact ⟨_, _, rfl, .mod h, ints_dpAll _⟩
theorem Rdt.tuple {C : Cfg} {H W : Hp} {v : V} {ds : List PyData} (r : Rdt C H W v (.tuple ds)) : ∃ p vs, v = .ref p ∧ SqT K0 W p vs ∧ DpAll K0 W vs ds := by
  cases r with
  | see h => cases h with | tup a b => exact ⟨_, _, rfl, a, b⟩
theorem Rdt.int {C : Cfg} {H W : Hp} {v : V} {i : Int} (r : Rdt C H W v (.int i)) : v = .int i := by
  cases r with
  | see h => cases h; rfl
theorem Rdt.bool {C : Cfg} {H W : Hp} {v : V} {i : Bool} (r : Rdt C H W v (.bool i)) : v = .bl i := by
  cases r with
  | see h => cases h; rfl
theorem Rdt.str {C : Cfg} {H W : Hp} {v : V} {i : Str} (r : Rdt C H W v (.str i)) : v = .str i := by
  cases r with
  | see h => cases h; rfl
theorem Rdt.none {C : Cfg} {H W : Hp} {v : V} (r : Rdt C H W v .none) : v = .non := by
  cases r with
  | see h => cases h; rfl

/-! ### the frame's names -/
abbrev Env := List (Option PyData)
def hndD : PyData := .dict []
/-- an error that is held -/
def excD (c : Nat) (x : PyData) : PyData := .dict [(.int c, x)]
/-- an error of the number c that keeps x: its class, its dict -/
def ExcAt (ex : List (Nat × Str × Option Str)) (ea : Nat → Addr) (W : Hp) (c : Nat) (x : PyData) (cls : Value) (dd : Option Addr) : Prop := ∃ y fld, ex.lookup c = some (y, fld) ∧ cls = .ref (ea c) ∧ (match fld with
  | none => dd = none ∧ x = .none
  | some f => ∃ dx v, dd = some dx ∧ W dx = some (.xd [(f, v)]) ∧ Dp K0 W v x)
theorem ExcAt.mono {ex : List (Nat × Str × Option Str)} {ea : Nat → Addr} {W W' : Hp} (h : ∀ a o, W a = some o → W' a = some o) {c : Nat} {x : PyData} {cls : Value} {dd : Option Addr} (e : ExcAt ex ea W c x cls dd) : ExcAt ex ea W' c x cls dd := by
  obtain ⟨y, fld, h1, h2, h3⟩ := e
  refine ⟨y, fld, h1, h2, ?_⟩
  cases fld with
  | none => exact h3
  | some f =>
    obtain ⟨dx, v, e1, e2, e3⟩ := h3
    exact ⟨dx, v, e1, h _ _ e2, dp_mono h e3⟩
/-- the object at a is an error of the class cls, its dict at dd -/
def HldO (cls : Value) (dd : Option Addr) (a : Addr) : HO := .ext fun h => ∃ oe : Obj, h.get? a = some oe ∧ Zc cls dd oe ∧ ∃ vs, oe.data = .fields vs
/-- a held error, seen -/
def HldAt (ex : List (Nat × Str × Option Str)) (ea : Nat → Addr) (W : Hp) (v : V) (d : PyData) : Prop := ∃ (c : Nat) (x : PyData) (a : Addr) (cls : Value) (dd : Option Addr), v = .ref a ∧ d = excD c x ∧ W a = some (HldO cls dd a) ∧ ExcAt ex ea W c x cls dd
theorem HldAt.mono {ex : List (Nat × Str × Option Str)} {ea : Nat → Addr} {W W' : Hp} (h : ∀ a o, W a = some o → W' a = some o) {v : V} {d : PyData} (e : HldAt ex ea W v d) : HldAt ex ea W' v d := by
  obtain ⟨c, x, a, cls, dd, h1, h2, h3, h4⟩ := e
  exact ⟨c, x, a, cls, dd, h1, h2, h _ _ h3, h4.mono h⟩
def Slot (C : Cfg) (H W : Hp) : Kd → V → PyData → Prop
  | .nrm, v, d => Dp K0 W v d
  | .own, v, d => ∃ p vs ds, v = .ref p ∧ d = .list ds ∧ H p = some (.lst vs) ∧ W p = none ∧ ¬ Mst H C.pm p ∧ ¬ C.Z p ∧ DpAll K0 W vs ds
  | .hnd, v, d => v = .ref C.pm ∧ d = hndD
  | .scr, v, d => Dp K0 W v d ∨ ∃ (p : Addr) (ns : List Int), v = .ref p ∧ d = .list (ns.map .int) ∧ SqL C.K (fun _ => none) p (ns.map V.int)
  | .exv, v, d => Dp K0 W v d ∨ HldAt C.ex C.ea W v d
def Cfg.kdOf (C : Cfg) (i : Nat) : Kd := C.kd.getD i .nrm
structure EnvOk (C : Cfg) (Γ : Env) (σ : L2.St) (H W : Hp) : Prop where
  len : Γ.length = σ.length
  at_ : ∀ (i : Nat) (d : PyData), Γ[i]? = some (some d) → ∃ v, σ[i]? = some (some v) ∧ Slot C H W (C.kdOf i) v d
  sep : ∀ (i j : Nat) (p : Addr) (d e : PyData), i ≠ j → C.kdOf i = .own → C.kdOf j = .own → Γ[i]? = some (some d) → Γ[j]? = some (some e) → σ[i]? = some (some (V.ref p)) → σ[j]? ≠ some (some (V.ref p))
  zd : ∀ a, C.Z a → ∃ o, H a = some o
theorem Slot.stp {C : Cfg} {H W H' W' : Hp} {k : Kd} {v : V} {d : PyData} (s : Slot C H W k v d) (t : Stp C.pm H W H' W') : Slot C H' W' k v d := by
  cases k with
  | nrm => exact dp_mono t.w s
  | own =>
    obtain ⟨p, vs, ds, e1, e2, h, hw, hm, hz, a⟩ := s
    obtain ⟨h', m'⟩ := t.k p _ h hm (fun ps z => by cases z)
    refine ⟨p, vs, ds, e1, e2, h', ?_, m', hz, dpAll_mono t.w a⟩
    cases e : W' p with
    | none => rfl
    | some o => have := t.f p o e hw; rw [h] at this; cases this
  | hnd => exact s
  | scr => exact s.imp (dp_mono t.w) id
  | exv => exact s.imp (dp_mono t.w) (HldAt.mono t.w)
theorem EnvOk.stp {C : Cfg} {Γ : Env} {σ : L2.St} {H W H' W' : Hp} (e : EnvOk C Γ σ H W) (t : Stp C.pm H W H' W') : EnvOk C Γ σ H' W' :=
  ⟨e.len, fun i d h => let ⟨v, h1, h2⟩ := e.at_ i d h; ⟨v, h1, h2.stp t⟩, e.sep, fun a h => let ⟨o, h1⟩ := e.zd a h; t.t a o h1⟩

/-! ### the readings -/
abbrev Fn (α : Type) := Env → Draw → Res α
section
variable (C : Cfg)
def tG {α β : Type} (R : Hp → Hp → β → α → Prop) (f : Fn α) : L2.St → Hp → (β → Hp → Prop) → Prop := fun σ H Q =>
  ∃ Γ W S, EnvOk C Γ σ H W ∧ Vw C W H S ∧ (f Γ S).Post (fun d S' => ∀ v H' W', Stp C.pm H W H' W' → Vw C W' H' S' → R H' W' v d → Q v H')
    (fun c d S' => ∀ H' W', Stp C.pm H W H' W' → Vw C W' H' S' → C.XQ c d S' σ H' W')
/-- a value that is seen -/
def tE (f : Fn PyData) : TE := tG C (fun _ W v d => Dp K0 W v d) f
/-- a value that is read -/
def tR (f : Fn PyData) : TE := tG C (fun H W v d => Rdt C H W v d) f
/-- a test -/
def tT (f : Fn Bool) : TT := tG C (fun _ _ b c => b = c) f
/-- arguments -/
def tAs (f : Fn (List PyData)) : TA := tG C (fun _ W vs ds => DpAll K0 W vs ds) f
/-- a new list that is hidden -/
def tF (f : Fn (List PyData)) : TE := fun σ H Q =>
  ∃ Γ W S, EnvOk C Γ σ H W ∧ Vw C W H S ∧ (f Γ S).Post (fun ds S' => ∀ p vs H' W', Stp C.pm H W H' W' → Vw C W' H' S' → H p = none → H' p = some (.lst vs) → W' p = none → ¬ Mst H' C.pm p → DpAll K0 W' vs ds → Q (.ref p) H')
    (fun c d S' => ∀ H' W', Stp C.pm H W H' W' → Vw C W' H' S' → C.XQ c d S' σ H' W')
end
/-- one after another -/
theorem tG_then {C : Cfg} {α β γ : Type} {R : Hp → Hp → β → α → Prop} {f : Fn α} {Γ : Env} {σ : L2.St} {H W : Hp} {S : Draw} {k : α → Draw → Res γ} {P : γ → Draw → Prop} {Q : β → Hp → Prop} {E : Nat → PyData → Draw → Prop}
    (he : EnvOk C Γ σ H W) (hv : Vw C W H S) (h : ((f Γ S).bind k).Post P E)
    (hx : ∀ c d S', E c d S' → ∀ H' W', Stp C.pm H W H' W' → Vw C W' H' S' → C.XQ c d S' σ H' W')
    (next : ∀ x S1 v H1 W1, Stp C.pm H W H1 W1 → Vw C W1 H1 S1 → EnvOk C Γ σ H1 W1 → R H1 W1 v x → (k x S1).Post P E → Q v H1) : tG C R f σ H Q := by
  refine ⟨Γ, W, S, he, hv, ?_⟩
  cases e : f Γ S with
  | ok x S1 =>
    rw [e] at h
    exact fun v H1 W1 s1 v1 r => next x S1 v H1 W1 s1 v1 (he.stp s1) r h
  | exc c d S1 =>
    rw [e] at h
    exact hx c d S1 h
  | bad =>
    rw [e] at h
    exact h.elim
/-- an error's wish, further on -/
theorem xq_stp {C : Cfg} {σ : L2.St} {H W H1 W1 : Hp} {E : Nat → PyData → Draw → Prop} (hx : ∀ c d S', E c d S' → ∀ H' W', Stp C.pm H W H' W' → Vw C W' H' S' → C.XQ c d S' σ H' W') (s : Stp C.pm H W H1 W1) :
    ∀ c d S', E c d S' → ∀ H' W', Stp C.pm H1 W1 H' W' → Vw C W' H' S' → C.XQ c d S' σ H' W' := fun c d S' h H' W' t v => hx c d S' h H' W' (s.trans t) v
theorem PE.imp {X : Cx} {e : Expr} {t t' : TE} (h : PE X e t) (i : ∀ σ H Q, t' σ H Q → t σ H Q) : PE X e t' := ⟨fun pins s σ H Q I q => h.run pins s σ H Q I (i σ H Q q)⟩
theorem PT.imp {X : Cx} {e : Expr} {t t' : TT} (h : PT X e t) (i : ∀ σ H Q, t' σ H Q → t σ H Q) : PT X e t' := ⟨fun pins s σ H Q I q => h.run pins s σ H Q I (i σ H Q q)⟩
theorem PA.imp {X : Cx} {e : List Expr} {t t' : TA} (h : PA X e t) (i : ∀ σ H Q, t' σ H Q → t σ H Q) : PA X e t' := ⟨fun pos pins s σ H Q I q => h.run pos pins s σ H Q I (i σ H Q q)⟩
theorem PS.imp {X : Cx} {e : Stmt} {t t' : TS} (h : PS X e t) (i : ∀ D σ H, t' D σ H → t D σ H) : PS X e t' := ⟨fun pins s σ H D I q => h.run pins s σ H D I (i D σ H q)⟩
theorem PSs.imp {X : Cx} {e : List Stmt} {t t' : TS} (h : PSs X e t) (i : ∀ D σ H, t' D σ H → t D σ H) : PSs X e t' := ⟨fun pins s σ H D I q => h.run pins s σ H D I (i D σ H q)⟩
/-- a seen value is read -/
theorem pe_rd {X : Cx} {C : Cfg} {e : Expr} {f : Fn PyData} (h : PE X e (tE C f)) : PE X e (tR C f) := PE.imp h fun σ H Q ⟨Γ, W, S, he, hv, p⟩ => ⟨Γ, W, S, he, hv, p.mono (fun d S' q v H' W' s v' r => q v H' W' s v' (.see r)) fun _ _ _ q => q⟩
/-- a new hidden list is shown -/
theorem tF_show {C : Cfg} {f : Fn (List PyData)} {σ : L2.St} {H : Hp} {Q : VK} (h : tE C (fun Γ S => (f Γ S).bind fun ds S' => .ok (.list ds) S') σ H Q) : tF C f σ H Q := by
  obtain ⟨Γ, W, S, he, hv, p⟩ := h
  refine ⟨Γ, W, S, he, hv, ?_⟩
  dsimp only at p
  cases e : f Γ S with
  | ok ds S' =>
    rw [e] at p
    intro q vs H' W' s v hn hl hw hm a
    refine p (.ref q) H' (upd W' q (.lst vs)) (s.see hn hw) (v.see hl hm) (.lst (.of upd_same) (dpAll_mono (fun b o hb => ?_) a))
    rw [upd_ne (fun z => by rw [z, hw] at hb; cases hb)]
    exact hb
  | exc c d S' =>
    rw [e] at p
    exact p
  | bad =>
    rw [e] at p
    exact p
theorem pe_show {X : Cx} {C : Cfg} {e : Expr} {f : Fn (List PyData)} (h : PE X e (tF C f)) : PE X e (tE C fun Γ S => (f Γ S).bind fun ds S' => .ok (.list ds) S') := PE.imp h fun _ _ _ q => tF_show q
end PD
/-! P2: operators over plain data. -/
namespace PD
open PySem L2

mutual
theorem dp_plain {K : PySem.W.Frag} {W : Hp} : ∀ {v : V} {d : PyData}, Dp K W v d → d.plain = true
  | _, _, .non => rfl
  | _, _, .bl b => rfl
  | _, _, .int i => rfl
  | _, _, .str x => rfl
  | _, _, .lst a b => by rw [PyData.plain]; exact dpAll_plain b
  | _, _, .tup a b => by rw [PyData.plain]; exact dpAll_plain b
theorem dpAll_plain {K : PySem.W.Frag} {W : Hp} : ∀ {vs : List V} {ds : List PyData}, DpAll K W vs ds → PyData.plainAll ds = true
  | _, _, .nil => rfl
  | _, _, .cons a b => by rw [PyData.plainAll, dp_plain a, dpAll_plain b]; rfl
end
section
variable {C : Cfg} {H W : Hp} {S : Draw} {X : Cx} {Q : VK}
theorem Vw.sqT {K : PySem.W.Frag} (v : Vw C W H S) {p : Addr} {vs : List V} (h : SqT K0 W p vs) : SqT K H p vs := sqT0 (sqT_mono v.sub h)

/-- what is wanted behind a step that leaves the draws -/
abbrev Go (C : Cfg) (H W : Hp) (S : Draw) (d : PyData) (Q : VK) : Prop := ∀ v H' W', Stp C.pm H W H' W' → Vw C W' H' S → Dp K0 W' v d → Q v H'
theorem go_same {d : PyData} {v : V} (hv : Vw C W H S) (q : Go C H W S d Q) (h : Dp K0 W v d) : Q v H := q v H W (Stp.refl _ _ _) hv h
theorem go_tup {ds : List PyData} {vs : List V} (hv : Vw C W H S) (q : Go C H W S (.tuple ds) Q) (h : DpAll K0 W vs ds) : ∀ p, H p = none → Q (.ref p) (upd H p (.tup vs)) := fun p hp =>
  q (.ref p) _ (upd W p (.tup vs)) (Stp.new hv hp) (hv.new hp) (.tup (.of upd_same) (dpAll_mono (Stp.new (C := C) hv hp).w h))
theorem go_lst {ds : List PyData} {vs : List V} (hv : Vw C W H S) (q : Go C H W S (.list ds) Q) (h : DpAll K0 W vs ds) : ∀ p, H p = none → Q (.ref p) (upd H p (.lst vs)) := fun p hp =>
  q (.ref p) _ (upd W p (.lst vs)) (Stp.new hv hp) (hv.new hp) (.lst (.of upd_same) (dpAll_mono (Stp.new (C := C) hv hp).w h))
theorem dpAll_nil_iff {vs : List V} {ds : List PyData} (h : DpAll K0 W vs ds) : vs = [] ↔ ds = [] := by
  cases h with
  | nil => simp
  | cons a b => simp

/-- two lists put together, read in any way -/
theorem op_catR : OpR X (binaryOp .Add) (fun x y H Q => ∃ l b xs zs, x = .ref l ∧ y = .ref b ∧ Rd H l (.lst xs) ∧ Rd H b (.lst zs) ∧ xs.length + zs.length ≤ sizeLine ∧ ∀ p, H p = none → Q (.ref p) (upd H p (.lst (xs ++ zs)))) := by
  intro pins s σ H x y v u Q I rx ry h
  obtain ⟨l, b, xs, zs, rfl, rfl, hH, hB, hz, q⟩ := h
  cases rx
  cases ry
  obtain ⟨z, its, n, r, e⟩ := hH.ok I.hok
  obtain ⟨z2, its2, n2, r2, e2⟩ := hB.ok I.hok
  have hl := r.length
  have hl2 := r2.length
  refine PySem.P.add_list e e2 ?_ (by rw [List.size_toArray, List.size_toArray]; omega)
  have ea : its.toArray ++ its2.toArray = (its ++ its2).toArray := by simp
  rw [ea]
  exact ⟨.ref _, _, I.lnew (t' := s.toks) (r.append r2) (by rw [List.length_append]; omega), rfl, q _ I.fresh⟩

/-- a list so many times, read in any way -/
theorem op_repR : OpR X (binaryOp .Mult) (fun x y H Q => ∃ l k xs, x = .ref l ∧ y = .int k ∧ Rd H l (.lst xs) ∧ 0 ≤ k ∧ k ≤ 16777216 ∧ xs.length * k.toNat ≤ sizeLine ∧ ∀ p, H p = none → Q (.ref p) (upd H p (.lst (List.replicate k.toNat xs).flatten))) := by
  intro pins s σ H x y v u Q I rx ry h
  obtain ⟨l, k, xs, rfl, rfl, hH, k1, k2, size, q⟩ := h
  obtain ⟨t, rfl⟩ := ry
  cases rx
  obtain ⟨_, its, n, rv, e⟩ := hH.ok I.hok
  have len := rv.length
  have s1 : its.toArray.size * k.toNat ≤ sizeLine := by rw [List.size_toArray, ← len]; exact size
  have s2 : (sizeLine : Nat) ≤ (2 ^ 63 - 1) / 8 := by decide
  have s3 : ¬ (!Builtin.List.listFitsIndex k) = true := by rw [fitsIndex_both (by omega) (by omega)]; exact Bool.false_ne_true
  have s4 : ¬ Builtin.List.listTooLong (its.toArray.size * k.toNat) = true := by rw [notLongL s1]; exact Bool.false_ne_true
  have rep : ∀ m : Nat, List.foldl (fun x1 x2 => x1 ++ x2) #[] (List.replicate m its.toArray) = (List.replicate m its).flatten.toArray := fun m => by have z := foldl_rep its m []; rwa [List.nil_append] at z
  have all : List.foldl (fun x1 x2 => x1 ++ x2) #[] (List.replicate (if its.toArray.isEmpty = true then 0 else k.toNat) its.toArray) = (List.replicate k.toNat its).flatten.toArray := by
    rw [rep]
    cases its with
    | cons a r' => rw [if_neg (by simp)]
    | nil => simp
  refine wpAny_binaryOp_repeat_ref (T := "list") (U := "int") (by decide) ⟨_, e, rfl⟩ (fun s' => typeIs_int s' k t) noFill_list_mul F.fills_int_mul F.slot_int_rmul repeat_list F.slot_int_index.lookup (call_meets F.slot_int_rmul (typeIs_int s k t) F.entry_int_rmul (F.args_int_rmul_2 _ _) (int___rmul___int_list k t l its.toArray n) ⟨e, rfl, ⟨_, e, rfl⟩, call_meets F.slot_list_mul ⟨_, e, rfl⟩ F.entry_list_mul (F.args_list_mul_2 _ _) (AutoListH.list___mul___list_int_3 l its.toArray n k t s3 (by omega) s4) ⟨e, ?_⟩⟩)
  rw [all]; exact ⟨.ref _, _, I.lnew (t' := s.toks) (rv.rep k.toNat) (by rw [PyProof.Rows.lm_len_rep_flat, Nat.mul_comm]; exact size), rfl, q _ I.fresh⟩
theorem dpAll_rep {K : PySem.W.Frag} {W : Hp} {vs : List V} {ds : List PyData} (h : DpAll K W vs ds) : ∀ n : Nat, DpAll K W (List.replicate n vs).flatten (List.replicate n ds).flatten
  | 0 => .nil
  | n + 1 => by
    rw [List.replicate_succ, List.replicate_succ, List.flatten_cons, List.flatten_cons]
    exact dpAll_append h (dpAll_rep h n)

/-! ### operators -/
def intsOf : List PyData → Option (List Int)
  | [] => some []
  | .int i :: r => (intsOf r).map (i :: ·)
  | _ :: _ => none
theorem intsOf_map (ns : List Int) : intsOf (ns.map .int) = some ns := by
  induction ns with
  | nil => rfl
  | cons n r ih => simp [intsOf, ih]
theorem intsOf_some {ds : List PyData} {ns : List Int} (h : intsOf ds = some ns) : ds = ns.map .int := by
  induction ds generalizing ns with
  | nil => cases h; rfl
  | cons d r ih =>
    cases d <;> simp [intsOf] at h
    obtain ⟨ms, h1, rfl⟩ := h
    rw [ih h1]; rfl
theorem dpAll_ints : ∀ {ns : List Int} {vs : List V}, DpAll K0 W vs (ns.map .int) → vs = ns.map V.int
  | [], _, .nil => rfl
  | n :: r, _, .cons a b => by cases a; rw [dpAll_ints b]; rfl

def binD (op : Operator) (x y : PyData) : Option PyData :=
  match op, x, y with
  | .Add, .int i, .int j => some (.int (i + j))
  | .Add, .tuple a, .tuple b => if a.length + b.length ≤ 16777216 then some (.tuple (a ++ b)) else none
  | .Add, .list a, .list b => if a.length + b.length ≤ 16777216 then some (.list (a ++ b)) else none
  | .Add, .str a, .str b => if a.length + b.length ≤ 16777216 then some (.str (a ++ b)) else none
  | .Sub, .int i, .int j => some (.int (i - j))
  | .Mult, .int i, .int j => if (-(2 ^ 64) < i ∧ i < 2 ^ 64) ∨ (-(2 ^ 64) < j ∧ j < 2 ^ 64) then some (.int (i * j)) else none
  | .FloorDiv, .int i, .int j => if 0 < j ∧ j < 1073741824 then some (.int (i / j)) else none
  | .Mod, .int i, .int j => if 0 < j then some (.int (i % j)) else none
  | .Pow, .int i, .int j => if 0 ≤ j ∧ j ≤ 1000000 ∧ i.natAbs < 2 ^ 64 then some (.int (i ^ j.toNat)) else none
  | .Mult, .list a, .int k => if 0 ≤ k ∧ k ≤ 16777216 ∧ a.length * k.toNat ≤ 16777216 then some (.list (List.replicate k.toNat a).flatten) else none
  | .Mult, .tuple a, .int k => if 2 ≤ k ∧ k ≤ 1000 ∧ a.length ≤ 1000 ∧ a.isEmpty = false then some (.tuple (List.replicate k.toNat a).flatten) else none
  | _, _, _ => none
def rD (C : Cfg) (f : PyData → PyData → Option PyData) : R2 := fun x y H Q => ∃ W S dx dy d, Vw C W H S ∧ Rdt C H W x dx ∧ Rdt C H W y dy ∧ f dx dy = some d ∧ Go C H W S d Q
/-- .. over seen ones -/
def rDs (C : Cfg) (f : PyData → PyData → Option PyData) : R2 := fun x y H Q => ∃ W S dx dy d, Vw C W H S ∧ Dp K0 W x dx ∧ Dp K0 W y dy ∧ f dx dy = some d ∧ Go C H W S d Q
theorem szl {n : Nat} (h : n ≤ 16777216) : n ≤ sizeLine := by rw [sizeLine_eq]; exact h
theorem op_binD {op : Operator} : OpR X (binaryOp op) (rDs C (binD op)) := by
  intro pins s σ H x y v u Q I rx ry h
  obtain ⟨W, S, dx, dy, d, hv, gx, gy, hf, q⟩ := h
  have hx : Rdt C H W x dx := .see gx
  have hy : Rdt C H W y dy := .see gy
  unfold binD at hf
  split at hf
  · cases hf
    obtain rfl := hx.int
    obtain rfl := hy.int
    exact op_add pins s σ H _ _ v u Q I rx ry ⟨_, _, rfl, rfl, go_same hv q (.int _)⟩
  · split at hf
    · rename_i a b hz
      cases hf
      obtain ⟨p, vs, rfl, h1, a1⟩ := hx.tuple
      obtain ⟨p', vs', rfl, h2, a2⟩ := hy.tuple
      have l1 := dpAll_len a1
      have l2 := dpAll_len a2
      refine op_catA pins s σ H _ _ v u Q I rx ry ⟨p, p', vs, vs', rfl, rfl, hv.sqT h1, hv.sqT h2, szl (by omega), fun e => ?_, fun _ e => ?_, fun _ _ => go_tup hv q (dpAll_append a1 a2)⟩
      · have e' := (dpAll_nil_iff a1).mp e
        subst e'
        exact go_same hv q (.tup h2 a2)
      · have e' := (dpAll_nil_iff a2).mp e
        subst e'
        refine go_same hv q ?_
        rw [List.append_nil]
        exact .tup h1 a1
    · cases hf
  · split at hf
    · rename_i a b hz
      cases hf
      cases gx with
      | lst h1 a1 =>
        cases gy with
        | lst h2 a2 =>
          have l1 := dpAll_len a1
          have l2 := dpAll_len a2
          exact op_catR pins s σ H _ _ v u Q I rx ry ⟨_, _, _, _, rfl, rfl, rd0 (sqL_mono hv.sub h1), rd0 (sqL_mono hv.sub h2), szl (by omega), go_lst hv q (dpAll_append a1 a2)⟩
    · cases hf
  · split at hf
    · rename_i a b hz
      cases hf
      obtain rfl := hx.str
      obtain rfl := hy.str
      exact op_add_str pins s σ H _ _ v u Q I rx ry ⟨_, _, rfl, rfl, szl hz, go_same hv q (.str _)⟩
    · cases hf
  · cases hf
    obtain rfl := hx.int
    obtain rfl := hy.int
    exact op_sub pins s σ H _ _ v u Q I rx ry ⟨_, _, rfl, rfl, go_same hv q (.int _)⟩
  · split at hf
    · rename_i hc
      cases hf
      obtain rfl := hx.int
      obtain rfl := hy.int
      exact op_mul pins s σ H _ _ v u Q I rx ry ⟨_, _, rfl, rfl, hc, go_same hv q (.int _)⟩
    · cases hf
  · split at hf
    · rename_i hc
      cases hf
      obtain rfl := hx.int
      obtain rfl := hy.int
      exact op_fdiv pins s σ H _ _ v u Q I rx ry ⟨_, _, rfl, rfl, hc, go_same hv q (.int _)⟩
    · cases hf
  · split at hf
    · rename_i hc
      cases hf
      obtain rfl := hx.int
      obtain rfl := hy.int
      exact op_mod pins s σ H _ _ v u Q I rx ry ⟨_, _, rfl, rfl, hc, go_same hv q (.int _)⟩
    · cases hf
  · split at hf
    · rename_i hc
      cases hf
      obtain rfl := hx.int
      obtain rfl := hy.int
      exact op_pow pins s σ H _ _ v u Q I rx ry ⟨_, _, rfl, rfl, hc, go_same hv q (.int _)⟩
    · cases hf
  · split at hf
    · rename_i hc
      cases hf
      obtain rfl := hy.int
      cases gx with
      | lst h1 a1 =>
        have l1 := dpAll_len a1
        exact op_repR pins s σ H _ _ v u Q I rx ry ⟨_, _, _, rfl, rfl, rd0 (sqL_mono hv.sub h1), hc.1, hc.2.1, szl (by rw [l1]; exact hc.2.2), go_lst hv q (dpAll_rep a1 _)⟩
    · cases hf
  · split at hf
    · rename_i hc
      cases hf
      obtain rfl := hy.int
      obtain ⟨p, vs, rfl, h1, a1⟩ := hx.tuple
      have l1 := dpAll_len a1
      refine op_repT pins s σ H _ _ v u Q I rx ry ⟨p, _, vs, rfl, rfl, hv.sqT h1, fun e => ?_, hc.1, hc.2.1, by rw [l1]; exact hc.2.2.1, go_tup hv q (dpAll_rep a1 _)⟩
      have e' := (dpAll_nil_iff a1).mp e
      subst e'
      exact absurd hc.2.2.2 (by simp)
    · cases hf
  · cases hf

/-! ### comparisons -/
def dpt (x y : PyData) : Bool := decide (y.depth ≤ 100) || decide (x.depth ≤ 100)
def ltD (f : Int → Int → Bool) (g : List Int → List Int → Option Bool) (x y : PyData) : Option Bool :=
  match x, y with
  | .int i, .int j => some (f i j)
  | .tuple a, .tuple b => match intsOf a, intsOf b with
    | some ns, some ms => g ns ms
    | _, _ => none
  | _, _ => none
/-- tuples of ints, `<=` -/
def leT (ns ms : List Int) : Bool := Ob.lexAt (fun j => decide (ns.getD j 0 = ms.getD j 0)) (fun j => decide (ns.getD j 0 ≤ ms.getD j 0)) (decide (ns.length ≤ ms.length)) 0 (min ns.length ms.length)
def isD (x y : PyData) : Option Bool :=
  match y, x with
  | .none, .none => some true
  | .none, _ => some false
  | .bool b, .bool a => some (decide (a = b))
  | _, _ => none
def inD (x y : PyData) : Option Bool :=
  match y with
  | .list ys => if x.depth ≤ 100 ∨ PyData.depthAll ys ≤ 100 then some (ys.any fun z => PyData.eqv z x) else none
  | .tuple ys => if x.depth ≤ 100 ∨ PyData.depthAll ys ≤ 100 then some (ys.any fun z => PyData.eqv z x) else none
  | .str j => match x with
    | .str i => some (!(Builtin.Str.occurrences j i 0 j.length 1).isEmpty)
    | _ => none
  | _ => none
def cmpD (op : CmpOp) (x y : PyData) : Option Bool :=
  match op with
  | .Eq => if dpt x y then some (PyData.eqv x y) else none
  | .NotEq => if dpt x y then some (!PyData.eqv x y) else none
  | .Lt => ltD (fun i j => decide (i < j)) (fun a b => some (HT.lexLt a b)) x y
  | .LtE => ltD (fun i j => decide (i ≤ j)) (fun a b => some (leT a b)) x y
  | .Gt => ltD (fun i j => decide (j < i)) (fun _ _ => none) x y
  | .GtE => ltD (fun i j => decide (j ≤ i)) (fun _ _ => none) x y
  | .Is => isD x y
  | .IsNot => (isD x y).map (!·)
  | .In => inD x y
  | .NotIn => (inD x y).map (!·)
def cmpB (op : CmpOp) (x y : PyData) : Option PyData := (cmpD op x y).map .bool
theorem dpt_min {x y : PyData} (h : dpt x y = true) {n : Nat} (hu : n + 200 < cLine) : n + min x.depth y.depth < cLine := by
  unfold dpt at h
  rw [Bool.or_eq_true, decide_eq_true_eq, decide_eq_true_eq] at h
  omega
theorem isD_none {K : PySem.W.Frag} {x : PyData} {v : V} (h : Dp K W v x) : isD x .none = some (decide (v = .non)) := by
  cases h <;> simp [isD]
theorem op_cmpD {op : CmpOp} (hK : X.K = C.K) (hu : X.A.units + 200 < cLine) : OpR X (compareOp op) (rD C (cmpB op)) := by
  intro pins s σ H x y v u Q I rx ry h
  obtain ⟨W, S, dx, dy, d, hv, hx, hy, hf, q⟩ := h
  unfold cmpB at hf
  rw [Option.map_eq_some_iff] at hf
  obtain ⟨b, hf, rfl⟩ := hf
  have fin : ∀ (k : Bool), k = b → EP X pins σ Q (.bool k) s := fun k e => by
    subst e
    exact ⟨.bl k, H, I, rfl, go_same hv q (.bl k)⟩
  have wx : Dp X.K H x dx := by rw [hK]; exact hx.dp hv
  have wy : Dp X.K H y dy := by rw [hK]; exact hy.dp hv
  obtain ⟨as, r1⟩ := Dp.reads I dx x v wx rx
  obtain ⟨bs, r2⟩ := Dp.reads I dy y u wy ry
  cases op with
  | Eq =>
    simp only [cmpD] at hf
    split at hf
    · rename_i hd
      exact SeqAt.eq_plain r1 r2 (dp_plain wx) (dp_plain wy) (dpt_min hd hu) (fin _ (Option.some.inj hf))
    · cases hf
  | NotEq =>
    simp only [cmpD] at hf
    split at hf
    · rename_i hd
      exact SeqAt.ne_plain r1 r2 (dp_plain wx) (dp_plain wy) (dpt_min hd hu) (fin _ (Option.some.inj hf))
    · cases hf
  | Lt =>
    simp only [cmpD, ltD] at hf
    split at hf
    · obtain rfl := hx.int
      obtain rfl := hy.int
      cases hf
      exact op_lt pins s σ H _ _ v u Q I rx ry ⟨_, _, rfl, rfl, go_same hv q (.bl _)⟩
    · split at hf
      · rename_i a b' ns ms h1 h2
        cases hf
        obtain ⟨p, vs, rfl, h3, a1⟩ := hx.tuple
        obtain ⟨p', vs', rfl, h4, a2⟩ := hy.tuple
        rw [intsOf_some h1] at a1
        rw [intsOf_some h2] at a2
        obtain rfl := dpAll_ints a1
        obtain rfl := dpAll_ints a2
        exact op_ltT (by omega) pins s σ H _ _ v u Q I rx ry ⟨p, p', ns, ms, rfl, rfl, hv.sqT h3, hv.sqT h4, go_same hv q (.bl _)⟩
      · cases hf
    · cases hf
  | LtE =>
    simp only [cmpD, ltD] at hf
    split at hf
    · obtain rfl := hx.int
      obtain rfl := hy.int
      cases hf
      exact op_le pins s σ H _ _ v u Q I rx ry ⟨_, _, rfl, rfl, go_same hv q (.bl _)⟩
    · split at hf
      · rename_i a b' ns ms h1 h2
        cases hf
        obtain ⟨p, vs, rfl, h3, a1⟩ := hx.tuple
        obtain ⟨p', vs', rfl, h4, a2⟩ := hy.tuple
        rw [intsOf_some h1] at a1
        rw [intsOf_some h2] at a2
        obtain rfl := dpAll_ints a1
        obtain rfl := dpAll_ints a2
        exact op_leT (by omega) pins s σ H _ _ v u Q I rx ry ⟨p, p', ns, ms, rfl, rfl, hv.sqT h3, hv.sqT h4, go_same hv q (.bl _)⟩
      · cases hf
    · cases hf
  | Gt =>
    simp only [cmpD, ltD] at hf
    split at hf
    · obtain rfl := hx.int
      obtain rfl := hy.int
      cases hf
      exact op_gt pins s σ H _ _ v u Q I rx ry ⟨_, _, rfl, rfl, go_same hv q (.bl _)⟩
    · split at hf <;> cases hf
    · cases hf
  | GtE =>
    simp only [cmpD, ltD] at hf
    split at hf
    · obtain rfl := hx.int
      obtain rfl := hy.int
      cases hf
      exact op_ge pins s σ H _ _ v u Q I rx ry ⟨_, _, rfl, rfl, go_same hv q (.bl _)⟩
    · split at hf <;> cases hf
    · cases hf
  | Is =>
    simp only [cmpD] at hf
    cases dy with
    | none =>
      obtain rfl := hy.none
      have e : isD dx .none = some (decide (x = .non)) := isD_none (hx.dp hv)
      rw [e] at hf
      cases hf
      exact op_isN pins s σ H _ _ v u Q I rx ry ⟨rfl, go_same hv q (.bl _)⟩
    | bool c =>
      cases dx <;> simp [isD] at hf
      subst hf
      obtain rfl := hx.bool
      obtain rfl := hy.bool
      exact op_is_bl pins s σ H _ _ v u Q I rx ry ⟨_, _, rfl, rfl, go_same hv q (.bl _)⟩
    | _ => cases dx <;> simp [isD] at hf
  | IsNot =>
    simp only [cmpD] at hf
    cases dy with
    | none =>
      obtain rfl := hy.none
      have e : isD dx .none = some (decide (x = .non)) := isD_none (hx.dp hv)
      rw [e] at hf
      cases hf
      exact op_notN pins s σ H _ _ v u Q I rx ry ⟨rfl, go_same hv q (.bl _)⟩
    | bool c =>
      cases dx <;> simp [isD] at hf
      obtain rfl := hx.bool
      obtain rfl := hy.bool
      refine op_isnot_bl pins s σ H _ _ v u Q I rx ry ⟨_, _, rfl, rfl, ?_⟩
      rw [hf, Bool.not_not]
      exact go_same hv q (.bl _)
    | _ => cases dx <;> simp [isD] at hf
  | In =>
    simp only [cmpD, inD] at hf
    cases dy with
    | list ys =>
      simp only at hf
      split at hf
      · rename_i hd
        exact SeqAt.in_list_data r2 r1 (by have := dp_plain wy; rw [PyData.plain] at this; exact this) (dp_plain wx) (by omega) (fin _ (Option.some.inj hf))
      · cases hf
    | tuple ys =>
      simp only at hf
      split at hf
      · rename_i hd
        exact SeqAt.in_tuple_data r2 r1 (by have := dp_plain wy; rw [PyData.plain] at this; exact this) (dp_plain wx) (by omega) (fin _ (Option.some.inj hf))
      · cases hf
    | str j =>
      cases dx <;> simp only at hf <;> cases hf
      obtain rfl := hx.str
      obtain rfl := hy.str
      exact op_in_str pins s σ H _ _ v u Q I rx ry ⟨_, _, rfl, rfl, go_same hv q (.bl _)⟩
    | _ => cases hf
  | NotIn =>
    simp only [cmpD, inD] at hf
    cases dy with
    | list ys =>
      simp only at hf
      split at hf
      · rename_i hd
        exact SeqAt.notIn_list_data r2 r1 (by have := dp_plain wy; rw [PyData.plain] at this; exact this) (dp_plain wx) (by omega) (fin _ (Option.some.inj hf))
      · cases hf
    | tuple ys =>
      simp only at hf
      split at hf
      · rename_i hd
        exact SeqAt.notIn_tuple_data r2 r1 (by have := dp_plain wy; rw [PyData.plain] at this; exact this) (dp_plain wx) (by omega) (fin _ (Option.some.inj hf))
      · cases hf
    | str j =>
      cases dx <;> simp only at hf <;> cases hf
      obtain rfl := hx.str
      obtain rfl := hy.str
      exact op_notin_str pins s σ H _ _ v u Q I rx ry ⟨_, _, rfl, rfl, go_same hv q (.bl _)⟩
    | _ => cases hf

/-! ### places -/
def ixD (x y : PyData) : Option PyData :=
  match x, y with
  | .list xs, .int i => atI xs i
  | .tuple xs, .int i => atI xs i
  | .str z, .int i => if z.length ≤ 16777216 then (atI z.cps.toList i).map fun c => .str ⟨#[c]⟩ else none
  | _, _ => none
theorem atI_dp {vs : List V} {ds : List PyData} (a : DpAll K0 W vs ds) {i : Int} {d : PyData} (h : atI ds i = some d) : ∃ v, atI vs i = some v ∧ Dp K0 W v d := by
  unfold atI at h ⊢
  rw [dpAll_len a]
  cases e : ixN ds.length i with
  | none => rw [e] at h; cases h
  | some j =>
    rw [e] at h
    exact dpAll_get a h
theorem ix_D (hK : X.K = C.K) : IxR X (rD C ixD) := by
  intro value slice pins s σ H x y v u Q I rx ry h hs
  obtain ⟨W, S, dx, dy, d, hv, hx, hy, hf, q⟩ := h
  unfold ixD at hf
  split at hf
  · obtain ⟨p, vs, rfl, h1, a1⟩ := hx.list
    obtain rfl := hy.int
    obtain ⟨w, e, hd⟩ := atI_dp a1 hf
    exact ix_list value slice pins s σ H _ _ v u Q I rx ry ⟨p, vs, _, w, rfl, rfl, by rw [hK]; exact h1.sq hv, e, go_same hv q hd⟩ hs
  · obtain ⟨p, vs, rfl, h1, a1⟩ := hx.tuple
    obtain rfl := hy.int
    obtain ⟨w, e, hd⟩ := atI_dp a1 hf
    exact ix_tup value slice pins s σ H _ _ v u Q I rx ry ⟨p, vs, _, w, rfl, rfl, hv.sqT h1, e, go_same hv q hd⟩ hs
  · split at hf
    · rename_i hz
      obtain rfl := hx.str
      obtain rfl := hy.int
      rw [Option.map_eq_some_iff] at hf
      obtain ⟨c, e, rfl⟩ := hf
      exact ix_str value slice pins s σ H _ _ v u Q I rx ry ⟨_, _, c, rfl, rfl, szl hz, e, go_same hv q (.str _)⟩ hs
    · cases hf
  · cases hf

/-! ### slices -/
def cutD (xs : List PyData) (lo hi : Option Int) : List PyData := (xs.drop (HT.sIx xs.length 0 lo)).take (HT.sIx xs.length xs.length hi - HT.sIx xs.length 0 lo)
def slD (x : PyData) (lo hi : Option Int) : Option PyData :=
  match x with
  | .list xs => some (.list (cutD xs lo hi))
  | .tuple xs => some (.tuple (cutD xs lo hi))
  | .str z => if z.length ≤ 16777216 then some (.str (cutS z lo hi)) else none
  | _ => none
theorem cut_dp {vs : List V} {ds : List PyData} (a : DpAll K0 W vs ds) (lo hi : Option Int) : DpAll K0 W (cutV vs lo hi) (cutD ds lo hi) := by
  unfold cutV cutD
  rw [dpAll_len a]
  exact dpAll_take _ (dpAll_drop _ a)
theorem cutD_whole {xs : List PyData} {lo hi : Option Int} (h : HT.sIx xs.length 0 lo = 0 ∧ HT.sIx xs.length xs.length hi = xs.length) : cutD xs lo hi = xs := by
  unfold cutD
  rw [h.1, h.2]
  simp
def rSlD (C : Cfg) : V → Option Int → Option Int → Hp → VK → Prop := fun x lo hi H Q => ∃ W S dx d, Vw C W H S ∧ Rdt C H W x dx ∧ slD dx lo hi = some d ∧ Go C H W S d Q
theorem sl_D (hK : X.K = C.K) : SlR X (rSlD C) := by
  intro pins s σ H x v vl vu lo hi sl Q I rx hs pl pu h
  obtain ⟨W, S, dx, d, hv, hx, hf, q⟩ := h
  unfold slD at hf
  split at hf
  · cases hf
    obtain ⟨p, vs, rfl, h1, a1⟩ := hx.list
    exact sl_list pins s σ H _ v vl vu lo hi sl Q I rx hs pl pu ⟨p, vs, rfl, by rw [hK]; exact h1.sq hv, go_lst hv q (cut_dp a1 lo hi)⟩
  · cases hf
    obtain ⟨p, vs, rfl, h1, a1⟩ := hx.tuple
    have hl := dpAll_len a1
    refine sl_tupA pins s σ H _ v vl vu lo hi sl Q I rx hs pl pu ⟨p, vs, rfl, hv.sqT h1, fun e => ?_, fun _ => go_tup hv q (cut_dp a1 lo hi)⟩
    rw [hl] at e
    rw [cutD_whole e] at q
    exact go_same hv q (.tup h1 a1)
  · split at hf
    · rename_i z hz
      cases hf
      obtain rfl := hx.str
      exact sl_str pins s σ H _ v vl vu lo hi sl Q I rx hs pl pu ⟨z, rfl, szl hz, go_same hv q (.str _)⟩
    · cases hf
  · cases hf
end
end PD
/-! P3: built-ins over plain data. -/
namespace PD
open PySem L2

inductive RdtAll (C : Cfg) (H W : Hp) : List V → List PyData → Prop where
  | nil : RdtAll C H W [] []
  | cons {v : V} {d : PyData} {vs : List V} {ds : List PyData} : Rdt C H W v d → RdtAll C H W vs ds → RdtAll C H W (v :: vs) (d :: ds)
theorem RdtAll.stp {C : Cfg} {H W H' W' : Hp} (s : Stp C.pm H W H' W') : ∀ {vs : List V} {ds : List PyData}, RdtAll C H W vs ds → RdtAll C H' W' vs ds
  | _, _, .nil => .nil
  | _, _, .cons a b => .cons (a.stp s) (b.stp s)

def boolsOf : List PyData → Option (List Bool)
  | [] => some []
  | .bool i :: r => (boolsOf r).map (i :: ·)
  | _ :: _ => none
theorem boolsOf_map (ns : List Bool) : boolsOf (ns.map .bool) = some ns := by
  induction ns with
  | nil => rfl
  | cons n r ih => simp [boolsOf, ih]
theorem boolsOf_some {ds : List PyData} {ns : List Bool} (h : boolsOf ds = some ns) : ds = ns.map .bool := by
  induction ds generalizing ns with
  | nil => cases h; rfl
  | cons d r ih =>
    cases d <;> simp [boolsOf] at h
    obtain ⟨ms, h1, rfl⟩ := h
    rw [ih h1]; rfl
theorem dpAll_bools {W : Hp} : ∀ {ns : List Bool} {vs : List V}, DpAll K0 W vs (ns.map .bool) → vs = ns.map V.bl
  | [], _, .nil => rfl
  | n :: r, _, .cons a b => by cases a; rw [dpAll_bools b]; rfl
theorem bools_dpAll {K : PySem.W.Frag} {W : Hp} (ns : List Bool) : DpAll K W (ns.map V.bl) (ns.map .bool) := by
  induction ns with
  | nil => exact .nil
  | cons n r ih => exact .cons (.bl n) ih

def isTupC : PyData → Bool
  | .tuple (_ :: _) => true
  | _ => false
def isPlainC : PyData → Bool
  | .none => false
  | .tuple _ => false
  | _ => true
/-- what sorted takes -/
def sortOk (ds : List PyData) : Bool :=
  (ds.all fun d => ds.all fun e => PySem.W.alike d e) && (ds.all isTupC || ds.all isPlainC) && decide (ds.length ≤ 16777216) && ds.all fun d => decide (d.depth ≤ 100)
def sortD (ds : List PyData) : List PyData := ds.mergeSort (PySem.W.dataLe false id)
def bestOk (ds : List PyData) : Bool :=
  (ds.all fun d => ds.all fun e => PySem.W.alike d e) && (ds.all fun d => match d with | .none => false | _ => true) && decide (PyData.depthAll ds ≤ 100)

inductive Bl where
  | len | abs | min | max | sum | all | any | int | str | list | tuple | sorted | repr
  deriving DecidableEq
def Bl.nm : Bl → Str
  | .len => "len" | .abs => "abs" | .min => "min" | .max => "max" | .sum => "sum" | .all => "all" | .any => "any" | .int => "int" | .str => "str" | .list => "list" | .tuple => "tuple" | .sorted => "sorted" | .repr => "repr"
def Bl.ty : Bl → Bool
  | .int => true | .str => true | .list => true | .tuple => true | _ => false
def Bl.id : Bl → String
  | .len => "len" | .abs => "abs" | .min => "min" | .max => "max" | .sum => "sum" | .all => "all" | .any => "any" | .int => "int" | .str => "str" | .list => "list" | .tuple => "tuple" | .sorted => "sorted" | .repr => "repr"
def Bl.val (b : Bl) : Value := if b.ty then .type b.id else .builtin b.id

def lenD : PyData → Option PyData
  | .list xs => some (.int xs.length)
  | .tuple xs => some (.int xs.length)
  | .str z => if z.length ≤ 16777216 then some (.int z.length) else none
  | _ => none
def bltD (b : Bl) (ds : List PyData) : Option PyData :=
  match b, ds with
  | .len, [x] => lenD x
  | .abs, [.int i] => some (.int (if i < 0 then -i else i))
  | .min, [.int i, .int j] => some (.int (if j < i then j else i))
  | .max, [.int i, .int j] => some (.int (if j > i then j else i))
  | .min, [.list (x :: xs)] => if bestOk (x :: xs) then some (PySem.W.minD x xs) else none
  | .max, [.list (x :: xs)] => if bestOk (x :: xs) then some (PySem.W.maxD x xs) else none
  | .sum, [.list xs] => (intsOf xs).map fun ns => .int ns.sum
  | .all, [.list xs] => (boolsOf xs).map fun ns => .bool (ns.all id)
  | .any, [.list xs] => (boolsOf xs).map fun ns => .bool (ns.any id)
  | .int, [.int i] => some (.int i)
  | .int, [.bool b] => some (.int (if b then 1 else 0))
  | .int, [.str z] => if z.length ≤ 640 then (PySem.intText? z).map .int else none
  | .str, [.int i] => if i.natAbs.log2 < 1920 then some (.str (toString i)) else none
  | .list, [.list xs] => some (.list xs)
  | .list, [.tuple xs] => some (.list xs)
  | .tuple, [.list xs] => some (.tuple xs)
  | .tuple, [.tuple xs] => some (.tuple xs)
  | .sorted, [.list xs] => if sortOk xs then some (.list (sortD xs)) else none
  | .repr, [x] => if x.showable && decide (x.shown.length ≤ 16777216) && decide (x.depth ≤ 100) then some (.str x.shown) else none
  | _, _ => none
def rB (C : Cfg) (b : Bl) : List V → Hp → VK → Prop := fun vs H Q => ∃ W S ds d, Vw C W H S ∧ RdtAll C H W vs ds ∧ bltD b ds = some d ∧ Go C H W S d Q

mutual
theorem dp_nodict {K : PySem.W.Frag} {W : Hp} : ∀ {v : V} {d : PyData}, Dp K W v d → d.hasDict = false
  | _, _, .non => rfl
  | _, _, .bl b => rfl
  | _, _, .int i => rfl
  | _, _, .str x => rfl
  | _, _, .lst a b => by rw [PyData.hasDict]; exact dpAll_nodict b
  | _, _, .tup a b => by rw [PyData.hasDict]; exact dpAll_nodict b
theorem dpAll_nodict {K : PySem.W.Frag} {W : Hp} : ∀ {vs : List V} {ds : List PyData}, DpAll K W vs ds → PyData.hasDictAll ds = false
  | _, _, .nil => rfl
  | _, _, .cons a b => by rw [PyData.hasDictAll, dp_nodict a, dpAll_nodict b]; rfl
end

section
variable {C : Cfg} {X : Cx}
theorem each_dp {W H : Hp} {pins : List (Addr × Obj)} {σ : L2.St} {s : Shared} {S : Draw} (I : Inv X pins σ H s) (hv : Vw C W H S) : ∀ {vs : List V} {ds : List PyData} {us : List Value}, DpAll K0 W vs ds → Vals vs us →
    PySem.W.EachIs (fun u d => ∃ x, RelV x u ∧ Dp K0 W x d) us ds ∧ PySem.W.EachIs (fun u d => ∃ as, Reads s.heap u (_root_.id d) as) us ds
  | _, _, _, .nil, .nil => ⟨.nil, .nil⟩
  | _, _, _, .cons a b, .cons r t => by
    obtain ⟨h1, h2⟩ := each_dp I hv b t
    refine ⟨.cons ⟨_, r, a⟩ h1, .cons ?_ h2⟩
    exact Dp.reads I _ _ _ (dp0 (dp_mono hv.sub a)) r
theorem each_back {W : Hp} : ∀ {us : List Value} {ds : List PyData}, PySem.W.EachIs (fun u d => ∃ x, RelV x u ∧ Dp K0 W x d) us ds → ∃ vs, Vals vs us ∧ DpAll K0 W vs ds
  | _, _, .nil => ⟨[], .nil, .nil⟩
  | _, _, .cons ⟨x, r, a⟩ t => by
    obtain ⟨vs, h1, h2⟩ := each_back t
    exact ⟨x :: vs, .cons r h1, .cons a h2⟩
theorem sortOk_facts {ds : List PyData} (h : sortOk ds = true) : PySem.W.AllAlike ds ∧ PySem.W.Sortable ds ∧ ds.length ≤ 16777216 ∧ ∀ d ∈ ds, d.depth ≤ 100 := by
  unfold sortOk at h
  simp only [Bool.and_eq_true, Bool.or_eq_true, List.all_eq_true, decide_eq_true_eq] at h
  obtain ⟨⟨⟨h1, h2⟩, h3⟩, h4⟩ := h
  refine ⟨fun d hd e he => h1 d hd e he, ?_, h3, h4⟩
  rcases h2 with h2 | h2
  · refine .inl fun d hd => ?_
    have := h2 d hd
    unfold isTupC at this
    split at this
    · exact ⟨_, _, rfl⟩
    · cases this
  · refine .inr fun d hd => ?_
    have := h2 d hd
    unfold isPlainC at this
    split at this
    · cases this
    · cases this
    · rename_i n1 n2
      exact ⟨n1, n2⟩
theorem bestOk_facts {ds : List PyData} (h : bestOk ds = true) : PySem.W.AlikeAll ds ∧ PyData.depthAll ds ≤ 100 := by
  unfold bestOk at h
  simp only [Bool.and_eq_true, List.all_eq_true, decide_eq_true_eq] at h
  obtain ⟨⟨h1, h2⟩, h3⟩ := h
  refine ⟨⟨fun d hd e he => h1 d hd e he, fun d hd e => ?_⟩, h3⟩
  have := h2 d hd
  rw [e] at this
  cases this
theorem list_reads {W H : Hp} {pins : List (Addr × Obj)} {σ : L2.St} {s : Shared} {S : Draw} (I : Inv X pins σ H s) (hv : Vw C W H S) {vs : List V} {ds : List PyData} {us : List Value} (a : DpAll K0 W vs ds) (r : Vals vs us) : ∃ as, ReadsAll s.heap us ds as :=
  Dp.readsAll I _ _ _ (dpAll0 (dpAll_mono hv.sub a)) r
theorem vals_at : ∀ {vs : List V} {us : List Value} {i : Nat} {u : Value}, Vals vs us → us[i]? = some u → ∃ x, vs[i]? = some x ∧ RelV x u
  | _, _, _, _, .nil, e => by simp at e
  | _, _, 0, _, .cons r _, e => by simp at e; subst e; exact ⟨_, rfl, r⟩
  | _, _, i + 1, u, .cons _ t, e => by
    obtain ⟨x, h1, h2⟩ := vals_at (i := i) (u := u) t (by simpa using e)
    exact ⟨x, by simpa using h1, h2⟩
/-- which of the items was handed on -/
theorem best_item {W H : Hp} {pins : List (Addr × Obj)} {σ : L2.St} {s : Shared} {S : Draw} (I : Inv X pins σ H s) (hv : Vw C W H S) {vs : List V} {ds : List PyData} {us : List Value} (a : DpAll K0 W vs ds) (r : Vals vs us)
    {i : Nat} {u : Value} {h' : Heap} {d : PyData} {bs : List Addr} (hm : d ∈ ds) (hu : us[i]? = some u) (hr : Reads h' u d bs) (hk : ∀ b o, s.heap.get? b = some o → h'.get? b = some o) : ∃ x, RelV x u ∧ Dp K0 W x d := by
  obtain ⟨x, hx, rx⟩ := vals_at r hu
  obtain ⟨e, he, hd⟩ := dpAll_getV a hx
  obtain ⟨as, re⟩ := Dp.reads I e x u (dp0 (dp_mono hv.sub hd)) rx
  have re' := PyProof.Rows.Reads.keeps hk re
  have pe : e.plain = true := dp_plain hd
  have e1 := SeqAt.readOf_plain pe re'
  have pd : d.plain = true := by
    obtain ⟨j, hj⟩ := List.getElem?_of_mem hm
    obtain ⟨y, _, hy⟩ := dpAll_get a hj
    exact dp_plain hy
  have e2 := SeqAt.readOf_plain pd hr
  have : e = d := e1.symm.trans e2
  subst this
  exact ⟨x, rx, hd⟩
theorem fold_mem {f : PyData → PyData → PyData} (hf : ∀ a y, f a y = a ∨ f a y = y) : ∀ (xs : List PyData) (x : PyData), xs.foldl f x ∈ x :: xs
  | [], x => by simp
  | y :: r, x => by
    have h := fold_mem hf r (f x y)
    rw [List.foldl_cons]
    rcases List.mem_cons.mp h with e | e
    · rw [e]
      rcases hf x y with z | z
      · rw [z]; simp
      · rw [z]; simp
    · simp [e]
theorem minD_mem (x : PyData) (xs : List PyData) : PySem.W.minD x xs ∈ x :: xs := fold_mem (fun a y => by split <;> simp) xs x
theorem maxD_mem (x : PyData) (xs : List PyData) : PySem.W.maxD x xs ∈ x :: xs := fold_mem (fun a y => by split <;> simp) xs x
theorem rdt1 {H W : Hp} {vs : List V} {x : PyData} (h : RdtAll C H W vs [x]) : ∃ v, vs = [v] ∧ Rdt C H W v x := by
  cases h with
  | cons a b => cases b; exact ⟨_, rfl, a⟩
theorem rdt2 {H W : Hp} {vs : List V} {x y : PyData} (h : RdtAll C H W vs [x, y]) : ∃ v w, vs = [v, w] ∧ Rdt C H W v x ∧ Rdt C H W w y := by
  cases h with
  | cons a b =>
    cases b with
    | cons a' b' => cases b'; exact ⟨_, _, rfl, a, a'⟩

theorem call_blt (b : Bl) (hK : X.K = C.K) (hc : X.calm = true) (hu : X.A.units + 200 < cLine) (hg : X.A.guards = some []) : CallR X b.val (rB C b) := by
  intro pins s σ H xs us Q I r h
  obtain ⟨W, S, ds, d, hv, ha, hf, q⟩ := h
  have hh : X.A.handled = none := I.ok.hd hc
  unfold bltD at hf
  split at hf
  · -- len
    rename_i x
    obtain ⟨v, rfl, hx⟩ := rdt1 ha
    unfold lenD at hf
    split at hf
    · cases hf
      obtain ⟨p, vs, rfl, h1, a1⟩ := hx.list
      refine call_len_seq pins s σ H _ us Q I r ⟨p, vs, rfl, .inl (by rw [hK]; exact h1.sq hv), ?_⟩
      rw [dpAll_len a1]
      exact go_same hv q (.int _)
    · cases hf
      obtain ⟨p, vs, rfl, h1, a1⟩ := hx.tuple
      refine call_len_seq pins s σ H _ us Q I r ⟨p, vs, rfl, .inr (hv.sqT h1), ?_⟩
      rw [dpAll_len a1]
      exact go_same hv q (.int _)
    · split at hf
      · rename_i hz
        cases hf
        obtain rfl := hx.str
        exact call_len_str pins s σ H _ us Q I r ⟨_, rfl, szl hz, go_same hv q (.int _)⟩
      · cases hf
    · cases hf
  · -- abs
    cases hf
    obtain ⟨v, rfl, hx⟩ := rdt1 ha
    obtain rfl := hx.int
    exact call_abs pins s σ H _ us Q I r ⟨_, rfl, go_same hv q (.int _)⟩
  · cases hf
    obtain ⟨v, w, rfl, hx, hy⟩ := rdt2 ha
    obtain rfl := hx.int
    obtain rfl := hy.int
    exact call_min2 hc pins s σ H _ us Q I r ⟨_, _, rfl, go_same hv q (.int _)⟩
  · cases hf
    obtain ⟨v, w, rfl, hx, hy⟩ := rdt2 ha
    obtain rfl := hx.int
    obtain rfl := hy.int
    exact call_max2 hc pins s σ H _ us Q I r ⟨_, _, rfl, go_same hv q (.int _)⟩
  · -- min of a list
    split at hf
    · rename_i x xs hb
      cases hf
      obtain ⟨v, rfl, hx⟩ := rdt1 ha
      obtain ⟨p, vs, rfl, h1, a1⟩ := hx.list
      have sq : SqL X.K H p vs := by rw [hK]; exact h1.sq hv
      obtain ⟨its, rv, hl, _⟩ := I.list sq
      obtain ⟨as, ra⟩ := list_reads I hv a1 rv
      obtain ⟨al, dd⟩ := bestOk_facts hb
      rw [Vals.ref1 r]
      refine PySem.W.min_list_data hh hl.isList (by simpa using ra) al (by omega) fun i u h' tk bs hu' hr hk => ?_
      obtain ⟨y, ry, hy⟩ := best_item I hv a1 rv (minD_mem x xs) (by simpa using hu') hr hk
      exact ⟨y, H, I.kept hk, ry, go_same hv q hy⟩
    · cases hf
  · split at hf
    · rename_i x xs hb
      cases hf
      obtain ⟨v, rfl, hx⟩ := rdt1 ha
      obtain ⟨p, vs, rfl, h1, a1⟩ := hx.list
      have sq : SqL X.K H p vs := by rw [hK]; exact h1.sq hv
      obtain ⟨its, rv, hl, _⟩ := I.list sq
      obtain ⟨as, ra⟩ := list_reads I hv a1 rv
      obtain ⟨al, dd⟩ := bestOk_facts hb
      rw [Vals.ref1 r]
      refine PySem.W.max_list_data hh hl.isList (by simpa using ra) al (by omega) fun i u h' tk bs hu' hr hk => ?_
      obtain ⟨y, ry, hy⟩ := best_item I hv a1 rv (maxD_mem x xs) (by simpa using hu') hr hk
      exact ⟨y, H, I.kept hk, ry, go_same hv q hy⟩
    · cases hf
  · -- sum
    rw [Option.map_eq_some_iff] at hf
    obtain ⟨ns, hn, rfl⟩ := hf
    obtain ⟨v, rfl, hx⟩ := rdt1 ha
    obtain ⟨p, vs, rfl, h1, a1⟩ := hx.list
    rw [intsOf_some hn] at a1
    obtain rfl := dpAll_ints a1
    exact cr_sum hc pins s σ H _ us Q I r ⟨p, ns, rfl, by rw [hK]; exact h1.sq hv, go_same hv q (.int _)⟩
  · rw [Option.map_eq_some_iff] at hf
    obtain ⟨ns, hn, rfl⟩ := hf
    obtain ⟨v, rfl, hx⟩ := rdt1 ha
    obtain ⟨p, vs, rfl, h1, a1⟩ := hx.list
    rw [boolsOf_some hn] at a1
    obtain rfl := dpAll_bools a1
    exact cr_all hc pins s σ H _ us Q I r ⟨p, ns, rfl, by rw [hK]; exact h1.sq hv, go_same hv q (.bl _)⟩
  · rw [Option.map_eq_some_iff] at hf
    obtain ⟨ns, hn, rfl⟩ := hf
    obtain ⟨v, rfl, hx⟩ := rdt1 ha
    obtain ⟨p, vs, rfl, h1, a1⟩ := hx.list
    rw [boolsOf_some hn] at a1
    obtain rfl := dpAll_bools a1
    exact cr_any hc pins s σ H _ us Q I r ⟨p, ns, rfl, by rw [hK]; exact h1.sq hv, go_same hv q (.bl _)⟩
  · -- int
    cases hf
    obtain ⟨v, rfl, hx⟩ := rdt1 ha
    obtain rfl := hx.int
    exact call_int1 pins s σ H _ us Q I r (.inl ⟨_, rfl, go_same hv q (.int _)⟩)
  · cases hf
    obtain ⟨v, rfl, hx⟩ := rdt1 ha
    obtain rfl := hx.bool
    exact call_int1 pins s σ H _ us Q I r (.inr ⟨_, rfl, go_same hv q (.int _)⟩)
  · split at hf
    · rename_i hz
      rw [Option.map_eq_some_iff] at hf
      obtain ⟨n, hn, rfl⟩ := hf
      obtain ⟨v, rfl, hx⟩ := rdt1 ha
      obtain rfl := hx.str
      exact call_int_str pins s σ H _ us Q I r ⟨_, n, rfl, hn, hz, go_same hv q (.int _)⟩
    · cases hf
  · -- str
    split at hf
    · rename_i hz
      cases hf
      obtain ⟨v, rfl, hx⟩ := rdt1 ha
      obtain rfl := hx.int
      exact call_str_int pins s σ H _ us Q I r ⟨_, rfl, hz, go_same hv q (.str _)⟩
    · cases hf
  · -- list
    cases hf
    obtain ⟨v, rfl, hx⟩ := rdt1 ha
    obtain ⟨p, vs, rfl, h1, a1⟩ := hx.list
    exact call_list_of pins s σ H _ us Q I r ⟨p, vs, rfl, .inl (by rw [hK]; exact h1.sq hv), go_lst hv q a1⟩
  · cases hf
    obtain ⟨v, rfl, hx⟩ := rdt1 ha
    obtain ⟨p, vs, rfl, h1, a1⟩ := hx.tuple
    exact call_list_of pins s σ H _ us Q I r ⟨p, vs, rfl, .inr (hv.sqT h1), go_lst hv q a1⟩
  · -- tuple
    cases hf
    obtain ⟨v, rfl, hx⟩ := rdt1 ha
    obtain ⟨p, vs, rfl, h1, a1⟩ := hx.list
    exact call_tuple_of pins s σ H _ us Q I r ⟨p, vs, rfl, .inl ⟨by rw [hK]; exact h1.sq hv, go_tup hv q a1⟩⟩
  · cases hf
    obtain ⟨v, rfl, hx⟩ := rdt1 ha
    obtain ⟨p, vs, rfl, h1, a1⟩ := hx.tuple
    exact call_tuple_of pins s σ H _ us Q I r ⟨p, vs, rfl, .inr ⟨hv.sqT h1, go_same hv q (.tup h1 a1)⟩⟩
  · -- sorted
    split at hf
    · rename_i ds' hb
      cases hf
      obtain ⟨v, rfl, hx⟩ := rdt1 ha
      obtain ⟨p, vs, rfl, h1, a1⟩ := hx.list
      have sq : SqL X.K H p vs := by rw [hK]; exact h1.sq hv
      obtain ⟨its, rv, hl, _⟩ := I.list sq
      obtain ⟨e1, e2⟩ := each_dp I hv a1 rv
      obtain ⟨al, so, hz, dd⟩ := sortOk_facts hb
      rw [Vals.ref1 r]
      refine PySem.W.sorted_data (enc := id) hl.isList e1 e2 (by rw [List.map_id]; exact al) (by rw [List.map_id]; exact so) (szl hz) (fun b hb' => by have := dd b hb'; show X.A.units + 2 + b.depth < cLine; omega) fun out hlen eo => ?_
      obtain ⟨vs', r', a'⟩ := each_back eo
      obtain ⟨ep, he'⟩ := PyProof.Rows.sortedAll_at s.heap its (List.toArray out)
      have hl' : vs'.length ≤ sizeLine := by rw [r'.length, hlen]; exact szl hz
      exact ⟨.ref _, upd H (s.heap.objs.size + 1) (.lst vs'), I.laid (t' := s.toks) (fun _ _ => PyProof.Rows.sortedAll_old) (Nat.le_succ _) ⟨hl', out, ep, r', by simpa using he'⟩, rfl, go_lst hv q a' _ (I.hok.fresh (Nat.le_succ _))⟩
    · cases hf
  · -- repr
    split at hf
    · rename_i x hb
      cases hf
      simp only [Bool.and_eq_true, decide_eq_true_eq] at hb
      obtain ⟨⟨hs, hz⟩, hd⟩ := hb
      obtain ⟨v, rfl, hx⟩ := rdt1 ha
      obtain ⟨u, rfl, ru⟩ := Vals.one r
      have wx : Dp X.K H v x := by rw [hK]; exact hx.dp hv
      obtain ⟨as, rx⟩ := Dp.reads I x v u wx ru
      have fin : ∀ {h' : Heap} {t : Tok} {tk : Nat}, (∀ b o, s.heap.get? b = some o → h'.get? b = some o) → EP X pins σ Q (.str x.shown t) { s with heap := h', toks := tk } := fun hk => ⟨.str _, H, I.kept hk, ⟨_, rfl⟩, go_same hv q (.str _)⟩
      cases wx with
      | non =>
        cases ru
        exact P.repr_of_none (fin fun _ _ e => e)
      | bl b =>
        cases ru
        exact P.repr_of_bool (fin fun _ _ e => e)
      | int i =>
        obtain ⟨t, rfl⟩ := ru
        exact P.repr_of_int (by simpa [PyData.showable] using hs) (fin fun _ _ e => e)
      | str z =>
        obtain ⟨t, rfl⟩ := ru
        exact P.repr_of_str (fin fun _ _ e => e) (by simpa [PyData.shown] using szl hz)
      | lst h1 h2 =>
        cases ru
        exact repr_of_reads' rx hs (fun e => by rw [dp_nodict (hx.dp hv)] at e; cases e) hg (by omega) (fun _ _ e => e) (fun h' t tk hk => fin hk) (szl hz)
      | tup h1 h2 =>
        cases ru
        exact repr_of_reads' rx hs (fun e => by rw [dp_nodict (hx.dp hv)] at e; cases e) hg (by omega) (fun _ _ e => e) (fun h' t tk hk => fin hk) (szl hz)
    · cases hf
  · cases hf
end
end PD
/-! P4: a small language over plain data, and its evaluation. -/
namespace PD
open PySem L2

inductive Tg where
  | nm (i : Nat)
  | tp (ts : List Tg)

inductive Mt where
  | join | split | startswith | index
  deriving DecidableEq
inductive Ty where
  | int | bool | tuple | str | list
  deriving DecidableEq

inductive Ex where
  | var (i : Nat)
  | con (d : PyData)
  | glb (x : Str) (d : PyData)
  | tup (es : List Ex)
  | lst (es : List Ex)
  | bin (op : Operator) (a b : Ex)
  | neg (a : Ex)
  | cmp (op : CmpOp) (a b : Ex)
  | chn (op op2 : CmpOp) (a b c : Ex)
  | and (es : List Ex)
  | or (es : List Ex)
  | not (a : Ex)
  | ite (c a b : Ex)
  | idx (a b : Ex)
  | sl (a : Ex) (lo hi : Option Ex)
  | blt (b : Bl) (es : List Ex)
  | call (j : Nat) (es : List Ex)
  | comp (elt : Ex) (t : Tg) (it : Ex) (cs : List Ex) (own : List Nat)
  | comp2 (elt : Ex) (t : Tg) (it : Ex) (cs : List Ex) (t2 : Tg) (it2 : Ex) (cs2 : List Ex) (own own2 : List Nat)
  | rng (es : List Ex)
  | zip (a b : Ex)
  | enm (a : Ex)
  | isi (a : Ex) (t : Ty)
  | trng (es : List Ex)
  | lrng (es : List Ex)
  | sset (a : Ex)
  | meth (m : Mt) (a b : Ex)
  | hnn (i : Nat)
  | exn (i : Nat) (neg : Bool)
  | exf (i : Nat) (f : Str) (cs : List Nat)
  | exi (i c : Nat)
  | lam (h : Nat) (e : Ex)
  | cat (a b : Ex)

inductive Sx where
  | asg (t : Tg) (e : Ex)
  | asgO (i : Nat) (e : Ex)
  | par (is : List Nat) (es : List Ex)
  | aug (i : Nat) (op : Operator) (e : Ex)
  | app (i : Nat) (e : Ex)
  | ret (e : Ex)
  | ife (c : Ex) (a b : List Sx)
  | fr (t : Tg) (it : Ex) (body : List Sx)
  | whl (c : Ex) (body : List Sx)
  | exp (e : Ex)
  | brk
  | cnt
  | rais
  | rse (c : Nat) (keep : Bool) (e : Ex)
  | tre (j : Nat) (e : Ex) (cs : List Nat) (i m : Nat)

inductive Out where
  | nx (Γ : Env) (S : Draw)
  | ret (d : PyData) (S : Draw)
  | brk (Γ : Env) (S : Draw)
  | cnt (Γ : Env) (S : Draw)
  | exc (c : Nat) (d : PyData) (S : Draw)
  | bad

structure FDef where
  nm : Str
  np : Nat
  N : List Str
  kd : List Kd
  body : Option (List Sx)
structure Prg where
  fs : List FDef
  nxt : Draw → Int → Option (Int × Draw)
  /-- the errors: names, with the name of what they keep -/
  ex : List (Nat × Str × Option Str) := []
  /-- those that are handed a lambda: names, what they make of its end -/
  hr : List (Str × (Res PyData → Res PyData)) := []

/-! ### parts of the evaluation -/
def lift {α : Type} (o : Option α) (S : Draw) : Res α :=
  match o with
  | some x => .ok x S
  | none => .bad
@[simp] theorem lift_some {α : Type} (x : α) (S : Draw) : lift (some x) S = .ok x S := rfl
@[simp] theorem lift_none {α : Type} (S : Draw) : lift (none : Option α) S = .bad := rfl
def getV (Γ : Env) (i : Nat) : Option PyData :=
  match Γ[i]? with
  | some (some d) => some d
  | _ => none
def evs (f : Draw → Ex → Res PyData) : List Ex → Draw → Res (List PyData)
  | [], S => .ok [] S
  | e :: r, S => (f S e).bind fun x S1 => (evs f r S1).bind fun xs S2 => .ok (x :: xs) S2
def wipeE (Γ : Env) : List Nat → Env
  | [] => Γ
  | v :: vs => (wipeE Γ vs).set v none
mutual
def bindT : Tg → PyData → Env → Option Env
  | .nm i, x, Γ => some (Γ.set i (some x))
  | .tp ts, .tuple xs, Γ => bindTs ts xs Γ
  | .tp _, _, _ => none
def bindTs : List Tg → List PyData → Env → Option Env
  | [], [], Γ => some Γ
  | t :: ts, x :: xs, Γ => match bindT t x Γ with
    | some Γ' => bindTs ts xs Γ'
    | none => none
  | _, _, _ => none
end
def toB {α : Type} (r : Res PyData) (k : Bool → Draw → Res α) : Res α :=
  r.bind fun x S => match x with
    | .bool b => k b S
    | _ => .bad
def noexc {α : Type} : Res α → Res α
  | .exc _ _ _ => .bad
  | r => r
def cmpL (body : PyData → Draw → Res (List PyData)) : List PyData → Draw → Res (List PyData)
  | [], S => .ok [] S
  | x :: xs, S => (body x S).bind fun ys S1 => (cmpL body xs S1).bind fun zs S2 => .ok (ys ++ zs) S2
def few (r : Res (List PyData)) : Res (List PyData) :=
  r.bind fun ys S => if ys.length ≤ 16777216 then .ok ys S else .bad
def rngL (lo : Int) (n : Nat) : List PyData := (List.range n).map fun (i : Nat) => .int (lo + i)
def rngC (lo c : Int) (n : Nat) : List PyData := (List.range n).map fun (i : Nat) => .int (lo + i * c)
def okI (i : Int) : Bool := decide (-(2 ^ 62) ≤ i ∧ i < 2 ^ 62)
def rngD : List PyData → Option (List PyData)
  | [.int j] => if okI j then some (rngL 0 j.toNat) else none
  | [.int i, .int j] => if okI i && okI j then some (rngL i (j - i).toNat) else none
  | [.int i, .int j, .int c] => if okI i && okI j && decide (c = -1) then some (rngC i (-1) (i - j).toNat) else none
  | _ => none
def itemsOf : PyData → Option (List PyData)
  | .list xs => some xs
  | .tuple xs => some xs
  | .str z => some (z.cps.toList.map fun c => .str ⟨#[c]⟩)
  | _ => none
def seqOf : PyData → Option (List PyData)
  | .list xs => some xs
  | .tuple xs => some xs
  | _ => none
def zipD (x y : PyData) : Option (List PyData) :=
  match seqOf x, seqOf y with
  | some xs, some ys => some (List.zipWith (fun a b => .tuple [a, b]) xs ys)
  | _, _ => none
def enmD (x : PyData) : Option (List PyData) := (seqOf x).map fun xs => xs.zipIdx.map fun p => .tuple [.int p.2, p.1]
def isiD (t : Ty) (x : PyData) : Bool :=
  match t with
  | .int => x.isInt
  | .bool => x.isBool
  | .tuple => x.isTuple
  | .str => x.isStr
  | .list => x.isList
def rowsOfD : List PyData → Option (List (List Int))
  | [] => some []
  | .tuple xs :: r => match intsOf xs, rowsOfD r with
    | some ns, some rs => some (ns :: rs)
    | _, _ => none
  | _ :: _ => none
def rowD (ns : List Int) : PyData := .tuple (ns.map .int)
/-- the unlike ones -/
def dd {α : Type} [DecidableEq α] : List α → List α
  | [] => []
  | x :: xs => if x ∈ xs then dd xs else x :: dd xs
def leB (a b : List Int) : Bool := decide (a ≤ b)
def leI (a b : Int) : Bool := decide (a ≤ b)
/-- sorted(set(..)) of a list of tuples of ints, of a tuple of ints -/
def ssetD (x : PyData) : Option PyData :=
  match x with
  | .list xs => match rowsOfD xs with
    | some rs => if rs.length < 64 ∧ (rs.all fun r => !r.isEmpty) = true then some (.list (((dd rs).mergeSort leB).map rowD)) else none
    | none => none
  | .tuple xs => match intsOf xs with
    | some ns => if ns.length < 64 then some (.list (((dd ns).mergeSort leI).map .int)) else none
    | none => none
  | _ => none
def strsOf : List PyData → Option (List Str)
  | [] => some []
  | .str i :: r => (strsOf r).map (i :: ·)
  | _ :: _ => none
def joinLen (a : Str) (ys : List Str) : Nat := (ys.map (·.length)).sum + ys.length * a.length
def methD (m : Mt) (x y : PyData) : Option PyData :=
  match m, x, y with
  | .join, .str a, .list ys => match strsOf ys with
    | some zs => if joinLen a zs ≤ 16777216 then some (.str (Txt.join a zs)) else none
    | none => none
  | .split, .str a, .str b => if (b.length == 0) = false ∧ a.length + 2 ≤ 16777216 then some (.list ((Txt.split a b).map .str)) else none
  | .startswith, .str a, .str b => some (.bool (Txt.startswith a b))
  | _, _, _ => none

structure Fns where
  e : Env → Draw → Ex → Res PyData
  s : Env → Draw → List Sx → Out
  c : Nat → List PyData → Draw → Res PyData
  h : Nat → Res PyData → Res PyData

/-- x is None, of a slot that may hold an error -/
def isNon : PyData → Bool
  | .none => true
  | _ => false
def excOf : PyData → Option (Nat × PyData)
  | .dict [(.int c, x)] => some (c.toNat, x)
  | _ => none
section
variable (r : Fns)
/-- and, or: all but the last are bools -/
def evAnd (Γ : Env) : List Ex → Draw → Res PyData
  | [], _ => .bad
  | [a], S => r.e Γ S a
  | a :: b :: l, S => toB (r.e Γ S a) fun k S1 => if k then evAnd Γ (b :: l) S1 else .ok (.bool false) S1
def evOr (Γ : Env) : List Ex → Draw → Res PyData
  | [], _ => .bad
  | [a], S => r.e Γ S a
  | a :: b :: l, S => toB (r.e Γ S a) fun k S1 => if k then .ok (.bool true) S1 else evOr Γ (b :: l) S1
/-- a test -/
def evT (Γ : Env) (S : Draw) (e : Ex) : Res Bool := toB (r.e Γ S e) fun b S1 => .ok b S1
def evTs (Γ : Env) : List Ex → Draw → Res Bool
  | [], S => .ok true S
  | c :: cs, S => (evT r Γ S c).bind fun b S1 => if b then evTs Γ cs S1 else .ok false S1
/-- what is walked -/
def evI (Γ : Env) (S : Draw) (e : Ex) : Res (List PyData) :=
  match e with
  | .rng es => (evs (r.e Γ) es S).bind fun xs S1 => lift (rngD xs) S1
  | .zip a b => (r.e Γ S a).bind fun x S1 => (r.e Γ S1 b).bind fun y S2 => lift (zipD x y) S2
  | .enm a => (r.e Γ S a).bind fun x S1 => lift (enmD x) S1
  | e => (r.e Γ S e).bind fun x S1 => lift (itemsOf x) S1
def evOpt (Γ : Env) (o : Option Ex) (S : Draw) : Res (Option Int) :=
  match o with
  | none => .ok none S
  | some e => (r.e Γ S e).bind fun x S1 => match x with
    | .int i => .ok (some i) S1
    | _ => .bad
def evCmp (op : CmpOp) (x y : PyData) (S : Draw) : Res PyData := lift (cmpB op x y) S
/-- the items of a comprehension -/
def evComp (Γ : Env) (elt : Ex) (t : Tg) (it : Ex) (cs : List Ex) (own : List Nat) (S : Draw) : Res (List PyData) :=
  (evI r Γ S it).bind fun xs S0 => few (noexc (cmpL (fun x S => match bindT t x (wipeE Γ own) with
    | some Γ' => (evTs r Γ' cs S).bind fun b S1 => if b then (r.e Γ' S1 elt).bind fun y S2 => .ok [y] S2 else .ok [] S1
    | none => .bad) xs S0))
def evComp2 (Γ : Env) (elt : Ex) (t : Tg) (it : Ex) (cs : List Ex) (t2 : Tg) (it2 : Ex) (cs2 : List Ex) (own own2 : List Nat) (S : Draw) : Res (List PyData) :=
  (evI r Γ S it).bind fun xs S0 => few (noexc (cmpL (fun x S => match bindT t x (wipeE Γ own) with
    | some Γ' => (evTs r Γ' cs S).bind fun b S1 => if b then
        (evI r Γ' S1 it2).bind fun ys S2 => cmpL (fun y S => match bindT t2 y (wipeE Γ' own2) with
          | some Γ2 => (evTs r Γ2 cs2 S).bind fun b S1 => if b then (r.e Γ2 S1 elt).bind fun z S2 => .ok [z] S2 else .ok [] S1
          | none => .bad) ys S2
      else .ok [] S1
    | none => .bad) xs S0))
def evStep (Γ : Env) (S : Draw) (e : Ex) : Res PyData :=
  match e with
  | .var i => lift (getV Γ i) S
  | .con d => .ok d S
  | .glb _ d => .ok d S
  | .tup es => (evs (r.e Γ) es S).bind fun xs S1 => if xs.length ≤ 16777216 then .ok (.tuple xs) S1 else .bad
  | .lst es => (evs (r.e Γ) es S).bind fun xs S1 => if xs.length ≤ 16777216 then .ok (.list xs) S1 else .bad
  | .bin op a b => (r.e Γ S a).bind fun x S1 => (r.e Γ S1 b).bind fun y S2 => lift (binD op x y) S2
  | .neg a => (r.e Γ S a).bind fun x S1 => match x with
    | .int i => .ok (.int (-i)) S1
    | _ => .bad
  | .cmp op a b => (r.e Γ S a).bind fun x S1 => (r.e Γ S1 b).bind fun y S2 => lift (cmpB op x y) S2
  | .chn op op2 a b c => (r.e Γ S a).bind fun x S1 => (r.e Γ S1 b).bind fun y S2 => (lift (cmpD op x y) S2).bind fun k S2 =>
      if k then (r.e Γ S2 c).bind fun z S3 => lift (cmpB op2 y z) S3 else .ok (.bool false) S2
  | .and es => evAnd r Γ es S
  | .or es => evOr r Γ es S
  | .not a => toB (r.e Γ S a) fun b S1 => .ok (.bool (!b)) S1
  | .ite c a b => (evT r Γ S c).bind fun k S1 => if k then r.e Γ S1 a else r.e Γ S1 b
  | .idx a b => (r.e Γ S a).bind fun x S1 => (r.e Γ S1 b).bind fun y S2 => lift (ixD x y) S2
  | .sl a lo hi => (r.e Γ S a).bind fun x S1 => (evOpt r Γ lo S1).bind fun l S2 => (evOpt r Γ hi S2).bind fun h S3 => lift (slD x l h) S3
  | .blt b es => (evs (r.e Γ) es S).bind fun xs S1 => lift (bltD b xs) S1
  | .call j es => (evs (r.e Γ) es S).bind fun xs S1 => r.c j xs S1
  | .comp elt t it cs own => (evComp r Γ elt t it cs own S).bind fun ys S1 => .ok (.list ys) S1
  | .comp2 elt t it cs t2 it2 cs2 own own2 => (evComp2 r Γ elt t it cs t2 it2 cs2 own own2 S).bind fun ys S1 => .ok (.list ys) S1
  | .isi a t => (r.e Γ S a).bind fun x S1 => .ok (.bool (isiD t x)) S1
  | .trng es => (evs (r.e Γ) es S).bind fun xs S1 => match rngD xs with
    | some ys => if ys.length ≤ 16777216 ∧ xs.length ≤ 2 then .ok (.tuple ys) S1 else .bad
    | none => .bad
  | .lrng es => (evs (r.e Γ) es S).bind fun xs S1 => match rngD xs with
    | some ys => if ys.length ≤ 16777216 ∧ xs.length ≤ 2 then .ok (.list ys) S1 else .bad
    | none => .bad
  | .sset a => (r.e Γ S a).bind fun x S1 => lift (ssetD x) S1
  | .meth m a b => (r.e Γ S a).bind fun x S1 => if x.isStr then (r.e Γ S1 b).bind fun y S2 => lift (methD m x y) S2 else .bad
  | .hnn _ => .ok (.bool true) S
  | .exn i neg => (lift (getV Γ i) S).bind fun x S1 => .ok (.bool (isNon x != neg)) S1
  | .exf i _ cs => (lift (getV Γ i) S).bind fun x S1 => match excOf x with
    | some (c, d) => if cs.contains c then .ok d S1 else .bad
    | none => .bad
  | .exi i c => (lift (getV Γ i) S).bind fun x S1 => match excOf x with
    | some (c', _) => .ok (.bool (c' == c)) S1
    | none => .bad
  | .lam h e => r.h h (r.e Γ S e)
  | .cat a b => (r.e Γ S a).bind fun x S1 => (r.e Γ S1 b).bind fun y S2 => match x, y with
    | .list xs, .list ys => if xs.length + ys.length ≤ 16777216 then .ok (.list (xs ++ ys)) S2 else .bad
    | _, _ => .bad
  | .rng _ => .bad
  | .zip _ _ => .bad
  | .enm _ => .bad

def Res.out {α : Type} (x : Res α) (k : α → Draw → Out) : Out :=
  match x with
  | .ok a S => k a S
  | .exc c d S => .exc c d S
  | .bad => .bad
def Out.seq (o : Out) (k : Env → Draw → Out) : Out :=
  match o with
  | .nx Γ S => k Γ S
  | o => o
/-- one turn after another -/
def forL (t : Tg) (body : Env → Draw → Out) : List PyData → Env → Draw → Out
  | [], Γ, S => .nx Γ S
  | x :: xs, Γ, S => match bindT t x Γ with
    | some Γ' => match body Γ' S with
      | .nx Γ2 S2 => forL t body xs Γ2 S2
      | .cnt Γ2 S2 => forL t body xs Γ2 S2
      | .brk Γ2 S2 => .nx Γ2 S2
      | o => o
    | none => .bad
def whlL (test : Env → Draw → Res Bool) (body : Env → Draw → Out) : Nat → Env → Draw → Out
  | 0, _, _ => .bad
  | k + 1, Γ, S => (test Γ S).out fun b S1 => if b then match body Γ S1 with
      | .nx Γ2 S2 => whlL test body k Γ2 S2
      | .cnt Γ2 S2 => whlL test body k Γ2 S2
      | .brk Γ2 S2 => .nx Γ2 S2
      | o => o
    else .nx Γ S1
def setAll : List Nat → List PyData → Env → Option Env
  | [], [], Γ => some Γ
  | i :: is, x :: xs, Γ => setAll is xs (Γ.set i (some x))
  | _, _, _ => none
def appO (Γ : Env) (S : Draw) (i : Nat) (e : Ex) : Out :=
  match getV Γ i with
  | some (.list xs) => (r.e Γ S e).out fun y S1 => if xs.length < 16777216 then .nx (Γ.set i (some (.list (xs ++ [y])))) S1 else .bad
  | _ => .bad
def stStep (Γ : Env) (S : Draw) (st : Sx) : Out :=
  match st with
  | .asg t e => (r.e Γ S e).out fun x S1 => match bindT t x Γ with
    | some Γ' => .nx Γ' S1
    | none => .bad
  | .asgO i e => (r.e Γ S e).out fun x S1 => match x with
    | .list _ => .nx (Γ.set i (some x)) S1
    | _ => .bad
  | .par is es => (evs (r.e Γ) es S).out fun xs S1 => match setAll is xs Γ with
    | some Γ' => .nx Γ' S1
    | none => .bad
  | .aug i op e => match getV Γ i with
    | some x => (r.e Γ S e).out fun y S1 => match op, x, y with
      | .Add, .int a, .int b => .nx (Γ.set i (some (.int (a + b)))) S1
      | .Sub, .int a, .int b => .nx (Γ.set i (some (.int (a - b)))) S1
      | _, _, _ => .bad
    | none => .bad
  | .app i e => match getV Γ i with
    | some (.list xs) => (r.e Γ S e).out fun y S1 => if xs.length < 16777216 then .nx (Γ.set i (some (.list (xs ++ [y])))) S1 else .bad
    | _ => .bad
  | .ret e => (r.e Γ S e).out fun x S1 => .ret x S1
  | .ife c a b => (evT r Γ S c).out fun k S1 => if k then r.s Γ S1 a else r.s Γ S1 b
  | .fr t it body => (evI r Γ S it).out fun xs S1 => forL t (fun Γ S => r.s Γ S body) xs Γ S1
  | .whl c body => whlL (fun Γ S => evT r Γ S c) (fun Γ S => r.s Γ S body) 1000000 Γ S
  | .exp e => (r.e Γ S e).out fun _ S1 => .nx Γ S1
  | .brk => .brk Γ S
  | .cnt => .cnt Γ S
  | .rais => .bad
  | .rse c keep e => (r.e Γ S e).out fun x S1 => .exc c (if keep then x else .none) S1
  | .tre j e cs i m => match appO r Γ S j e with
    | .exc c d S1 => if cs.contains c then .nx ((Γ.set i none).set m (some (excD c d))) S1 else .bad
    | o => o
def ssStep (Γ : Env) (S : Draw) : List Sx → Out
  | [] => .nx Γ S
  | s :: ss => (stStep r Γ S s).seq fun Γ' S' => ssStep Γ' S' ss
end
def cStep (P : Prg) (r : Fns) (j : Nat) (ds : List PyData) (S : Draw) : Res PyData :=
  match P.fs[j]? with
  | some f => if ds.length = f.np then
      match f.body with
      | some b => match r.s (ds.map some ++ List.replicate (f.N.length - ds.length) none) S b with
        | .nx _ S' => .ok .none S'
        | .ret d S' => .ok d S'
        | .exc c d S' => .exc c d S'
        | _ => .bad
      | none => match ds with
        | [_, .int t] => match P.nxt S t with
          | some (i, S') => .ok (.int i) S'
          | none => .bad
        | _ => .bad
    else .bad
  | none => .bad
def run (P : Prg) : Nat → Fns
  | 0 => ⟨fun _ _ _ => .bad, fun _ _ _ => .bad, fun _ _ _ => .bad, fun _ _ => .bad⟩
  | n + 1 => ⟨evStep (run P n), fun Γ S ss => ssStep (run P n) Γ S ss, cStep P (run P n), fun h x => match P.hr[h]? with
    | some p => p.2 x
    | none => .bad⟩
end PD
/-! P5: defs and calls that know that nothing is being shown (guards), and the rules of expressions over plain data. -/
namespace PD
open PySem PySem.Spec PyProof.Rows L2

/-! ### defs -/
structure FnG (P : Program) (w : World) (K : PySem.W.Frag) (mg : Str → Option Value) (base : Heap) (CX : CXT) (n : Nat) (fa : Addr) (fd : FuncData) (ps : List Str) (sp : Sp) : Prop where
  size : ∀ xs H Q E, sp xs H Q E → xs.length = ps.length
  go : ∀ (A : Around) (fr : List PySem.Env) (s : Shared) (H : Hp) (args : Args) (us : List Value) (xs : List V) (Q : VK) (E : XK),
    Room n A → A.guards = some [] → Env0 P w K mg base A fr s H → BindsTo s fd args (ps.zip us) → Vals xs us → sp xs H Q E → codeAny (model P w) A (.call (.ref fa) args) (CR CX fr P w H s Q E) s
theorem guards_deep {A : Around} {env : PySem.Env} (h : A.guards = some []) : (A.deeper env).guards = some [] := h

/-- a def of the text, by its body -/
theorem fnG_of {CX : CXT} {P : Program} {w : World} {K : PySem.W.Frag} {mg : Str → Option Value} {base : Heap} {n : Nat} {fa : Addr} {x q : Str} {st : Stmt} {fd : FuncData} {N ps : List Str} {sp : Sp}
    (F : Fun K x q st fa fd) (S : FnScope N ps (defScope st)) (size : ∀ xs H Q E, sp xs H Q E → xs.length = ps.length)
    (walk : ∀ (cd : Value) (A : Around) (fr : List PySem.Env) (s : Shared) (H : Hp) (xs : List V) (Q : VK) (E : XK), Room n (A.deeper (envOfC q (defScope st) s.heap.objs.size fa cd)) → A.guards = some [] → sp xs H Q E →
      ∃ t, PSs (cxOf CX P w K mg base N q (defScope st) fa cd A fr s H E) (defBody st) t ∧ t { nx := fun _ H' => Q .non H', rt := Q } (start N xs) H) :
    FnG P w K mg base CX (n + 1) fa fd ps sp := by
  obtain ⟨oc, od, kV, doc, pm, an, cd, ct, osl, rfl, at_, code⟩ := F.ex
  refine ⟨size, fun A fr s H args us xs Q E room gd e0 bd rv want => ?_⟩
  have hlen := size _ _ _ _ want
  have old : ∀ b o, base.get? b = some o → s.heap.get? b = some o := fun b o e => (e0.bs b o e).1
  have inK : K.In s.heap := e0.mod.kin.keeps old
  have noLim : s.heap.NoLimit := e0.mod.nolimit.keeps old
  refine codeAny_call_function room.depth (inK _ _ at_) rfl S.co S.gen rfl (PySem.W.codeRec_of inK code) (bd _ _ _ _ ?_)
  refine wpAny_newFunctionEnv_cells S.kind (fun ⟨y, u⟩ hy => ?_) fun env he s1 ic => ?_
  · rcases S.par y (List.of_mem_zip hy).1 with z | z
    · exact .inl z
    · exact .inr ⟨z, PySem.W.cellsFrom_some _ _ _ (.inl z)⟩
  subst he
  refine ⟨noLim.keeps ic.toInCall.keep, codeAny_func ?_⟩
  obtain ⟨t, pt, tt⟩ := walk cd A fr s H xs Q E (room.deeper _) gd want
  have I0 := inv_start (CX := CX) (E := E) S room.hd e0 hlen rv ic
  refine wpAny_mono (pt.run [] s1 (start N xs) H _ I0 tt) (fun flow s' h => ?_) fun _ _ h => h
  cases flow with
  | ret u =>
    obtain ⟨v, _, H', J, ru, hq⟩ := h
    exact ⟨v, H', J.os, J.bare, J.base, J.hok, ru, hq⟩
  | next =>
    obtain ⟨_, H', J, hq⟩ := h
    exact ⟨V.non, H', J.os, J.bare, J.base, J.hok, rfl, hq⟩
  | brk => exact h.choose_spec.choose_spec.2.elim
  | cont => exact h.choose_spec.choose_spec.2.elim

section
variable {X : Cx} {CX : CXT} {n : Nat} {fa : Addr} {fd : FuncData} {ps : List Str} {sp : Sp} {E : XK} {x : Str} {p pos : Pos} {e : Expr} {es : List Expr} {t : TA}
theorem runG {pins : List (Addr × Obj)} {σ : L2.St} {H : Hp} {s : Shared} {Q : VK} {us : List Value} {vs : List V} (F : FnG X.prog X.w X.K X.mg X.base CX n fa fd ps sp) (room : Room n X.A) (gd : X.A.guards = some []) (bd : Binds X.K fd ps []) (px : Passes CX X E)
    (I : Inv X pins σ H s) (rv : Vals vs us) (want : sp vs H Q E) : wpAny (model X.prog X.w) X.A (call (.ref fa) us) (EP X pins σ Q) X.xe s := by
  have hl : us.length = ps.length := by rw [← rv.length]; exact F.size _ _ _ _ want
  have bb := bd s us I.kIn (by rw [List.append_nil]; exact hl)
  rw [List.append_nil] at bb
  refine wpAny_call (codeAny_mono (F.go X.A X.stack s H ⟨us, []⟩ us vs Q E room gd I.env0 bb rv want) fun r s' h => ?_)
  cases r with
  | error z => exact px pins σ H s z s' I h
  | ok flow =>
    cases flow with
    | ret u => exact I.after h
    | next => exact False.elim h
    | brk => exact False.elim h
    | cont => exact False.elim h
theorem pe_callG (F : FnG X.prog X.w X.K X.mg X.base CX n fa fd ps sp) (room : Room n X.A) (gd : X.A.guards = some []) (hg : Gl X x) (hm : X.mg x = some (.ref fa)) (kp : PySem.W.keepIn X.K (.ref fa) = true) (bd : Binds X.K fd ps []) (px : Passes CX X E)
    (ha : PA X (e :: es) t) (hdb : (x == ("__debug__" : Str)) = false) (he : starEach (e :: es) X.env = (false, eval e X.env) :: starEach es X.env) (hpl : (backTo pos (starEach es X.env)).any (·.1) = false) :
    PE X (.Call (.Name x p) (e :: es) [] pos) (tCall sp [] E t) := by
  refine ⟨fun pins s σ H Q I h => wpAny_Call_Name_kw (ld_glob I hg hm ?_ hdb)⟩
  refine PySem.W.callWith_K (h₀ := X.base) I.ok.mod.kin kp (thn (ha.run pos pins s σ H _ I h) fun us s1 ⟨vs, H1, I1, rv, q⟩ => ⟨I1.kIn, ?_⟩) he hpl
  exact runG F room gd bd px I1 rv (by simpa using q)
theorem pe_callG0 (F : FnG X.prog X.w X.K X.mg X.base CX n fa fd ps sp) (room : Room n X.A) (gd : X.A.guards = some []) (hg : Gl X x) (hm : X.mg x = some (.ref fa)) (kp : PySem.W.keepIn X.K (.ref fa) = true) (bd : Binds X.K fd ps []) (px : Passes CX X E)
    (hdb : (x == ("__debug__" : Str)) = false) : PE X (.Call (.Name x p) [] [] pos) (tCall sp [] E tNil) := by
  refine ⟨fun pins s σ H Q I h => wpAny_Call_Name_kw (ld_glob I hg hm ?_ hdb)⟩
  exact PySem.W.callWith_K0 I.kIn kp (runG (us := []) F room gd bd px I .nil h)
end
/-- .. the wish about errors told of the state -/
def tCallS (sp : Sp) (E : L2.St → XK) (t : TA) : TE := fun σ H Q => t σ H fun vs H1 => sp vs H1 Q (E σ)
section
variable {X : Cx} {CX : CXT} {n : Nat} {fa : Addr} {fd : FuncData} {ps : List Str} {sp : Sp} {E : L2.St → XK} {x : Str} {p pos : Pos} {e : Expr} {es : List Expr} {t : TA}
theorem runGS {pins : List (Addr × Obj)} {σ : L2.St} {H : Hp} {s : Shared} {Q : VK} {us : List Value} {vs : List V} (F : FnG X.prog X.w X.K X.mg X.base CX n fa fd ps sp) (room : Room n X.A) (gd : X.A.guards = some []) (bd : Binds X.K fd ps [])
    (px : ∀ (pins : List (Addr × Obj)) (σ : L2.St) (H : Hp) (s : Shared) (e : Value) (s' : Shared), Inv X pins σ H s → CX X.stack H s (E σ) e s' → X.xe e s')
    (I : Inv X pins σ H s) (rv : Vals vs us) (want : sp vs H Q (E σ)) : wpAny (model X.prog X.w) X.A (call (.ref fa) us) (EP X pins σ Q) X.xe s := by
  have hl : us.length = ps.length := by rw [← rv.length]; exact F.size _ _ _ _ want
  have bb := bd s us I.kIn (by rw [List.append_nil]; exact hl)
  rw [List.append_nil] at bb
  refine wpAny_call (codeAny_mono (F.go X.A X.stack s H ⟨us, []⟩ us vs Q (E σ) room gd I.env0 bb rv want) fun r s' h => ?_)
  cases r with
  | error z => exact px pins σ H s z s' I h
  | ok flow =>
    cases flow with
    | ret u => exact I.after h
    | next => exact False.elim h
    | brk => exact False.elim h
    | cont => exact False.elim h
theorem pe_callGS (F : FnG X.prog X.w X.K X.mg X.base CX n fa fd ps sp) (room : Room n X.A) (gd : X.A.guards = some []) (hg : Gl X x) (hm : X.mg x = some (.ref fa)) (kp : PySem.W.keepIn X.K (.ref fa) = true) (bd : Binds X.K fd ps [])
    (px : ∀ (pins : List (Addr × Obj)) (σ : L2.St) (H : Hp) (s : Shared) (e : Value) (s' : Shared), Inv X pins σ H s → CX X.stack H s (E σ) e s' → X.xe e s')
    (ha : PA X (e :: es) t) (hdb : (x == ("__debug__" : Str)) = false) (he : starEach (e :: es) X.env = (false, eval e X.env) :: starEach es X.env) (hpl : (backTo pos (starEach es X.env)).any (·.1) = false) :
    PE X (.Call (.Name x p) (e :: es) [] pos) (tCallS sp E t) := by
  refine ⟨fun pins s σ H Q I h => wpAny_Call_Name_kw (ld_glob I hg hm ?_ hdb)⟩
  refine PySem.W.callWith_K (h₀ := X.base) I.ok.mod.kin kp (thn (ha.run pos pins s σ H _ I h) fun us s1 ⟨vs, H1, I1, rv, q⟩ => ⟨I1.kIn, ?_⟩) he hpl
  exact runGS F room gd bd px I1 rv (by simpa using q)
theorem pe_callGS0 (F : FnG X.prog X.w X.K X.mg X.base CX n fa fd ps sp) (room : Room n X.A) (gd : X.A.guards = some []) (hg : Gl X x) (hm : X.mg x = some (.ref fa)) (kp : PySem.W.keepIn X.K (.ref fa) = true) (bd : Binds X.K fd ps [])
    (px : ∀ (pins : List (Addr × Obj)) (σ : L2.St) (H : Hp) (s : Shared) (e : Value) (s' : Shared), Inv X pins σ H s → CX X.stack H s (E σ) e s' → X.xe e s')
    (hdb : (x == ("__debug__" : Str)) = false) : PE X (.Call (.Name x p) [] [] pos) (tCallS sp E tNil) := by
  refine ⟨fun pins s σ H Q I h => wpAny_Call_Name_kw (ld_glob I hg hm ?_ hdb)⟩
  exact PySem.W.callWith_K0 I.kIn kp (runGS (us := []) F room gd bd px I .nil h)
/-- what lets nothing out -/
theorem FnG.up {P : Program} {w : World} {K : PySem.W.Frag} {mg : Str → Option Value} {base : Heap} (F : FnG P w K mg base CX0 n fa fd ps sp) : FnG P w K mg base (L2.CX P w) n fa fd ps sp where
  size := F.size
  go := fun A fr s H args us xs Q E room gd e0 bd rv want => codeAny_mono (F.go A fr s H args us xs Q E room gd e0 bd rv want) fun r s' h => by
    cases r with
    | error z => exact (show False from h).elim
    | ok flow => cases flow <;> exact h
end
end PD
/-! P6: the rules of expressions over plain data. -/
namespace PD
open PySem PySem.Spec PyProof.Rows L2
section
variable {X : Cx} {C : Cfg} {pos : Pos}

/-! ### names and constants -/
theorem de_var {i : Nat} {x : Str} (hN : X.N[i]? = some x) (hv : Vis X.env.scope x) (hd : (x == ("__debug__" : Str)) = false) (hcd : (x == ("__classdict__" : Str)) = false) (hk : C.kdOf i = .nrm) :
    PE X (.Name x pos) (tE C fun Γ S => lift (getV Γ i) S) := PE.imp (pe_var hN hv hd hcd) fun σ H Q ⟨Γ, W, S, he, hw, p⟩ => by
  dsimp only [getV] at p
  split at p
  · rename_i d e
    obtain ⟨v, h1, h2⟩ := he.at_ i d e
    rw [hk] at h2
    exact ⟨v, h1, p v H W (Stp.refl _ _ _) hw h2⟩
  · exact p.elim
theorem de_varR {i : Nat} {x : Str} (hN : X.N[i]? = some x) (hv : Vis X.env.scope x) (hd : (x == ("__debug__" : Str)) = false) (hcd : (x == ("__classdict__" : Str)) = false) (hk : C.kdOf i ≠ .hnd) (hx : C.kdOf i ≠ .exv) :
    PE X (.Name x pos) (tR C fun Γ S => lift (getV Γ i) S) := PE.imp (pe_var hN hv hd hcd) fun σ H Q ⟨Γ, W, S, he, hw, p⟩ => by
  dsimp only [getV] at p
  split at p
  · rename_i d e
    obtain ⟨v, h1, h2⟩ := he.at_ i d e
    refine ⟨v, h1, p v H W (Stp.refl _ _ _) hw ?_⟩
    cases e1 : C.kdOf i with
    | nrm => rw [e1] at h2; exact .see h2
    | own =>
      rw [e1] at h2
      obtain ⟨q, vs, ds, rfl, rfl, h3, h4, h5, h6, h7⟩ := h2
      exact .own h3 h5 h7
    | scr =>
      rw [e1] at h2
      rcases h2 with h2 | ⟨q, ns, rfl, rfl, h2⟩
      · exact .see h2
      · exact .mod h2
    | hnd => exact absurd e1 hk
    | exv => exact absurd e1 hx
  · exact p.elim
/-- a constant's value -/
def conV : PyData → Option V
  | .none => some .non
  | .bool b => some (.bl b)
  | .int i => some (.int i)
  | .str x => some (.str x)
  | _ => none
theorem conV_dp {W : Hp} {d : PyData} {v : V} (h : conV d = some v) : Dp K0 W v d := by
  cases d <;> cases h
  · exact .non
  · exact .bl _
  · exact .int _
  · exact .str _
theorem de_tC {e : Expr} {d : PyData} {v : V} (h : PE X e (tC v)) (hd : conV d = some v) : PE X e (tE C fun _ S => .ok d S) := PE.imp h fun σ H Q ⟨Γ, W, S, he, hw, p⟩ => p v H W (Stp.refl _ _ _) hw (conV_dp hd)
def constB : PyData → Const → Bool
  | .none, .none => true
  | .bool a, .bool b => decide (a = b)
  | .int a, .int b => decide (a = b)
  | .str a, .str b => decide (a = b)
  | _, _ => false
theorem de_con {d : PyData} {c : Const} {j : Nat} (h : constB d c = true) : PE X (.Constant c j pos) (tE C fun _ S => .ok d S) := by
  unfold constB at h
  split at h
  · exact de_tC pe_non rfl
  · rw [decide_eq_true_eq] at h; subst h; exact de_tC pe_bl rfl
  · rw [decide_eq_true_eq] at h; subst h; exact de_tC pe_int rfl
  · rw [decide_eq_true_eq] at h; subst h; exact de_tC pe_str rfl
  · cases h

/-! ### argument lists -/
theorem de_nil {RL : Hp → Hp → List V → List PyData → Prop} (h : ∀ H W, RL H W [] []) : PA X [] (tG C RL fun _ S => .ok [] S) := PA.imp pa_nil fun σ H Q ⟨Γ, W, S, he, hw, p⟩ => p [] H W (Stp.refl _ _ _) hw (h _ _)
theorem de_cons {R : Hp → Hp → V → PyData → Prop} {RL : Hp → Hp → List V → List PyData → Prop} {e : Expr} {es : List Expr} {f : Fn PyData} {g : Fn (List PyData)} (ha : PE X e (tG C R f)) (hr : PA X es (tG C RL g))
    (hs : starEach (e :: es) X.env = (false, eval e X.env) :: starEach es X.env) (st : ∀ H W H' W' v d, Stp C.pm H W H' W' → R H W v d → R H' W' v d) (hc : ∀ H W v d vs ds, R H W v d → RL H W vs ds → RL H W (v :: vs) (d :: ds)) :
    PA X (e :: es) (tG C RL fun Γ S => (f Γ S).bind fun x S1 => (g Γ S1).bind fun xs S2 => .ok (x :: xs) S2) := PA.imp (pa_cons ha hr hs) fun σ H Q ⟨Γ, W, S, he, hw, p⟩ =>
  tG_then he hw p (fun c d S' h => h) fun x S1 v H1 W1 s1 v1 e1 r1 p1 => tG_then e1 v1 p1 (xq_stp (fun c d S' h => h) s1) fun xs S2 vs H2 W2 s2 v2 e2 r2 p2 =>
    p2 (v :: vs) H2 W2 (s1.trans s2) v2 (hc _ _ _ _ _ _ (st _ _ _ _ _ _ s2 r1) r2)
/-- arguments that are read -/
def tRs (C : Cfg) (f : Fn (List PyData)) : TA := tG C (fun H W vs ds => RdtAll C H W vs ds) f

/-! ### displays -/
theorem few_of {α : Type} {n : Nat} {r : Res α} {P : α → Draw → Prop} {E : Nat → PyData → Draw → Prop} (h : (if n ≤ 16777216 then r else .bad).Post P E) : n ≤ 16777216 ∧ r.Post P E := by
  split at h
  · rename_i hn
    exact ⟨hn, h⟩
  · exact h.elim
theorem de_tup {es : List Expr} {j : Nat} {f : Fn (List PyData)} (h : PA X es (tAs C f)) : PE X (.Tuple es j pos) (tE C fun Γ S => (f Γ S).bind fun xs S1 => if xs.length ≤ 16777216 then .ok (.tuple xs) S1 else .bad) := PE.imp (pe_tup h) fun σ H Q ⟨Γ, W, S, he, hw, p⟩ =>
  tG_then he hw p (fun c d S' h => h) fun xs S1 vs H1 W1 s1 v1 e1 r1 p1 => by
    obtain ⟨hn, q⟩ := few_of p1
    refine ⟨szl (by rw [dpAll_len r1]; exact hn), go_tup (C := C) v1 (fun v' H' W' s' v2 d2 => q v' H' W' (s1.trans s') v2 d2) r1⟩
theorem de_lstF {es : List Expr} {f : Fn (List PyData)} (h : PA X es (tAs C f)) : PE X (.List es pos) (tF C fun Γ S => (f Γ S).bind fun xs S1 => if xs.length ≤ 16777216 then .ok xs S1 else .bad) := PE.imp (pe_lst h) fun σ H Q ⟨Γ, W, S, he, hw, p⟩ =>
  tG_then he hw p (fun c d S' h => h) fun xs S1 vs H1 W1 s1 v1 e1 r1 p1 => by
    obtain ⟨hn, q⟩ := few_of p1
    refine ⟨szl (by rw [dpAll_len r1]; exact hn), fun pl hp => ?_⟩
    have hp0 : H pl = none := by
      cases e : H pl with
      | none => rfl
      | some o => obtain ⟨o', e'⟩ := s1.t pl o e; rw [hp] at e'; cases e'
    exact q pl vs _ W1 (s1.trans (Stp.newH v1 hp)) (v1.newH hp) hp0 upd_same (v1.wnone hp) (fun m => v1.new_ne hp ((mst_upd (v1.pm_ne hp)).mp m)) r1

/-- a list that is seen, or a hidden one of ours -/
def RO (C : Cfg) (H W : Hp) (v : V) (d : PyData) : Prop := Dp K0 W v d ∨ ∃ p vs ds, v = .ref p ∧ d = .list ds ∧ H p = some (.lst vs) ∧ ¬ Mst H C.pm p ∧ DpAll K0 W vs ds
theorem RO.stp {H W H' W' : Hp} {v : V} {d : PyData} (r : RO C H W v d) (s : Stp C.pm H W H' W') : RO C H' W' v d := by
  rcases r with r | ⟨p, vs, ds, e1, e2, h, m, a⟩
  · exact .inl (dp_mono s.w r)
  · obtain ⟨h', m'⟩ := s.k p _ h m (fun ps z => by cases z)
    exact .inr ⟨p, vs, ds, e1, e2, h', m', dpAll_mono s.w a⟩
theorem RO.list {H W : Hp} {S : Draw} {v : V} {xs : List PyData} (r : RO C H W v (.list xs)) (w : Vw C W H S) : ∃ p vs, v = .ref p ∧ Rd H p (.lst vs) ∧ DpAll K0 W vs xs := by
  rcases r with r | ⟨p, vs, ds, e1, e2, h, m, a⟩
  · cases r with
    | lst a b => exact ⟨_, _, rfl, rd0 (sqL_mono w.sub a), b⟩
  · cases e2
    exact ⟨p, vs, e1, .inl h, a⟩
theorem de_varO {i : Nat} {x : Str} (hN : X.N[i]? = some x) (hv : Vis X.env.scope x) (hd : (x == ("__debug__" : Str)) = false) (hcd : (x == ("__classdict__" : Str)) = false) (hk : C.kdOf i = .nrm ∨ C.kdOf i = .own) :
    PE X (.Name x pos) (tG C (fun H W v d => RO C H W v d) fun Γ S => lift (getV Γ i) S) := PE.imp (pe_var hN hv hd hcd) fun σ H Q ⟨Γ, W, S, he, hw, p⟩ => by
  dsimp only [getV] at p
  split at p
  · rename_i d e
    obtain ⟨v, h1, h2⟩ := he.at_ i d e
    refine ⟨v, h1, p v H W (Stp.refl _ _ _) hw ?_⟩
    rcases hk with hk | hk
    · rw [hk] at h2
      exact .inl h2
    · rw [hk] at h2
      obtain ⟨q, vs, ds, rfl, rfl, h3, h4, h5, h6, h7⟩ := h2
      exact .inr ⟨q, vs, ds, rfl, rfl, h3, h5, h7⟩
  · exact p.elim
theorem pe_ro {e : Expr} {f : Fn PyData} (h : PE X e (tE C f)) : PE X e (tG C (fun H W v d => RO C H W v d) f) := PE.imp h fun σ H Q ⟨Γ, W, S, he, hv, p⟩ => ⟨Γ, W, S, he, hv, p.mono (fun d S' q v H' W' s v' r => q v H' W' s v' (.inl r)) fun _ _ _ q => q⟩
/-- two lists make a new one, hidden -/
theorem de_catF {a b : Expr} {f g : Fn PyData} (ha : PE X a (tG C (fun H W v d => RO C H W v d) f)) (hb : PE X b (tG C (fun H W v d => RO C H W v d) g)) : PE X (.BinOp a .Add b pos) (tF C fun Γ S => (f Γ S).bind fun x S1 => (g Γ S1).bind fun y S2 => match x, y with
    | .list xs, .list ys => if xs.length + ys.length ≤ 16777216 then .ok (xs ++ ys) S2 else .bad
    | _, _ => .bad) :=
  PE.imp (pe_op op_catR ha hb) fun σ H Q ⟨Γ, W, S, he, hw, p⟩ =>
    tG_then he hw p (fun c d S' h => h) fun x S1 v H1 W1 s1 v1 e1 r1 p1 => tG_then e1 v1 p1 (xq_stp (fun c d S' h => h) s1) fun y S2 u H2 W2 s2 v2 e2 r2 p2 => by
      split at p2
      · split at p2
        · rename_i xs ys hl
          obtain ⟨p, vs, rfl, k1, k2⟩ := (r1.stp s2).list v2
          obtain ⟨q, us, rfl, l1, l2⟩ := r2.list v2
          refine ⟨p, q, vs, us, rfl, rfl, k1, l1, szl (by rw [dpAll_len k2, dpAll_len l2]; exact hl), fun pl hp => ?_⟩
          have hp0 : H pl = none := by
            cases e : H pl with
            | none => rfl
            | some o => obtain ⟨o', e'⟩ := (s1.trans s2).t pl o e; rw [hp] at e'; cases e'
          exact p2 pl _ _ W2 ((s1.trans s2).trans (Stp.newH v2 hp)) (v2.newH hp) hp0 upd_same (v2.wnone hp) (fun m => v2.new_ne hp ((mst_upd (v2.pm_ne hp)).mp m)) (dpAll_append k2 l2)
        · exact p2.elim
      · exact p2.elim
/-! ### operators -/
theorem de_bin {a b : Expr} {op : Operator} {f g : Fn PyData} (ha : PE X a (tE C f)) (hb : PE X b (tE C g)) : PE X (.BinOp a op b pos) (tE C fun Γ S => (f Γ S).bind fun x S1 => (g Γ S1).bind fun y S2 => lift (binD op x y) S2) :=
  PE.imp (pe_op (op_binD (C := C)) ha hb) fun σ H Q ⟨Γ, W, S, he, hw, p⟩ =>
    tG_then he hw p (fun c d S' h => h) fun x S1 v H1 W1 s1 v1 e1 r1 p1 => tG_then e1 v1 p1 (xq_stp (fun c d S' h => h) s1) fun y S2 u H2 W2 s2 v2 e2 r2 p2 => by
      cases e : binD op x y with
      | none => rw [e] at p2; exact p2.elim
      | some d =>
        rw [e] at p2
        exact ⟨W2, S2, x, y, d, v2, dp_mono s2.w r1, r2, e, fun v' H' W' s' v3 d3 => p2 v' H' W' ((s1.trans s2).trans s') v3 d3⟩
theorem de_neg {a : Expr} {f : Fn PyData} (ha : PE X a (tE C f)) : PE X (.UnaryOp .USub a pos) (tE C fun Γ S => (f Γ S).bind fun x S1 => match x with
    | .int i => .ok (.int (-i)) S1
    | _ => .bad) := PE.imp (pe_un un_neg ha) fun σ H Q ⟨Γ, W, S, he, hw, p⟩ =>
  tG_then he hw p (fun c d S' h => h) fun x S1 v H1 W1 s1 v1 e1 r1 p1 => by
    cases r1 <;> try exact p1.elim
    rename_i i
    exact ⟨i, rfl, p1 _ H1 W1 s1 v1 (.int _)⟩
/-- a comparison's reading from the data -/
theorem cmp_go {op : CmpOp} {a b : Expr} {f g : Fn PyData} {σ : L2.St} {H : Hp} {Q : VK} (p : tE C (fun Γ S => (f Γ S).bind fun x S1 => (g Γ S1).bind fun y S2 => lift (cmpB op x y) S2) σ H Q) : tOp (rD C (cmpB op)) (tR C f) (tR C g) σ H Q := by
  obtain ⟨Γ, W, S, he, hw, p⟩ := p
  exact tG_then he hw p (fun c d S' h => h) fun x S1 v H1 W1 s1 v1 e1 r1 p1 => tG_then e1 v1 p1 (xq_stp (fun c d S' h => h) s1) fun y S2 u H2 W2 s2 v2 e2 r2 p2 => by
    cases e : cmpB op x y with
    | none => rw [e] at p2; exact p2.elim
    | some d =>
      rw [e] at p2
      exact ⟨W2, S2, x, y, d, v2, r1.stp s2, r2, e, fun v' H' W' s' v3 d3 => p2 v' H' W' ((s1.trans s2).trans s') v3 d3⟩
theorem de_cmp {a b : Expr} {op : CmpOp} {f g : Fn PyData} (hK : X.K = C.K) (hu : X.A.units + 200 < cLine) (ha : PE X a (tR C f)) (hb : PE X b (tR C g)) (hm : behindInMarks op b = false) :
    PE X (.Compare a [op] [b] pos) (tE C fun Γ S => (f Γ S).bind fun x S1 => (g Γ S1).bind fun y S2 => lift (cmpB op x y) S2) :=
  PE.imp (pe_cmpR (op_cmpD hK hu) ha hb hm) fun σ H Q p => cmp_go (a := a) (b := b) p
/-- from a value's reading to a test's -/
theorem toB_te {f : Fn PyData} {σ : L2.St} {H : Hp} {Q : Bool → Hp → Prop} (p : tT C (fun Γ S => toB (f Γ S) fun b S1 => .ok b S1) σ H Q) : tE C f σ H fun x H1 => ∃ k, x = .bl k ∧ Q k H1 := by
  obtain ⟨Γ, W, S, he, hw, p⟩ := p
  exact tG_then he hw p (fun c d S' h => h) fun x S1 v H1 W1 s1 v1 e1 r1 p1 => by
    cases r1 <;> try exact p1.elim
    rename_i b
    exact ⟨b, rfl, p1 _ H1 W1 s1 v1 rfl⟩
theorem dt_cmp {a b : Expr} {op : CmpOp} {f g : Fn PyData} (hK : X.K = C.K) (hu : X.A.units + 200 < cLine) (ha : PE X a (tR C f)) (hb : PE X b (tR C g)) (hm : behindInMarks op b = false) :
    PT X (.Compare a [op] [b] pos) (tT C fun Γ S => toB ((f Γ S).bind fun x S1 => (g Γ S1).bind fun y S2 => lift (cmpB op x y) S2) fun b S1 => .ok b S1) :=
  PT.imp (pt_cmpR (op_cmpD hK hu) ha hb hm) fun σ H Q p => cmp_go (a := a) (b := b) (toB_te p)
theorem dt_val {e : Expr} {f : Fn PyData} (h : PE X e (tE C f)) (he : ∀ whole, isTrue e X.env whole = (do let v ← whole; standAt e.pos; holding [v] (truthy v))) : PT X e (tT C fun Γ S => toB (f Γ S) fun b S1 => .ok b S1) :=
  PT.imp (pt_val h he) fun σ H Q p => toB_te p
/-- a chain of two -/
theorem chn_go {op op2 : CmpOp} {f g h : Fn PyData} {σ : L2.St} {H : Hp} {Q : VK} (p : tE C (fun Γ S => (f Γ S).bind fun x S1 => (g Γ S1).bind fun y S2 => (lift (cmpD op x y) S2).bind fun k S2 =>
      if k then (h Γ S2).bind fun z S3 => lift (cmpB op2 y z) S3 else .ok (.bool false) S2) σ H Q) : tChain (rD C (cmpB op)) (rD C (cmpB op2)) (tR C f) (tR C g) (tR C h) σ H Q := by
  obtain ⟨Γ, W, S, he, hw, p⟩ := p
  exact tG_then he hw p (fun c d S' h => h) fun x S1 v H1 W1 s1 v1 e1 r1 p1 => tG_then e1 v1 p1 (xq_stp (fun c d S' h => h) s1) fun y S2 u H2 W2 s2 v2 e2 r2 p2 => by
    cases e : cmpD op x y with
    | none => rw [e] at p2; exact p2.elim
    | some k =>
      rw [e] at p2
      refine ⟨W2, S2, x, y, .bool k, v2, r1.stp s2, r2, by unfold cmpB; rw [e]; rfl, fun v' H' W' s' v3 d3 => ?_⟩
      cases d3
      refine ⟨k, rfl, ?_⟩
      cases k with
      | false => exact p2 _ H' W' ((s1.trans s2).trans s') v3 (.bl _)
      | true =>
        exact tG_then (e2.stp s') v3 p2 (xq_stp (fun c d S' h => h) ((s1.trans s2).trans s')) fun z S3 t H3 W3 s3 v4 e4 r4 p4 => by
          cases e5 : cmpB op2 y z with
          | none => rw [e5] at p4; exact p4.elim
          | some d =>
            rw [e5] at p4
            exact ⟨W3, S3, y, z, d, v4, (r2.stp s').stp s3, r4, e5, fun v' H' W' s5 v5 d5 => p4 v' H' W' ((((s1.trans s2).trans s').trans s3).trans s5) v5 d5⟩
theorem de_chn {a b c : Expr} {op op2 : CmpOp} {f g h : Fn PyData} (hK : X.K = C.K) (hu : X.A.units + 200 < cLine) (ha : PE X a (tR C f)) (hb : PE X b (tR C g)) (hc : PE X c (tR C h)) (hm : lastMarks [op, op2] [b, c] = false) :
    PE X (.Compare a [op, op2] [b, c] pos) (tE C fun Γ S => (f Γ S).bind fun x S1 => (g Γ S1).bind fun y S2 => (lift (cmpD op x y) S2).bind fun k S2 => if k then (h Γ S2).bind fun z S3 => lift (cmpB op2 y z) S3 else .ok (.bool false) S2) :=
  PE.imp (pe_chain (op_cmpD hK hu) (op_cmpD hK hu) ha hb hc hm) fun σ H Q p => chn_go p
theorem dt_chn {a b c : Expr} {op op2 : CmpOp} {f g h : Fn PyData} (hK : X.K = C.K) (hu : X.A.units + 200 < cLine) (ha : PE X a (tR C f)) (hb : PE X b (tR C g)) (hc : PE X c (tR C h)) (hm : lastMarks [op, op2] [b, c] = false) :
    PT X (.Compare a [op, op2] [b, c] pos) (tT C fun Γ S => toB ((f Γ S).bind fun x S1 => (g Γ S1).bind fun y S2 => (lift (cmpD op x y) S2).bind fun k S2 => if k then (h Γ S2).bind fun z S3 => lift (cmpB op2 y z) S3 else .ok (.bool false) S2) fun b S1 => .ok b S1) :=
  PT.imp (pt_chain (op_cmpD hK hu) (op_cmpD hK hu) ha hb hc hm) fun σ H Q p => chn_go (toB_te p)

/-! ### and, or, not, if -/
theorem toB_post {α : Type} {r : Res PyData} {k : Bool → Draw → Res α} {P : α → Draw → Prop} {E : Nat → PyData → Draw → Prop} (h : (toB r k).Post P E) : (r.bind fun x S => match x with | .bool b => k b S | _ => .bad).Post P E := h
theorem de_and {a b : Expr} {rest : List Expr} {f g : Fn PyData} (ha : PE X a (tE C f)) (hb : PE X (.BoolOp .And (b :: rest) pos) (tE C g)) :
    PE X (.BoolOp .And (a :: b :: rest) pos) (tE C fun Γ S => toB (f Γ S) fun k S1 => if k then g Γ S1 else .ok (.bool false) S1) := PE.imp (pe_and ha hb) fun σ H Q ⟨Γ, W, S, he, hw, p⟩ =>
  tG_then he hw (toB_post p) (fun c d S' h => h) fun x S1 v H1 W1 s1 v1 e1 r1 p1 => by
    cases r1 <;> try exact p1.elim
    rename_i k
    refine ⟨k, rfl, ?_⟩
    cases k with
    | false => exact p1 _ H1 W1 s1 v1 (.bl _)
    | true => exact ⟨Γ, W1, S1, e1, v1, p1.mono (fun d S' q v' H' W' s' v2 d2 => q v' H' W' (s1.trans s') v2 d2) fun c d S' q H' W' s' v2 => q H' W' (s1.trans s') v2⟩
theorem de_or {a b : Expr} {rest : List Expr} {f g : Fn PyData} (ha : PE X a (tE C f)) (hb : PE X (.BoolOp .Or (b :: rest) pos) (tE C g)) :
    PE X (.BoolOp .Or (a :: b :: rest) pos) (tE C fun Γ S => toB (f Γ S) fun k S1 => if k then .ok (.bool true) S1 else g Γ S1) := PE.imp (pe_or ha hb) fun σ H Q ⟨Γ, W, S, he, hw, p⟩ =>
  tG_then he hw (toB_post p) (fun c d S' h => h) fun x S1 v H1 W1 s1 v1 e1 r1 p1 => by
    cases r1 <;> try exact p1.elim
    rename_i k
    refine ⟨k, rfl, ?_⟩
    cases k with
    | true => exact p1 _ H1 W1 s1 v1 (.bl _)
    | false => exact ⟨Γ, W1, S1, e1, v1, p1.mono (fun d S' q v' H' W' s' v2 d2 => q v' H' W' (s1.trans s') v2 d2) fun c d S' q H' W' s' v2 => q H' W' (s1.trans s') v2⟩
theorem de_not {a : Expr} {f : Fn PyData} (ha : PE X a (tE C f)) : PE X (.UnaryOp .Not a pos) (tE C fun Γ S => toB (f Γ S) fun b S1 => .ok (.bool (!b)) S1) := PE.imp (pe_not ha) fun σ H Q ⟨Γ, W, S, he, hw, p⟩ =>
  tG_then he hw (toB_post p) (fun c d S' h => h) fun x S1 v H1 W1 s1 v1 e1 r1 p1 => by
    cases r1 <;> try exact p1.elim
    rename_i k
    exact ⟨k, rfl, p1 _ H1 W1 s1 v1 (.bl _)⟩
/-- further on, with the same wish -/
theorem tG_on {α β : Type} {R : Hp → Hp → β → α → Prop} {f : Fn α} {Γ : Env} {σ : L2.St} {H W H1 W1 : Hp} {S1 : Draw} {Q : β → Hp → Prop} (s1 : Stp C.pm H W H1 W1) (e1 : EnvOk C Γ σ H1 W1) (v1 : Vw C W1 H1 S1)
    (p : (f Γ S1).Post (fun d S' => ∀ v H' W', Stp C.pm H W H' W' → Vw C W' H' S' → R H' W' v d → Q v H') (fun c d S' => ∀ H' W', Stp C.pm H W H' W' → Vw C W' H' S' → C.XQ c d S' σ H' W')) : tG C R f σ H1 Q :=
  ⟨Γ, W1, S1, e1, v1, p.mono (fun d S' q v' H' W' s' v2 d2 => q v' H' W' (s1.trans s') v2 d2) fun c d S' q H' W' s' v2 => q H' W' (s1.trans s') v2⟩
theorem de_ite {c a b : Expr} {f : Fn Bool} {g h : Fn PyData} (hc : PT X c (tT C f)) (ha : PE X a (tE C g)) (hb : PE X b (tE C h)) : PE X (.IfExp c a b pos) (tE C fun Γ S => (f Γ S).bind fun k S1 => if k then g Γ S1 else h Γ S1) :=
  PE.imp (pe_ifExp hc ha hb) fun σ H Q ⟨Γ, W, S, he, hw, p⟩ => tG_then he hw p (fun c d S' h => h) fun x S1 v H1 W1 s1 v1 e1 r1 p1 => by
    subst r1
    cases v with
    | true => exact tG_on s1 e1 v1 p1
    | false => exact tG_on s1 e1 v1 p1
/-- tests -/
theorem dt_not {a : Expr} {f : Fn Bool} (ha : PT X a (tT C f)) : PT X (.UnaryOp .Not a pos) (tT C fun Γ S => (f Γ S).bind fun b S1 => .ok (!b) S1) := PT.imp (pt_not ha) fun σ H Q ⟨Γ, W, S, he, hw, p⟩ =>
  tG_then he hw p (fun c d S' h => h) fun x S1 v H1 W1 s1 v1 e1 r1 p1 => by
    subst r1
    exact p1 _ H1 W1 s1 v1 rfl
theorem PW.imp {e : Expr} {t t' : TT} (h : PW X e t) (i : ∀ σ H Q, t' σ H Q → t σ H Q) : PW X e t' := ⟨fun wh pins s σ H Q I q => h.run wh pins s σ H Q I (i σ H Q q)⟩
theorem dw_and {a b : Expr} {rest : List Expr} {f g : Fn Bool} (ha : PT X a (tT C f)) (hb : PW X (.BoolOp .And (b :: rest) pos) (tT C g)) :
    PW X (.BoolOp .And (a :: b :: rest) pos) (tT C fun Γ S => (f Γ S).bind fun k S1 => if k then g Γ S1 else .ok false S1) := PW.imp (pw_and ha hb) fun σ H Q ⟨Γ, W, S, he, hw, p⟩ =>
  tG_then he hw p (fun c d S' h => h) fun x S1 v H1 W1 s1 v1 e1 r1 p1 => by
    subst r1
    cases v with
    | true => exact tG_on s1 e1 v1 p1
    | false => exact p1 _ H1 W1 s1 v1 rfl
theorem dw_or {a b : Expr} {rest : List Expr} {f g : Fn Bool} (ha : PT X a (tT C f)) (hb : PW X (.BoolOp .Or (b :: rest) pos) (tT C g)) :
    PW X (.BoolOp .Or (a :: b :: rest) pos) (tT C fun Γ S => (f Γ S).bind fun k S1 => if k then .ok true S1 else g Γ S1) := PW.imp (pw_or ha hb) fun σ H Q ⟨Γ, W, S, he, hw, p⟩ =>
  tG_then he hw p (fun c d S' h => h) fun x S1 v H1 W1 s1 v1 e1 r1 p1 => by
    subst r1
    cases v with
    | false => exact tG_on s1 e1 v1 p1
    | true => exact p1 _ H1 W1 s1 v1 rfl

/-! ### places and slices -/
theorem de_idx {a b : Expr} {f g : Fn PyData} (hK : X.K = C.K) (ha : PE X a (tR C f)) (hb : PE X b (tR C g)) (hs : PlainIx b) : PE X (.Subscript a b pos) (tE C fun Γ S => (f Γ S).bind fun x S1 => (g Γ S1).bind fun y S2 => lift (ixD x y) S2) :=
  PE.imp (pe_ix (ix_D hK) ha hb hs) fun σ H Q ⟨Γ, W, S, he, hw, p⟩ =>
    tG_then he hw p (fun c d S' h => h) fun x S1 v H1 W1 s1 v1 e1 r1 p1 => tG_then e1 v1 p1 (xq_stp (fun c d S' h => h) s1) fun y S2 u H2 W2 s2 v2 e2 r2 p2 => by
      cases e : ixD x y with
      | none => rw [e] at p2; exact p2.elim
      | some d =>
        rw [e] at p2
        exact ⟨W2, S2, x, y, d, v2, r1.stp s2, r2, e, fun v' H' W' s' v3 d3 => p2 v' H' W' ((s1.trans s2).trans s') v3 d3⟩
/-- a part of a slice -/
def tOpt (C : Cfg) (f : Fn (Option Int)) : TO := tG C (fun _ _ i j => i = j) f
theorem PO.imp {e : Option Expr} {t t' : TO} (h : PO X e t) (i : ∀ σ H Q, t' σ H Q → t σ H Q) : PO X e t' := ⟨fun pins s σ H Q I q => h.run pins s σ H Q I (i σ H Q q)⟩
theorem do_none : PO X none (tOpt C fun _ S => .ok none S) := PO.imp po_none fun σ H Q ⟨Γ, W, S, he, hw, p⟩ => p none H W (Stp.refl _ _ _) hw rfl
theorem do_some {e : Expr} {f : Fn PyData} (h : PE X e (tE C f)) : PO X (some e) (tOpt C fun Γ S => (f Γ S).bind fun x S1 => match x with
    | .int i => .ok (some i) S1
    | _ => .bad) := PO.imp (po_some h) fun σ H Q ⟨Γ, W, S, he, hw, p⟩ => tG_then he hw p (fun c d S' h => h) fun x S1 v H1 W1 s1 v1 e1 r1 p1 => by
  cases r1 <;> try exact p1.elim
  rename_i i
  exact ⟨i, rfl, p1 _ H1 W1 s1 v1 rfl⟩
theorem de_sl {a : Expr} {lo hi : Option Expr} {p2 : Pos} {f : Fn PyData} {g h : Fn (Option Int)} (hK : X.K = C.K) (ha : PE X a (tR C f)) (hl : PO X lo (tOpt C g)) (hh : PO X hi (tOpt C h)) :
    PE X (.Subscript a (.Slice lo hi none p2) pos) (tE C fun Γ S => (f Γ S).bind fun x S1 => (g Γ S1).bind fun l S2 => (h Γ S2).bind fun u S3 => lift (slD x l u) S3) :=
  PE.imp (pe_slice (sl_D hK) ha hl hh) fun σ H Q ⟨Γ, W, S, he, hw, p⟩ =>
    tG_then he hw p (fun c d S' h => h) fun x S1 v H1 W1 s1 v1 e1 r1 p1 => tG_then e1 v1 p1 (xq_stp (fun c d S' h => h) s1) fun l S2 u H2 W2 s2 v2 e2 r2 p2 =>
      tG_then e2 v2 p2 (xq_stp (fun c d S' h => h) (s1.trans s2)) fun l' S3 u' H3 W3 s3 v3 e3 r3 p3 => by
        subst r2 r3
        cases e : slD x u u' with
        | none => rw [e] at p3; exact p3.elim
        | some d =>
          rw [e] at p3
          exact ⟨W3, S3, x, d, v3, (r1.stp s2).stp s3, e, fun v' H' W' s' v4 d4 => p3 v' H' W' (((s1.trans s2).trans s3).trans s') v4 d4⟩

/-! ### built-ins -/
theorem boot_bl (b : Bl) : bootBuiltins b.nm = some b.val := by cases b <;> decide +kernel
theorem nm_bl (b : Bl) : b.nm ≠ "__name__" ∧ (b.nm == ("__debug__" : Str)) = false := by cases b <;> decide +kernel
theorem de_blt {b : Bl} {p : Pos} {e : Expr} {es : List Expr} {f : Fn (List PyData)} (hK : X.K = C.K) (hc : X.calm = true) (hu : X.A.units + 200 < cLine) (hgd : X.A.guards = some []) (hg : Gl X b.nm) (hm : X.mg b.nm = none) (ha : PA X (e :: es) (tRs C f))
    (hs : starEach (e :: es) X.env = (false, eval e X.env) :: starEach es X.env) (hpl : (backTo pos (starEach es X.env)).any (·.1) = false) :
    PE X (.Call (.Name b.nm p) (e :: es) [] pos) (tE C fun Γ S => (f Γ S).bind fun xs S1 => lift (bltD b xs) S1) := by
  have key : PE X (.Call (.Name b.nm p) (e :: es) [] pos) (tCB (rB C b) (tRs C f)) := by
    have cr := call_blt (C := C) b hK hc hu hgd
    have bo := boot_bl b
    obtain ⟨n1, n2⟩ := nm_bl b
    unfold Bl.val at cr bo
    cases ht : b.ty with
    | true =>
      rw [ht] at cr bo
      exact pe_callTy cr hg hm bo ha n1 n2 hs hpl
    | false =>
      rw [ht] at cr bo
      exact pe_callB cr hg hm bo ha n1 n2 hs hpl
  exact PE.imp key fun σ H Q ⟨Γ, W, S, he, hw, p⟩ => tG_then he hw p (fun c d S' h => h) fun xs S1 vs H1 W1 s1 v1 e1 r1 p1 => by
    cases e : bltD b xs with
    | none => rw [e] at p1; exact p1.elim
    | some d =>
      rw [e] at p1
      exact ⟨W1, S1, xs, d, v1, r1, e, fun v' H' W' s' v3 d3 => p1 v' H' W' (s1.trans s') v3 d3⟩
end
end PD
/-! P7: targets, what is walked, comprehensions. -/
namespace PD
open PySem PySem.Spec PyProof.Rows L2

/-! ### targets -/
mutual
def Tg.slots : Tg → List Nat
  | .nm i => [i]
  | .tp ts => Tg.slotsL ts
def Tg.slotsL : List Tg → List Nat
  | [] => []
  | t :: ts => t.slots ++ Tg.slotsL ts
end
theorem EnvOk.setS {C : Cfg} {Γ : Env} {σ : L2.St} {H W : Hp} (e : EnvOk C Γ σ H W) {i : Nat} {v : V} {d : PyData} (hk : C.kdOf i ≠ .own) (hd : Slot C H W (C.kdOf i) v d) : EnvOk C (Γ.set i (some d)) (σ.set i (some v)) H W where
  len := by rw [List.length_set, List.length_set]; exact e.len
  at_ := fun j x hj => by
    by_cases hji : i = j
    · subst hji
      by_cases hl : i < Γ.length
      · rw [List.getElem?_set_self hl] at hj
        cases hj
        exact ⟨v, List.getElem?_set_self (by rw [← e.len]; exact hl), hd⟩
      · rw [List.getElem?_eq_none (by rw [List.length_set]; omega)] at hj
        cases hj
    · rw [List.getElem?_set_ne hji] at hj ⊢
      exact e.at_ j x hj
  sep := fun j k p x y hjk h1 h2 h3 h4 h5 => by
    have n1 : i ≠ j := fun z => hk (by rw [z]; exact h1)
    have n2 : i ≠ k := fun z => hk (by rw [z]; exact h2)
    rw [List.getElem?_set_ne n1] at h3 h5
    rw [List.getElem?_set_ne n2] at h4 ⊢
    exact e.sep j k p x y hjk h1 h2 h3 h4 h5
  zd := e.zd
theorem EnvOk.set {C : Cfg} {Γ : Env} {σ : L2.St} {H W : Hp} (e : EnvOk C Γ σ H W) {i : Nat} {v : V} {d : PyData} (hk : C.kdOf i = .nrm) (hd : Dp K0 W v d) : EnvOk C (Γ.set i (some d)) (σ.set i (some v)) H W :=
  e.setS (by rw [hk]; exact fun z => nomatch z) (by rw [hk]; exact hd)
theorem EnvOk.setD {C : Cfg} {Γ : Env} {σ : L2.St} {H W : Hp} (e : EnvOk C Γ σ H W) {i : Nat} {v : V} {d : PyData} (hk : C.kdOf i = .nrm ∨ C.kdOf i = .exv) (hd : Dp K0 W v d) : EnvOk C (Γ.set i (some d)) (σ.set i (some v)) H W := by
  rcases hk with hk | hk
  · exact e.set hk hd
  · exact e.setS (by rw [hk]; exact fun z => nomatch z) (by rw [hk]; exact .inl hd)
theorem bindTs_len : ∀ (ts : List Tg) (ds : List PyData) (Γ Γ' : Env), bindTs ts ds Γ = some Γ' → ds.length = ts.length
  | [], [], _, _, _ => rfl
  | [], _ :: _, _, _, h => by cases h
  | _ :: _, [], _, _, h => by cases h
  | t :: ts, d :: ds, Γ, Γ', h => by
    unfold bindTs at h
    split at h
    · rw [List.length_cons, List.length_cons, bindTs_len ts ds _ _ h]
    · cases h
/-- what a target asks: the data, and that its slots take them -/
def tgD (C : Cfg) (t : Tg) : TG := fun v σ H Q => ∃ Γ W S d Γ', EnvOk C Γ σ H W ∧ Vw C W H S ∧ Dp K0 W v d ∧ bindT t d Γ = some Γ' ∧
  ∀ σ', EnvOk C Γ' σ' H W → σ'.length = σ.length → (∀ i, i ∉ t.slots → σ'[i]? = σ[i]?) → Q σ' H
def tgsD (C : Cfg) (ts : List Tg) : TGs := fun vs σ H Q => ∃ Γ W S ds Γ', EnvOk C Γ σ H W ∧ Vw C W H S ∧ DpAll K0 W vs ds ∧ bindTs ts ds Γ = some Γ' ∧
  ∀ σ', EnvOk C Γ' σ' H W → σ'.length = σ.length → (∀ i, i ∉ Tg.slotsL ts → σ'[i]? = σ[i]?) → Q σ' H
section
variable {X : Cx} {C : Cfg} {pos : Pos}
theorem PG.imp {e : Expr} {t t' : TG} (h : PG X e t) (i : ∀ v σ H Q, t' v σ H Q → t v σ H Q) : PG X e t' := ⟨fun pins s σ H v u Q I r q => h.run pins s σ H v u Q I r (i v σ H Q q)⟩
theorem PGs.imp {e : List Expr} {t t' : TGs} (h : PGs X e t) (i : ∀ v σ H Q, t' v σ H Q → t v σ H Q) : PGs X e t' := ⟨fun pins s σ H v u Q I r q => h.run pins s σ H v u Q I r (i v σ H Q q)⟩
theorem dg_nm {i : Nat} {x : Str} (nd : X.N.Nodup) (hi : X.N[i]? = some x) (hx : Loc X.env.scope x) (hf : X.fn x = true ∨ X.env.scope.names.lookup x = some .local) (hk : C.kdOf i = .nrm ∨ C.kdOf i = .exv) : PG X (.Name x pos) (tgD C (.nm i)) :=
  PG.imp (pg_name nd hi hx hf) fun v σ H Q ⟨Γ, W, S, d, Γ', he, hw, hd, hb, q⟩ => by
    cases hb
    refine q _ (he.setD hk hd) (List.length_set ..) fun j hj => List.getElem?_set_ne fun z => ?_
    simp [Tg.slots] at hj
    exact hj z.symm
theorem dgs_nil : PGs X [] (tgsD C []) := PGs.imp pgs_nil fun vs σ H Q ⟨Γ, W, S, ds, Γ', he, hw, hd, hb, q⟩ => by
  cases hd with
  | nil =>
    cases hb
    exact ⟨rfl, q σ he rfl fun _ _ => rfl⟩
  | cons a b => cases hb
theorem dgs_cons {e : Expr} {es : List Expr} {t : Tg} {ts : List Tg} (h1 : PG X e (tgD C t)) (h2 : PGs X es (tgsD C ts)) (hs : (assignEach (e :: es) X.env).map (·.2) = assign e X.env :: (assignEach es X.env).map (·.2)) : PGs X (e :: es) (tgsD C (t :: ts)) :=
  PGs.imp (pgs_cons h1 h2 hs) fun vs σ H Q ⟨Γ, W, S, ds, Γ', he, hw, hd, hb, q⟩ => by
    cases hd with
    | nil => cases hb
    | @cons v vs d ds a b =>
      unfold bindTs at hb
      split at hb
      · rename_i Γ1 h1
        refine ⟨v, vs, rfl, Γ, W, S, d, Γ1, he, hw, a, h1, fun σ1 e1 l1 k1 => ?_⟩
        refine ⟨Γ1, W, S, ds, Γ', e1, hw, b, hb, fun σ2 e2 l2 k2 => ?_⟩
        refine q σ2 e2 (l2.trans l1) fun i hi => ?_
        simp only [Tg.slotsL, List.mem_append, not_or] at hi
        rw [k2 i hi.2, k1 i hi.1]
      · cases hb
theorem dg_tp {es : List Expr} {k : Nat} {ts : List Tg} (hc : X.calm = true) (h : PGs X es (tgsD C ts)) (hn : (assignEach es X.env).length = ts.length) (hst : (assignEach es X.env).findIdx? (·.1) = none) : PG X (.Tuple es k pos) (tgD C (.tp ts)) :=
  PG.imp (pg_tup hc h hn hst) fun v σ H Q ⟨Γ, W, S, d, Γ', he, hw, hd, hb, q⟩ => by
    cases hd with
    | @tup a vs ds h1 h2 =>
      have hb' : bindTs ts ds Γ = some Γ' := hb
      refine ⟨a, vs, rfl, hw.sqT h1, ?_, Γ, W, S, ds, Γ', he, hw, h2, hb', q⟩
      rw [dpAll_len h2]
      exact bindTs_len ts ds Γ Γ' hb'
    | _ => cases hb
end

/-! ### what is walked -/
/-- the things xs, one a turn, while G stands -/
structure Wk (C : Cfg) (J : It) (xs : List PyData) (G : Hp → Hp → Prop) : Prop where
  go : ∀ i H W S, Vw C W H S → G H W → i < xs.length → J.go i H
  stop : ∀ H W S, Vw C W H S → G H W → J.stop xs.length H
  yld : ∀ i H W S x H', Vw C W H S → G H W → i < xs.length → J.yld i H x H' → ∃ d W', xs[i]? = some d ∧ Stp C.pm H W H' W' ∧ Vw C W' H' S ∧ Dp K0 W' x d
abbrev Sub (W W' : Hp) : Prop := ∀ a o, W a = some o → W' a = some o
/-- how G goes on: in expressions; in statements -/
def KeepE (C : Cfg) (G : Hp → Hp → Prop) : Prop := ∀ H W H' W', Stp C.pm H W H' W' → G H W → G H' W'
def KeepS (G : Hp → Hp → Prop) : Prop := ∀ H W H' W', Sub W W' → G H W → G H' W'
def tI (C : Cfg) (kp : (Hp → Hp → Prop) → Prop) (f : Fn (List PyData)) : TI := fun σ H R => ∃ Γ W S, EnvOk C Γ σ H W ∧ Vw C W H S ∧ (f Γ S).Post
  (fun xs S' => ∀ J H' W' G, Stp C.pm H W H' W' → Vw C W' H' S' → Wk C J xs G → G H' W' → kp G → R J H')
  (fun c d S' => ∀ H' W', Stp C.pm H W H' W' → Vw C W' H' S' → C.XQ c d S' σ H' W')
section
variable {X : Cx} {C : Cfg} {tg : Expr}
theorem PI.imp {e : Expr} {t t' : TI} (h : PI X tg e t) (i : ∀ σ H R, t' σ H R → t σ H R) : PI X tg e t' := ⟨fun pins s σ H R I q => h.run pins s σ H R I (i σ H R q)⟩
theorem wk_list {p : Addr} {vs : List V} {xs : List PyData} (hl : vs.length = xs.length) : Wk C (Itl C.K p) xs (fun H W => Rdl C H W p vs ∧ DpAll K0 W vs xs) where
  go := fun i H W S hv g hi => ⟨vs, vs[i]'(by omega), g.1.sq hv, by simp [show i < vs.length by omega]⟩
  stop := fun H W S hv g => ⟨vs, g.1.sq hv, by omega⟩
  yld := fun i H W S x H' hv g hi y => by
    obtain ⟨rfl, y⟩ := y
    obtain ⟨d, h1, h2⟩ := dpAll_getV g.2 (y vs (g.1.sq hv))
    exact ⟨d, W, h1, Stp.refl _ _ _, hv, h2⟩
theorem wk_listS {p : Addr} {vs : List V} {xs : List PyData} (hl : vs.length = xs.length) : Wk C (Itl C.K p) xs (fun H W => SqL K0 W p vs ∧ DpAll K0 W vs xs) :=
  ⟨fun i H W S hv g => (wk_list hl).go i H W S hv ⟨.see g.1, g.2⟩, fun H W S hv g => (wk_list hl).stop H W S hv ⟨.see g.1, g.2⟩, fun i H W S x H' hv g => (wk_list hl).yld i H W S x H' hv ⟨.see g.1, g.2⟩⟩
theorem wk_tup {p : Addr} {vs : List V} {xs : List PyData} (hl : vs.length = xs.length) : Wk C (Itt C.K p) xs (fun H W => SqT K0 W p vs ∧ DpAll K0 W vs xs) where
  go := fun i H W S hv g hi => ⟨vs, vs[i]'(by omega), hv.sqT g.1, by simp [show i < vs.length by omega]⟩
  stop := fun H W S hv g => ⟨vs, hv.sqT g.1, by omega⟩
  yld := fun i H W S x H' hv g hi y => by
    obtain ⟨rfl, y⟩ := y
    obtain ⟨d, h1, h2⟩ := dpAll_getV g.2 (y vs (hv.sqT g.1))
    exact ⟨d, W, h1, Stp.refl _ _ _, hv, h2⟩
theorem wk_str {z : Str} : Wk C (Its z) (z.cps.toList.map fun c => .str ⟨#[c]⟩) (fun _ _ => True) where
  go := fun i H W S hv g hi => by
    show i < z.cps.size
    simpa using hi
  stop := fun H W S hv g => by
    show z.cps.size ≤ _
    simp
  yld := fun i H W S x H' hv g hi y => by
    obtain ⟨rfl, c, hc, rfl⟩ := y
    exact ⟨_, W, by rw [List.getElem?_map]; simp [hc], Stp.refl _ _ _, hv, .str _⟩
theorem wk_rng {lo : Int} {n : Nat} : Wk C (Itr lo n) (rngL lo n) (fun _ _ => True) where
  go := fun i H W S hv g hi => by
    show i < n
    simpa [rngL] using hi
  stop := fun H W S hv g => by
    show n ≤ _
    simp [rngL]
  yld := fun i H W S x H' hv g hi y => by
    obtain ⟨rfl, rfl⟩ := y
    have hi' : i < n := by simpa [rngL] using hi
    exact ⟨_, W, by unfold rngL; rw [List.getElem?_map, List.getElem?_range hi']; rfl, Stp.refl _ _ _, hv, .int _⟩
theorem wk_rngC {lo c : Int} {n : Nat} : Wk C (Itc lo c n) (rngC lo c n) (fun _ _ => True) where
  go := fun i H W S hv g hi => by
    show i < n
    simpa [rngC] using hi
  stop := fun H W S hv g => by
    show n ≤ _
    simp [rngC]
  yld := fun i H W S x H' hv g hi y => by
    obtain ⟨rfl, rfl⟩ := y
    have hi' : i < n := by simpa [rngC] using hi
    exact ⟨_, W, by unfold rngC; rw [List.getElem?_map, List.getElem?_range hi']; rfl, Stp.refl _ _ _, hv, .int _⟩

/-- a list, a tuple or a text is walked -/
def iSeq (K : PySem.W.Frag) (te : TE) : TI := fun σ H R => te σ H fun x H1 => (∃ a xs, x = .ref a ∧ SqL K H1 a xs ∧ R (Itl K a) H1) ∨ (∃ a xs, x = .ref a ∧ SqT K H1 a xs ∧ R (Itt K a) H1) ∨ ∃ z, x = .str z ∧ R (Its z) H1
theorem pi_seq {e : Expr} {te : TE} (he : PE X e te) : PI X tg e (iSeq X.K te) := by
  refine ⟨fun pins s σ H R I h => thn (he.run pins s σ H _ I h) fun v s1 ⟨x, H1, I1, r1, q1⟩ => ?_⟩
  have own : ∀ {b : Addr}, b ∈ [s1.heap.objs.size] → FpOk X pins H1 b := fun {b} hb => by
    rw [List.mem_singleton] at hb
    rw [hb]
    exact I1.fpOk (Nat.le_refl _) (I1.hok.fresh (Nat.le_refl _))
  have more : ∀ (o : Obj), Inv X pins σ H1 { s1 with heap := s1.heap.push o } := fun o => I1.kept (t' := s1.toks) fun b u z => Heap.get?_push_of_some _ z
  rcases q1 with ⟨a, xs, rfl, sq, q⟩ | ⟨a, xs, rfl, sq, q⟩ | ⟨z, rfl, q⟩
  · cases r1
    obtain ⟨its, _, pl, _⟩ := I1.list sq
    exact wpAny_pyIter_list pl.isList ⟨_, [s1.heap.objs.size], _, _, H1, rfl, more _, turn_list a _, ⟨_, Heap.get?_push_size _ rfl, rfl, rfl⟩, fun b hb => own hb, q⟩
  · cases r1
    obtain ⟨its, _, pl, _⟩ := I1.tuple sq
    exact wpAny_pyIter_tuple (show s1.heap.IsTuple a its.toArray from pl) ⟨_, [s1.heap.objs.size], _, _, H1, rfl, more _, turn_tuple a _, ⟨_, Heap.get?_push_size _ rfl, rfl, rfl⟩, fun b hb => own hb, q⟩
  · obtain ⟨t, rfl⟩ := r1
    cases asc : z.cps.all (· < 128)
    · refine wpAny_pyIter_wide asc ?_
      exact pi_one (tk := s1.toks) I1 _ (turn_str _ z t "str_iterator" (.inr rfl)) ⟨_, Heap.get?_push_size _ rfl, rfl, rfl⟩ q
    · refine wpAny_pyIter_ascii asc ?_
      exact pi_one (tk := s1.toks) I1 _ (turn_str _ z t "str_ascii_iterator" (.inl rfl)) ⟨_, Heap.get?_push_size _ rfl, rfl, rfl⟩ q
/-- over a value that is read -/
theorem di_val {e : Expr} {f : Fn PyData} (hK : X.K = C.K) (h : PE X e (tR C f)) : PI X tg e (tI C (KeepE C) fun Γ S => (f Γ S).bind fun x S1 => lift (itemsOf x) S1) :=
  PI.imp (pi_seq h) fun σ H R ⟨Γ, W, S, he, hw, p⟩ => tG_then he hw p (fun c d S' h => h) fun x S1 v H1 W1 s1 v1 e1 r1 p1 => by
    cases x with
    | list xs =>
      obtain ⟨a, vs, rfl, h1, h2⟩ := r1.list
      refine .inl ⟨a, vs, rfl, by rw [hK]; exact h1.sq v1, ?_⟩
      rw [hK]
      exact p1 _ H1 W1 _ s1 v1 (wk_list (dpAll_len h2)) ⟨h1, h2⟩ fun H2 W2 H3 W3 s2 g => ⟨g.1.stp s2, dpAll_mono s2.w g.2⟩
    | tuple xs =>
      obtain ⟨a, vs, rfl, h1, h2⟩ := r1.tuple
      refine .inr (.inl ⟨a, vs, rfl, v1.sqT h1, ?_⟩)
      rw [hK]
      exact p1 _ H1 W1 _ s1 v1 (wk_tup (dpAll_len h2)) ⟨h1, h2⟩ fun H2 W2 H3 W3 s2 g => ⟨sqT_mono s2.w g.1, dpAll_mono s2.w g.2⟩
    | str z =>
      obtain rfl := r1.str
      exact .inr (.inr ⟨z, rfl, p1 _ H1 W1 _ s1 v1 wk_str trivial fun _ _ _ _ _ _ => trivial⟩)
    | _ => exact p1.elim
/-- .. that is seen -/
theorem di_valS {e : Expr} {f : Fn PyData} (hK : X.K = C.K) (h : PE X e (tE C f)) : PI X tg e (tI C KeepS fun Γ S => (f Γ S).bind fun x S1 => lift (itemsOf x) S1) :=
  PI.imp (pi_seq h) fun σ H R ⟨Γ, W, S, he, hw, p⟩ => tG_then he hw p (fun c d S' h => h) fun x S1 v H1 W1 s1 v1 e1 r1 p1 => by
    cases r1 with
    | @lst a vs xs h1 h2 =>
      refine .inl ⟨a, vs, rfl, sq0 (sqL_mono v1.sub h1), ?_⟩
      rw [hK]
      exact p1 _ H1 W1 _ s1 v1 (wk_listS (dpAll_len h2)) ⟨h1, h2⟩ fun H2 W2 H3 W3 s2 g => ⟨sqL_mono s2 g.1, dpAll_mono s2 g.2⟩
    | @tup a vs xs h1 h2 =>
      refine .inr (.inl ⟨a, vs, rfl, v1.sqT h1, ?_⟩)
      rw [hK]
      exact p1 _ H1 W1 _ s1 v1 (wk_tup (dpAll_len h2)) ⟨h1, h2⟩ fun H2 W2 H3 W3 s2 g => ⟨sqT_mono s2 g.1, dpAll_mono s2 g.2⟩
    | str z => exact .inr (.inr ⟨z, rfl, p1 _ H1 W1 _ s1 v1 wk_str trivial fun _ _ _ _ _ _ => trivial⟩)
    | _ => exact p1.elim
/-- ranges (kp: either way) -/
theorem okI_b {i : Int} (h : okI i = true) : -(2 ^ 62) ≤ i ∧ i < 2 ^ 62 := of_decide_eq_true h
theorem di_rng1 {kp : (Hp → Hp → Prop) → Prop} (hk : kp fun _ _ => True) {a : Expr} {p pos : Pos} {f : Fn PyData} (hg : Gl X "range") (hm : X.mg "range" = none) (ha : PE X a (tE C f)) (hs : starEach [a] X.env = [(false, eval a X.env)]) :
    PI X tg (.Call (.Name "range" p) [a] [] pos) (tI C kp fun Γ S => (f Γ S).bind fun x S1 => lift (rngD [x]) S1) :=
  PI.imp (pi_range1 hg hm (pa_cons ha pa_nil hs) hs) fun σ H R ⟨Γ, W, S, he, hw, p⟩ => tG_then he hw p (fun c d S' h => h) fun x S1 v H1 W1 s1 v1 e1 r1 p1 => by
    cases r1 <;> try exact p1.elim
    rename_i j
    simp only [rngD] at p1
    split at p1
    · rename_i h
      exact ⟨j, rfl, (okI_b h).1, (okI_b h).2, p1 _ H1 W1 _ s1 v1 wk_rng trivial hk⟩
    · exact p1.elim
theorem di_rng2 {kp : (Hp → Hp → Prop) → Prop} (hk : kp fun _ _ => True) {a b : Expr} {p pos : Pos} {f g : Fn PyData} (hg : Gl X "range") (hm : X.mg "range" = none) (ha : PE X a (tE C f)) (hb : PE X b (tE C g)) (hs : starEach [a, b] X.env = [(false, eval a X.env), (false, eval b X.env)]) (hs2 : starEach [b] X.env = [(false, eval b X.env)]) :
    PI X tg (.Call (.Name "range" p) [a, b] [] pos) (tI C kp fun Γ S => (f Γ S).bind fun x S1 => (g Γ S1).bind fun y S2 => lift (rngD [x, y]) S2) :=
  PI.imp (pi_range2 hg hm (pa_cons ha (pa_cons hb pa_nil hs2) (by rw [hs, hs2])) hs hs2) fun σ H R ⟨Γ, W, S, he, hw, p⟩ => tG_then he hw p (fun c d S' h => h) fun x S1 v H1 W1 s1 v1 e1 r1 p1 =>
    tG_then e1 v1 p1 (xq_stp (fun c d S' h => h) s1) fun y S2 u H2 W2 s2 v2 e2 r2 p2 => by
      cases r1 <;> try exact p2.elim
      cases r2 <;> try exact p2.elim
      rename_i i j
      simp only [rngD] at p2
      split at p2
      · rename_i h
        rw [Bool.and_eq_true] at h
        exact ⟨i, j, rfl, ⟨(okI_b h.1).1, (okI_b h.1).2, (okI_b h.2).1, (okI_b h.2).2⟩, p2 _ H2 W2 _ (s1.trans s2) v2 wk_rng trivial hk⟩
      · exact p2.elim
theorem di_rng3 {kp : (Hp → Hp → Prop) → Prop} (hk : kp fun _ _ => True) {a b c : Expr} {p pos : Pos} {f g h : Fn PyData} (hg : Gl X "range") (hm : X.mg "range" = none) (ha : PE X a (tE C f)) (hb : PE X b (tE C g)) (hc : PE X c (tE C h))
    (n1 : starEach [a, b, c] X.env = (false, eval a X.env) :: starEach [b, c] X.env) (n2 : starEach [b, c] X.env = (false, eval b X.env) :: starEach [c] X.env) (n3 : starEach [c] X.env = (false, eval c X.env) :: starEach [] X.env) :
    PI X tg (.Call (.Name "range" p) [a, b, c] [] pos) (tI C kp fun Γ S => (f Γ S).bind fun x S1 => (g Γ S1).bind fun y S2 => (h Γ S2).bind fun z S3 => lift (rngD [x, y, z]) S3) :=
  PI.imp (pi_range3 hg hm (pa_cons ha (pa_cons hb (pa_cons hc pa_nil n3) n2) n1) n1 (by rw [n2, n3]; rfl)) fun σ H R ⟨Γ, W, S, he, hw, p⟩ => tG_then he hw p (fun c d S' h => h) fun x S1 v H1 W1 s1 v1 e1 r1 p1 =>
    tG_then e1 v1 p1 (xq_stp (fun c d S' h => h) s1) fun y S2 u H2 W2 s2 v2 e2 r2 p2 => tG_then e2 v2 p2 (xq_stp (fun c d S' h => h) (s1.trans s2)) fun z S3 t H3 W3 s3 v3 e3 r3 p3 => by
      cases r1 <;> try exact p3.elim
      cases r2 <;> try exact p3.elim
      cases r3 <;> try exact p3.elim
      rename_i i j k
      simp only [rngD] at p3
      split at p3
      · rename_i hh
        simp only [Bool.and_eq_true, decide_eq_true_eq] at hh
        obtain ⟨⟨h1, h2⟩, rfl⟩ := hh
        exact ⟨i, j, -1, _, rfl, RgC.neg (okI_b h1).1 (okI_b h1).2 (okI_b h2).1 (okI_b h2).2, p3 _ H3 W3 _ ((s1.trans s2).trans s3) v3 wk_rngC trivial hk⟩
      · exact p3.elim
end

/-! ### comprehensions -/
theorem wipeE_len (Γ : Env) : ∀ vs : List Nat, (wipeE Γ vs).length = Γ.length
  | [] => rfl
  | v :: vs => by unfold wipeE; rw [List.length_set, wipeE_len Γ vs]
theorem wipeE_at {Γ : Env} {i : Nat} {d : PyData} : ∀ {vs : List Nat}, (wipeE Γ vs)[i]? = some (some d) → Γ[i]? = some (some d) ∧ i ∉ vs
  | [], h => ⟨h, by simp⟩
  | v :: vs, h => by
    unfold wipeE at h
    by_cases hi : v = i
    · subst hi
      by_cases hv : v < (wipeE Γ vs).length
      · rw [List.getElem?_set_self hv] at h; cases h
      · rw [List.getElem?_eq_none (by rw [List.length_set]; omega)] at h; cases h
    · rw [List.getElem?_set_ne hi] at h
      obtain ⟨h1, h2⟩ := wipeE_at h
      exact ⟨h1, by simp only [List.mem_cons, not_or]; exact ⟨fun e => hi e.symm, h2⟩⟩
theorem EnvOk.wipe {C : Cfg} {Γ : Env} {σ : L2.St} {H W : Hp} (e : EnvOk C Γ σ H W) (vs : List Nat) : EnvOk C (wipeE Γ vs) (wipe σ vs) H W where
  len := by rw [wipeE_len, wipe_length]; exact e.len
  at_ := fun i d h => by
    obtain ⟨h1, h2⟩ := wipeE_at h
    obtain ⟨v, h3, h4⟩ := e.at_ i d h1
    exact ⟨v, by rw [wipe_out h2]; exact h3, h4⟩
  sep := fun i j p d x hij h1 h2 h3 h4 h5 => by
    obtain ⟨a1, a2⟩ := wipeE_at h3
    obtain ⟨b1, b2⟩ := wipeE_at h4
    rw [wipe_out a2] at h5
    rw [wipe_out b2]
    exact e.sep i j p d x hij h1 h2 a1 b1 h5
  zd := e.zd
theorem wipe_none {σ : L2.St} {i : Nat} : ∀ {vs : List Nat}, i ∈ vs → (wipe σ vs)[i]? = if i < σ.length then some none else none
  | v :: vs, h => by
    unfold wipe
    by_cases hi : v = i
    · subst hi
      by_cases hv : v < σ.length
      · rw [if_pos hv, List.getElem?_set_self (by rw [wipe_length]; exact hv)]
      · rw [if_neg hv, List.getElem?_eq_none (by rw [List.length_set, wipe_length]; omega)]
    · rw [List.getElem?_set_ne hi]
      exact wipe_none ((List.mem_cons.mp h).resolve_left fun e => hi e.symm)
theorem wipe_same {σ τ : L2.St} {vs : List Nat} (hl : τ.length = σ.length) (h : ∀ i, i ∉ vs → τ[i]? = σ[i]?) : L2.wipe τ vs = L2.wipe σ vs := by
  refine List.ext_getElem? fun i => ?_
  by_cases hi : i ∈ vs
  · rw [wipe_none hi, wipe_none hi, hl]
  · rw [wipe_out hi, wipe_out hi]
    exact h i hi
theorem wipe_wipe (σ : L2.St) (vs : List Nat) : L2.wipe (L2.wipe σ vs) vs = L2.wipe σ vs := wipe_same (wipe_length σ vs) fun i hi => wipe_out hi
/-- the frame's judgements inside a comprehension: nothing is raised there -/
def Cfg.inner (C : Cfg) : Cfg := { C with XQ := fun _ _ _ _ _ _ => False }
theorem EnvOk.inn {C : Cfg} {Γ : Env} {σ : L2.St} {H W : Hp} (e : EnvOk C Γ σ H W) : EnvOk C.inner Γ σ H W := by
  refine ⟨e.len, fun i d h => ?_, e.sep, e.zd⟩
  obtain ⟨v, h1, h2⟩ := e.at_ i d h
  refine ⟨v, h1, ?_⟩
  have hk : C.inner.kdOf i = C.kdOf i := rfl
  rw [hk]
  cases e1 : C.kdOf i with
  | nrm => rw [e1] at h2; exact h2
  | own => rw [e1] at h2; exact h2
  | hnd => rw [e1] at h2; exact h2
  | scr => rw [e1] at h2; exact h2
  | exv => rw [e1] at h2; exact h2
theorem Vw.inn {C : Cfg} {W H : Hp} {S : Draw} (v : Vw C W H S) : Vw C.inner W H S := ⟨v.sub, v.hid, v.st, v.tab, v.nt⟩
theorem Vw.out {C : Cfg} {W H : Hp} {S : Draw} (v : Vw C.inner W H S) : Vw C W H S := ⟨v.sub, v.hid, v.st, v.tab, v.nt⟩
theorem bind_ok {α β : Type} {r : Res α} {f : α → Draw → Res β} {y : β} {S' : Draw} (h : r.bind f = .ok y S') : ∃ x S, r = .ok x S ∧ f x S = .ok y S' := by
  cases r with
  | ok x S => exact ⟨x, S, rfl, h⟩
  | exc c d S => cases h
  | bad => cases h
mutual
theorem bindT_out : ∀ {t : Tg} {d : PyData} {Γ Γ' : Env} {i : Nat}, bindT t d Γ = some Γ' → i ∉ t.slots → Γ'[i]? = Γ[i]?
  | .nm j, d, Γ, Γ', i, h, hi => by
    cases h
    refine List.getElem?_set_ne fun z => hi ?_
    simp [Tg.slots, z]
  | .tp ts, .tuple xs, Γ, Γ', i, h, hi => bindTs_out (ts := ts) h hi
  | .tp _, .none, _, _, _, h, _ => by cases h
  | .tp _, .bool _, _, _, _, h, _ => by cases h
  | .tp _, .int _, _, _, _, h, _ => by cases h
  | .tp _, .str _, _, _, _, h, _ => by cases h
  | .tp _, .list _, _, _, _, h, _ => by cases h
  | .tp _, .dict _, _, _, _, h, _ => by cases h
theorem bindTs_out : ∀ {ts : List Tg} {xs : List PyData} {Γ Γ' : Env} {i : Nat}, bindTs ts xs Γ = some Γ' → i ∉ Tg.slotsL ts → Γ'[i]? = Γ[i]?
  | [], [], Γ, Γ', i, h, hi => by cases h; rfl
  | [], _ :: _, _, _, _, h, _ => by cases h
  | _ :: _, [], _, _, _, h, _ => by cases h
  | t :: ts, x :: xs, Γ, Γ', i, h, hi => by
    unfold bindTs at h
    simp only [Tg.slotsL, List.mem_append, not_or] at hi
    split at h
    · rename_i Γ1 h1
      rw [bindTs_out h hi.2, bindT_out h1 hi.1]
    · cases h
end
/-- the names as they stand later: what is ours by the names ahead, all else by what is seen -/
theorem EnvOk.later {C C' : Cfg} {Γ Γ' : Env} {σ σ' : L2.St} {H W H1 W1 : Hp} (a : EnvOk C' Γ' σ' H W) (b : EnvOk C Γ σ H1 W1) (ek : C'.kd = C.kd) (ep : C'.pm = C.pm) (eK : C'.K = C.K) (eZ : C'.Z = C.Z)
    (own : ∀ i d, C.kdOf i = .own → Γ'[i]? = some (some d) → Γ[i]? = some (some d) ∧ σ'[i]? = σ[i]?) (sub : Sub W W1) : EnvOk C' Γ' σ' H1 W1 := by
  have hk : ∀ i, C'.kdOf i = C.kdOf i := fun i => by unfold Cfg.kdOf; rw [ek]
  refine ⟨a.len, fun i d h => ?_, a.sep, fun x hx => b.zd x (by rw [← eZ]; exact hx)⟩
  obtain ⟨v, h1, h2⟩ := a.at_ i d h
  cases e : C'.kdOf i with
  | nrm => rw [e] at h2; exact ⟨v, h1, dp_mono sub h2⟩
  | hnd => rw [e] at h2; exact ⟨v, h1, h2⟩
  | scr => rw [e] at h2; exact ⟨v, h1, h2.imp (dp_mono sub) id⟩
  | exv => rw [e] at h2; exact ⟨v, h1, h2.imp (dp_mono sub) (HldAt.mono sub)⟩
  | own =>
    rw [hk] at e
    obtain ⟨g1, g2⟩ := own i d e h
    obtain ⟨u, k1, k2⟩ := b.at_ i d g1
    rw [e] at k2
    refine ⟨u, g2.trans k1, ?_⟩
    obtain ⟨p, vs, ds, z1, z2, z3, z4, z5, z6, z7⟩ := k2
    exact ⟨p, vs, ds, z1, z2, z3, z4, by rw [ep]; exact z5, by rw [eZ]; exact z6, z7⟩
/-- the state between two turns: what was made so far (acc), what will come (rest) -/
structure Mid (C : Cfg) (H0 W0 : Hp) (D : Addr) (total : List PyData) (H : Hp) (W : Hp) (S : Draw) (acc rest : List PyData) : Prop where
  st : Stp C.pm H0 W0 H W
  vw : Vw C W H S
  d : ∃ vs, H D = some (.lst vs) ∧ DpAll K0 W vs acc
  w : W D = none
  m : ¬ Mst H C.pm D
  all : acc ++ rest = total
theorem Mid.step {C : Cfg} {H0 W0 : Hp} {D : Addr} {total : List PyData} {H W : Hp} {S : Draw} {acc rest : List PyData} (a : Mid C H0 W0 D total H W S acc rest) {H' W' : Hp} {S' : Draw}
    (s : Stp C.pm H W H' W') (v : Vw C W' H' S') : Mid C H0 W0 D total H' W' S' acc rest := by
  obtain ⟨vs, h1, h2⟩ := a.d
  obtain ⟨h3, h4⟩ := s.k D _ h1 a.m (fun ps z => by cases z)
  refine ⟨a.st.trans s, v, ⟨vs, h3, dpAll_mono s.w h2⟩, ?_, h4, a.all⟩
  cases e : W' D with
  | none => rfl
  | some o => have := s.f D o e a.w; rw [h1] at this; cases this
/-- one more is put behind -/
theorem Mid.add {C : Cfg} {H0 W0 : Hp} {D : Addr} {total : List PyData} {H W : Hp} {S : Draw} {acc rest : List PyData} {y : PyData} (a : Mid C H0 W0 D total H W S acc (y :: rest)) (hn : H0 D = none)
    (hz : total.length ≤ 16777216) {v : V} (hv : Dp K0 W v y) : ∃ vs, H D = some (.lst vs) ∧ vs.length < sizeLine ∧ Mid C H0 W0 D total (upd H D (.lst (vs ++ [v]))) W S (acc ++ [y]) rest := by
  obtain ⟨vs, h1, h2⟩ := a.d
  refine ⟨vs, h1, ?_, ?_⟩
  · have e := congrArg List.length a.all
    rw [List.length_append, List.length_cons] at e
    rw [dpAll_len h2, sizeLine_eq]
    omega
  · refine ⟨a.st.put hn a.m, a.vw.put h1 a.w a.m, ⟨_, upd_same, dpAll_append h2 (.cons hv .nil)⟩, a.w, fun m => a.m ((mst_upd fun z => a.m (.inl z.symm)).mp m), ?_⟩
    rw [← a.all]
    simp
theorem Mid.first {C : Cfg} {H W : Hp} {S : Draw} (v : Vw C W H S) {D : Addr} (hD : H D = none) (ys : List PyData) : Mid C H W D ys (upd H D (.lst [])) W S [] ys :=
  ⟨Stp.newH v hD, v.newH hD, ⟨[], upd_same, .nil⟩, v.wnone hD, fun m => v.new_ne hD ((mst_upd (v.pm_ne hD)).mp m), rfl⟩
theorem drop_at {α : Type} {xs : List α} {i : Nat} {d : α} (h : xs[i]? = some d) : xs.drop i = d :: xs.drop (i + 1) := by
  obtain ⟨hlt, hx⟩ := List.getElem?_eq_some_iff.mp h
  rw [List.drop_eq_getElem_cons hlt, hx]
section
variable {X : Cx} {C : Cfg}
/-- one turn's tests and element -/
theorem turn_go {fT : Fn Bool} {fE : Fn PyData} {Γ : Env} {σ : L2.St} {H W : Hp} {S S' : Draw} {ys : List PyData} {R : Hp → Prop} {D : Addr} (he : EnvOk C.inner Γ σ H W) (hv : Vw C W H S)
    (h : ((fT Γ S).bind fun b S1 => if b then (fE Γ S1).bind fun y S2 => .ok [y] S2 else .ok [] S1) = .ok ys S')
    (one : ∀ y v H' W', ys = [y] → Stp C.pm H W H' W' → Vw C W' H' S' → Dp K0 W' v y → ∃ acc, H' D = some (.lst acc) ∧ acc.length < sizeLine ∧ R (upd H' D (.lst (acc ++ [v]))))
    (none : ∀ H' W', ys = [] → Stp C.pm H W H' W' → Vw C W' H' S' → R H') :
    tT C.inner fT σ H fun b H3 => if b = true then tE C.inner fE σ H3 fun y H4 => ∃ acc, H4 D = some (.lst acc) ∧ acc.length < sizeLine ∧ R (upd H4 D (.lst (acc ++ [y]))) else R H3 := by
  obtain ⟨b, S1, e1, h⟩ := bind_ok h
  refine ⟨Γ, W, S, he, hv.inn, ?_⟩
  rw [e1]
  intro b' H1 W1 s1 v1 eb
  subst eb
  cases b' with
  | false =>
    rw [if_neg Bool.false_ne_true]
    cases h
    exact none H1 W1 rfl s1 v1.out
  | true =>
    rw [if_pos rfl]
    obtain ⟨y, S2, e2, h⟩ := bind_ok (show ((fE Γ S1).bind fun y S2 => Res.ok [y] S2) = .ok ys S' from h)
    cases h
    refine ⟨Γ, W1, S1, he.stp s1, v1, ?_⟩
    rw [e2]
    exact fun v H2 W2 s2 v2 d2 => one y v H2 W2 rfl (s1.trans s2) v2.out d2
theorem few_ok {r : Res (List PyData)} {P : List PyData → Draw → Prop} {E : Nat → PyData → Draw → Prop} (h : (few (noexc r)).Post P E) : ∃ ys S, r = .ok ys S ∧ ys.length ≤ 16777216 ∧ P ys S := by
  cases r with
  | ok ys S =>
    obtain ⟨h1, h2⟩ := few_of (show (if ys.length ≤ 16777216 then Res.ok ys S else .bad).Post P E from h)
    exact ⟨ys, S, rfl, h1, h2⟩
  | exc c d S => exact h.elim
  | bad => exact h.elim
/-- [elt for t in it if ..], its reading from the data -/
theorem lc_data {t : Tg} {fI : Fn (List PyData)} {fT : Fn Bool} {fE : Fn PyData} {vs : List Nat} (hsl : ∀ i ∈ t.slots, i ∈ vs) {σ : L2.St} {H : Hp} {Q : VK} (p : tF C (fun Γ S => (fI Γ S).bind fun xs S0 => few (noexc (cmpL (fun x S => match bindT t x (wipeE Γ vs) with
      | some Γ' => (fT Γ' S).bind fun b S1 => if b then (fE Γ' S1).bind fun y S2 => .ok [y] S2 else .ok [] S1
      | none => .bad) xs S0))) σ H Q) :
    tLc (tI C (KeepE C) fI) (tgD C.inner t) (tT C.inner fT) (tE C.inner fE) vs σ H Q := by
  obtain ⟨Γ, W, S, en, hw, p⟩ := p
  refine ⟨Γ, W, S, en, hw, ?_⟩
  dsimp only at p
  cases e0 : fI Γ S with
  | bad => rw [e0] at p; exact p.elim
  | exc c d S' => rw [e0] at p; exact p
  | ok xs S0 =>
    rw [e0] at p
    obtain ⟨ys, S', e1, hz, q⟩ := few_ok p
    intro J H1 W1 G s1 v1 wk g kp D hD
    have hD0 : H D = none := by
      cases e : H D with
      | none => rfl
      | some o => obtain ⟨o', e'⟩ := s1.t D o e; rw [hD] at e'; cases e'
    generalize hbody : (fun x S => match bindT t x (wipeE Γ vs) with
      | some Γ' => (fT Γ' S).bind fun b S1 => if b then (fE Γ' S1).bind fun y S2 => .ok [y] S2 else .ok [] S1
      | none => Res.bad) = body at e1
    refine ⟨fun i m Hi => m = xs.length - i ∧ i ≤ xs.length ∧ ∃ Wi Si acc rest, Mid C H1 W1 D ys Hi Wi Si acc rest ∧ cmpL body (xs.drop i) Si = .ok rest S', ⟨xs.length, by simp, Nat.zero_le _, W1, S0, [], ys, Mid.first v1 hD ys, by simpa using e1⟩, ?_⟩
    rintro i m Hi ⟨rfl, hi, Wi, Si, acc, rest, mid, eq⟩
    have gi := kp _ _ _ _ mid.st g
    by_cases hlt : i < xs.length
    · refine .inr ⟨wk.go i Hi Wi Si mid.vw gi hlt, fun H' => i + 1 ≤ xs.length ∧ ∃ Wj Sj acc' rest', Mid C H1 W1 D ys H' Wj Sj acc' rest' ∧ cmpL body (xs.drop (i + 1)) Sj = .ok rest' S', fun H' h' => ⟨xs.length - (i + 1), by omega, rfl, h'.1, h'.2⟩, fun x H' y => ?_⟩
      obtain ⟨d, W', hd, s2, v2, dx⟩ := wk.yld i Hi Wi Si x H' mid.vw gi hlt y
      rw [drop_at hd] at eq
      obtain ⟨zs, S1, eb, eq⟩ := bind_ok (show ((body d Si).bind fun ys S1 => (cmpL body (xs.drop (i + 1)) S1).bind fun zs S2 => Res.ok (ys ++ zs) S2) = .ok rest S' from eq)
      obtain ⟨rest', S2, er, eq⟩ := bind_ok eq
      cases eq
      have mid2 := mid.step s2 v2
      rw [← hbody] at eb
      dsimp only at eb
      split at eb
      · rename_i Γ' hb
        refine ⟨wipeE Γ vs, W', Si, d, Γ', ((en.stp ((s1.trans mid.st).trans s2)).wipe _).inn, v2.inn, dx, hb, fun σ2 e2 l2 k2 => ?_⟩
        refine ⟨?_, ?_⟩
        · rw [← wipe_wipe σ]
          exact wipe_same l2 fun j hj => k2 j fun hj' => hj (hsl j hj')
        · refine turn_go (D := D) e2 v2 eb (fun z v H3 W3 hz3 s3 v3 d3 => ?_) fun H3 W3 hz3 s3 v3 => ?_
          · subst hz3
            obtain ⟨vs, a1, a2, a3⟩ := Mid.add (y := z) (rest := rest') (by simpa using mid2.step s3 v3) hD hz d3
            exact ⟨vs, a1, a2, hlt, W3, S1, _, rest', a3, er⟩
          · subst hz3
            exact ⟨hlt, W3, S1, acc, rest', by simpa using mid2.step s3 v3, er⟩
      · cases eb
    · have ei : i = xs.length := by omega
      subst ei
      refine .inl ⟨wk.stop Hi Wi Si mid.vw gi, ?_⟩
      rw [List.drop_length] at eq
      cases eq
      obtain ⟨vs, h1, h2⟩ := mid.d
      have ea : acc = ys := by have := mid.all; simpa using this
      subst ea
      exact q D vs Hi Wi (s1.trans mid.st) mid.vw hD0 h1 mid.w mid.m h2
/-- .. a new hidden list -/
theorem de_compF {elt tg iter : Expr} {ifs : List Expr} {scope : Scope} {own : List (Str × Nat)} {pos : Pos} {t : Tg} {fI : Fn (List PyData)} {fT : Fn Bool} {fE : Fn PyData} (hc : X.calm = true) (nd : X.N.Nodup) (hi : PI X tg iter (tI C (KeepE C) fI)) (ok : BlkOk X.N X.env.scope scope own)
    (hg : ∀ (s : Shared) (H : Hp) (a : Addr) (cl : List (Str × Addr)) (fp : List Addr), PG (X.blk s H scope (compEnvC scope cl a X.env) fp) tg (tgD C.inner t)) (ht : ∀ (s : Shared) (H : Hp) (a : Addr) (cl : List (Str × Addr)) (fp : List Addr), PTs (X.blk s H scope (compEnvC scope cl a X.env) fp) ifs (tT C.inner fT))
    (he : ∀ (s : Shared) (H : Hp) (a : Addr) (cl : List (Str × Addr)) (fp : List Addr), PE (X.blk s H scope (compEnvC scope cl a X.env) fp) elt (tE C.inner fE)) (hs : ∀ x, foldedSetIterable iter X.env x = pure x) (hsl : ∀ i ∈ t.slots, i ∈ own.map (·.2)) :
    PE X (.ListComp elt [⟨tg, iter, ifs, 0⟩] scope pos) (tF C fun Γ S => (fI Γ S).bind fun xs S0 => few (noexc (cmpL (fun x S => match bindT t x (wipeE Γ (own.map (·.2))) with
      | some Γ' => (fT Γ' S).bind fun b S1 => if b then (fE Γ' S1).bind fun y S2 => .ok [y] S2 else .ok [] S1
      | none => .bad) xs S0))) := by
  exact PE.imp (pe_lc hc nd hi ok hg ht he hs) fun σ H Q p => lc_data hsl p
/-- [elt for t in it if .. for t2 in it2 if ..], its reading from the data -/
theorem lc2_data {t t1 : Tg} {fI fI1 : Fn (List PyData)} {fT fT1 : Fn Bool} {fE : Fn PyData} {vs vs1 : List Nat} (hsl : ∀ i ∈ t.slots, i ∈ vs) (hsl1 : ∀ i ∈ t1.slots, i ∈ vs1) (hnr : ∀ i ∈ t.slots, C.kdOf i = .nrm) {σ : L2.St} {H : Hp} {Q : VK} (p : tF C (fun Γ S => (fI Γ S).bind fun xs S0 => few (noexc (cmpL (fun x S => match bindT t x (wipeE Γ vs) with
      | some Γ' => (fT Γ' S).bind fun b S1 => if b then
          (fI1 Γ' S1).bind fun ys S2 => cmpL (fun y S => match bindT t1 y (wipeE Γ' vs1) with
            | some Γ2 => (fT1 Γ2 S).bind fun b S1 => if b then (fE Γ2 S1).bind fun z S2 => .ok [z] S2 else .ok [] S1
            | none => .bad) ys S2
        else .ok [] S1
      | none => .bad) xs S0))) σ H Q) :
    tLc2 (tI C (KeepE C) fI) (tgD C.inner t) (tT C.inner fT) (tI C.inner KeepS fI1) (tgD C.inner t1) (tT C.inner fT1) (tE C.inner fE) vs vs1 σ H Q := by
  obtain ⟨Γ, W, S, en, hw, p⟩ := p
  refine ⟨Γ, W, S, en, hw, ?_⟩
  dsimp only at p
  cases e0 : fI Γ S with
  | bad => rw [e0] at p; exact p.elim
  | exc c d S' => rw [e0] at p; exact p
  | ok xs S0 =>
    rw [e0] at p
    obtain ⟨ys, S', e1, hz, q⟩ := few_ok p
    intro J H1 W1 G s1 v1 wk g kp D hD
    have hD0 : H D = none := by
      cases e : H D with
      | none => rfl
      | some o => obtain ⟨o', e'⟩ := s1.t D o e; rw [hD] at e'; cases e'
    generalize hbody : (fun x S => match bindT t x (wipeE Γ vs) with
      | some Γ' => (fT Γ' S).bind fun b S1 => if b then
          (fI1 Γ' S1).bind fun ys S2 => cmpL (fun y S => match bindT t1 y (wipeE Γ' vs1) with
            | some Γ2 => (fT1 Γ2 S).bind fun b S1 => if b then (fE Γ2 S1).bind fun z S2 => .ok [z] S2 else .ok [] S1
            | none => .bad) ys S2
        else .ok [] S1
      | none => Res.bad) = body at e1
    refine ⟨fun i m Hi => m = xs.length - i ∧ i ≤ xs.length ∧ ∃ Wi Si acc rest, Mid C H1 W1 D ys Hi Wi Si acc rest ∧ cmpL body (xs.drop i) Si = .ok rest S', ⟨xs.length, by simp, Nat.zero_le _, W1, S0, [], ys, Mid.first v1 hD ys, by simpa using e1⟩, ?_⟩
    rintro i m Hi ⟨rfl, hi, Wi, Si, acc, rest, mid, eq⟩
    have gi := kp _ _ _ _ mid.st g
    by_cases hlt : i < xs.length
    · refine .inr ⟨wk.go i Hi Wi Si mid.vw gi hlt, fun H' => i + 1 ≤ xs.length ∧ ∃ Wj Sj acc' rest', Mid C H1 W1 D ys H' Wj Sj acc' rest' ∧ cmpL body (xs.drop (i + 1)) Sj = .ok rest' S', fun H' h' => ⟨xs.length - (i + 1), by omega, rfl, h'.1, h'.2⟩, fun x H' y => ?_⟩
      obtain ⟨d, W', hd, s2, v2, dx⟩ := wk.yld i Hi Wi Si x H' mid.vw gi hlt y
      rw [drop_at hd] at eq
      obtain ⟨zs, S1, eb, eq⟩ := bind_ok (show ((body d Si).bind fun ys S1 => (cmpL body (xs.drop (i + 1)) S1).bind fun zs S2 => Res.ok (ys ++ zs) S2) = .ok rest S' from eq)
      obtain ⟨rest', S2, er, eq⟩ := bind_ok eq
      cases eq
      have mid2 := mid.step s2 v2
      rw [← hbody] at eb
      dsimp only at eb
      split at eb
      · rename_i Γ' hb
        refine ⟨wipeE Γ vs, W', Si, d, Γ', ((en.stp ((s1.trans mid.st).trans s2)).wipe _).inn, v2.inn, dx, hb, fun σ2 e2 l2 k2 => ?_⟩
        refine ⟨?_, ?_⟩
        · rw [← wipe_wipe σ]
          exact wipe_same l2 fun j hj => k2 j fun hj' => hj (hsl j hj')
        · obtain ⟨b, T1, et, eb⟩ := bind_ok eb
          refine ⟨Γ', W', Si, e2, v2.inn, ?_⟩
          rw [et]
          intro b' H3 W3 s3 v3 eb'
          subst eb'
          have mid3 := mid2.step s3 v3.out
          cases b' with
          | false =>
            rw [if_neg Bool.false_ne_true]
            cases eb
            exact ⟨hlt, W3, _, acc, rest', by simpa using mid3, er⟩
          | true =>
            rw [if_pos rfl]
            obtain ⟨us, T2, eu, eb⟩ := bind_ok (show ((fI1 Γ' T1).bind fun ys S2 => cmpL (fun y S => match bindT t1 y (wipeE Γ' vs1) with
              | some Γ2 => (fT1 Γ2 S).bind fun b S1 => if b then (fE Γ2 S1).bind fun z S2 => .ok [z] S2 else .ok [] S1
              | none => .bad) ys S2) = .ok zs S1 from eb)
            refine ⟨Γ', W3, T1, e2.stp s3, v3, ?_⟩
            rw [eu]
            intro J1 H4 W4 G1 s4 v4 wk1 g1 kp1
            have mid4 := mid3.step s4 v4.out
            generalize hbody1 : (fun y S => match bindT t1 y (wipeE Γ' vs1) with
              | some Γ2 => (fT1 Γ2 S).bind fun b S1 => if b then (fE Γ2 S1).bind fun z S2 => .ok [z] S2 else .ok [] S1
              | none => Res.bad) = body1 at eb
            refine ⟨fun j k Hj => k = us.length - j ∧ j ≤ us.length ∧ ∃ Wj Sj acc1 rest1, Mid C H1 W1 D ys Hj Wj Sj acc1 (rest1 ++ rest') ∧ Sub W4 Wj ∧ EnvOk C.inner Γ' σ2 Hj Wj ∧ cmpL body1 (us.drop j) Sj = .ok rest1 S1, ⟨us.length, by simp, Nat.zero_le _, W4, T2, acc, zs, mid4, fun _ _ h => h, (e2.stp s3).stp s4, by simpa using eb⟩, ?_⟩
            have envAt : ∀ {Hk Wk : Hp}, Sub W4 Wk → Stp C.pm H1 W1 Hk Wk → EnvOk C.inner Γ' σ2 Hk Wk := fun {Hk Wk} sb st => by
              refine EnvOk.later ((e2.stp s3).stp s4) (en.stp (s1.trans st)) rfl rfl rfl rfl (fun l dl ho hl => ?_) sb
              have nl : l ∉ t.slots := fun z => by rw [hnr l z] at ho; cases ho
              rw [bindT_out hb nl] at hl
              obtain ⟨g1, g2⟩ := wipeE_at hl
              exact ⟨g1, (k2 l nl).trans (wipe_out g2)⟩
            rintro j k Hj ⟨rfl, hj, Wj, Sj, acc1, rest1, midj, subj, envj, eqj⟩
            have gj := kp1 _ _ Hj Wj subj g1
            by_cases hjl : j < us.length
            · refine .inr ⟨wk1.go j Hj Wj Sj midj.vw.inn gj hjl, fun H' => j + 1 ≤ us.length ∧ ∃ Wk Sk acc2 rest2, Mid C H1 W1 D ys H' Wk Sk acc2 (rest2 ++ rest') ∧ Sub W4 Wk ∧ EnvOk C.inner Γ' σ2 H' Wk ∧ cmpL body1 (us.drop (j + 1)) Sk = .ok rest2 S1, fun H' h' => ⟨us.length - (j + 1), by omega, rfl, h'.1, h'.2⟩, fun x1 H5 y1 => ?_⟩
              obtain ⟨d1, W5, hd1, s5, v5, dx1⟩ := wk1.yld j Hj Wj Sj x1 H5 midj.vw.inn gj hjl y1
              rw [drop_at hd1] at eqj
              obtain ⟨ws, T3, ew, eqj⟩ := bind_ok (show ((body1 d1 Sj).bind fun ys S1 => (cmpL body1 (us.drop (j + 1)) S1).bind fun zs S2 => Res.ok (ys ++ zs) S2) = .ok rest1 S1 from eqj)
              obtain ⟨rest2, T4, er2, eqj⟩ := bind_ok eqj
              cases eqj
              have mid5 := midj.step s5 v5.out
              rw [← hbody1] at ew
              dsimp only at ew
              split at ew
              · rename_i Γ2 hb2
                refine ⟨wipeE Γ' vs1, W5, Sj, d1, Γ2, (envj.stp s5).wipe _, v5, dx1, hb2, fun σ3 e3 l3 k3 => ?_⟩
                refine ⟨?_, ?_⟩
                · rw [← wipe_wipe σ2]
                  exact wipe_same l3 fun l hl => k3 l fun hl' => hl (hsl1 l hl')
                · refine turn_go (D := D) e3 v5.out ew (fun z v H6 W6 hz6 s6 v6 d6 => ?_) fun H6 W6 hz6 s6 v6 => ?_
                  · subst hz6
                    obtain ⟨vs, a1, a2, a3⟩ := Mid.add (y := z) (rest := rest2 ++ rest') (by simpa using mid5.step s6 v6) hD hz d6
                    have sb6 : Sub W4 W6 := fun a o h => s6.w a o (s5.w a o (subj a o h))
                    exact ⟨vs, a1, a2, hjl, W6, T3, _, rest2, a3, sb6, envAt sb6 a3.st, er2⟩
                  · subst hz6
                    exact ⟨hjl, W6, T3, acc1, rest2, by simpa using mid5.step s6 v6, fun a o h => s6.w a o (s5.w a o (subj a o h)), (envj.stp s5).stp s6, er2⟩
              · cases ew
            · have ej : j = us.length := by omega
              subst ej
              rw [List.drop_length] at eqj
              cases eqj
              exact .inl ⟨wk1.stop Hj Wj _ midj.vw.inn gj, hlt, Wj, _, acc1, rest', by simpa using midj, er⟩
      · cases eb
    · have ei : i = xs.length := by omega
      subst ei
      refine .inl ⟨wk.stop Hi Wi Si mid.vw gi, ?_⟩
      rw [List.drop_length] at eq
      cases eq
      obtain ⟨vs, h1, h2⟩ := mid.d
      have ea : acc = ys := by have := mid.all; simpa using this
      subst ea
      exact q D vs Hi Wi (s1.trans mid.st) mid.vw hD0 h1 mid.w mid.m h2
theorem de_comp2F {elt tg iter tg1 iter1 : Expr} {ifs ifs1 : List Expr} {scope : Scope} {own : List (Str × Nat)} {vs1 : List Nat} {pos : Pos} {t t1 : Tg} {fI fI1 : Fn (List PyData)} {fT fT1 : Fn Bool} {fE : Fn PyData} (hc : X.calm = true) (nd : X.N.Nodup) (hi : PI X tg iter (tI C (KeepE C) fI)) (ok : BlkOk X.N X.env.scope scope own) (hv : ∀ i ∈ vs1, i ∈ own.map (·.2))
    (hg : ∀ (s : Shared) (H : Hp) (a : Addr) (cl : List (Str × Addr)) (fp : List Addr), PG (X.blk s H scope (compEnvC scope cl a X.env) fp) tg (tgD C.inner t)) (ht : ∀ (s : Shared) (H : Hp) (a : Addr) (cl : List (Str × Addr)) (fp : List Addr), PTs (X.blk s H scope (compEnvC scope cl a X.env) fp) ifs (tT C.inner fT))
    (hi1 : ∀ (s : Shared) (H : Hp) (a : Addr) (cl : List (Str × Addr)) (fp : List Addr), PI (X.blk s H scope (compEnvC scope cl a X.env) fp) tg1 iter1 (tI C.inner KeepS fI1))
    (hg1 : ∀ (s : Shared) (H : Hp) (a : Addr) (cl : List (Str × Addr)) (fp : List Addr), PG (X.blk s H scope (compEnvC scope cl a X.env) fp) tg1 (tgD C.inner t1)) (ht1 : ∀ (s : Shared) (H : Hp) (a : Addr) (cl : List (Str × Addr)) (fp : List Addr), PTs (X.blk s H scope (compEnvC scope cl a X.env) fp) ifs1 (tT C.inner fT1))
    (he : ∀ (s : Shared) (H : Hp) (a : Addr) (cl : List (Str × Addr)) (fp : List Addr), PE (X.blk s H scope (compEnvC scope cl a X.env) fp) elt (tE C.inner fE)) (hs : ∀ x, foldedSetIterable iter X.env x = pure x) (hs1 : ∀ env x, foldedSetIterable iter1 env x = pure x) (hsl : ∀ i ∈ t.slots, i ∈ own.map (·.2)) (hsl1 : ∀ i ∈ t1.slots, i ∈ vs1) (hnr : ∀ i ∈ t.slots, C.kdOf i = .nrm) :
    PE X (.ListComp elt [⟨tg, iter, ifs, 0⟩, ⟨tg1, iter1, ifs1, 0⟩] scope pos) (tF C fun Γ S => (fI Γ S).bind fun xs S0 => few (noexc (cmpL (fun x S => match bindT t x (wipeE Γ (own.map (·.2))) with
      | some Γ' => (fT Γ' S).bind fun b S1 => if b then
          (fI1 Γ' S1).bind fun ys S2 => cmpL (fun y S => match bindT t1 y (wipeE Γ' vs1) with
            | some Γ2 => (fT1 Γ2 S).bind fun b S1 => if b then (fE Γ2 S1).bind fun z S2 => .ok [z] S2 else .ok [] S1
            | none => .bad) ys S2
        else .ok [] S1
      | none => .bad) xs S0))) := by
  exact PE.imp (pe_lc2 hc nd hi ok hv hg ht hi1 hg1 ht1 he hs hs1) fun σ H Q p => lc2_data hsl hsl1 hnr p
end
end PD
/-! P8: zip and enumerate over lists and tuples in any mix; isinstance; methods of texts; list and tuple of a range. -/
namespace PD
open PySem PySem.Spec PyProof.Rows L2

/-- a list or a tuple, by its place -/
inductive Src where
  | l (a : Addr)
  | t (a : Addr)
def Src.at : Src → Addr
  | .l a => a
  | .t a => a
def Src.sq (K : PySem.W.Frag) (H : Hp) (xs : List V) : Src → Prop
  | .l a => SqL K H a xs
  | .t a => SqT K H a xs
def Src.isIt (h : Heap) (it : Addr) (i : Nat) : Src → Prop
  | .l a => h.IsListIter it a i
  | .t a => h.IsTupleIter it a i
def Src.is (h : Heap) (its : Array Value) : Src → Prop
  | .l a => h.IsList a its
  | .t a => h.IsTuple a its
theorem Src.draws {prog : Program} {w : World} {A : Around} (hh : A.handled = none) (s : Src) (it : Addr) (ne : s.at ≠ it) (its : Array Value) :
    Draws prog w A it [it, s.at] its.size (fun i v => its[i]? = some v) (fun i h => s.isIt h it i ∧ s.is h its) := by
  cases s with
  | l a => exact Draws.list hh it a ne its
  | t a => exact Draws.tuple hh it a ne its
theorem Src.have_ {X : Cx} {pins : List (Addr × Obj)} {σ : L2.St} {H : Hp} {s : Shared} (I : Inv X pins σ H s) {r : Src} {xs : List V} (h : r.sq X.K H xs) : ∃ its : List Value, Vals xs its ∧ r.is s.heap its.toArray ∧ xs.length = its.length := by
  cases r with
  | l a =>
    obtain ⟨its, rv, p, _⟩ := I.list h
    exact ⟨its, rv, p.isList, rv.length⟩
  | t a =>
    obtain ⟨its, rv, p, _⟩ := I.tuple h
    exact ⟨its, rv, p, rv.length⟩
theorem Src.inj {X : Cx} {pins : List (Addr × Obj)} {σ : L2.St} {H : Hp} {s : Shared} (I : Inv X pins σ H s) {r : Src} {xs ys : List V} (h : r.sq X.K H xs) (h' : r.sq X.K H ys) : xs = ys := by
  cases r with
  | l a => exact I.list_inj h h'
  | t a => exact I.tuple_inj h h'
theorem Src.isIt_obj {h : Heap} {it : Addr} {i : Nat} {r : Src} (x : r.isIt h it i) : ∃ o, h.get? it = some o ∧ ∀ v, o.data ≠ .cell v := by
  cases r with
  | l a =>
    obtain ⟨o, e, c, d⟩ := x
    exact ⟨o, e, fun v z => by rw [d] at z; cases z⟩
  | t a =>
    obtain ⟨o, e, c, d⟩ := x
    exact ⟨o, e, fun v z => by rw [d] at z; cases z⟩
theorem Src.isIt_keep {h h' : Heap} {it : Addr} {i : Nat} {r : Src} (x : r.isIt h it i) (k : ∀ o, h.get? it = some o → h'.get? it = some o) : r.isIt h' it i := by
  cases r with
  | l a => exact Heap.IsListIter.at x k
  | t a => exact Heap.IsTupleIter.at x k
theorem Src.lt {h : Heap} {its : Array Value} {r : Src} (x : r.is h its) : r.at < h.objs.size := by
  cases r with
  | l a => obtain ⟨o, e, _⟩ := x; exact Heap.lt_size e
  | t a => obtain ⟨o, e, _⟩ := x; exact Heap.lt_size e

theorem Src.begins (r : Src) (its : Array Value) : ∃ o, Begins (.ref r.at) o (fun h => r.is h its) ∧ ∀ (h : Heap) (a : Addr), h.get? a = some o → r.isIt h a 0 := by
  cases r with
  | l a => exact ⟨_, begins_list a its, fun h b e => ⟨_, e, rfl, rfl⟩⟩
  | t a => exact ⟨_, begins_tuple a its, fun h b e => ⟨_, e, rfl, rfl⟩⟩

/-! ### zip -/
def ItZ (K : PySem.W.Frag) (r q : Src) : It :=
  ⟨fun i H => ∃ xs ys x y, r.sq K H xs ∧ q.sq K H ys ∧ xs[i]? = some x ∧ ys[i]? = some y,
    fun i H v H' => ∃ T x y, v = .ref T ∧ H T = none ∧ H' = upd H T (.tup [x, y]) ∧ (∀ xs, r.sq K H xs → xs[i]? = some x) ∧ ∀ ys, q.sq K H ys → ys[i]? = some y,
    fun i H => ∃ xs ys : List V, r.sq K H xs ∧ q.sq K H ys ∧ i = min xs.length ys.length⟩
theorem five {c z TI TO i1 i2 : Addr} (h : c ∈ [z, TI, TO, i1, i2]) : c = z ∨ c = TI ∨ c = TO ∨ c = i1 ∨ c = i2 := by simpa using h
theorem turn_zipS {P : Program} {w : World} {K : PySem.W.Frag} {elts : List Expr} {kk : Nat} {tpos : Pos} {r q : Src} {z TI TO i1 i2 : Addr} (sep : ZipSep2 z TI TO i1 i2 [i1, r.at] [i2, q.at]) (n1 : r.at ≠ i1) (n2 : q.at ≠ i2) :
    Turn P w K (.Tuple elts kk tpos) (ItZ K r q) [z, TI, TO, i1, i2] z (fun i h => IsZip h z TI TO .none ∧ IsTupOf2 h TI (.ref i1) (.ref i2) ∧ (∃ a1 a2, IsTupOf2 h TO a1 a2) ∧ r.isIt h i1 i ∧ q.isIt h i2 i) where
  mem := by simp
  obj := fun i h st b hb => by
    obtain ⟨h1, h2, ⟨a1, a2, h3⟩, h4, h5⟩ := st
    rcases five hb with e | e | e | e | e
    · rw [e]; exact ⟨_, h1, fun v z => nomatch z⟩
    · rw [e]; exact ⟨_, h2, fun v z => nomatch z⟩
    · rw [e]; exact ⟨_, h3, fun v z => nomatch z⟩
    · rw [e]; exact Src.isIt_obj h4
    · rw [e]; exact Src.isIt_obj h5
  keep := fun i h h' st k => by
    obtain ⟨h1, h2, ⟨a1, a2, h3⟩, h4, h5⟩ := st
    exact ⟨k z (by simp) _ h1, k TI (by simp) _ h2, ⟨a1, a2, k TO (by simp) _ h3⟩, Src.isIt_keep h4 (k i1 (by simp)), Src.isIt_keep h5 (k i2 (by simp))⟩
  item := by
    intro X hP hw hK hc i pins s σ H E I hf st hg
    subst hP hw hK
    obtain ⟨xs, ys, x, y, sx, sy, hx, hy⟩ := hg
    obtain ⟨its, rv, is1, l1⟩ := Src.have_ I sx
    obtain ⟨its2, rv2, is2, l2⟩ := Src.have_ I sy
    obtain ⟨u, hu, ru⟩ := rv.get hx
    obtain ⟨u2, hu2, ru2⟩ := rv2.get hy
    obtain ⟨z1, z2, z3, z4, z5⟩ := st
    have hh : X.A.in1.handled = none := I.ok.hd hc
    have G := GoesN.zip2 (elts := elts) (x1 := kk) (pos := tpos) (A := X.A) sep (Src.draws (prog := X.prog) (w := X.w) hh r i1 n1 its.toArray) (Src.draws hh q i2 n2 its2.toArray)
    have hi1 : i < its.length := by rw [← l1]; exact (List.getElem?_eq_some_iff.mp hx).1
    have hi2 : i < its2.length := by rw [← l2]; exact (List.getElem?_eq_some_iff.mp hy).1
    refine G.goes i s (fun v s2 => ∃ x H', Inv X pins σ H' s2 ∧ RelV x v ∧ (ItZ X.K r q).yld i H x H' ∧ _ ∧ ∀ b ∈ [z, TI, TO, i1, i2], H' b = none) E (by simp; omega) ⟨z1, z2, z3, ⟨z4, is1⟩, z5, is2⟩ fun v h' tk Y st' hk _ => ?_
    obtain ⟨T, a, b, rfl, hT, ha, hb, tup⟩ := Y
    obtain rfl : u = a := by
      have : its[i]? = some a := by simpa using ha
      rw [hu] at this; exact Option.some.inj this
    obtain rfl : u2 = b := by
      have : its2[i]? = some b := by simpa using hb
      rw [hu2] at this; exact Option.some.inj this
    have nH : H T = none := I.hok.fresh hT
    have new : ObjOk X.prog X.w (upd H T (.tup [x, y])) h' T (.tup [x, y]) := ⟨by show 2 ≤ sizeLine; decide, [u, u2], .cons ru (.cons ru2 .nil), tup⟩
    have I1 : Inv X pins σ (upd H T (.tup [x, y])) { s with heap := h', toks := tk } :=
      I.turnedNew (t' := tk) (ch := [z, TI, TO, i1, i2]) (fun c o hb' e => hk c o (fun hm => hb' (by simp only [List.mem_cons, List.not_mem_nil, or_false] at hm ⊢; rcases hm with e | e | e | e <;> simp [e])) e) hf hT new
    refine ⟨.ref T, _, I1, rfl, ⟨T, x, y, rfl, nH, rfl, fun zs hz => by rw [Src.inj I hz sx]; exact hx, fun zs hz => by rw [Src.inj I hz sy]; exact hy⟩, ⟨st'.1, st'.2.1, st'.2.2.1, st'.2.2.2.1.1, st'.2.2.2.2.1⟩, fun c hcm => ?_⟩
    rw [upd_ne fun e => ?_]
    · exact (hf c hcm).1
    · have hlt : c < s.heap.objs.size := by
        rcases five hcm with e | e | e | e | e
        · rw [e]; exact Heap.lt_size z1
        · rw [e]; exact Heap.lt_size z2
        · obtain ⟨_, _, z3⟩ := z3; rw [e]; exact Heap.lt_size z3
        · obtain ⟨_, e1, _⟩ := Src.isIt_obj z4; rw [e]; exact Heap.lt_size e1
        · obtain ⟨_, e1, _⟩ := Src.isIt_obj z5; rw [e]; exact Heap.lt_size e1
      rw [e] at hlt
      exact absurd (Nat.lt_of_lt_of_le hlt hT) (Nat.lt_irrefl _)
  done := by
    intro X hP hw hK hc i pins s σ H E I hf st hg
    subst hP hw hK
    obtain ⟨xs, ys, sx, sy, hend⟩ := hg
    obtain ⟨its, rv, is1, l1⟩ := Src.have_ I sx
    obtain ⟨its2, rv2, is2, l2⟩ := Src.have_ I sy
    obtain ⟨z1, z2, z3, z4, z5⟩ := st
    have hh : X.A.in1.handled = none := I.ok.hd hc
    have G := GoesN.zip2 (elts := elts) (x1 := kk) (pos := tpos) (A := X.A) sep (Src.draws (prog := X.prog) (w := X.w) hh r i1 n1 its.toArray) (Src.draws hh q i2 n2 its2.toArray)
    have en : min its.toArray.size its2.toArray.size = i := by simp; omega
    rw [en] at G
    refine G.stops s _ E ⟨z1, z2, z3, ⟨z4, is1⟩, z5, is2⟩ fun h' tk hk _ => ?_
    exact I.turnedL (t' := tk) (ch := [z, TI, TO, i1, i2]) (fun c o hb' e => hk c o (fun hm => hb' (by simp only [List.mem_cons, List.not_mem_nil, or_false] at hm ⊢; rcases hm with e | e | e | e <;> simp [e])) e) hf
  self := fun A i s Q E st h => wpAny_pyIter_zip st.1 h
def iZipS (K : PySem.W.Frag) (ta : TA) : TI := fun σ H R => ta σ H fun vs H1 => ∃ (r q : Src) (xs ys : List V), vs = [.ref r.at, .ref q.at] ∧ r.sq K H1 xs ∧ q.sq K H1 ys ∧ R (ItZ K r q) H1
theorem pi_zipS {X : Cx} {e e2 : Expr} {ta : TA} {p pos tpos : Pos} {elts : List Expr} {kk : Nat} (hg : Gl X "zip") (hm : X.mg "zip" = none) (ha : PA X [e, e2] ta)
    (hs : starEach [e, e2] X.env = (false, eval e X.env) :: starEach [e2] X.env) (hpl : (backTo pos (starEach [e2] X.env)).any (·.1) = false) : PI X (.Tuple elts kk tpos) (.Call (.Name "zip" p) [e, e2] [] pos) (iZipS X.K ta) := by
  refine ⟨fun pins s σ H R I h => Call_ (ld_blt I hg hm PyProof.Rows.boot_zip (PyProof.Rows.callWith_type1 (thn (ha.run pos pins s σ H _ I h) fun us s1 ⟨vs, H1, I1, rv, k⟩ => ?_) hs hpl))⟩
  obtain ⟨r, q, xs, ys, rfl, sx, sy, k⟩ := k
  obtain ⟨u1, u2, rfl, r1, r2⟩ := Vals.two rv
  cases r1
  cases r2
  obtain ⟨its, _, is1, _⟩ := Src.have_ I1 sx
  obtain ⟨its2, _, is2, _⟩ := Src.have_ I1 sy
  obtain ⟨o1, b1, k1⟩ := r.begins its.toArray
  obtain ⟨o2, b2, k2⟩ := q.begins its2.toArray
  refine zip_begins2 b1 b2 is1 is2 fun h' hz hTI hTO e1 e2 hsz hk => wpAny_pyIter_zip hz ?_
  have m1 : r.at < s1.heap.objs.size := Src.lt is1
  have m2 : q.at < s1.heap.objs.size := Src.lt is2
  have sep := zip_sep2 (N := s1.heap.objs.size) (fp1 := [r.at]) (fp2 := [q.at]) (fun b hb => by rw [List.mem_singleton] at hb; rw [hb]; exact m1) (fun b hb => by rw [List.mem_singleton] at hb; rw [hb]; exact m2)
  refine ⟨_, [s1.heap.objs.size + 4, s1.heap.objs.size + 2, s1.heap.objs.size + 3, s1.heap.objs.size, s1.heap.objs.size + 1], _, _, H1, rfl, I1.kept (t' := s1.toks) hk, turn_zipS sep (Nat.ne_of_lt m1) (Nat.ne_of_lt (Nat.lt_of_lt_of_le m2 (Nat.le_succ _))), ⟨hz, hTI, ⟨_, _, hTO⟩, k1 _ _ e1, k2 _ _ e2⟩, fun c hcm => ?_, k⟩
  have hle : s1.heap.objs.size ≤ c := by
    rcases five hcm with z | z | z | z | z <;> rw [z] <;> first | exact Nat.le_add_right _ _ | exact Nat.le_refl _
  exact I1.fpOk hle (I1.hok.fresh hle)

/-! ### enumerate -/
set_option maxHeartbeats 1000000 in
theorem meets_enum1 {v : Value} {o : Obj} {H : Heap → Prop} (B : Begins v o H) : Meets (Builtin.«enumerate.__new__» ⟨[.type "enumerate", v], []⟩) (fun _ R s => H s.heap ∧
      R (.ok (.ret (.ref (s.heap.push o).objs.size))) { s with heap := (s.heap.push o).push { cls := .type "enumerate", data := .fields #[.none, .bool false, .ref s.heap.objs.size, rawInt 0, .none, .none] } }) :=
  .of_wp fun prog w A R s hs => by
    obtain ⟨hp, g, d, tk, os⟩ := s
    obtain ⟨hb, hr⟩ := hs
    have hsub := sub_enumerate
    have first : ∀ {A' : Around} {E' : Value → Shared → Prop} {Q' : Value → Shared → Prop}, Q' (.ref hp.objs.size) ⟨hp.push o, g, d, tk, os⟩ → wpAny (model prog w) A' (pyIter v) Q' E' ⟨hp, g, d, tk, os⟩ := fun k => B.iter prog w _ _ ⟨hp, g, d, tk, os⟩ _ hb k
    wp_walk using first
    refine wpAny_stack_any fun stk => wpAny_pure ?_
    split
    · rename_i cc _ _ _ _ _
      cases (cc == Value.type "enumerate") <;> (wp_walk using first; exact ⟨_, rfl, hr⟩)
    · wp_walk using first
      exact ⟨_, rfl, hr⟩
theorem enum_begins1 {prog : Program} {w : World} {A : Around} {E : Value → Shared → Prop} {s : Shared} {v : Value} {o : Obj} {H : Heap → Prop} {Q : Value → Shared → Prop} (B : Begins v o H) (hb : H s.heap)
    (k : ∀ h', IsEnum h' (s.heap.objs.size + 1) s.heap.objs.size 0 .none → h'.get? s.heap.objs.size = some o → (∀ b o, s.heap.get? b = some o → h'.get? b = some o) → Q (.ref (s.heap.objs.size + 1)) { s with heap := h' }) :
    wpAny (model prog w) A (call (.type "enumerate") [v]) Q E s := by
  refine callType_new F.called_enumerate (by decide) (F.typeCall_enumerate_1 _) (F.newCall_enumerate_1 _) (fun obj => F.args_object_init_2 obj _) F.entry_enumerate_new (meets_enum1 B) ⟨hb, ?_⟩
  have size1 : (s.heap.push o).objs.size = s.heap.objs.size + 1 := Heap.size_push ..
  have here := Heap.get?_push_size (s.heap.push o) (o := { cls := .type "enumerate", data := .fields #[.none, .bool false, .ref s.heap.objs.size, rawInt 0, .none, .none] }) rfl
  show _ ∧ _
  rw [size1] at here ⊢
  exact ⟨⟨_, here, rfl⟩, k _ here (Heap.get?_push_of_some _ (Heap.get?_push_size _ B.free)) fun b u x => Heap.get?_push_of_some _ (Heap.get?_push_of_some _ x)⟩
def ItE (K : PySem.W.Frag) (r : Src) : It :=
  ⟨fun i H => ∃ xs x, r.sq K H xs ∧ xs[i]? = some x,
    fun i H v H' => ∃ T x, v = .ref T ∧ H T = none ∧ H' = upd H T (.tup [.int (i : Nat), x]) ∧ ∀ xs, r.sq K H xs → xs[i]? = some x,
    fun i H => ∃ xs : List V, r.sq K H xs ∧ i = xs.length⟩
theorem turn_enumS {P : Program} {w : World} {K : PySem.W.Frag} {elts : List Expr} {kk : Nat} {tpos : Pos} {r : Src} {e it : Addr} (ne : e ≠ it) (na : r.at ≠ it) (nb : e ≠ r.at) :
    Turn P w K (.Tuple elts kk tpos) (ItE K r) [e, it] e (fun i h => (∃ old, IsEnum h e it (0 + (i : Int)) old) ∧ r.isIt h it i) where
  mem := by simp
  obj := fun i h st b hb => by
    obtain ⟨⟨old, h1⟩, h2⟩ := st
    rcases (by simpa using hb : b = e ∨ b = it) with z | z
    · rw [z]; exact ⟨_, h1, fun v z => nomatch z⟩
    · rw [z]; exact Src.isIt_obj h2
  keep := fun i h h' st k => by
    obtain ⟨⟨old, h1⟩, h2⟩ := st
    exact ⟨⟨old, k e (by simp) _ h1⟩, Src.isIt_keep h2 (k it (by simp))⟩
  item := by
    intro X hP hw hK hc i pins s σ H E I hf st hg
    subst hP hw hK
    obtain ⟨xs, x, sx, hx⟩ := hg
    obtain ⟨its, rv, is1, l1⟩ := Src.have_ I sx
    obtain ⟨u, hu, ru⟩ := rv.get hx
    obtain ⟨⟨old, z1⟩, z2⟩ := st
    have hh : X.A.in1.handled = none := I.ok.hd hc
    have G := GoesN.enumFrom (elts := elts) (x1 := kk) (pos := tpos) (A := X.A) 0 (Src.draws (prog := X.prog) (w := X.w) hh r it na its.toArray) e ne (by simp [ne, nb]) (by simp)
    have hi1 : i < its.length := by rw [← l1]; exact (List.getElem?_eq_some_iff.mp hx).1
    refine G.goes i s (fun v s2 => ∃ x H', Inv X pins σ H' s2 ∧ RelV x v ∧ (ItE X.K r).yld i H x H' ∧ _ ∧ ∀ b ∈ [e, it], H' b = none) E (by simpa using hi1) ⟨⟨old, z1⟩, z2, is1⟩ fun v h' tk Y st' hk _ => ?_
    obtain ⟨T, t, a, rfl, hT, ha, tup⟩ := Y
    obtain rfl : u = a := by
      have : its[i]? = some a := by simpa using ha
      rw [hu] at this; exact Option.some.inj this
    have nH : H T = none := I.hok.fresh hT
    have new : ObjOk X.prog X.w (upd H T (.tup [.int (i : Nat), x])) h' T (.tup [.int (i : Nat), x]) := ⟨by show 2 ≤ sizeLine; decide, [.int (0 + (i : Int)) t, u], .cons ⟨t, by rw [Int.zero_add]⟩ (.cons ru .nil), tup⟩
    have I1 : Inv X pins σ (upd H T (.tup [.int (i : Nat), x])) { s with heap := h', toks := tk } := I.turnedNew (t' := tk) (ch := [e, it]) (fun c o hb' q => hk c o hb' q) hf hT new
    refine ⟨.ref T, _, I1, rfl, ⟨T, x, rfl, nH, rfl, fun zs hz => by rw [Src.inj I hz sx]; exact hx⟩, ⟨st'.1, st'.2.1⟩, fun c hcm => ?_⟩
    rw [upd_ne fun q => ?_]
    · exact (hf c hcm).1
    · have hlt : c < s.heap.objs.size := by
        rcases (by simpa using hcm : c = e ∨ c = it) with z | z
        · rw [z]; exact Heap.lt_size z1
        · obtain ⟨_, e1, _⟩ := Src.isIt_obj z2; rw [z]; exact Heap.lt_size e1
      rw [q] at hlt
      exact absurd (Nat.lt_of_lt_of_le hlt hT) (Nat.lt_irrefl _)
  done := by
    intro X hP hw hK hc i pins s σ H E I hf st hg
    subst hP hw hK
    obtain ⟨xs, sx, hend⟩ := hg
    obtain ⟨its, rv, is1, l1⟩ := Src.have_ I sx
    obtain ⟨⟨old, z1⟩, z2⟩ := st
    have hh : X.A.in1.handled = none := I.ok.hd hc
    have G := GoesN.enumFrom (elts := elts) (x1 := kk) (pos := tpos) (A := X.A) 0 (Src.draws (prog := X.prog) (w := X.w) hh r it na its.toArray) e ne (by simp [ne, nb]) (by simp)
    have en : its.toArray.size = i := by simp; omega
    rw [en] at G
    refine G.stops s _ E ⟨⟨old, z1⟩, z2, is1⟩ fun h' tk hk _ => ?_
    exact I.turnedL (t' := tk) (ch := [e, it]) (fun c o hb' q => hk c o hb' q) hf
  self := fun A i s Q E st h => let ⟨⟨_, he⟩, _⟩ := st; wpAny_pyIter_enum he h
def iEnumS (K : PySem.W.Frag) (ta : TA) : TI := fun σ H R => ta σ H fun vs H1 => ∃ (r : Src) (xs : List V), vs = [.ref r.at] ∧ r.sq K H1 xs ∧ R (ItE K r) H1
theorem pi_enumS {X : Cx} {e : Expr} {ta : TA} {p pos tpos : Pos} {elts : List Expr} {kk : Nat} (hg : Gl X "enumerate") (hm : X.mg "enumerate" = none) (ha : PA X [e] ta) (hs : starEach [e] X.env = [(false, eval e X.env)]) :
    PI X (.Tuple elts kk tpos) (.Call (.Name "enumerate" p) [e] [] pos) (iEnumS X.K ta) := by
  refine ⟨fun pins s σ H R I h => Call_ (ld_blt I hg hm boot_enumerate (PyProof.Rows.callWith_type1 (thn (ha.run pos pins s σ H _ I h) fun us s1 ⟨vs, H1, I1, rv, k⟩ => ?_) hs rfl))⟩
  obtain ⟨r, xs, rfl, sx, k⟩ := k
  obtain ⟨u1, rfl, r1⟩ := Vals.one rv
  cases r1
  obtain ⟨its, _, is1, _⟩ := Src.have_ I1 sx
  obtain ⟨o1, b1, k1⟩ := r.begins its.toArray
  refine enum_begins1 b1 is1 fun h' he e1 hk => wpAny_pyIter_enum he ?_
  have m1 : r.at < s1.heap.objs.size := Src.lt is1
  refine ⟨_, [s1.heap.objs.size + 1, s1.heap.objs.size], _, _, H1, rfl, I1.kept (t' := s1.toks) hk, turn_enumS (Nat.succ_ne_self _) (Nat.ne_of_lt m1) (Nat.ne_of_gt (Nat.lt_of_lt_of_le m1 (Nat.le_succ _))), ⟨⟨.none, he⟩, k1 _ _ e1⟩, fun c hcm => ?_, k⟩
  have hle : s1.heap.objs.size ≤ c := by
    rcases (by simpa using hcm : c = s1.heap.objs.size + 1 ∨ c = s1.heap.objs.size) with z | z <;> rw [z] <;> first | exact Nat.le_add_right _ _ | exact Nat.le_refl _
  exact I1.fpOk hle (I1.hok.fresh hle)

/-! ### over plain data -/
/-- a thing that zip, enumerate take: read, seen -/
def Src.rd (C : Cfg) (H W : Hp) (vs : List V) : Src → Prop
  | .l a => Rdl C H W a vs
  | .t a => SqT K0 W a vs
def Src.se (W : Hp) (vs : List V) : Src → Prop
  | .l a => SqL K0 W a vs
  | .t a => SqT K0 W a vs
section
variable {X : Cx} {C : Cfg}
theorem Src.rd_sq {H W : Hp} {S : Draw} {vs : List V} {r : Src} (h : r.rd C H W vs) (v : Vw C W H S) : r.sq C.K H vs := by
  cases r with
  | l a => exact Rdl.sq h v
  | t a => exact v.sqT h
theorem Src.rd_stp {H W H' W' : Hp} {vs : List V} {r : Src} (h : r.rd C H W vs) (s : Stp C.pm H W H' W') : r.rd C H' W' vs := by
  cases r with
  | l a => exact Rdl.stp h s
  | t a => exact sqT_mono s.w h
theorem Src.se_rd {H W : Hp} {vs : List V} {r : Src} (h : r.se W vs) : r.rd C H W vs := by
  cases r with
  | l a => exact .see h
  | t a => exact h
theorem Src.se_mono {W W' : Hp} {vs : List V} {r : Src} (h : r.se W vs) (s : Sub W W') : r.se W' vs := by
  cases r with
  | l a => exact sqL_mono s h
  | t a => exact sqT_mono s h
theorem src_rd {H W : Hp} {v : V} {d : PyData} {xs : List PyData} (h : Rdt C H W v d) (e : seqOf d = some xs) : ∃ (r : Src) (vs : List V), v = .ref r.at ∧ r.rd C H W vs ∧ DpAll K0 W vs xs := by
  cases d <;> cases e
  · obtain ⟨a, vs, rfl, h1, h2⟩ := h.list
    exact ⟨.l a, vs, rfl, h1, h2⟩
  · obtain ⟨a, vs, rfl, h1, h2⟩ := h.tuple
    exact ⟨.t a, vs, rfl, h1, h2⟩
theorem src_se {W : Hp} {v : V} {d : PyData} {xs : List PyData} (h : Dp K0 W v d) (e : seqOf d = some xs) : ∃ (r : Src) (vs : List V), v = .ref r.at ∧ r.se W vs ∧ DpAll K0 W vs xs := by
  cases h <;> cases e
  · rename_i a vs h1 h2
    exact ⟨.l a, vs, rfl, h1, h2⟩
  · rename_i a vs h1 h2
    exact ⟨.t a, vs, rfl, h1, h2⟩
theorem wk_zip {r q : Src} {vs us : List V} {xs ys : List PyData} {G : Hp → Hp → Prop} (h : ∀ H W, G H W → r.rd C H W vs ∧ DpAll K0 W vs xs ∧ q.rd C H W us ∧ DpAll K0 W us ys) (l1 : vs.length = xs.length) (l2 : us.length = ys.length) :
    Wk C (ItZ C.K r q) (List.zipWith (fun a b => .tuple [a, b]) xs ys) G where
  go := fun i H W S hv g hi => by
    obtain ⟨a1, a2, a3, a4⟩ := h H W g
    rw [List.length_zipWith] at hi
    exact ⟨vs, us, vs[i]'(by omega), us[i]'(by omega), Src.rd_sq a1 hv, Src.rd_sq a3 hv, by simp, by simp⟩
  stop := fun H W S hv g => by
    obtain ⟨a1, a2, a3, a4⟩ := h H W g
    exact ⟨vs, us, Src.rd_sq a1 hv, Src.rd_sq a3 hv, by rw [List.length_zipWith]; omega⟩
  yld := fun i H W S x H' hv g hi y => by
    obtain ⟨a1, a2, a3, a4⟩ := h H W g
    obtain ⟨T, u, u', rfl, hT, rfl, y1, y2⟩ := y
    obtain ⟨d, e1, d1⟩ := dpAll_getV a2 (y1 vs (Src.rd_sq a1 hv))
    obtain ⟨d', e2, d2⟩ := dpAll_getV a4 (y2 us (Src.rd_sq a3 hv))
    refine ⟨.tuple [d, d'], upd W T (.tup [u, u']), by rw [List.getElem?_zipWith, e1, e2], Stp.new hv hT, hv.new hT, .tup (.of upd_same) (dpAll_mono (Stp.new (C := C) hv hT).w (.cons d1 (.cons d2 .nil)))⟩
theorem wk_enum {r : Src} {vs : List V} {xs : List PyData} {G : Hp → Hp → Prop} (h : ∀ H W, G H W → r.rd C H W vs ∧ DpAll K0 W vs xs) (l1 : vs.length = xs.length) :
    Wk C (ItE C.K r) (xs.zipIdx.map fun p => .tuple [.int p.2, p.1]) G where
  go := fun i H W S hv g hi => by
    obtain ⟨a1, a2⟩ := h H W g
    rw [List.length_map, List.length_zipIdx] at hi
    exact ⟨vs, vs[i]'(by omega), Src.rd_sq a1 hv, by simp⟩
  stop := fun H W S hv g => by
    obtain ⟨a1, a2⟩ := h H W g
    exact ⟨vs, Src.rd_sq a1 hv, by rw [List.length_map, List.length_zipIdx]; omega⟩
  yld := fun i H W S x H' hv g hi y => by
    obtain ⟨a1, a2⟩ := h H W g
    obtain ⟨T, u, rfl, hT, rfl, y1⟩ := y
    obtain ⟨d, e1, d1⟩ := dpAll_getV a2 (y1 vs (Src.rd_sq a1 hv))
    refine ⟨.tuple [.int (i : Nat), d], upd W T (.tup [.int (i : Nat), u]), by rw [List.getElem?_map, List.getElem?_zipIdx, e1]; simp, Stp.new hv hT, hv.new hT, .tup (.of upd_same) (dpAll_mono (Stp.new (C := C) hv hT).w (.cons (.int _) (.cons d1 .nil)))⟩
variable {elts : List Expr} {kk : Nat} {tpos p pos : Pos}
theorem zipD_some {x y : PyData} {zs : List PyData} (h : zipD x y = some zs) : ∃ xs ys, seqOf x = some xs ∧ seqOf y = some ys ∧ zs = List.zipWith (fun a b => .tuple [a, b]) xs ys := by
  unfold zipD at h
  split at h
  · rename_i xs ys h1 h2
    cases h
    exact ⟨xs, ys, h1, h2, rfl⟩
  · cases h
theorem di_zip {a b : Expr} {f g : Fn PyData} (hK : X.K = C.K) (hg : Gl X "zip") (hm : X.mg "zip" = none) (ha : PE X a (tR C f)) (hb : PE X b (tR C g)) (hs : starEach [a, b] X.env = (false, eval a X.env) :: starEach [b] X.env) (hs2 : starEach [b] X.env = (false, eval b X.env) :: starEach [] X.env) :
    PI X (.Tuple elts kk tpos) (.Call (.Name "zip" p) [a, b] [] pos) (tI C (KeepE C) fun Γ S => (f Γ S).bind fun x S1 => (g Γ S1).bind fun y S2 => lift (zipD x y) S2) :=
  PI.imp (pi_zipS hg hm (pa_cons ha (pa_cons hb pa_nil hs2) hs) hs (by rw [hs2]; rfl)) fun σ H R ⟨Γ, W, S, he, hw, p⟩ => tG_then he hw p (fun c d S' h => h) fun x S1 v H1 W1 s1 v1 e1 r1 p1 =>
    tG_then e1 v1 p1 (xq_stp (fun c d S' h => h) s1) fun y S2 u H2 W2 s2 v2 e2 r2 p2 => by
      cases e : zipD x y with
      | none => rw [e] at p2; exact p2.elim
      | some zs =>
        rw [e] at p2
        obtain ⟨xs, ys, q1, q2, rfl⟩ := zipD_some e
        obtain ⟨r, vs, rfl, h1, h2⟩ := src_rd (r1.stp s2) q1
        obtain ⟨q, us, rfl, h3, h4⟩ := src_rd r2 q2
        refine ⟨r, q, vs, us, rfl, by rw [hK]; exact Src.rd_sq h1 v2, by rw [hK]; exact Src.rd_sq h3 v2, ?_⟩
        rw [hK]
        exact p2 _ H2 W2 (fun H W => r.rd C H W vs ∧ DpAll K0 W vs xs ∧ q.rd C H W us ∧ DpAll K0 W us ys) (s1.trans s2) v2 (wk_zip (fun _ _ g => g) (dpAll_len h2) (dpAll_len h4)) ⟨h1, h2, h3, h4⟩
          fun _ _ _ _ st g => ⟨Src.rd_stp g.1 st, dpAll_mono st.w g.2.1, Src.rd_stp g.2.2.1 st, dpAll_mono st.w g.2.2.2⟩
theorem di_zipS {a b : Expr} {f g : Fn PyData} (hK : X.K = C.K) (hg : Gl X "zip") (hm : X.mg "zip" = none) (ha : PE X a (tE C f)) (hb : PE X b (tE C g)) (hs : starEach [a, b] X.env = (false, eval a X.env) :: starEach [b] X.env) (hs2 : starEach [b] X.env = (false, eval b X.env) :: starEach [] X.env) :
    PI X (.Tuple elts kk tpos) (.Call (.Name "zip" p) [a, b] [] pos) (tI C KeepS fun Γ S => (f Γ S).bind fun x S1 => (g Γ S1).bind fun y S2 => lift (zipD x y) S2) :=
  PI.imp (pi_zipS hg hm (pa_cons ha (pa_cons hb pa_nil hs2) hs) hs (by rw [hs2]; rfl)) fun σ H R ⟨Γ, W, S, he, hw, p⟩ => tG_then he hw p (fun c d S' h => h) fun x S1 v H1 W1 s1 v1 e1 r1 p1 =>
    tG_then e1 v1 p1 (xq_stp (fun c d S' h => h) s1) fun y S2 u H2 W2 s2 v2 e2 r2 p2 => by
      cases e : zipD x y with
      | none => rw [e] at p2; exact p2.elim
      | some zs =>
        rw [e] at p2
        obtain ⟨xs, ys, q1, q2, rfl⟩ := zipD_some e
        obtain ⟨r, vs, rfl, h1, h2⟩ := src_se (dp_mono s2.w r1) q1
        obtain ⟨q, us, rfl, h3, h4⟩ := src_se r2 q2
        refine ⟨r, q, vs, us, rfl, by rw [hK]; exact Src.rd_sq (Src.se_rd h1) v2, by rw [hK]; exact Src.rd_sq (Src.se_rd h3) v2, ?_⟩
        rw [hK]
        exact p2 _ H2 W2 (fun H W => r.se W vs ∧ DpAll K0 W vs xs ∧ q.se W us ∧ DpAll K0 W us ys) (s1.trans s2) v2 (wk_zip (fun _ _ g => ⟨Src.se_rd g.1, g.2.1, Src.se_rd g.2.2.1, g.2.2.2⟩) (dpAll_len h2) (dpAll_len h4)) ⟨h1, h2, h3, h4⟩
          fun _ _ _ _ st g => ⟨Src.se_mono g.1 st, dpAll_mono st g.2.1, Src.se_mono g.2.2.1 st, dpAll_mono st g.2.2.2⟩
theorem enmD_some {x : PyData} {zs : List PyData} (h : enmD x = some zs) : ∃ xs, seqOf x = some xs ∧ zs = xs.zipIdx.map fun p => .tuple [.int p.2, p.1] := by
  unfold enmD at h
  rw [Option.map_eq_some_iff] at h
  obtain ⟨xs, h1, rfl⟩ := h
  exact ⟨xs, h1, rfl⟩
theorem di_enm {a : Expr} {f : Fn PyData} (hK : X.K = C.K) (hg : Gl X "enumerate") (hm : X.mg "enumerate" = none) (ha : PE X a (tR C f)) (hs : starEach [a] X.env = [(false, eval a X.env)]) :
    PI X (.Tuple elts kk tpos) (.Call (.Name "enumerate" p) [a] [] pos) (tI C (KeepE C) fun Γ S => (f Γ S).bind fun x S1 => lift (enmD x) S1) :=
  PI.imp (pi_enumS hg hm (pa_cons ha pa_nil hs) hs) fun σ H R ⟨Γ, W, S, he, hw, p⟩ => tG_then he hw p (fun c d S' h => h) fun x S1 v H1 W1 s1 v1 e1 r1 p1 => by
    cases e : enmD x with
    | none => rw [e] at p1; exact p1.elim
    | some zs =>
      rw [e] at p1
      obtain ⟨xs, q1, rfl⟩ := enmD_some e
      obtain ⟨r, vs, rfl, h1, h2⟩ := src_rd r1 q1
      refine ⟨r, vs, rfl, by rw [hK]; exact Src.rd_sq h1 v1, ?_⟩
      rw [hK]
      exact p1 _ H1 W1 (fun H W => r.rd C H W vs ∧ DpAll K0 W vs xs) s1 v1 (wk_enum (fun _ _ g => g) (dpAll_len h2)) ⟨h1, h2⟩ fun _ _ _ _ st g => ⟨Src.rd_stp g.1 st, dpAll_mono st.w g.2⟩
theorem di_enmS {a : Expr} {f : Fn PyData} (hK : X.K = C.K) (hg : Gl X "enumerate") (hm : X.mg "enumerate" = none) (ha : PE X a (tE C f)) (hs : starEach [a] X.env = [(false, eval a X.env)]) :
    PI X (.Tuple elts kk tpos) (.Call (.Name "enumerate" p) [a] [] pos) (tI C KeepS fun Γ S => (f Γ S).bind fun x S1 => lift (enmD x) S1) :=
  PI.imp (pi_enumS hg hm (pa_cons ha pa_nil hs) hs) fun σ H R ⟨Γ, W, S, he, hw, p⟩ => tG_then he hw p (fun c d S' h => h) fun x S1 v H1 W1 s1 v1 e1 r1 p1 => by
    cases e : enmD x with
    | none => rw [e] at p1; exact p1.elim
    | some zs =>
      rw [e] at p1
      obtain ⟨xs, q1, rfl⟩ := enmD_some e
      obtain ⟨r, vs, rfl, h1, h2⟩ := src_se r1 q1
      refine ⟨r, vs, rfl, by rw [hK]; exact Src.rd_sq (Src.se_rd h1) v1, ?_⟩
      rw [hK]
      exact p1 _ H1 W1 (fun H W => r.se W vs ∧ DpAll K0 W vs xs) s1 v1 (wk_enum (fun _ _ g => ⟨Src.se_rd g.1, g.2⟩) (dpAll_len h2)) ⟨h1, h2⟩ fun _ _ _ _ st g => ⟨Src.se_mono g.1 st, dpAll_mono st g.2⟩

/-! ### isinstance -/
def Ty.nm : Ty → Str
  | .int => "int" | .bool => "bool" | .tuple => "tuple" | .str => "str" | .list => "list"
def Ty.id : Ty → String
  | .int => "int" | .bool => "bool" | .tuple => "tuple" | .str => "str" | .list => "list"
theorem boot_ty (t : Ty) : bootBuiltins t.nm = some (.type t.id) := by cases t <;> decide +kernel
theorem nm_ty (t : Ty) : t.nm ≠ "__name__" ∧ (t.nm == ("__debug__" : Str)) = false := by cases t <;> decide +kernel
theorem boot_isi : bootBuiltins "isinstance" = some (.builtin "isinstance") := by decide +kernel
def rIsi (C : Cfg) (t : Ty) : List V → Hp → VK → Prop := fun vs H Q => ∃ W S v x, vs = [v, .ty t.id] ∧ Vw C W H S ∧ Rdt C H W v x ∧ Q (.bl (isiD t x)) H
theorem call_isiD (t : Ty) (hK : X.K = C.K) : CallR X (.builtin "isinstance") (rIsi C t) := by
  intro pins s σ H xs us Q I r h
  obtain ⟨W, S, v, x, rfl, hv, hx, q⟩ := h
  obtain ⟨u1, u2, rfl, r1, r2⟩ := Vals.two r
  have wx : Dp X.K H v x := by rw [hK]; exact hx.dp hv
  obtain ⟨as, rx⟩ := Dp.reads I x v u1 wx r1
  have e2 : u2 = .type t.id := r2
  subst e2
  have fin : ∀ tk, s.toks ≤ tk → EP X pins σ Q (.bool (isiD t x)) { s with toks := tk } := fun tk _ => ⟨.bl _, H, I.tok tk, rfl, q⟩
  cases t with
  | int => exact PySem.W.isinstance_int_data rx fin
  | bool => exact PySem.W.isinstance_bool_data rx fin
  | tuple => exact PySem.W.isinstance_tuple_data rx fin
  | str => exact PySem.W.isinstance_str_data rx fin
  | list => exact PySem.W.isinstance_list_data rx fin
theorem de_isi {a : Expr} {t : Ty} {p2 : Pos} {f : Fn PyData} (hK : X.K = C.K) (hg : Gl X "isinstance") (hm : X.mg "isinstance" = none) (hg2 : Gl X t.nm) (hm2 : X.mg t.nm = none) (ha : PE X a (tR C f)) (hs : starEach [a, .Name t.nm p2] X.env = (false, eval a X.env) :: starEach [.Name t.nm p2] X.env) :
    PE X (.Call (.Name "isinstance" p) [a, .Name t.nm p2] [] pos) (tE C fun Γ S => (f Γ S).bind fun x S1 => .ok (.bool (isiD t x)) S1) :=
  PE.imp (pe_callB (call_isiD t hK) hg hm boot_isi (pa_cons ha (pa_cons (pe_bltn (v := .ty t.id) hg2 hm2 (boot_ty t) rfl (nm_ty t).1 (nm_ty t).2) pa_nil) hs) (by decide) (by decide) hs rfl) fun σ H Q ⟨Γ, W, S, he, hw, p⟩ =>
    tG_then he hw p (fun c d S' h => h) fun x S1 v H1 W1 s1 v1 e1 r1 p1 => ⟨W1, S1, v, x, rfl, v1, r1, p1 _ H1 W1 s1 v1 (.bl _)⟩
end
end PD
/-! P9: statements over plain data. -/
namespace PD
open PySem PySem.Spec PyProof.Rows L2

def Out.Post (nx : Env → Draw → Prop) (rt : PyData → Draw → Prop) (bk ct : Env → Draw → Prop) (ex : Nat → PyData → Draw → Prop) : Out → Prop
  | .nx Γ S => nx Γ S
  | .ret d S => rt d S
  | .brk Γ S => bk Γ S
  | .cnt Γ S => ct Γ S
  | .exc c d S => ex c d S
  | .bad => False
abbrev FnS := Env → Draw → Out
/-- what a statement may want behind it, from the frame's entry (H0, W0) on -/
abbrev NxD (C : Cfg) (H0 W0 W : Hp) (k : L2.St → Hp → Prop) : Env → Draw → Prop := fun Γ' S' => ∀ σ' H' W', EnvOk C Γ' σ' H' W' → Vw C W' H' S' → Stp C.pm H0 W0 H' W' → Sub W W' → k σ' H'
abbrev RtD (C : Cfg) (H0 W0 : Hp) (k : VK) : PyData → Draw → Prop := fun d S' => ∀ v H' W', Vw C W' H' S' → Stp C.pm H0 W0 H' W' → Dp K0 W' v d → k v H'
abbrev ExD (C : Cfg) (H0 W0 : Hp) : Nat → PyData → Draw → Prop := fun c d S' => ∀ σ' H' W', Stp C.pm H0 W0 H' W' → Vw C W' H' S' → C.XQ c d S' σ' H' W'
def tS (C : Cfg) (H0 W0 : Hp) (f : FnS) : TS := fun D σ H => ∃ Γ W S, EnvOk C Γ σ H W ∧ Vw C W H S ∧ Stp C.pm H0 W0 H W ∧
  (f Γ S).Post (NxD C H0 W0 W D.nx) (RtD C H0 W0 D.rt) (NxD C H0 W0 W D.bk) (NxD C H0 W0 W D.ct) (ExD C H0 W0)
/-- .. that raises, if at all, ahead of all its stores -/
def tS1 (C : Cfg) (H0 W0 : Hp) (f : FnS) : TS := fun D σ H => ∃ Γ W S, EnvOk C Γ σ H W ∧ Vw C W H S ∧ Stp C.pm H0 W0 H W ∧
  (f Γ S).Post (NxD C H0 W0 W D.nx) (RtD C H0 W0 D.rt) (NxD C H0 W0 W D.bk) (NxD C H0 W0 W D.ct) (fun c d S' => ∀ H' W', Stp C.pm H W H' W' → Vw C W' H' S' → C.XQ c d S' σ H' W')
theorem nxD_sub {C : Cfg} {H0 W0 W W1 : Hp} {k : L2.St → Hp → Prop} {Γ : Env} {S : Draw} (h : NxD C H0 W0 W k Γ S) (s : Sub W W1) : NxD C H0 W0 W1 k Γ S := fun σ' H' W' e v t u => h σ' H' W' e v t fun a o q => u a o (s a o q)
theorem Out.Post.mono {o : Out} {nx nx' bk bk' ct ct' : Env → Draw → Prop} {rt rt' : PyData → Draw → Prop} {ex ex' : Nat → PyData → Draw → Prop} (h : o.Post nx rt bk ct ex) (h1 : ∀ Γ S, nx Γ S → nx' Γ S) (h2 : ∀ d S, rt d S → rt' d S) (h3 : ∀ Γ S, bk Γ S → bk' Γ S) (h4 : ∀ Γ S, ct Γ S → ct' Γ S)
    (h5 : ∀ c d S, ex c d S → ex' c d S) : o.Post nx' rt' bk' ct' ex' := by
  cases o with
  | nx Γ S => exact h1 _ _ h
  | ret d S => exact h2 _ _ h
  | brk Γ S => exact h3 _ _ h
  | cnt Γ S => exact h4 _ _ h
  | exc c d S => exact h5 _ _ _ h
  | bad => exact h
section
variable {X : Cx} {C : Cfg} {H0 W0 : Hp} {pos : Pos}
/-- from an expression's result to a statement's -/
theorem out_then {α β : Type} {R : Hp → Hp → β → α → Prop} {f : Fn α} {k : α → Draw → Out} {Γ : Env} {σ : L2.St} {H W : Hp} {S : Draw} {Q : β → Hp → Prop} {nx bk ct : Env → Draw → Prop} {rt : PyData → Draw → Prop} (he : EnvOk C Γ σ H W) (hv : Vw C W H S) (st : Stp C.pm H0 W0 H W)
    (h : ((f Γ S).out k).Post nx rt bk ct (ExD C H0 W0))
    (next : ∀ x S1 v H1 W1, Stp C.pm H W H1 W1 → Vw C W1 H1 S1 → EnvOk C Γ σ H1 W1 → R H1 W1 v x → (k x S1).Post nx rt bk ct (ExD C H0 W0) → Q v H1) : tG C R f σ H Q := by
  refine ⟨Γ, W, S, he, hv, ?_⟩
  cases e : f Γ S with
  | ok x S1 =>
    rw [e] at h
    exact fun v H1 W1 s1 v1 r => next x S1 v H1 W1 s1 v1 (he.stp s1) r h
  | exc c d S1 =>
    rw [e] at h
    exact fun H1 W1 s1 v1 => h σ H1 W1 (st.trans s1) v1
  | bad =>
    rw [e] at h
    exact h.elim
theorem out_then1 {α β : Type} {R : Hp → Hp → β → α → Prop} {f : Fn α} {k : α → Draw → Out} {Γ : Env} {σ : L2.St} {H W : Hp} {S : Draw} {Q : β → Hp → Prop} {nx bk ct : Env → Draw → Prop} {rt : PyData → Draw → Prop} (he : EnvOk C Γ σ H W) (hv : Vw C W H S)
    (h : ((f Γ S).out k).Post nx rt bk ct (fun c d S' => ∀ H' W', Stp C.pm H W H' W' → Vw C W' H' S' → C.XQ c d S' σ H' W'))
    (next : ∀ x S1 v H1 W1, Stp C.pm H W H1 W1 → Vw C W1 H1 S1 → EnvOk C Γ σ H1 W1 → R H1 W1 v x → (k x S1).Post nx rt bk ct (fun c d S' => ∀ H' W', Stp C.pm H W H' W' → Vw C W' H' S' → C.XQ c d S' σ H' W') → Q v H1) : tG C R f σ H Q := by
  refine ⟨Γ, W, S, he, hv, ?_⟩
  cases e : f Γ S with
  | ok x S1 =>
    rw [e] at h
    exact fun v H1 W1 s1 v1 r => next x S1 v H1 W1 s1 v1 (he.stp s1) r h
  | exc c d S1 =>
    rw [e] at h
    exact h
  | bad =>
    rw [e] at h
    exact h.elim
/-! ### blocks -/
theorem ds_nil : PSs X [] (tS C H0 W0 fun Γ S => .nx Γ S) := PSs.imp pss_nil fun D σ H ⟨Γ, W, S, he, hv, st, p⟩ => p σ H W he hv st fun _ _ h => h
theorem ds_cons {s : Stmt} {r : List Stmt} {f g : FnS} (h1 : PS X s (tS C H0 W0 f)) (h2 : PSs X r (tS C H0 W0 g)) : PSs X (s :: r) (tS C H0 W0 fun Γ S => (f Γ S).seq g) := PSs.imp (pss_cons h1 h2) fun D σ H ⟨Γ, W, S, he, hv, st, p⟩ => by
  refine ⟨Γ, W, S, he, hv, st, ?_⟩
  dsimp only at p
  cases e : f Γ S with
  | nx Γ1 S1 =>
    rw [e] at p
    intro σ1 H1 W1 e1 v1 t1 u1
    exact ⟨Γ1, W1, S1, e1, v1, t1, Out.Post.mono (show (g Γ1 S1).Post _ _ _ _ _ from p) (fun _ _ h => nxD_sub h u1) (fun _ _ h => h) (fun _ _ h => nxD_sub h u1) (fun _ _ h => nxD_sub h u1) fun _ _ _ h => h⟩
  | _ => rw [e] at p; exact p
/-! ### small ones -/
theorem ds_brk : PS X (.Break pos) (tS C H0 W0 fun Γ S => .brk Γ S) := PS.imp ps_break fun D σ H ⟨Γ, W, S, he, hv, st, p⟩ => p σ H W he hv st fun _ _ h => h
theorem ds_cnt : PS X (.Continue pos) (tS C H0 W0 fun Γ S => .cnt Γ S) := PS.imp ps_continue fun D σ H ⟨Γ, W, S, he, hv, st, p⟩ => p σ H W he hv st fun _ _ h => h
theorem ds_never {s : Stmt} : PS X s (tS C H0 W0 fun _ _ => .bad) := PS.imp ps_never fun D σ H ⟨Γ, W, S, he, hv, st, p⟩ => p.elim
theorem ds_exp {e : Expr} {f : Fn PyData} (h : PE X e (tE C f)) (hs : swapsWith e none pos.line X.env = pure false) : PS X (.Expr e pos) (tS C H0 W0 fun Γ S => (f Γ S).out fun _ S1 => .nx Γ S1) := PS.imp (ps_expr h hs) fun D σ H ⟨Γ, W, S, he, hv, st, p⟩ =>
  out_then he hv st p fun x S1 v H1 W1 s1 v1 e1 r1 p1 => p1 σ H1 W1 e1 v1 (st.trans s1) s1.w
theorem ds_ife {c : Expr} {a b : List Stmt} {f : Fn Bool} {g h : FnS} (hc : PT X c (tT C f)) (ha : PSs X a (tS C H0 W0 g)) (hb : PSs X b (tS C H0 W0 h)) : PS X (.If c a b pos) (tS C H0 W0 fun Γ S => (f Γ S).out fun k S1 => if k then g Γ S1 else h Γ S1) :=
  PS.imp (ps_if hc ha hb) fun D σ H ⟨Γ, W, S, he, hv, st, p⟩ => out_then he hv st p fun x S1 v H1 W1 s1 v1 e1 r1 p1 => by
    subst r1
    have on : ∀ {o : Out}, o.Post (NxD C H0 W0 W D.nx) (RtD C H0 W0 D.rt) (NxD C H0 W0 W D.bk) (NxD C H0 W0 W D.ct) (ExD C H0 W0) → o.Post (NxD C H0 W0 W1 D.nx) (RtD C H0 W0 D.rt) (NxD C H0 W0 W1 D.bk) (NxD C H0 W0 W1 D.ct) (ExD C H0 W0) := fun q =>
      Out.Post.mono q (fun _ _ h => nxD_sub h s1.w) (fun _ _ h => h) (fun _ _ h => nxD_sub h s1.w) (fun _ _ h => nxD_sub h s1.w) fun _ _ _ h => h
    cases v with
    | true => exact ⟨Γ, W1, S1, e1, v1, st.trans s1, on p1⟩
    | false => exact ⟨Γ, W1, S1, e1, v1, st.trans s1, on p1⟩
/-! ### assignments -/
theorem asg_go {te : TE} {f : Fn PyData} {t : Tg} {D : Ends} {σ : L2.St} {H : Hp} (hte : ∀ σ H Q, tE C f σ H Q → te σ H Q) (p : tS C H0 W0 (fun Γ S => (f Γ S).out fun x S1 => match bindT t x Γ with
    | some Γ' => .nx Γ' S1
    | none => .bad) D σ H) : tAsg te (tgD C t) D σ H := by
  obtain ⟨Γ, W, S, he, hv, st, p⟩ := p
  refine hte _ _ _ (out_then he hv st p fun x S1 v H1 W1 s1 v1 e1 r1 p1 => ?_)
  split at p1
  · rename_i Γ' hb
    exact ⟨Γ, W1, S1, x, Γ', e1, v1, r1, hb, fun σ' e2 _ _ => p1 σ' H1 W1 e2 v1 (st.trans s1) s1.w⟩
  · exact p1.elim
theorem ds_asg {tg e : Expr} {f : Fn PyData} {t : Tg} (h : PE X e (tE C f)) (hg : PG X tg (tgD C t)) (hs : swapsWithSole [tg] e pos.line X.env = pure false) (hw : swappedStores [tg] e X.env = pure none) (h1 : (assignEach [tg] X.env).map (·.2) = [assign tg X.env]) :
    PS X (.Assign [tg] e pos) (tS C H0 W0 fun Γ S => (f Γ S).out fun x S1 => match bindT t x Γ with
      | some Γ' => .nx Γ' S1
      | none => .bad) := PS.imp (ps_asg h hg hs hw h1) fun D σ H p => asg_go (fun _ _ _ q => q) p
/-- name = a comprehension's list, on one line -/
theorem gn_of {i : Nat} {v : V} {σ : L2.St} {H : Hp} {Q : L2.St → Hp → Prop} (hk : C.kdOf i = .nrm) (h : tgD C (.nm i) v σ H Q) : gName i v σ H Q := by
  obtain ⟨Γ, W, S, d, Γ', he, hw, hd, hb, q⟩ := h
  cases hb
  refine q _ (he.set hk hd) (List.length_set ..) fun j hj => List.getElem?_set_ne fun z => ?_
  simp [Tg.slots] at hj
  exact hj z.symm
/-- a new list that stays ours -/
theorem EnvOk.setO {Γ : Env} {σ : L2.St} {H W H' W' : Hp} (e : EnvOk C Γ σ H W) (s : Stp C.pm H W H' W') {i : Nat} {p : Addr} {vs : List V} {ds : List PyData} (hk : C.kdOf i = .own) (hn : H p = none) (hl : H' p = some (.lst vs)) (hw : W' p = none) (hm : ¬ Mst H' C.pm p) (hd : DpAll K0 W' vs ds) :
    EnvOk C (Γ.set i (some (.list ds))) (σ.set i (some (.ref p))) H' W' := by
  have e' := e.stp s
  have hz : ¬ C.Z p := fun z => by obtain ⟨o, q⟩ := e.zd p z; rw [hn] at q; cases q
  have other : ∀ (j : Nat) (d : PyData), C.kdOf j = .own → Γ[j]? = some (some d) → σ[j]? ≠ some (some (V.ref p)) := fun j d hj hg hs => by
    obtain ⟨v, h1, h2⟩ := e.at_ j d hg
    rw [hj] at h2
    obtain ⟨q, us, es, rfl, _, h3, _⟩ := h2
    rw [hs] at h1
    cases h1
    rw [hn] at h3
    cases h3
  refine ⟨by rw [List.length_set, List.length_set]; exact e.len, fun j x hj => ?_, fun j k q x y hjk h1 h2 h3 h4 h5 => ?_, e'.zd⟩
  · by_cases hji : i = j
    · subst hji
      by_cases hl' : i < Γ.length
      · rw [List.getElem?_set_self hl'] at hj
        cases hj
        exact ⟨.ref p, List.getElem?_set_self (by rw [← e.len]; exact hl'), by rw [hk]; exact ⟨p, vs, ds, rfl, rfl, hl, hw, hm, hz, hd⟩⟩
      · rw [List.getElem?_eq_none (by rw [List.length_set]; omega)] at hj
        cases hj
    · rw [List.getElem?_set_ne hji] at hj ⊢
      exact e'.at_ j x hj
  · by_cases hji : i = j
    · subst hji
      rw [List.getElem?_set_ne hjk] at h4 ⊢
      by_cases hl' : i < σ.length
      · rw [List.getElem?_set_self hl'] at h5
        cases h5
        exact other k y h2 h4
      · rw [List.getElem?_eq_none (by rw [List.length_set]; omega)] at h5
        cases h5
    · rw [List.getElem?_set_ne hji] at h3 h5
      by_cases hki : i = k
      · subst hki
        by_cases hl' : i < σ.length
        · rw [List.getElem?_set_self hl']
          intro z
          cases z
          exact other j x h1 h3 h5
        · rw [List.getElem?_eq_none (by rw [List.length_set]; omega)]
          intro z
          cases z
      · rw [List.getElem?_set_ne hki] at h4 ⊢
        exact e.sep j k q x y hjk h1 h2 h3 h4 h5
theorem asgO_go {te : TE} {f : Fn (List PyData)} {i : Nat} {D : Ends} {σ : L2.St} {H : Hp} (hk : C.kdOf i = .own) (hte : ∀ σ H Q, tF C f σ H Q → te σ H Q) (p : tS C H0 W0 (fun Γ S => (f Γ S).out fun xs S1 => .nx (Γ.set i (some (.list xs))) S1) D σ H) : tAsg te (gName i) D σ H := by
  obtain ⟨Γ, W, S, he, hv, st, p⟩ := p
  refine hte _ _ _ ⟨Γ, W, S, he, hv, ?_⟩
  dsimp only at p
  cases e : f Γ S with
  | ok ds S1 =>
    rw [e] at p
    exact fun q vs H1 W1 s1 v1 hn hl hw hm hd => p _ H1 W1 (he.setO s1 hk hn hl hw hm hd) v1 (st.trans s1) s1.w
  | exc c d S1 =>
    rw [e] at p
    exact fun H1 W1 s1 v1 => p σ H1 W1 (st.trans s1) v1
  | bad =>
    rw [e] at p
    exact p.elim
/-! ### xs.append(e) on a list of ours -/
theorem EnvOk.putO {Γ : Env} {σ : L2.St} {H W : Hp} (e : EnvOk C Γ σ H W) {i : Nat} {p : Addr} {vs : List V} {xs ys : List PyData} (hk : C.kdOf i = .own) (hg : Γ[i]? = some (some (.list xs))) (hs : σ[i]? = some (some (.ref p))) (hw : W p = none) (hm : ¬ Mst H C.pm p) (hd : DpAll K0 W vs ys) :
    EnvOk C (Γ.set i (some (.list ys))) σ (upd H p (.lst vs)) W := by
  have hpm : C.pm ≠ p := fun z => hm (.inl z.symm)
  have hz : ¬ C.Z p := by
    obtain ⟨v, h1, h2⟩ := e.at_ i _ hg
    rw [hk] at h2
    obtain ⟨q, us, es, rfl, _, _, _, _, h6, _⟩ := h2
    rw [hs] at h1
    cases h1
    exact h6
  refine ⟨by rw [List.length_set]; exact e.len, fun j x hj => ?_, fun j k q x y hjk h1 h2 h3 h4 h5 => ?_, fun a ha => ?_⟩
  · by_cases hji : i = j
    · subst hji
      rw [List.getElem?_set_self (List.getElem?_eq_some_iff.mp hg).1] at hj
      cases hj
      exact ⟨.ref p, hs, by rw [hk]; exact ⟨p, vs, ys, rfl, rfl, upd_same, hw, fun m => hm ((mst_upd hpm).mp m), hz, hd⟩⟩
    · rw [List.getElem?_set_ne hji] at hj
      obtain ⟨v, h1, h2⟩ := e.at_ j x hj
      refine ⟨v, h1, ?_⟩
      cases ek : C.kdOf j with
      | nrm => rw [ek] at h2; exact h2
      | hnd => rw [ek] at h2; exact h2
      | scr => rw [ek] at h2; exact h2
      | exv => rw [ek] at h2; exact h2
      | own =>
        rw [ek] at h2
        obtain ⟨q, us, es, rfl, rfl, z3, z4, z5, z6, z7⟩ := h2
        have nq : q ≠ p := fun z => e.sep i j p _ _ hji hk ek hg hj hs (by rw [h1, z])
        exact ⟨q, us, es, rfl, rfl, by rw [upd_ne nq]; exact z3, z4, fun m => z5 ((mst_upd hpm).mp m), z6, z7⟩
  · have low : ∀ {l : Nat} {z : PyData}, (Γ.set i (some (.list ys)))[l]? = some (some z) → ∃ z', Γ[l]? = some (some z') := fun {l z} hl => by
      by_cases hli : i = l
      · subst hli; exact ⟨_, hg⟩
      · rw [List.getElem?_set_ne hli] at hl; exact ⟨_, hl⟩
    obtain ⟨x', hx'⟩ := low h3
    obtain ⟨y', hy'⟩ := low h4
    exact e.sep j k q x' y' hjk h1 h2 hx' hy' h5
  · obtain ⟨o, ho⟩ := e.zd a ha
    by_cases hap : a = p
    · exact ⟨_, by rw [hap]; exact upd_same⟩
    · exact ⟨o, by rw [upd_ne hap]; exact ho⟩
theorem ds_app {i : Nat} {x : Str} {a : Expr} {p1 apos cpos : Pos} {f : Fn PyData} (hN : X.N[i]? = some x) (hv : Vis X.env.scope x) (hd : (x == ("__debug__" : Str)) = false) (hcd : (x == ("__classdict__" : Str)) = false) (hk : C.kdOf i = .own) (ha : PE X a (tE C f))
    (hs : starEach [a] X.env = (false, eval a X.env) :: starEach [] X.env) (hl : (apos.endLine == cpos.line) = true) (hz : ∀ b o, H0 b = some o → C.Z b) :
    PS X (.Expr (.Call (.Attribute (.Name x p1) "append" apos) [a] [] cpos) pos) (tS C H0 W0 fun Γ S => match getV Γ i with
      | some (.list xs) => (f Γ S).out fun y S1 => if xs.length < 16777216 then .nx (Γ.set i (some (.list (xs ++ [y])))) S1 else .bad
      | _ => .bad) := by
  have key := pe_bm (cpos := cpos) (apos := apos) PySem.F.plainAttrs_list PySem.F.slot_list_append PySem.F.type_list_append (mt_append (X := X)) (pe_var (pos := p1) hN hv hd hcd) (pa_cons ha pa_nil hs) rfl (by rw [hs]; rfl) hl hs rfl
  refine PS.imp (ps_expr key rfl) fun D σ H ⟨Γ, W, S, he, hw, st, p⟩ => ?_
  dsimp only at p
  split at p
  · rename_i xs hgv
    have hg : Γ[i]? = some (some (.list xs)) := by
      unfold getV at hgv
      split at hgv
      · rename_i d e; rw [e]; cases hgv; rfl
      · cases hgv
    obtain ⟨v, h1, h2⟩ := he.at_ i _ hg
    rw [hk] at h2
    obtain ⟨q, vs, ds, rfl, e2, h3, h4, h5, h6, h7⟩ := h2
    cases e2
    refine ⟨.ref q, h1, .inl ⟨rfl, vs, SqL.of h3⟩, ?_⟩
    exact out_then he hw st p fun y S1 u H1 W1 s1 v1 e1 r1 p1 => by
      split at p1
      · rename_i hz'
        obtain ⟨k1, k2⟩ := s1.k q _ h3 h5 (fun ps z => by cases z)
        have w1 : W1 q = none := by
          cases e : W1 q with
          | none => rfl
          | some o => have := s1.f q o e h4; rw [h3] at this; cases this
        have n0 : H0 q = none := by
          cases e : H0 q with
          | none => rfl
          | some o => exact absurd (hz q o e) h6
        refine ⟨q, vs, u, rfl, rfl, k1, by rw [dpAll_len h7, sizeLine_eq]; exact hz', ?_⟩
        exact p1 σ _ W1 (e1.putO hk hg h1 w1 k2 (dpAll_append (dpAll_mono s1.w h7) (.cons r1 .nil))) (v1.put k1 w1 k2) ((st.trans s1).put n0 k2) s1.w
      · exact p1.elim
  · exact p.elim
theorem ds_app1 {i : Nat} {x : Str} {a : Expr} {p1 apos cpos : Pos} {f : Fn PyData} (hN : X.N[i]? = some x) (hv : Vis X.env.scope x) (hd : (x == ("__debug__" : Str)) = false) (hcd : (x == ("__classdict__" : Str)) = false) (hk : C.kdOf i = .own) (ha : PE X a (tE C f))
    (hs : starEach [a] X.env = (false, eval a X.env) :: starEach [] X.env) (hl : (apos.endLine == cpos.line) = true) (hz : ∀ b o, H0 b = some o → C.Z b) :
    PS X (.Expr (.Call (.Attribute (.Name x p1) "append" apos) [a] [] cpos) pos) (tS1 C H0 W0 fun Γ S => match getV Γ i with
      | some (.list xs) => (f Γ S).out fun y S1 => if xs.length < 16777216 then .nx (Γ.set i (some (.list (xs ++ [y])))) S1 else .bad
      | _ => .bad) := by
  have key := pe_bm (cpos := cpos) (apos := apos) PySem.F.plainAttrs_list PySem.F.slot_list_append PySem.F.type_list_append (mt_append (X := X)) (pe_var (pos := p1) hN hv hd hcd) (pa_cons ha pa_nil hs) rfl (by rw [hs]; rfl) hl hs rfl
  refine PS.imp (ps_expr key rfl) fun D σ H ⟨Γ, W, S, he, hw, st, p⟩ => ?_
  dsimp only at p
  split at p
  · rename_i xs hgv
    have hg : Γ[i]? = some (some (.list xs)) := by
      unfold getV at hgv
      split at hgv
      · rename_i d e; rw [e]; cases hgv; rfl
      · cases hgv
    obtain ⟨v, h1, h2⟩ := he.at_ i _ hg
    rw [hk] at h2
    obtain ⟨q, vs, ds, rfl, e2, h3, h4, h5, h6, h7⟩ := h2
    cases e2
    refine ⟨.ref q, h1, .inl ⟨rfl, vs, SqL.of h3⟩, ?_⟩
    exact out_then1 he hw p fun y S1 u H1 W1 s1 v1 e1 r1 p1 => by
      split at p1
      · rename_i hz'
        obtain ⟨k1, k2⟩ := s1.k q _ h3 h5 (fun ps z => by cases z)
        have w1 : W1 q = none := by
          cases e : W1 q with
          | none => rfl
          | some o => have := s1.f q o e h4; rw [h3] at this; cases this
        have n0 : H0 q = none := by
          cases e : H0 q with
          | none => rfl
          | some o => exact absurd (hz q o e) h6
        refine ⟨q, vs, u, rfl, rfl, k1, by rw [dpAll_len h7, sizeLine_eq]; exact hz', ?_⟩
        exact p1 σ _ W1 (e1.putO hk hg h1 w1 k2 (dpAll_append (dpAll_mono s1.w h7) (.cons r1 .nil))) (v1.put k1 w1 k2) ((st.trans s1).put n0 k2) s1.w
      · exact p1.elim
  · exact p.elim
/-! ### return: what is ours is shown -/
def Kd.opn : Kd → Kd
  | .own => .nrm
  | k => k
def Cfg.opn (C : Cfg) : Cfg := { C with kd := C.kd.map Kd.opn }
theorem opn_kd (i : Nat) : C.opn.kdOf i = (C.kdOf i).opn := by
  unfold Cfg.kdOf Cfg.opn
  simp only [List.getD_eq_getElem?_getD, List.getElem?_map]
  cases C.kd[i]? <;> rfl
open Classical in
theorem EnvOk.opn {Γ : Env} {σ : L2.St} {H W : Hp} {S : Draw} (e : EnvOk C Γ σ H W) (v : Vw C W H S) (hz : ∀ b o, H0 b = some o → C.Z b) (st : Stp C.pm H0 W0 H W) :
    ∃ W1, EnvOk C.opn Γ σ H W1 ∧ Vw C.opn W1 H S ∧ Stp C.pm H0 W0 H W1 := by
  let own : Addr → Prop := fun a => ∃ (i : Nat) (d : PyData), C.kdOf i = .own ∧ Γ[i]? = some (some d) ∧ σ[i]? = some (some (V.ref a))
  have of_own : ∀ a, own a → ∃ vs ds, H a = some (.lst vs) ∧ W a = none ∧ ¬ Mst H C.pm a ∧ ¬ C.Z a ∧ DpAll K0 W vs ds := fun a ⟨i, d, h1, h2, h3⟩ => by
    obtain ⟨u, g1, g2⟩ := e.at_ i d h2
    rw [h3] at g1
    cases g1
    rw [h1] at g2
    obtain ⟨p, vs, ds, z1, _, z3, z4, z5, z6, z7⟩ := g2
    cases z1
    exact ⟨vs, ds, z3, z4, z5, z6, z7⟩
  let W1 : Hp := fun a => if own a then H a else W a
  have w1o : ∀ {a}, own a → W1 a = H a := fun h => if_pos h
  have w1n : ∀ {a}, ¬ own a → W1 a = W a := fun h => if_neg h
  have sub : Sub W W1 := fun a o h => by
    by_cases ho : own a
    · obtain ⟨_, _, _, z, _⟩ := of_own a ho
      rw [z] at h; cases h
    · rw [w1n ho]; exact h
  refine ⟨W1, ⟨e.len, fun i d h => ?_, fun i j p d x hij h1 => ?_, e.zd⟩, ⟨fun a o h => ?_, fun a m => ?_, v.st, v.tab, fun a ps z => ?_⟩, ⟨fun a o h => sub a o (st.w a o h), st.k, st.t, fun a o h hn => ?_⟩⟩
  · obtain ⟨u, g1, g2⟩ := e.at_ i d h
    refine ⟨u, g1, ?_⟩
    rw [opn_kd]
    cases ek : C.kdOf i with
    | nrm => rw [ek] at g2; exact dp_mono sub g2
    | hnd => rw [ek] at g2; exact g2
    | scr => rw [ek] at g2; exact g2.imp (dp_mono sub) id
    | exv => rw [ek] at g2; exact g2.imp (dp_mono sub) (HldAt.mono sub)
    | own =>
      have g2' := g2
      rw [ek] at g2'
      obtain ⟨p, vs, ds, rfl, rfl, z3, z4, z5, z6, z7⟩ := g2'
      exact .lst (.of (by rw [w1o ⟨i, _, ek, h, g1⟩]; exact z3)) (dpAll_mono sub z7)
  · rw [opn_kd] at h1
    cases ek : C.kdOf i <;> rw [ek] at h1 <;> cases h1
  · by_cases ho : own a
    · rw [w1o ho] at h; exact h
    · rw [w1n ho] at h; exact v.sub a o h
  · by_cases ho : own a
    · obtain ⟨_, _, _, _, z, _⟩ := of_own a ho
      exact absurd m z
    · rw [w1n ho]; exact v.hid a m
  · by_cases ho : own a
    · obtain ⟨_, _, y, _⟩ := of_own a ho
      have z : W1 a = _ := z
      rw [w1o ho, y] at z
      cases z
    · have z : W1 a = _ := z
      rw [w1n ho] at z
      exact v.nt a ps z
  · by_cases ho : own a
    · obtain ⟨_, _, _, _, _, z, _⟩ := of_own a ho
      cases e0 : H0 a with
      | none => rfl
      | some u => exact absurd (hz a u e0) z
    · rw [w1n ho] at h; exact st.f a o h hn
theorem ds_ret {e : Expr} {f : Fn PyData} (h : PE X e (tE C.opn f)) (hz : ∀ b o, H0 b = some o → C.Z b) : PS X (.Return (some e) pos) (tS C H0 W0 fun Γ S => (f Γ S).out fun x S1 => .ret x S1) := PS.imp (ps_ret h) fun D σ H ⟨Γ, W, S, he, hv, st, p⟩ => by
  obtain ⟨W1, e1, v1, t1⟩ := he.opn hv hz st
  refine ⟨Γ, W1, S, e1, v1, ?_⟩
  dsimp only at p
  cases q : f Γ S with
  | ok x S1 =>
    rw [q] at p
    exact fun v H2 W2 s2 v2 d2 => p v H2 W2 ⟨v2.sub, v2.hid, v2.st, v2.tab, v2.nt⟩ (t1.trans s2) d2
  | exc c d S1 =>
    rw [q] at p
    exact fun H2 W2 s2 v2 => p σ H2 W2 (t1.trans s2) ⟨v2.sub, v2.hid, v2.st, v2.tab, v2.nt⟩
  | bad =>
    rw [q] at p
    exact p.elim
theorem ds_retN : PS X (.Return none pos) (tS C H0 W0 fun _ S => .ret .none S) := PS.imp ps_retN fun D σ H ⟨Γ, W, S, he, hv, st, p⟩ => p .non H W hv st .non
/-! ### name op= e -/
theorem ds_augA {i : Nat} {x : Str} {e : Expr} {p' : Pos} {f : Fn PyData} (nd : X.N.Nodup) (hi : X.N[i]? = some x) (hx : Loc X.env.scope x) (hf : X.fn x = true ∨ X.env.scope.names.lookup x = some .local) (hk : C.kdOf i = .nrm) (he : PE X e (tE C f)) :
    PS X (.AugAssign (.Name x p') .Add e pos) (tS C H0 W0 fun Γ S => match getV Γ i with
      | some z => (f Γ S).out fun y S1 => match z, y with
        | .int a, .int b => .nx (Γ.set i (some (.int (a + b)))) S1
        | _, _ => .bad
      | none => .bad) := PS.imp (ps_aug nd hi hx he ip_add hf) fun D σ H ⟨Γ, W, S, hen, hv, st, p⟩ => by
  dsimp only at p
  split at p
  · rename_i z hgv
    have hg : Γ[i]? = some (some z) := by
      unfold getV at hgv
      split at hgv
      · rename_i d e; rw [e]; cases hgv; rfl
      · cases hgv
    obtain ⟨v, h1, h2⟩ := hen.at_ i _ hg
    rw [hk] at h2
    refine ⟨v, h1, ?_⟩
    exact out_then hen hv st p fun y S1 u H1 W1 s1 v1 e1 r1 p1 => by
      cases h2 <;> try exact p1.elim
      cases r1 <;> try exact p1.elim
      rename_i a b
      exact ⟨a, b, rfl, rfl, p1 _ H1 W1 (e1.set hk (.int _)) v1 (st.trans s1) s1.w⟩
  · exact p.elim
/-! ### loops -/
theorem ds_for {tg iter : Expr} {body : List Stmt} {t : Tg} {fI : Fn (List PyData)} {g : FnS} (hp : PassesOwn (model X.prog X.w) X.A X.env X.xe) (hc : X.calm = true) (hi : PI X tg iter (tI C KeepS fI)) (hg : PG X tg (tgD C t)) (hb : PSs X body (tS C H0 W0 g)) (hs : ∀ x, foldedSetIterable iter X.env x = pure x) :
    PS X (.For tg iter body [] pos) (tS C H0 W0 fun Γ S => (fI Γ S).out fun xs S1 => forL t g xs Γ S1) := PS.imp (ps_for hp hc hi hg hb hs) fun D σ H ⟨Γ, W, S, he, hv, st, p⟩ => by
  refine ⟨Γ, W, S, he, hv, ?_⟩
  dsimp only at p
  cases e0 : fI Γ S with
  | bad => rw [e0] at p; exact p.elim
  | exc c d S' => rw [e0] at p; exact fun H1 W1 s1 v1 => p σ H1 W1 (st.trans s1) v1
  | ok xs S0 =>
    rw [e0] at p
    have p : (forL t g xs Γ S0).Post (NxD C H0 W0 W D.nx) (RtD C H0 W0 D.rt) (NxD C H0 W0 W D.bk) (NxD C H0 W0 W D.ct) (ExD C H0 W0) := p
    intro J H1 W1 G s1 v1 wk gg kp
    refine ⟨fun i m σi Hi => m = xs.length - i ∧ i ≤ xs.length ∧ ∃ Γi Wi Si, EnvOk C Γi σi Hi Wi ∧ Vw C Wi Hi Si ∧ Stp C.pm H0 W0 Hi Wi ∧ Sub W1 Wi ∧ (forL t g (xs.drop i) Γi Si).Post (NxD C H0 W0 W D.nx) (RtD C H0 W0 D.rt) (NxD C H0 W0 W D.bk) (NxD C H0 W0 W D.ct) (ExD C H0 W0),
      ⟨xs.length, by simp, Nat.zero_le _, Γ, W1, S0, he.stp s1, v1, st.trans s1, fun _ _ h => h, by simpa using p⟩, ?_⟩
    rintro i m σi Hi ⟨rfl, hi, Γi, Wi, Si, ei, vi, ti, sbi, pi⟩
    have gi := kp _ _ Hi Wi sbi gg
    have sbW : Sub W Wi := fun a o h => sbi a o (s1.w a o h)
    by_cases hlt : i < xs.length
    · refine .inr ⟨wk.go i Hi Wi Si vi gi hlt, fun σ' H' => i + 1 ≤ xs.length ∧ ∃ Γj Wj Sj, EnvOk C Γj σ' H' Wj ∧ Vw C Wj H' Sj ∧ Stp C.pm H0 W0 H' Wj ∧ Sub W1 Wj ∧ (forL t g (xs.drop (i + 1)) Γj Sj).Post (NxD C H0 W0 W D.nx) (RtD C H0 W0 D.rt) (NxD C H0 W0 W D.bk) (NxD C H0 W0 W D.ct) (ExD C H0 W0),
        fun σ' H' h' => ⟨xs.length - (i + 1), by omega, rfl, h'.1, h'.2⟩, fun x H' y => ?_⟩
      obtain ⟨d, W', hd, s2, v2, dx⟩ := wk.yld i Hi Wi Si x H' vi gi hlt y
      rw [drop_at hd] at pi
      unfold forL at pi
      split at pi
      · rename_i Γ' hb'
        refine ⟨Γi, W', Si, d, Γ', ei.stp s2, v2, dx, hb', fun σ2 e2 _ _ => ?_⟩
        have sb2 : Sub W1 W' := fun a o h => s2.w a o (sbi a o h)
        have nxt : ∀ {Γ3 : Env} {S3 : Draw} {k : L2.St → Hp → Prop}, (∀ σ3 H3, (i + 1 ≤ xs.length ∧ ∃ Γj Wj Sj, EnvOk C Γj σ3 H3 Wj ∧ Vw C Wj H3 Sj ∧ Stp C.pm H0 W0 H3 Wj ∧ Sub W1 Wj ∧ (forL t g (xs.drop (i + 1)) Γj Sj).Post (NxD C H0 W0 W D.nx) (RtD C H0 W0 D.rt) (NxD C H0 W0 W D.bk) (NxD C H0 W0 W D.ct) (ExD C H0 W0)) → k σ3 H3) →
            (forL t g (xs.drop (i + 1)) Γ3 S3).Post (NxD C H0 W0 W D.nx) (RtD C H0 W0 D.rt) (NxD C H0 W0 W D.bk) (NxD C H0 W0 W D.ct) (ExD C H0 W0) → NxD C H0 W0 W' k Γ3 S3 := fun {Γ3 S3 k} hk q σ3 H3 W3 e3 v3 t3 u3 => hk σ3 H3 ⟨hlt, Γ3, W3, S3, e3, v3, t3, fun a o h => u3 a o (sb2 a o h), q⟩
        refine ⟨Γ', W', Si, e2, v2, ti.trans s2, ?_⟩
        cases eb : g Γ' Si with
        | nx Γ3 S3 => rw [eb] at pi; exact nxt (fun _ _ h => h) pi
        | cnt Γ3 S3 => rw [eb] at pi; exact nxt (fun _ _ h => h) pi
        | brk Γ3 S3 =>
          rw [eb] at pi
          exact fun σ3 H3 W3 e3 v3 t3 u3 => (show NxD C H0 W0 W D.nx Γ3 S3 from pi) σ3 H3 W3 e3 v3 t3 fun a o h => u3 a o (s2.w a o (sbW a o h))
        | ret d3 S3 => rw [eb] at pi; exact pi
        | exc c3 d3 S3 => rw [eb] at pi; exact pi
        | bad => rw [eb] at pi; exact pi.elim
      · exact pi.elim
    · have ej : i = xs.length := by omega
      subst ej
      rw [List.drop_length] at pi
      exact .inl ⟨wk.stop Hi Wi Si vi gi, pi σi Hi Wi ei vi ti sbW⟩
theorem ds_whl {c : Expr} {body : List Stmt} {f : Fn Bool} {g : FnS} (hp : PassesOwn (model X.prog X.w) X.A X.env X.xe) (hc : PT X c (tT C f)) (hb : PSs X body (tS C H0 W0 g)) (n : Nat) : PS X (.While c body [] pos) (tS C H0 W0 fun Γ S => whlL f g n Γ S) :=
  PS.imp (ps_while hp hc hb) fun D σ H ⟨Γ, W, S, he, hv, st, p⟩ => by
    refine ⟨fun m σi Hi => ∃ Γi Wi Si, EnvOk C Γi σi Hi Wi ∧ Vw C Wi Hi Si ∧ Stp C.pm H0 W0 Hi Wi ∧ Sub W Wi ∧ (whlL f g m Γi Si).Post (NxD C H0 W0 W D.nx) (RtD C H0 W0 D.rt) (NxD C H0 W0 W D.bk) (NxD C H0 W0 W D.ct) (ExD C H0 W0), ⟨n, Γ, W, S, he, hv, st, fun _ _ h => h, p⟩, ?_⟩
    rintro m σi Hi ⟨Γi, Wi, Si, ei, vi, ti, sbi, pi⟩
    cases m with
    | zero => exact pi.elim
    | succ m =>
      unfold whlL at pi
      exact out_then ei vi ti pi fun k S1 b H1 W1 s1 v1 e1 r1 p1 => by
        subst r1
        have sb1 : Sub W W1 := fun a o h => s1.w a o (sbi a o h)
        cases b with
        | false =>
          rw [if_neg Bool.false_ne_true] at p1 ⊢
          exact p1 σi H1 W1 e1 v1 (ti.trans s1) sb1
        | true =>
          rw [if_pos rfl] at p1 ⊢
          refine ⟨fun σ' H' => ∃ Γj Wj Sj, EnvOk C Γj σ' H' Wj ∧ Vw C Wj H' Sj ∧ Stp C.pm H0 W0 H' Wj ∧ Sub W Wj ∧ (whlL f g m Γj Sj).Post (NxD C H0 W0 W D.nx) (RtD C H0 W0 D.rt) (NxD C H0 W0 W D.bk) (NxD C H0 W0 W D.ct) (ExD C H0 W0), fun σ' H' h' => ⟨m, Nat.lt_succ_self _, h'⟩, ?_⟩
          refine ⟨Γi, W1, S1, e1, v1, ti.trans s1, ?_⟩
          cases eb : g Γi S1 with
          | nx Γ3 S3 => rw [eb] at p1; exact fun σ3 H3 W3 e3 v3 t3 u3 => ⟨Γ3, W3, S3, e3, v3, t3, fun a o h => u3 a o (sb1 a o h), p1⟩
          | cnt Γ3 S3 => rw [eb] at p1; exact fun σ3 H3 W3 e3 v3 t3 u3 => ⟨Γ3, W3, S3, e3, v3, t3, fun a o h => u3 a o (sb1 a o h), p1⟩
          | brk Γ3 S3 => rw [eb] at p1; exact fun σ3 H3 W3 e3 v3 t3 u3 => (show NxD C H0 W0 W D.nx Γ3 S3 from p1) σ3 H3 W3 e3 v3 t3 fun a o h => u3 a o (sb1 a o h)
          | ret d3 S3 => rw [eb] at p1; exact p1
          | exc c3 d3 S3 => rw [eb] at p1; exact p1
          | bad => rw [eb] at p1; exact p1.elim
end
end PD
/-! P10: more assignments, calls of the program's functions, texts, ranges as values. -/
namespace PD
open PySem PySem.Spec PyProof.Rows L2
section
variable {X : Cx} {C : Cfg} {H0 W0 : Hp} {pos : Pos}
/-- a hidden list, new since Hs -/
def OwnAt (C : Cfg) (Hs H W : Hp) (p : Addr) (ds : List PyData) : Prop := ∃ vs, Hs p = none ∧ H p = some (.lst vs) ∧ W p = none ∧ ¬ Mst H C.pm p ∧ DpAll K0 W vs ds
theorem OwnAt.stp {Hs H W H' W' : Hp} {p : Addr} {ds : List PyData} (o : OwnAt C Hs H W p ds) (s : Stp C.pm H W H' W') : OwnAt C Hs H' W' p ds := by
  obtain ⟨vs, h1, h2, h3, h4, h5⟩ := o
  obtain ⟨k1, k2⟩ := s.k p _ h2 h4 (fun ps z => by cases z)
  refine ⟨vs, h1, k1, ?_, k2, dpAll_mono s.w h5⟩
  cases e : W' p with
  | none => rfl
  | some u => have := s.f p u e h3; rw [h2] at this; cases this
/-- no slot of ours -/
def NoOwn (C : Cfg) (Γ : Env) (σ : L2.St) (p : Addr) : Prop := ∀ (j : Nat) (d : PyData), C.kdOf j = .own → Γ[j]? = some (some d) → σ[j]? ≠ some (some (V.ref p))
theorem EnvOk.noOwn {Γ : Env} {σ : L2.St} {H W : Hp} (e : EnvOk C Γ σ H W) {p : Addr} (hn : H p = none) : NoOwn C Γ σ p := fun j d hj hg hs => by
  obtain ⟨v, h1, h2⟩ := e.at_ j d hg
  rw [hj] at h2
  obtain ⟨q, us, es, rfl, _, h3, _⟩ := h2
  rw [hs] at h1
  cases h1
  rw [hn] at h3
  cases h3
theorem EnvOk.noZ {Γ : Env} {σ : L2.St} {H W : Hp} (e : EnvOk C Γ σ H W) {p : Addr} (hn : H p = none) : ¬ C.Z p := fun z => by
  obtain ⟨o, q⟩ := e.zd p z
  rw [hn] at q
  cases q
theorem EnvOk.putN {Γ : Env} {σ : L2.St} {Hs H W : Hp} (e : EnvOk C Γ σ H W) {i : Nat} {p : Addr} {ds : List PyData} (hk : C.kdOf i = .own) (o : OwnAt C Hs H W p ds) (hz : ¬ C.Z p) (no : NoOwn C Γ σ p) :
    EnvOk C (Γ.set i (some (.list ds))) (σ.set i (some (.ref p))) H W := by
  obtain ⟨vs, _, hl, hw, hm, hd⟩ := o
  refine ⟨by rw [List.length_set, List.length_set]; exact e.len, fun j x hj => ?_, fun j k q x y hjk h1 h2 h3 h4 h5 => ?_, e.zd⟩
  · by_cases hji : i = j
    · subst hji
      by_cases hl' : i < Γ.length
      · rw [List.getElem?_set_self hl'] at hj
        cases hj
        exact ⟨.ref p, List.getElem?_set_self (by rw [← e.len]; exact hl'), by rw [hk]; exact ⟨p, vs, ds, rfl, rfl, hl, hw, hm, hz, hd⟩⟩
      · rw [List.getElem?_eq_none (by rw [List.length_set]; omega)] at hj
        cases hj
    · rw [List.getElem?_set_ne hji] at hj ⊢
      exact e.at_ j x hj
  · by_cases hji : i = j
    · subst hji
      rw [List.getElem?_set_ne hjk] at h4 ⊢
      by_cases hl' : i < σ.length
      · rw [List.getElem?_set_self hl'] at h5
        cases h5
        exact no k y h2 h4
      · rw [List.getElem?_eq_none (by rw [List.length_set]; omega)] at h5
        cases h5
    · rw [List.getElem?_set_ne hji] at h3 h5
      by_cases hki : i = k
      · subst hki
        by_cases hl' : i < σ.length
        · rw [List.getElem?_set_self hl']
          intro z
          cases z
          exact no j x h1 h3 h5
        · rw [List.getElem?_eq_none (by rw [List.length_set]; omega)]
          intro z
          cases z
      · rw [List.getElem?_set_ne hki] at h4 ⊢
        exact e.sep j k q x y hjk h1 h2 h3 h4 h5
/-! ### a new list to a name -/
theorem ds_newN {st : Stmt} {te : TE} {f : Fn (List PyData)} {i : Nat} (h : PS X st (tAsg te (gName i))) (hte : ∀ σ H Q, tF C f σ H Q → te σ H Q) (hk : C.kdOf i = .nrm) :
    PS X st (tS C H0 W0 fun Γ S => (f Γ S).out fun xs S1 => .nx (Γ.set i (some (.list xs))) S1) := PS.imp h fun D σ H p => by
  obtain ⟨Γ, W, S, he, hv, st, p⟩ := p
  have q : (((f Γ S).bind fun ds S' => (Res.ok (PyData.list ds) S' : Res PyData)).out fun x S1 => .nx (Γ.set i (some x)) S1).Post (NxD C H0 W0 W D.nx) (RtD C H0 W0 D.rt) (NxD C H0 W0 W D.bk) (NxD C H0 W0 W D.ct) (ExD C H0 W0) := by
    dsimp only at p
    cases e : f Γ S with
    | _ => rw [e] at p; exact p
  exact hte _ _ _ (tF_show (out_then (f := fun Γ S => (f Γ S).bind fun ds S' => Res.ok (PyData.list ds) S') he hv st q fun x S1 v H1 W1 s1 v1 e1 r1 p1 => p1 _ H1 W1 (e1.set hk r1) v1 (st.trans s1) s1.w))
theorem ds_newO {st : Stmt} {te : TE} {f : Fn (List PyData)} {i : Nat} (h : PS X st (tAsg te (gName i))) (hte : ∀ σ H Q, tF C f σ H Q → te σ H Q) (hk : C.kdOf i = .own) :
    PS X st (tS C H0 W0 fun Γ S => (f Γ S).out fun xs S1 => .nx (Γ.set i (some (.list xs))) S1) := PS.imp h fun D σ H p => asgO_go hk hte p
theorem ds_setE {x : Str} {e : Expr} {f : Fn PyData} {i : Nat} {p' : Pos} (h : PE X e (tE C f)) (hN : X.N.Nodup) (hi : X.N[i]? = some x) (hx : Loc X.env.scope x) (hs : swapsWith e (some (.Name x p')) pos.line X.env = pure false) (hf : X.fn x = true ∨ X.env.scope.names.lookup x = some .local) (hk : C.kdOf i = .nrm ∨ C.kdOf i = .exv) :
    PS X (.Assign [.Name x p'] e pos) (tS C H0 W0 fun Γ S => (f Γ S).out fun x S1 => .nx (Γ.set i (some x)) S1) := PS.imp (ps_set hN hi hx h hs hf) fun D σ H p => by
  obtain ⟨Γ, W, S, he, hv, st, p⟩ := p
  exact out_then he hv st p fun x S1 v H1 W1 s1 v1 e1 r1 p1 => p1 _ H1 W1 (e1.setD hk r1) v1 (st.trans s1) s1.w
theorem ps_setF {x : Str} {e : Expr} {f : Fn (List PyData)} {i : Nat} {p' : Pos} (h : PE X e (tF C f)) (hN : X.N.Nodup) (hi : X.N[i]? = some x) (hx : Loc X.env.scope x) (hs : swapsWith e (some (.Name x p')) pos.line X.env = pure false) (hf : X.fn x = true ∨ X.env.scope.names.lookup x = some .local) :
    PS X (.Assign [.Name x p'] e pos) (tAsg (tF C f) (gName i)) := ps_set hN hi hx h hs hf
/-! ### x, y = a, b -/
/-- what lies ready for a slot -/
def Rdy (C : Cfg) (k : Kd) (Hs H W : Hp) (v : V) (d : PyData) : Prop := match k with
  | .own => ∃ p ds, v = .ref p ∧ d = .list ds ∧ OwnAt C Hs H W p ds
  | _ => Dp K0 W v d
/-- a value on its way to a slot -/
def tK (C : Cfg) (k : Kd) (f : Fn PyData) : TE := fun σ H Q => ∃ Γ W S, EnvOk C Γ σ H W ∧ Vw C W H S ∧ (f Γ S).Post
  (fun d S' => ∀ v H' W', Stp C.pm H W H' W' → Vw C W' H' S' → Rdy C k H H' W' v d → Q v H')
  (fun c d S' => ∀ H' W', Stp C.pm H W H' W' → Vw C W' H' S' → C.XQ c d S' σ H' W')
theorem pk_nrm {e : Expr} {k : Kd} {f : Fn PyData} (hk : k ≠ .own) (h : PE X e (tE C f)) : PE X e (tK C k f) := PE.imp h fun σ H Q ⟨Γ, W, S, he, hv, p⟩ => ⟨Γ, W, S, he, hv, p.mono (fun d S' q v H' W' s v' r => q v H' W' s v' (by
  cases k with
  | own => exact absurd rfl hk
  | _ => exact r)) fun _ _ _ q => q⟩
theorem pk_own {e : Expr} {f : Fn (List PyData)} (h : PE X e (tF C f)) : PE X e (tK C .own fun Γ S => (f Γ S).bind fun ds S1 => .ok (.list ds) S1) := PE.imp h fun σ H Q ⟨Γ, W, S, he, hv, p⟩ => by
  refine ⟨Γ, W, S, he, hv, ?_⟩
  dsimp only at p
  cases e : f Γ S with
  | ok ds S1 =>
    rw [e] at p
    exact fun q vs H' W' s v hn hl hw hm hd => p (.ref q) H' W' s v ⟨q, ds, rfl, rfl, vs, hn, hl, hw, hm, hd⟩
  | exc c d S1 => rw [e] at p; exact p
  | bad => rw [e] at p; exact p
theorem Rdy.stp {k : Kd} {Hs H W H' W' : Hp} {v : V} {d : PyData} (r : Rdy C k Hs H W v d) (s : Stp C.pm H W H' W') : Rdy C k Hs H' W' v d := by
  cases k with
  | own => obtain ⟨p, ds, e1, e2, o⟩ := r; exact ⟨p, ds, e1, e2, o.stp s⟩
  | _ => exact dp_mono s.w r
theorem EnvOk.rdy {Γ : Env} {σ : L2.St} {Hs H W : Hp} {k : Kd} {i : Nat} {v : V} {d : PyData} (e : EnvOk C Γ σ H W) (hk : C.kdOf i = k) (hkk : k = .nrm ∨ k = .own) (r : Rdy C k Hs H W v d) (hz : ∀ p, v = .ref p → k = .own → ¬ C.Z p) (no : ∀ p, v = .ref p → k = .own → NoOwn C Γ σ p) : EnvOk C (Γ.set i (some d)) (σ.set i (some v)) H W := by
  rcases hkk with rfl | rfl
  · exact e.set hk r
  · obtain ⟨p, ds, rfl, rfl, o⟩ := r
    exact e.putN hk o (hz p rfl rfl) (no p rfl rfl)
theorem NoOwn.set {Γ : Env} {σ : L2.St} {p : Addr} {i : Nat} {v : V} {d : PyData} (no : NoOwn C Γ σ p) (h : C.kdOf i = .own → v ≠ .ref p) : NoOwn C (Γ.set i (some d)) (σ.set i (some v)) p := fun j x hj hg hs => by
  by_cases hij : i = j
  · subst hij
    by_cases hl : i < σ.length
    · rw [List.getElem?_set_self hl] at hs
      cases hs
      exact h hj rfl
    · rw [List.getElem?_eq_none (by rw [List.length_set]; omega)] at hs
      cases hs
  · rw [List.getElem?_set_ne hij] at hg hs
    exact no j x hj hg hs
theorem tK_then {γ : Type} {k : Kd} {f : Fn PyData} {Γ : Env} {σ : L2.St} {H W : Hp} {S : Draw} {kk : PyData → Draw → Res γ} {o : γ → Draw → Out} {Q : VK} {nx bk ct : Env → Draw → Prop} {rt : PyData → Draw → Prop} (he : EnvOk C Γ σ H W) (hv : Vw C W H S) (st : Stp C.pm H0 W0 H W)
    (h : (((f Γ S).bind kk).out o).Post nx rt bk ct (ExD C H0 W0))
    (next : ∀ x S1 v H1 W1, Stp C.pm H W H1 W1 → Vw C W1 H1 S1 → EnvOk C Γ σ H1 W1 → Rdy C k H H1 W1 v x → ((kk x S1).out o).Post nx rt bk ct (ExD C H0 W0) → Q v H1) : tK C k f σ H Q := by
  refine ⟨Γ, W, S, he, hv, ?_⟩
  cases e : f Γ S with
  | ok x S1 =>
    rw [e] at h
    exact fun v H1 W1 s1 v1 r => next x S1 v H1 W1 s1 v1 (he.stp s1) r h
  | exc c d S1 =>
    rw [e] at h
    exact fun H1 W1 s1 v1 => h σ H1 W1 (st.trans s1) v1
  | bad =>
    rw [e] at h
    exact h.elim
theorem hn_back {pm : Addr} {H W H1 W1 : Hp} (s : Stp pm H W H1 W1) {p : Addr} (h : H1 p = none) : H p = none := by
  cases e : H p with
  | none => rfl
  | some o => obtain ⟨o', e'⟩ := s.t p o e; rw [h] at e'; cases e'
theorem ds_par {i j : Nat} {x y : Str} {a b : Expr} {px py pt : Pos} {kt k2 pt2} {f g : Fn PyData} (hc : X.calm = true) (hN : X.N.Nodup) (hi : X.N[i]? = some x) (hj : X.N[j]? = some y) (hij : i ≠ j) (hx : X.env.scope.names.lookup x = some .local) (hy : X.env.scope.names.lookup y = some .local)
    (ki : C.kdOf i = .nrm ∨ C.kdOf i = .own) (kj : C.kdOf j = .nrm ∨ C.kdOf j = .own) (ha : PE X a (tK C (C.kdOf i) f)) (hb : PE X b (tK C (C.kdOf j) g)) (sa : starEach [a, b] X.env = (false, eval a X.env) :: starEach [b] X.env) (sb : starEach [b] X.env = (false, eval b X.env) :: starEach [] X.env)
    (hw : swappedStores [.Tuple [.Name x px, .Name y py] kt pt] (.Tuple [a, b] k2 pt2) X.env = pure (some [x, y])) (hs : swapsWithSole [.Tuple [.Name x px, .Name y py] kt pt] (.Tuple [a, b] k2 pt2) pos.line X.env = pure false) :
    PS X (.Assign [.Tuple [.Name x px, .Name y py] kt pt] (.Tuple [a, b] k2 pt2) pos) (tS C H0 W0 fun Γ S => ((f Γ S).bind fun u S1 => (g Γ S1).bind fun v S2 => (.ok (u, v) S2 : Res (PyData × PyData))).out fun p S2 => .nx ((Γ.set i (some p.1)).set j (some p.2)) S2) :=
  PS.imp (ps_par hc hN hi hj hij hx hy (pa_cons ha (pa_cons hb pa_nil sb) sa) hw hs) fun D σ H ⟨Γ, W, S, he, hv, st, p⟩ =>
    tK_then he hv st p fun u S1 v1 H1 W1 s1 w1 e1 r1 p1 => tK_then e1 w1 (st.trans s1) p1 fun u2 S2 v2 H2 W2 s2 w2 e2 r2 p2 => by
      have r1' := r1.stp s2
      refine ⟨v1, v2, rfl, p2 _ H2 W2 ?_ w2 ((st.trans s1).trans s2) (s1.trans s2).w⟩
      have n1 : ∀ p, v1 = .ref p → C.kdOf i = .own → H p = none ∧ ∃ o, H1 p = some o := fun p e k => by
        rw [k] at r1
        obtain ⟨q, ds, z1, _, vs, z2, z3, _⟩ := r1
        rw [e] at z1
        cases z1
        exact ⟨z2, _, z3⟩
      have n2 : ∀ p, v2 = .ref p → C.kdOf j = .own → H1 p = none := fun p e k => by
        rw [k] at r2
        obtain ⟨q, ds, z1, _, vs, z2, _⟩ := r2
        rw [e] at z1
        cases z1
        exact z2
      have e3 : EnvOk C (Γ.set i (some u)) (σ.set i (some v1)) H2 W2 := e2.rdy rfl ki r1' (fun p e k => he.noZ (n1 p e k).1) fun p e k => he.noOwn (n1 p e k).1
      exact e3.rdy rfl kj r2 (fun p e k => e1.noZ (n2 p e k)) fun p e k => (e1.noOwn (n2 p e k)).set fun k' e' => by
        obtain ⟨_, o, z⟩ := n1 p e' k'
        rw [n2 p e k] at z
        cases z
theorem ds_par3 {i j l : Nat} {x y z : Str} {a b c : Expr} {px py pz pt : Pos} {kt k2 pt2} {f g h : Fn PyData} (hc : X.calm = true) (hN : X.N.Nodup) (hi : X.N[i]? = some x) (hj : X.N[j]? = some y) (hl : X.N[l]? = some z) (hij : i ≠ j) (hil : i ≠ l) (hjl : j ≠ l)
    (hx : X.env.scope.names.lookup x = some .local) (hy : X.env.scope.names.lookup y = some .local) (hz : X.env.scope.names.lookup z = some .local)
    (ki : C.kdOf i = .nrm ∨ C.kdOf i = .own) (kj : C.kdOf j = .nrm ∨ C.kdOf j = .own) (kl : C.kdOf l = .nrm ∨ C.kdOf l = .own) (ha : PE X a (tK C (C.kdOf i) f)) (hb : PE X b (tK C (C.kdOf j) g)) (hcc : PE X c (tK C (C.kdOf l) h))
    (sa : starEach [a, b, c] X.env = (false, eval a X.env) :: starEach [b, c] X.env) (sb : starEach [b, c] X.env = (false, eval b X.env) :: starEach [c] X.env) (sc : starEach [c] X.env = (false, eval c X.env) :: starEach [] X.env)
    (hw : swappedStores [.Tuple [.Name x px, .Name y py, .Name z pz] kt pt] (.Tuple [a, b, c] k2 pt2) X.env = pure (some [x, y, z])) (hs : swapsWithSole [.Tuple [.Name x px, .Name y py, .Name z pz] kt pt] (.Tuple [a, b, c] k2 pt2) pos.line X.env = pure false) :
    PS X (.Assign [.Tuple [.Name x px, .Name y py, .Name z pz] kt pt] (.Tuple [a, b, c] k2 pt2) pos) (tS C H0 W0 fun Γ S => ((f Γ S).bind fun u S1 => (g Γ S1).bind fun v S2 => (h Γ S2).bind fun w S3 => (.ok (u, v, w) S3 : Res (PyData × PyData × PyData))).out fun p S2 => .nx (((Γ.set i (some p.1)).set j (some p.2.1)).set l (some p.2.2)) S2) :=
  PS.imp (ps_par3 hc hN hi hj hl hij hil hjl hx hy hz (pa_cons ha (pa_cons hb (pa_cons hcc pa_nil sc) sb) sa) hw hs) fun D σ H ⟨Γ, W, S, he, hv, st, p⟩ =>
    tK_then he hv st p fun u S1 v1 H1 W1 s1 w1 e1 r1 p1 => tK_then e1 w1 (st.trans s1) p1 fun u2 S2 v2 H2 W2 s2 w2 e2 r2 p2 => tK_then e2 w2 ((st.trans s1).trans s2) p2 fun u3 S3 v3 H3 W3 s3 w3 e3 r3 p3 => by
      have r1' := (r1.stp s2).stp s3
      have r2' := r2.stp s3
      refine ⟨v1, v2, v3, rfl, p3 _ H3 W3 ?_ w3 (((st.trans s1).trans s2).trans s3) ((s1.trans s2).trans s3).w⟩
      have n1 : ∀ p, v1 = .ref p → C.kdOf i = .own → H p = none ∧ ∃ o, H1 p = some o := fun p e k => by
        rw [k] at r1
        obtain ⟨q, ds, z1, _, vs, z2, z3, _⟩ := r1
        rw [e] at z1
        cases z1
        exact ⟨z2, _, z3⟩
      have n2 : ∀ p, v2 = .ref p → C.kdOf j = .own → H1 p = none ∧ ∃ o, H2 p = some o := fun p e k => by
        rw [k] at r2
        obtain ⟨q, ds, z1, _, vs, z2, z3, _⟩ := r2
        rw [e] at z1
        cases z1
        exact ⟨z2, _, z3⟩
      have n3 : ∀ p, v3 = .ref p → C.kdOf l = .own → H2 p = none := fun p e k => by
        rw [k] at r3
        obtain ⟨q, ds, z1, _, vs, z2, _⟩ := r3
        rw [e] at z1
        cases z1
        exact z2
      have e4 : EnvOk C (Γ.set i (some u)) (σ.set i (some v1)) H3 W3 := e3.rdy rfl ki r1' (fun p e k => he.noZ (n1 p e k).1) fun p e k => he.noOwn (n1 p e k).1
      have e5 : EnvOk C ((Γ.set i (some u)).set j (some u2)) ((σ.set i (some v1)).set j (some v2)) H3 W3 := e4.rdy rfl kj r2' (fun p e k => e1.noZ (n2 p e k).1) fun p e k => (e1.noOwn (n2 p e k).1).set fun k' e' => by
        obtain ⟨_, o, z⟩ := n1 p e' k'
        rw [(n2 p e k).1] at z
        cases z
      exact e5.rdy rfl kl r3 (fun p e k => e2.noZ (n3 p e k)) fun p e k => ((e2.noOwn (n3 p e k)).set fun k' e' => by
        obtain ⟨_, o, z⟩ := n1 p e' k'
        rw [hn_back s2 (n3 p e k)] at z
        cases z).set fun k' e' => by
        obtain ⟨_, o, z⟩ := n2 p e' k'
        rw [n3 p e k] at z
        cases z
/-! ### calls -/
/-- an argument, by the kind of its parameter -/
def ArgK (pm : Addr) (K : PySem.W.Frag) (ex : List (Nat × Str × Option Str)) (ea : Nat → Addr) (W : Hp) : Kd → V → PyData → Prop
  | .hnd, v, d => v = .ref pm ∧ d = hndD
  | .scr, v, d => Dp K0 W v d ∨ ∃ (p : Addr) (ns : List Int), v = .ref p ∧ d = .list (ns.map .int) ∧ SqL K (fun _ => none) p (ns.map V.int)
  | .exv, v, d => Dp K0 W v d ∨ HldAt ex ea W v d
  | _, v, d => Dp K0 W v d
inductive ArgsK (pm : Addr) (K : PySem.W.Frag) (ex : List (Nat × Str × Option Str)) (ea : Nat → Addr) (W : Hp) : List Kd → List V → List PyData → Prop where
  | nil : ArgsK pm K ex ea W [] [] []
  | cons {k : Kd} {ks : List Kd} {v : V} {vs : List V} {d : PyData} {ds : List PyData} (h : ArgK pm K ex ea W k v d) (t : ArgsK pm K ex ea W ks vs ds) : ArgsK pm K ex ea W (k :: ks) (v :: vs) (d :: ds)
theorem ArgK.mono {pm : Addr} {K : PySem.W.Frag} {W W' : Hp} (s : Sub W W') {k : Kd} {v : V} {d : PyData} (h : ArgK pm K ex ea W k v d) : ArgK pm K ex ea W' k v d := by
  cases k with
  | hnd => exact h
  | scr => exact h.imp (dp_mono s) id
  | exv => exact h.imp (dp_mono s) (HldAt.mono s)
  | _ => exact dp_mono s h
theorem de_cons2 {R : Hp → Hp → V → PyData → Prop} {RL RL' : Hp → Hp → List V → List PyData → Prop} {e : Expr} {es : List Expr} {f : Fn PyData} {g : Fn (List PyData)} (ha : PE X e (tG C R f)) (hr : PA X es (tG C RL g))
    (hs : starEach (e :: es) X.env = (false, eval e X.env) :: starEach es X.env) (st : ∀ H W H' W' v d, Stp C.pm H W H' W' → R H W v d → R H' W' v d) (hc : ∀ H W v d vs ds, R H W v d → RL H W vs ds → RL' H W (v :: vs) (d :: ds)) :
    PA X (e :: es) (tG C RL' fun Γ S => (f Γ S).bind fun x S1 => (g Γ S1).bind fun xs S2 => .ok (x :: xs) S2) := PA.imp (pa_cons ha hr hs) fun σ H Q ⟨Γ, W, S, he, hw, p⟩ =>
  tG_then he hw p (fun c d S' h => h) fun x S1 v H1 W1 s1 v1 e1 r1 p1 => tG_then e1 v1 p1 (xq_stp (fun c d S' h => h) s1) fun xs S2 vs H2 W2 s2 v2 e2 r2 p2 =>
    p2 (v :: vs) H2 W2 (s1.trans s2) v2 (hc _ _ _ _ _ _ (st _ _ _ _ _ _ s2 r1) r2)
/-- the handle -/
theorem de_hnd {i : Nat} {x : Str} (hN : X.N[i]? = some x) (hv : Vis X.env.scope x) (hd : (x == ("__debug__" : Str)) = false) (hcd : (x == ("__classdict__" : Str)) = false) (hk : C.kdOf i = .hnd) :
    PE X (.Name x pos) (tG C (fun _ W v d => ArgK C.pm C.K C.ex C.ea W .hnd v d) fun Γ S => lift (getV Γ i) S) := PE.imp (pe_var hN hv hd hcd) fun σ H Q ⟨Γ, W, S, he, hw, p⟩ => by
  dsimp only [getV] at p
  split at p
  · rename_i d e
    obtain ⟨v, h1, h2⟩ := he.at_ i d e
    rw [hk] at h2
    exact ⟨v, h1, p v H W (Stp.refl _ _ _) hw h2⟩
  · exact p.elim
theorem de_scr {i : Nat} {x : Str} (hN : X.N[i]? = some x) (hv : Vis X.env.scope x) (hd : (x == ("__debug__" : Str)) = false) (hcd : (x == ("__classdict__" : Str)) = false) (hk : C.kdOf i = .scr) :
    PE X (.Name x pos) (tG C (fun _ W v d => ArgK C.pm C.K C.ex C.ea W .scr v d) fun Γ S => lift (getV Γ i) S) := PE.imp (pe_var hN hv hd hcd) fun σ H Q ⟨Γ, W, S, he, hw, p⟩ => by
  dsimp only [getV] at p
  split at p
  · rename_i d e
    obtain ⟨v, h1, h2⟩ := he.at_ i d e
    rw [hk] at h2
    exact ⟨v, h1, p v H W (Stp.refl _ _ _) hw h2⟩
  · exact p.elim
theorem de_argE {e : Expr} {f : Fn PyData} {k : Kd} (h : PE X e (tE C f)) (hk : k ≠ .hnd) : PE X e (tG C (fun _ W v d => ArgK C.pm C.K C.ex C.ea W k v d) f) := PE.imp h fun σ H Q ⟨Γ, W, S, he, hv, p⟩ => ⟨Γ, W, S, he, hv, p.mono (fun d S' q v H' W' s v' r => q v H' W' s v' (by
  cases k with
  | hnd => exact absurd rfl hk
  | scr => exact .inl r
  | exv => exact .inl r
  | _ => exact r)) fun _ _ _ q => q⟩
/-- a held error -/
theorem de_exv {i : Nat} {x : Str} (hN : X.N[i]? = some x) (hv : Vis X.env.scope x) (hd : (x == ("__debug__" : Str)) = false) (hcd : (x == ("__classdict__" : Str)) = false) (hk : C.kdOf i = .exv) :
    PE X (.Name x pos) (tG C (fun _ W v d => ArgK C.pm C.K C.ex C.ea W .exv v d) fun Γ S => lift (getV Γ i) S) := PE.imp (pe_var hN hv hd hcd) fun σ H Q ⟨Γ, W, S, he, hw, p⟩ => by
  dsimp only [getV] at p
  split at p
  · rename_i d e
    obtain ⟨v, h1, h2⟩ := he.at_ i d e
    rw [hk] at h2
    exact ⟨v, h1, p v H W (Stp.refl _ _ _) hw h2⟩
  · exact p.elim
/-- what a call of the program's function j promises -/
def spF (P : Prg) (M : Mch) (K : PySem.W.Frag) (ea : Nat → Addr) (T : List (Addr × Str)) (n j : Nat) (ks : List Kd) : Sp := fun xs H Q E => ∃ (C : Cfg) (W : Hp) (S : Draw) (ds : List PyData), C.M = M ∧ C.K = K ∧ C.ex = P.ex ∧ C.ea = ea ∧ C.T = T ∧ Vw C W H S ∧ ArgsK C.pm K P.ex ea W ks xs ds ∧
  ((run P n).c j ds S).Post (fun d S' => ∀ v H' W', Stp C.pm H W H' W' → Vw C W' H' S' → Dp K0 W' v d → Q v H') (fun c d S' => ∀ cls dd H' W', Stp C.pm H W H' W' → Vw C W' H' S' → ExcAt P.ex ea W' c d cls dd → E cls dd H')
theorem ArgsK.len {pm : Addr} {K : PySem.W.Frag} {ex : List (Nat × Str × Option Str)} {ea : Nat → Addr} {W : Hp} : ∀ {ks : List Kd} {vs : List V} {ds : List PyData}, ArgsK pm K ex ea W ks vs ds → vs.length = ks.length ∧ ds.length = ks.length
  | _, _, _, .nil => ⟨rfl, rfl⟩
  | _, _, _, .cons _ t => by
    obtain ⟨h1, h2⟩ := t.len
    exact ⟨by rw [List.length_cons, List.length_cons, h1], by rw [List.length_cons, List.length_cons, h2]⟩
/-- what is wanted of errors in a frame -/
def TakesC (C : Cfg) (X : Cx) : Prop := L2.Takes X fun cls dd σ H => ∃ c d S W, ExcAt C.ex C.ea W c d cls dd ∧ Vw C W H S ∧ C.XQ c d S σ H W
theorem de_call {P : Prg} {n j : Nat} {ks : List Kd} {fa : Addr} {fd : FuncData} {ps : List Str} {x : Str} {p : Pos} {e : Expr} {es : List Expr} {f : Fn (List PyData)} (F : FnG X.prog X.w X.K X.mg X.base (L2.CX X.prog X.w) n fa fd ps (spF P C.M C.K C.ea C.T n j ks)) (room : Room n X.A) (gd : X.A.guards = some []) (hg : Gl X x) (hm : X.mg x = some (.ref fa)) (kp : PySem.W.keepIn X.K (.ref fa) = true)
    (bd : Binds X.K fd ps []) (hex : C.ex = P.ex) (ha : PA X (e :: es) (tG C (fun _ W vs ds => ArgsK C.pm C.K C.ex C.ea W ks vs ds) f)) (hdb : (x == ("__debug__" : Str)) = false) (he : starEach (e :: es) X.env = (false, eval e X.env) :: starEach es X.env) (hpl : (backTo pos (starEach es X.env)).any (·.1) = false)
    (tk : TakesC C X) :
    PE X (.Call (.Name x p) (e :: es) [] pos) (tE C fun Γ S => (f Γ S).bind fun xs S1 => (run P n).c j xs S1) :=
  PE.imp (pe_callGS (E := fun σ cls dd H => ∃ c d S W, ExcAt C.ex C.ea W c d cls dd ∧ Vw C W H S ∧ C.XQ c d S σ H W) F room gd hg hm kp bd (fun pins σ H s e s' I c => tk e s' (XE.of_call I (fun _ _ _ h => h) c)) ha hdb he hpl) fun σ H Q ⟨Γ, W, S, en, hv, p⟩ => by
    refine ⟨Γ, W, S, en, hv, ?_⟩
    dsimp only at p
    cases e1 : f Γ S with
    | bad => rw [e1] at p; exact p.elim
    | exc c d S1 => rw [e1] at p; exact p
    | ok xs S1 =>
      rw [e1] at p
      intro vs H1 W1 s1 v1 a1
      refine ⟨C, W1, S1, xs, rfl, rfl, hex, rfl, rfl, v1, by rw [← hex]; simpa using a1, ?_⟩
      have p : ((run P n).c j xs S1).Post _ _ := p
      refine p.mono (fun d S2 q v H' W' s' v' r => q v H' W' (s1.trans s') v' r) fun c d S2 q cls dd H' W' s' v' x => ⟨c, d, S2, W', by rw [hex]; exact x, v', q H' W' (s1.trans s') v'⟩
theorem de_call0 {P : Prg} {n j : Nat} {fa : Addr} {fd : FuncData} {ps : List Str} {x : Str} {p : Pos} (F : FnG X.prog X.w X.K X.mg X.base (L2.CX X.prog X.w) n fa fd ps (spF P C.M C.K C.ea C.T n j [])) (room : Room n X.A) (gd : X.A.guards = some []) (hg : Gl X x) (hm : X.mg x = some (.ref fa)) (kp : PySem.W.keepIn X.K (.ref fa) = true)
    (bd : Binds X.K fd ps []) (hex : C.ex = P.ex) (hdb : (x == ("__debug__" : Str)) = false) (tk : TakesC C X) :
    PE X (.Call (.Name x p) [] [] pos) (tE C fun Γ S => (run P n).c j [] S) :=
  PE.imp (pe_callGS0 (E := fun σ cls dd H => ∃ c d S W, ExcAt C.ex C.ea W c d cls dd ∧ Vw C W H S ∧ C.XQ c d S σ H W) F room gd hg hm kp bd (fun pins σ H s e s' I c => tk e s' (XE.of_call I (fun _ _ _ h => h) c)) hdb) fun σ H Q ⟨Γ, W, S, en, hv, p⟩ => by
    refine ⟨C, W, S, [], rfl, rfl, hex, rfl, rfl, hv, .nil, ?_⟩
    have p : ((run P n).c j [] S).Post _ _ := p
    exact p.mono (fun d S2 q => q) fun c d S2 q cls dd H' W' s' v' x => ⟨c, d, S2, W', by rw [hex]; exact x, v', q H' W' s' v'⟩
/-! ### tuple(range(..)), list(range(..)) -/
theorem rg_dp {W : Hp} (a b : Int) : DpAll K0 W (rgV a b) (rngL a (b - a).toNat) := by
  unfold rgV rngL
  generalize List.range (b - a).toNat = l
  induction l with
  | nil => exact .nil
  | cons n r ih => exact .cons (.int _) ih
theorem rngL_len (lo : Int) (n : Nat) : (rngL lo n).length = n := by unfold rngL; simp
theorem rg_ok {a b : Int} (h1 : okI a = true) (h2 : okI b = true) (h3 : (rngL a (b - a).toNat).length ≤ 16777216) : RgOk a b := by
  obtain ⟨z1, z2⟩ := okI_b h1
  obtain ⟨z3, z4⟩ := okI_b h2
  rw [rngL_len] at h3
  exact ⟨z1, z2, z3, z4, h3⟩
def mkR (tup : Bool) (ys : List PyData) : PyData := if tup then .tuple ys else .list ys
theorem de_rg1 {tup : Bool} {a : Expr} {p p2 pos2 : Pos} {f : Fn PyData} (hc : X.calm = true) (hg : Gl X (if tup then "tuple" else "list")) (hm : X.mg (if tup then "tuple" else "list") = none) (hg2 : Gl X "range") (hm2 : X.mg "range" = none) (ha : PE X a (tE C f)) (hs : starEach [a] X.env = (false, eval a X.env) :: starEach [] X.env) :
    PE X (.Call (.Name (if tup then "tuple" else "list") p) [.Call (.Name "range" p2) [a] [] pos2] [] pos) (tE C fun Γ S => (f Γ S).bind fun x S1 => match rngD [x] with
      | some ys => if ys.length ≤ 16777216 then .ok (mkR tup ys) S1 else .bad
      | none => .bad) := by
  have main : ∀ {σ : L2.St} {H : Hp} {Q : VK}, tE C (fun Γ S => (f Γ S).bind fun x S1 => match rngD [x] with
      | some ys => if ys.length ≤ 16777216 then .ok (mkR tup ys) S1 else .bad
      | none => .bad) σ H Q → tRg1 (tE C f) σ H fun i j H1 => RgOk i j ∧ ∀ q, H1 q = none → Q (.ref q) (upd H1 q (if tup then .tup (rgV i j) else .lst (rgV i j))) := fun {σ H Q} ⟨Γ, W, S, he, hw, p⟩ =>
    tG_then he hw p (fun c d S' h => h) fun x S1 v H1 W1 s1 v1 e1 r1 p1 => by
      cases r1 <;> try exact p1.elim
      rename_i j
      refine ⟨j, rfl, ?_⟩
      dsimp only [rngD] at p1
      cases e : okI j with
      | false => rw [e] at p1; exact p1.elim
      | true =>
        rw [e, if_pos (by rfl)] at p1
        obtain ⟨hl, p1⟩ := few_of p1
        have hl' : (rngL 0 (j - 0).toNat).length ≤ 16777216 := by simpa using hl
        refine ⟨rg_ok rfl e hl', fun q hq => ?_⟩
        have dd : DpAll K0 W1 (rgV 0 j) (rngL 0 j.toNat) := by simpa using rg_dp (W := W1) 0 j
        have ww : ∀ {o : HO} (b : Addr) (u : HO), W1 b = some u → upd W1 q o b = some u := fun b u h => by rw [upd_ne (ne_of_none h (v1.wnone hq))]; exact h
        cases tup with
        | true => exact p1 _ _ _ (s1.trans (Stp.new v1 hq)) (v1.new hq) (.tup (.of upd_same) (dpAll_mono ww dd))
        | false => exact p1 _ _ _ (s1.trans (Stp.new v1 hq)) (v1.new hq) (.lst (.of upd_same) (dpAll_mono ww dd))
  cases tup with
  | true => exact PE.imp (pe_tupRg hc hg hm (prg_1 hg2 hm2 ha hs) rfl) fun σ H Q q => main q
  | false => exact PE.imp (pe_listRg hc hg hm (prg_1 hg2 hm2 ha hs) rfl) fun σ H Q q => main q
theorem de_rg2 {tup : Bool} {a b : Expr} {p p2 pos2 : Pos} {f g : Fn PyData} (hc : X.calm = true) (hg : Gl X (if tup then "tuple" else "list")) (hm : X.mg (if tup then "tuple" else "list") = none) (hg2 : Gl X "range") (hm2 : X.mg "range" = none) (ha : PE X a (tE C f)) (hb : PE X b (tE C g)) (hs : starEach [a, b] X.env = (false, eval a X.env) :: starEach [b] X.env) (hs2 : starEach [b] X.env = (false, eval b X.env) :: starEach [] X.env)
    (hpl : (backTo pos2 (starEach [b] X.env)).any (·.1) = false) :
    PE X (.Call (.Name (if tup then "tuple" else "list") p) [.Call (.Name "range" p2) [a, b] [] pos2] [] pos) (tE C fun Γ S => (f Γ S).bind fun x S1 => (g Γ S1).bind fun y S2 => match rngD [x, y] with
      | some ys => if ys.length ≤ 16777216 then .ok (mkR tup ys) S2 else .bad
      | none => .bad) := by
  have main : ∀ {σ : L2.St} {H : Hp} {Q : VK}, tE C (fun Γ S => (f Γ S).bind fun x S1 => (g Γ S1).bind fun y S2 => match rngD [x, y] with
      | some ys => if ys.length ≤ 16777216 then .ok (mkR tup ys) S2 else .bad
      | none => .bad) σ H Q → tRg2 (tE C f) (tE C g) σ H fun i j H1 => RgOk i j ∧ ∀ q, H1 q = none → Q (.ref q) (upd H1 q (if tup then .tup (rgV i j) else .lst (rgV i j))) := fun {σ H Q} ⟨Γ, W, S, he, hw, p⟩ =>
    tG_then he hw p (fun c d S' h => h) fun x S1 v H1 W1 s1 v1 e1 r1 p1 => tG_then e1 v1 p1 (xq_stp (fun c d S' h => h) s1) fun y S2 u H2 W2 s2 v2 e2 r2 p2 => by
      cases r1 <;> try exact p2.elim
      cases r2 <;> try exact p2.elim
      rename_i i j
      refine ⟨i, j, rfl, rfl, ?_⟩
      dsimp only [rngD] at p2
      cases ei : okI i with
      | false => rw [ei] at p2; exact p2.elim
      | true =>
        cases ej : okI j with
        | false => rw [ei, ej] at p2; exact p2.elim
        | true =>
          rw [ei, ej, if_pos (by rfl)] at p2
          obtain ⟨hl, p2⟩ := few_of p2
          refine ⟨rg_ok ei ej hl, fun q hq => ?_⟩
          have dd : DpAll K0 W2 (rgV i j) (rngL i (j - i).toNat) := rg_dp i j
          have ww : ∀ {o : HO} (b : Addr) (u : HO), W2 b = some u → upd W2 q o b = some u := fun b u h => by rw [upd_ne (ne_of_none h (v2.wnone hq))]; exact h
          cases tup with
          | true => exact p2 _ _ _ ((s1.trans s2).trans (Stp.new v2 hq)) (v2.new hq) (.tup (.of upd_same) (dpAll_mono ww dd))
          | false => exact p2 _ _ _ ((s1.trans s2).trans (Stp.new v2 hq)) (v2.new hq) (.lst (.of upd_same) (dpAll_mono ww dd))
  cases tup with
  | true => exact PE.imp (pe_tupRg hc hg hm (prg_2 hg2 hm2 ha hb hs hs2 hpl) rfl) fun σ H Q q => main q
  | false => exact PE.imp (pe_listRg hc hg hm (prg_2 hg2 hm2 ha hb hs hs2 hpl) rfl) fun σ H Q q => main q
end
end PD
/-! P11: texts; what the checker looks at. -/
namespace PD
open PySem PySem.Spec PyProof.Rows L2
section
variable {X : Cx} {C : Cfg} {pos : Pos}
theorem pe_fn {e : Expr} {f g : Fn PyData} (h : PE X e (tE C f)) (hfg : ∀ Γ S, f Γ S = g Γ S) : PE X e (tE C g) := by
  have : f = g := funext fun Γ => funext fun S => hfg Γ S
  rw [← this]; exact h
theorem pt_fn {e : Expr} {f g : Fn Bool} (h : PT X e (tT C f)) (hfg : ∀ Γ S, f Γ S = g Γ S) : PT X e (tT C g) := by
  have : f = g := funext fun Γ => funext fun S => hfg Γ S
  rw [← this]; exact h
theorem pf_fn {e : Expr} {f g : Fn (List PyData)} (h : PE X e (tF C f)) (hfg : ∀ Γ S, f Γ S = g Γ S) : PE X e (tF C g) := by
  have : f = g := funext fun Γ => funext fun S => hfg Γ S
  rw [← this]; exact h
theorem pi_fn {tg e : Expr} {kp : (Hp → Hp → Prop) → Prop} {f g : Fn (List PyData)} (h : PI X tg e (tI C kp f)) (hfg : ∀ Γ S, f Γ S = g Γ S) : PI X tg e (tI C kp g) := by
  have : f = g := funext fun Γ => funext fun S => hfg Γ S
  rw [← this]; exact h
theorem ps_fn {e : Stmt} {H0 W0 : Hp} {f g : FnS} (h : PS X e (tS C H0 W0 f)) (hfg : ∀ Γ S, f Γ S = g Γ S) : PS X e (tS C H0 W0 g) := by
  have : f = g := funext fun Γ => funext fun S => hfg Γ S
  rw [← this]; exact h
theorem pss_fn {e : List Stmt} {H0 W0 : Hp} {f g : FnS} (h : PSs X e (tS C H0 W0 f)) (hfg : ∀ Γ S, f Γ S = g Γ S) : PSs X e (tS C H0 W0 g) := by
  have : f = g := funext fun Γ => funext fun S => hfg Γ S
  rw [← this]; exact h
theorem bind_bind {α β γ : Type} (r : Res α) (f : α → Draw → Res β) (g : β → Draw → Res γ) : (r.bind f).bind g = r.bind fun x S => (f x S).bind g := by cases r <;> rfl
/-! ### texts -/
theorem strs_dp {W : Hp} : ∀ (zs : List Str), DpAll K0 W (zs.map V.str) (zs.map .str)
  | [] => .nil
  | z :: r => .cons (.str z) (strs_dp r)
theorem strs_of {W : Hp} : ∀ {vs : List V} {ds : List PyData} {zs : List Str}, DpAll K0 W vs ds → strsOf ds = some zs → vs = zs.map V.str
  | _, _, _, .nil, h => by cases h; rfl
  | _, _, _, .cons (v := v) (d := d) a b, h => by
    cases a with
    | str x =>
      simp only [strsOf, Option.map_eq_some_iff] at h
      obtain ⟨r, h1, rfl⟩ := h
      rw [strs_of b h1]; rfl
    | _ => cases h
theorem de_join {o e : Expr} {apos : Pos} {f g : Fn PyData} (hK : X.K = C.K) (ho : PE X o (tE C f)) (he : PE X e (tR C g)) (hs : starEach [e] X.env = [(false, eval e X.env)]) (hb : attributeBase o "join" X.env (eval o X.env) = eval o X.env) (hl : (apos.endLine == pos.line) = true) :
    PE X (.Call (.Attribute o "join" apos) [e] [] pos) (tE C fun Γ S => (f Γ S).bind fun x S1 => if x.isStr then (g Γ S1).bind fun y S2 => lift (methD .join x y) S2 else .bad) :=
  PE.imp (pe_join ho he hs hb hl) fun σ H Q ⟨Γ, W, S, en, hw, p⟩ => tG_then en hw p (fun c d S' h => h) fun x S1 v H1 W1 s1 v1 e1 r1 p1 => by
    cases r1 with
    | str a =>
      refine ⟨⟨a, rfl⟩, tG_then e1 v1 p1 (xq_stp (fun c d S' h => h) s1) fun y S2 u H2 W2 s2 v2 e2 r2 p2 => ?_⟩
      cases y with
      | list ys =>
        obtain ⟨q, vs, rfl, h1, h2⟩ := r2.list
        cases ez : strsOf ys with
        | none => simp only [methD, ez] at p2; exact p2.elim
        | some zs =>
          simp only [methD, ez] at p2
          split at p2
          · rename_i hz
            rw [strs_of h2 ez] at h1
            exact ⟨a, q, zs, rfl, rfl, .inl (by rw [hK]; exact h1.sq v2), hz, p2 _ H2 W2 (s1.trans s2) v2 (.str _)⟩
          · exact p2.elim
      | _ => exact p2.elim
    | _ => exact p1.elim
theorem de_split {o e : Expr} {apos : Pos} {f g : Fn PyData} (ho : PE X o (tE C f)) (he : PE X e (tE C g)) (hs : starEach [e] X.env = [(false, eval e X.env)]) (hb : attributeBase o "split" X.env (eval o X.env) = eval o X.env) (hl : (apos.endLine == pos.line) = true) :
    PE X (.Call (.Attribute o "split" apos) [e] [] pos) (tE C fun Γ S => (f Γ S).bind fun x S1 => if x.isStr then (g Γ S1).bind fun y S2 => lift (methD .split x y) S2 else .bad) :=
  PE.imp (pe_split ho he hs hb hl) fun σ H Q ⟨Γ, W, S, en, hw, p⟩ => tG_then en hw p (fun c d S' h => h) fun x S1 v H1 W1 s1 v1 e1 r1 p1 => by
    cases r1 with
    | str a =>
      refine ⟨⟨a, rfl⟩, tG_then e1 v1 p1 (xq_stp (fun c d S' h => h) s1) fun y S2 u H2 W2 s2 v2 e2 r2 p2 => ?_⟩
      cases r2 with
      | str b =>
        simp only [methD] at p2
        split at p2
        · rename_i hz
          refine ⟨a, b, rfl, rfl, hz.1, by rw [sizeLine_eq]; exact hz.2, fun q hq => ?_⟩
          refine p2 _ _ (upd W2 q (.lst ((Txt.split a b).map V.str))) ((s1.trans s2).trans (Stp.new v2 hq)) (v2.new hq) (.lst (.of upd_same) (strs_dp _))
        · exact p2.elim
      | _ => exact p2.elim
    | _ => exact p1.elim
theorem de_starts {o e : Expr} {apos : Pos} {f g : Fn PyData} (ho : PE X o (tE C f)) (he : PE X e (tE C g)) (hs : starEach [e] X.env = [(false, eval e X.env)]) (hb : attributeBase o "startswith" X.env (eval o X.env) = eval o X.env) (hl : (apos.endLine == pos.line) = true) :
    PE X (.Call (.Attribute o "startswith" apos) [e] [] pos) (tE C fun Γ S => (f Γ S).bind fun x S1 => if x.isStr then (g Γ S1).bind fun y S2 => lift (methD .startswith x y) S2 else .bad) :=
  PE.imp (pe_m1 F.slot_str_startswith F.type_str_startswith mt_startswith ho he hs hb hl) fun σ H Q ⟨Γ, W, S, en, hw, p⟩ => tG_then en hw p (fun c d S' h => h) fun x S1 v H1 W1 s1 v1 e1 r1 p1 => by
    cases r1 with
    | str a =>
      refine ⟨⟨a, rfl⟩, tG_then e1 v1 p1 (xq_stp (fun c d S' h => h) s1) fun y S2 u H2 W2 s2 v2 e2 r2 p2 => ?_⟩
      cases r2 with
      | str b => exact ⟨a, b, rfl, rfl, p2 _ H2 W2 (s1.trans s2) v2 (.bl _)⟩
      | _ => exact p2.elim
    | _ => exact p1.elim
/-! ### forms -/
def notStar : Expr → Bool
  | .Starred .. => false
  | _ => true
theorem star_cons {x : Expr} (h : notStar x = true) (xs : List Expr) (env : PySem.Env) : starEach (x :: xs) env = (false, eval x env) :: starEach xs env := by
  cases x <;> first | rfl | cases h
theorem star_any : ∀ {xs : List Expr}, xs.all notStar = true → ∀ (p : Pos) (env : PySem.Env), (backTo p (starEach xs env)).any (·.1) = false
  | [], _, _, _ => rfl
  | x :: xs, h, p, env => by
    rw [List.all_cons, Bool.and_eq_true] at h
    rw [star_cons h.1]
    have := star_any h.2 p env
    unfold backTo at this ⊢
    rw [List.map_cons, List.any_cons, this]
    rfl
theorem asg_cons {x : Expr} (h : notStar x = true) (xs : List Expr) (env : PySem.Env) : assignEach (x :: xs) env = (false, assign x env) :: assignEach xs env := by
  cases x <;> first | rfl | cases h
def notSlice : Expr → Bool
  | .Slice .. => false
  | _ => true
theorem plain_ix {b : Expr} (h : notSlice b = true) : PlainIx b := by
  cases b <;> first | (intro o i; rfl) | cases h
def notSet : Expr → Bool
  | .Set .. => false
  | _ => true
theorem folded {e : Expr} (h : notSet e = true) (env : PySem.Env) (x : Value) : foldedSetIterable e env x = pure x := by
  cases e <;> first | rfl | cases h
def plainT : Expr → Bool
  | .UnaryOp .Not _ _ => false
  | .BoolOp .. => false
  | .IfExp .. => false
  | .Compare .. => false
  | _ => true
theorem plain_true {e : Expr} (h : plainT e = true) (env : PySem.Env) (whole : Sem Value) : isTrue e env whole = (do let v ← whole; standAt e.pos; holding [v] (truthy v)) := by
  cases e with
  | UnaryOp op a p => cases op <;> first | rfl | cases h
  | _ => first | rfl | cases h
def notComp : Expr → Bool
  | .ListComp .. => false
  | .SetComp .. => false
  | .DictComp .. => false
  | _ => true
theorem no_swap {e : Expr} (h : notComp e = true) (t : Option Expr) (l : Nat) (env : PySem.Env) : swapsWith e t l env = pure false := by
  cases e <;> first | rfl | cases h
def plainO : Expr → Bool
  | .Name .. => true
  | .Constant .. => true
  | .Subscript .. => true
  | _ => false
theorem plain_base {o : Expr} (h : plainO o = true) (nm : Str) (env : PySem.Env) : attributeBase o nm env (eval o env) = eval o env := by
  cases o <;> first | rfl | cases h
end
end PD
/-! PS1: sorted(set(..)) of tuples of ints of any lengths. -/
namespace PD
open PySem PySem.Spec PyProof.Rows L2
theorem alike_ints : ∀ (a b : List Int), PySem.W.alikeAll (a.map .int) (b.map .int) = true
  | [], _ => by simp [PySem.W.alikeAll]
  | _ :: _, [] => by simp [PySem.W.alikeAll]
  | x :: xs, y :: ys => by simp [PySem.W.alikeAll, PySem.W.alike, alike_ints xs ys]
theorem row_depth (ns : List Int) : (rowD ns).depth ≤ 5 := by
  have : ∀ l : List Int, PyData.depthAll (l.map .int) ≤ 2 := fun l => by
    induction l with
    | nil => simp [PyData.depthAll]
    | cons x r ih => simp only [List.map_cons, PyData.depthAll, PyData.depth]; omega
  simp only [rowD, PyData.depth]
  have := this ns
  omega
theorem dataLe_row (a b : List Int) : PySem.W.dataLe false id (rowD a) (rowD b) = decide (a ≤ b) := by
  have := PySem.W.dataLe_rows (β := List Int) (fun x => x)
  have e : PySem.W.dataLe false id (rowD a) (rowD b) = PySem.W.dataLe false (fun b : List Int => .list (b.map .int)) a b := rfl
  rw [e, this]
theorem ints_read {h : Heap} : ∀ {ns : List Int} {vs : List Value}, IntsAre vs ns → ReadsAll h vs (ns.map .int) []
  | _, _, .nil => .nil
  | _, _, .cons n t r => ReadsAll.cons (.int n t) (ints_read r)
theorem row_reads {P : Program} {w : World} {h : Heap} {k : List Int} {b : Addr} (x : IsT P w h k b) : Reads h (.ref b) (rowD k) [] := by
  obtain ⟨o, items, n, ho, hc, hd, hi⟩ := x
  exact .tuple ho hc hd (ints_read (ints_of_items hi))
theorem each_refs {L : List (Addr × List Int)} : PySem.W.EachIs (fun (v : Value) (b : Addr × List Int) => v = .ref b.1) (L.map fun q => Value.ref q.1) L := by
  induction L with
  | nil => exact .nil
  | cons q r ih => exact .cons rfl ih
theorem each_eq : ∀ {vs : List Value} {L : List (Addr × List Int)}, PySem.W.EachIs (fun (v : Value) (b : Addr × List Int) => v = .ref b.1) vs L → vs = L.map fun q => Value.ref q.1
  | _, _, .nil => rfl
  | _, _, .cons a b => by rw [a, each_eq b]; rfl
theorem perm_back {α β : Type} (f : α → β) {us vs : List β} (h : us.Perm vs) : ∀ {L : List α}, us = L.map f → ∃ L1 : List α, L.Perm L1 ∧ vs = L1.map f := by
  induction h with
  | nil => intro L e; cases L with | nil => exact ⟨[], .nil, rfl⟩ | cons _ _ => cases e
  | cons x _ ih =>
    intro L e
    cases L with
    | nil => cases e
    | cons l r =>
      rw [List.map_cons] at e
      injection e with e1 e2
      obtain ⟨L1, p, q⟩ := ih e2
      exact ⟨l :: L1, p.cons l, by rw [List.map_cons, e1, q]⟩
  | swap x y l =>
    intro L e
    match L, e with
    | a :: b :: r, e =>
      simp only [List.map_cons, List.cons.injEq] at e
      obtain ⟨e1, e2, e3⟩ := e
      exact ⟨b :: a :: r, .swap b a r, by simp [e1, e2, e3]⟩
    | [], e => cases e
    | [_], e => cases e
  | trans _ _ ih1 ih2 =>
    intro L e
    obtain ⟨L1, p1, q1⟩ := ih1 e
    obtain ⟨L2, p2, q2⟩ := ih2 q1
    exact ⟨L2, p1.trans p2, q2⟩
section
variable {P : Program} {w : World} {A : Around} {E : Value → Shared → Prop} {s : Shared}
set_option maxHeartbeats 4000000 in
theorem sorted_setD {a : Addr} {L : List (Addr × List Int)} {es : Array (Int × Value)} {ep : Nat} {t : SetTable} {Q : Value → Shared → Prop} (R : SetTR P w s.heap a L es ep t) (hh : A.handled = none) (hu : A.units + 150 < cLine) (ne : ∀ p ∈ L, p.2 ≠ [])
    (hQ : ∀ s' p (out : Array Value) (c : Nat) (L' : List (Addr × List Int)), (∀ b o, s.heap.get? b = some o → s'.heap.get? b = some o) → s'.gens = s.gens → s'.os = s.os → s.heap.objs.size ≤ p → s'.heap.get? p = some (seqObj "list" out c) → out.toList = L'.map (fun q => Value.ref q.1) → L'.Perm L → L'.Pairwise (fun q r => leB q.2 r.2 = true) → Q (.ref p) s') :
    wpAny (model P w) A (call (.builtin "sorted") [.ref a]) Q E s := by
  obtain ⟨o, ho, hex, hd⟩ := R.ob
  have hsz := R.size
  have hfew := R.few
  refine Calls.call_function_entry kind_sorted plain_sorted entry_sorted (args_sorted1 _) ?_
  unfold Builtin.«sorted»
  refine wpAny_bind (m := checkCount "sorted" 1 1 _) (wpAny_pure ?_)
  refine wpAny_bind (collect_set (A := A.in1) hh ⟨o, ho, hex.1, hd⟩ R.fits (by unfold scanBound; omega) R.tab.ris R.led ?_)
  intro s1 vs k1 hz g1 o1 pm
  have hes : es.toList.map (·.2) = L.map fun q => Value.ref q.1 := by rw [R.rows]; unfold rowsOf; rw [List.map_map]; rfl
  rw [hes] at pm
  obtain ⟨L1, p1, rfl⟩ := perm_back (fun q : Addr × List Int => Value.ref q.1) pm.symm (L := L) rfl
  have len1 : L1.length < 64 := by rw [← p1.length_eq]; exact hfew
  refine wpAny_bind (wpAny_newList ?_ (by rw [List.length_map, sizeLine_eq]; omega))
  have new : (s1.heap.push (seqObj "list" (L1.map fun q => Value.ref q.1).toArray 0)).get? s1.heap.objs.size = some (seqObj "list" (L1.map fun q => Value.ref q.1).toArray 0) := Heap.get?_push_size _ rfl
  have rd : ∀ q ∈ L1, Reads (s1.heap.push (seqObj "list" (L1.map fun q => Value.ref q.1).toArray 0)) (.ref q.1) (rowD q.2) [] := fun q hq => row_reads (P := P) (w := w) (isT_keep (R.tup q (p1.mem_iff.mpr hq)) fun b u e => Heap.get?_push_of_some _ (k1 b u e))
  have er : PySem.W.EachIs (fun (v : Value) (b : Addr × List Int) => ∃ as, Reads (s1.heap.push (seqObj "list" (L1.map fun q => Value.ref q.1).toArray 0)) v (rowD b.2) as ∧ s1.heap.objs.size ∉ as) (L1.map fun q => Value.ref q.1) L1 := by
    have go : ∀ l : List (Addr × List Int), (∀ q ∈ l, q ∈ L1) → PySem.W.EachIs (fun (v : Value) (b : Addr × List Int) => ∃ as, Reads (s1.heap.push (seqObj "list" (L1.map fun q => Value.ref q.1).toArray 0)) v (rowD b.2) as ∧ s1.heap.objs.size ∉ as) (l.map fun q => Value.ref q.1) l := fun l => by
      induction l with
      | nil => intro _; exact .nil
      | cons q r ih => intro h; exact .cons ⟨[], rd q (h q List.mem_cons_self), by simp⟩ (ih fun x hx => h x (List.mem_cons_of_mem _ hx))
    exact go L1 fun q hq => hq
  refine wpAny_bind (wpAny_holding (PySem.W.list_sort_data (s := { s1 with heap := s1.heap.push (seqObj "list" (L1.map fun q => Value.ref q.1).toArray 0) }) (enc := fun b : Addr × List Int => rowD b.2) new each_refs er (.of fun b b' => alike_ints b.2 b'.2) (.inl fun d hd => ?_) (by rw [sizeLine_eq]; omega) (fun b hb => ?_) fun out hl eo => ?_))
  · obtain ⟨b, hb, rfl⟩ := List.mem_map.mp hd
    obtain ⟨z, r, e⟩ := List.exists_cons_of_ne_nil (ne b (p1.mem_iff.mpr hb))
    exact ⟨.int z, r.map .int, by rw [e]; rfl⟩
  · have := row_depth b.2
    show A.units + 1 + 1 + (rowD b.2).depth < cLine
    omega
  · obtain ⟨c, hc⟩ := sortedHeap_at (vs := L1.map fun q => Value.ref q.1) (out := List.toArray out) new
    have eo' := each_eq eo
    have tr : ∀ q r t : Addr × List Int, PySem.W.dataLe false (fun b : Addr × List Int => rowD b.2) q r = true → PySem.W.dataLe false (fun b : Addr × List Int => rowD b.2) r t = true → PySem.W.dataLe false (fun b : Addr × List Int => rowD b.2) q t = true := fun q r t h1 h2 => by
      have h1 : decide (q.2 ≤ r.2) = true := by rw [← dataLe_row]; exact h1
      have h2 : decide (r.2 ≤ t.2) = true := by rw [← dataLe_row]; exact h2
      have h3 : decide (q.2 ≤ t.2) = true := decide_eq_true (List.le_trans (of_decide_eq_true h1) (of_decide_eq_true h2))
      rw [← dataLe_row] at h3
      exact h3
    have tt : ∀ q r : Addr × List Int, (PySem.W.dataLe false (fun b : Addr × List Int => rowD b.2) q r || PySem.W.dataLe false (fun b : Addr × List Int => rowD b.2) r q) = true := fun q r => by
      have h : (decide (q.2 ≤ r.2) || decide (r.2 ≤ q.2)) = true := by rcases List.le_total q.2 r.2 with z | z <;> simp [z]
      rw [← dataLe_row, ← dataLe_row] at h
      exact h
    refine wpAny_pure ⟨_, rfl, hQ _ s1.heap.objs.size (List.toArray out) c (L1.mergeSort (PySem.W.dataLe false fun b : Addr × List Int => rowD b.2)) (fun b u e => ?_) g1 o1 hz hc (by simpa using eo') ((List.mergeSort_perm _ _).trans p1.symm) ?_⟩
    · have q := k1 b u e
      have lt := Heap.lt_size q
      show (sortedHeap _ s1.heap.objs.size _ _).get? b = some u
      rw [sortedHeap_old (Nat.ne_of_lt lt) (by rw [size_push']; exact Nat.lt_succ_of_lt lt)]
      exact Heap.get?_push_of_some _ q
    · refine (List.pairwise_mergeSort tr tt L1).imp fun {q r} h => ?_
      have h : PySem.W.dataLe false id (rowD q.2) (rowD r.2) = true := h
      rw [dataLe_row] at h
      exact h
end

/-! ### the unlike ones -/
theorem mem_dd {α : Type} [DecidableEq α] {x : α} : ∀ {l : List α}, x ∈ dd l ↔ x ∈ l
  | [] => Iff.rfl
  | y :: l => by
    unfold dd
    split
    · rename_i h
      rw [mem_dd (l := l), List.mem_cons]
      exact ⟨.inr, fun z => z.elim (fun e => e ▸ h) id⟩
    · rw [List.mem_cons, List.mem_cons, mem_dd (l := l)]
theorem nodup_dd {α : Type} [DecidableEq α] : ∀ (l : List α), (dd l).Nodup
  | [] => List.nodup_nil
  | y :: l => by
    unfold dd
    split
    · exact nodup_dd l
    · rename_i h
      exact List.nodup_cons.mpr ⟨fun z => h (mem_dd.mp z), nodup_dd l⟩
theorem len_dd {α : Type} [DecidableEq α] : ∀ (l : List α), (dd l).length ≤ l.length
  | [] => Nat.le_refl _
  | y :: l => by
    have := len_dd l
    unfold dd
    split <;> simp only [List.length_cons] <;> omega
theorem one_row {α : Type} {lt : α → α → Prop} (asy : ∀ a b, lt a b → ¬ lt b a) : ∀ {l m : List α}, l.Pairwise lt → m.Pairwise lt → (∀ x, x ∈ l ↔ x ∈ m) → l = m
  | [], [], _, _, _ => rfl
  | [], b :: m, _, _, h => by have := (h b).mpr List.mem_cons_self; cases this
  | a :: l, [], _, _, h => by have := (h a).mp List.mem_cons_self; cases this
  | a :: l, b :: m, p, q, h => by
    have irr : ∀ a, ¬ lt a a := fun a z => asy a a z z
    obtain ⟨p1, p2⟩ := List.pairwise_cons.mp p
    obtain ⟨q1, q2⟩ := List.pairwise_cons.mp q
    have e : a = b := by
      rcases List.mem_cons.mp ((h a).mp List.mem_cons_self) with z | z
      · exact z
      · rcases List.mem_cons.mp ((h b).mpr List.mem_cons_self) with y | y
        · exact y.symm
        · exact absurd (q1 a z) (asy _ _ (p1 b y))
    subst e
    congr 1
    refine one_row asy p2 q2 fun x => ⟨fun z => ?_, fun z => ?_⟩
    · rcases List.mem_cons.mp ((h x).mp (List.mem_cons_of_mem _ z)) with y | y
      · exact absurd (y ▸ p1 x z) (irr a)
      · exact y
    · rcases List.mem_cons.mp ((h x).mpr (List.mem_cons_of_mem _ z)) with y | y
      · exact absurd (y ▸ q1 x z) (irr a)
      · exact y
theorem le_trans_row : ∀ a b c : List Int, leB a b = true → leB b c = true → leB a c = true := fun a b c h1 h2 => decide_eq_true (List.le_trans (of_decide_eq_true h1) (of_decide_eq_true h2))
theorem le_total_row : ∀ a b : List Int, (leB a b || leB b a) = true := fun a b => by
  unfold leB
  rcases List.le_total a b with z | z <;> simp [z]
/-- rows in order, none twice: one after another -/
theorem up_rows {ls : List (List Int)} (p : ls.Pairwise (fun a b => leB a b = true)) (nd : ls.Nodup) : ls.Pairwise (· < ·) := by
  refine (List.pairwise_and_iff.mpr ⟨p, nd⟩).imp fun {a b} h => ?_
  rcases List.le_iff_lt_or_eq.mp (of_decide_eq_true h.1 : a ≤ b) with z | z
  · exact z
  · exact absurd z h.2
theorem ssort_up (rs : List (List Int)) : ((dd rs).mergeSort leB).Pairwise (· < ·) := up_rows (List.pairwise_mergeSort le_trans_row le_total_row _) ((List.mergeSort_perm _ _).nodup_iff.mpr (nodup_dd _))
theorem ssort_mem {rs : List (List Int)} {x : List Int} : x ∈ (dd rs).mergeSort leB ↔ x ∈ rs := by rw [(List.mergeSort_perm _ _).mem_iff, mem_dd]
theorem ssortI_up (ns : List Int) : ((dd ns).mergeSort leI).Pairwise (· < ·) := by
  have tr : ∀ a b c : Int, leI a b = true → leI b c = true → leI a c = true := fun a b c h1 h2 => decide_eq_true (Int.le_trans (of_decide_eq_true h1) (of_decide_eq_true h2))
  have tt : ∀ a b : Int, (leI a b || leI b a) = true := fun a b => by
    unfold leI
    rcases Int.le_total a b with z | z <;> simp [z]
  have p : ((dd ns).mergeSort leI).Pairwise (fun a b => leI a b = true) := List.pairwise_mergeSort tr tt _
  refine (List.pairwise_and_iff.mpr ⟨p, (List.mergeSort_perm _ leI).nodup_iff.mpr (nodup_dd ns)⟩).imp fun {a b} h => ?_
  have h1 : a ≤ b := of_decide_eq_true h.1
  have h2 := h.2
  omega
theorem ssortI_mem {ns : List Int} {x : Int} : x ∈ (dd ns).mergeSort leI ↔ x ∈ ns := by rw [(List.mergeSort_perm _ _).mem_iff, mem_dd]
theorem row_asy : ∀ a b : List Int, a < b → ¬ b < a := fun a b h h' => absurd (List.lt_trans h h') (List.lt_irrefl a)

/-! ### the calls -/
section
variable {X : Cx}
def rSortedD (K : PySem.W.Frag) (P : Program) (w : World) : List V → Hp → VK → Prop := fun vs H Q => ∃ (a : Addr) (L : List (Addr × List Int)), vs = [V.ref a] ∧ H a = some (SetTO P w a L) ∧ (∀ p ∈ L, SqT K H p.1 (p.2.map V.int)) ∧ (∀ p ∈ L, p.2 ≠ []) ∧
  ∀ (M : List (Addr × List Int)) (p : Addr), M.Perm L → (M.map (·.2)).Nodup → M.length < 64 → M.Pairwise (fun q r => leB q.2 r.2 = true) → H p = none → Q (.ref p) (upd H p (.lst (M.map fun q => V.ref q.1)))
theorem cr_sortedD (hc : X.calm = true) (hu : X.A.units + 150 < cLine) : CallR X (.builtin "sorted") (rSortedD X.K X.prog X.w) := by
  rintro pins s σ H _ us Q I r ⟨a, L, rfl, ha, hk, hne, q⟩
  obtain ⟨es, ep, t, R⟩ := SetT0.full (P := X.prog) (w := X.w) (I.hok a _ ha).1 fun p hp => I.isT (hk p hp)
  rw [Vals.ref1 r]
  refine sorted_setD R (I.ok.hd hc) hu hne fun s' p out c M k g o hp hg hout pm pw => ?_
  have few : M.length < 64 := by rw [pm.length_eq]; exact R.few
  have len : (M.map fun q => V.ref q.1).length ≤ sizeLine := by rw [List.length_map, sizeLine_eq]; omega
  have pn : H p = none := I.hok.fresh hp
  have vals : Vals (M.map fun q => V.ref q.1) out.toList := hout ▸ vals_of_refs M
  obtain ⟨h1, g1, d1, t1, o1⟩ := s'
  obtain ⟨h0, g0, d0, t0, o0⟩ := s
  cases o
  cases g
  exact ⟨.ref p, upd H p (.lst (M.map fun q => V.ref q.1)), I.call (ch := []) (Un.laid k hp pn) (I.hok.laid k hp ⟨len, out.toList, c, vals, hg⟩) I.bare (fun _ z => nomatch z), rfl, q M p pm ((pm.map (·.2)).nodup_iff.mpr R.nd) few pw pn⟩
def rSetTupI (K : PySem.W.Frag) (w : World) : List V → Hp → VK → Prop := fun xs H Q => ∃ (l : Addr) (ns : List Int), xs = [V.ref l] ∧ SqT K H l (ns.map V.int) ∧ ns.length < 64 ∧
  ∀ a c, H a = none → c ≤ ns.length → Q (.ref a) (upd H a (SetO w a (fun j => decide (j ∈ ns)) c))
theorem cr_setTupI (hc : X.calm = true) : CallR X (.type "set") (rSetTupI X.K X.w) := by
  rintro pins s σ H _ us Q I r ⟨l, ns, rfl, hl, hf, q⟩
  rw [Vals.ref1 r]
  obtain ⟨its, rv, pl, hz⟩ := I.tuple hl
  have hn : H s.heap.objs.size = none := I.hok.fresh (Nat.le_refl _)
  refine call_set_tupI (P := X.prog) (w := X.w) ns (I.ok.hd hc) pl (by simpa using rv.ints) (by unfold scanBound; omega) fun h' tk c R hcl k => ?_
  exact ⟨.ref s.heap.objs.size, _, I.laid (t' := tk) k (Nat.le_refl _) (setO_new R), rfl, q _ c hn hcl⟩
def rSet2 (K : PySem.W.Frag) (P : Program) (w : World) : List V → Hp → VK → Prop := fun xs H Q => rSetOfT K P w xs H Q ∨ rSetTupI K w xs H Q
def rSorted2 (K : PySem.W.Frag) (P : Program) (w : World) : List V → Hp → VK → Prop := fun xs H Q => rSortedD K P w xs H Q ∨ rSortedSet w xs H Q
theorem cr_set2 (hc : X.calm = true) (hu : X.A.units + 150 < cLine) : CallR X (.type "set") (rSet2 X.K X.prog X.w) := fun pins s σ H xs us Q I r h =>
  h.elim (cr_setOfT hc (by omega) pins s σ H xs us Q I r) (cr_setTupI hc pins s σ H xs us Q I r)
theorem cr_sorted2 (hc : X.calm = true) (hu : X.A.units + 150 < cLine) : CallR X (.builtin "sorted") (rSorted2 X.K X.prog X.w) := fun pins s σ H xs us Q I r h =>
  h.elim (cr_sortedD hc hu pins s σ H xs us Q I r) (cr_sortedSet hc pins s σ H xs us Q I r)
theorem rows_dp {W : Hp} : ∀ {rs : List (List Int)} {vs : List V}, DpAll K0 W vs (rs.map rowD) → ∃ ks : List (Addr × List Int), vs = ks.map (fun p => V.ref p.1) ∧ rs = ks.map (·.2) ∧ ∀ p ∈ ks, SqT K0 W p.1 (p.2.map V.int)
  | [], _, h => by cases h; exact ⟨[], rfl, rfl, fun _ z => nomatch z⟩
  | r :: rs, _, .cons a b => by
    obtain ⟨ks, h1, h2, h3⟩ := rows_dp b
    cases a with
    | tup ha hb =>
      rename_i p us
      cases dpAll_ints hb
      exact ⟨(p, r) :: ks, by rw [h1]; rfl, by rw [h2]; rfl, fun q hq => by
        rcases List.mem_cons.mp hq with rfl | hq
        · exact ha
        · exact h3 q hq⟩
theorem rowsOfD_some : ∀ {ds : List PyData} {rs : List (List Int)}, rowsOfD ds = some rs → ds = rs.map rowD
  | [], _, h => by cases h; rfl
  | d :: r, rs, h => by
    unfold rowsOfD at h
    split at h
    · rename_i e; cases e
    · rename_i xs r' e
      cases e
      split at h
      · rename_i ns ss e1 e2
        cases h
        rw [intsOf_some e1, rowsOfD_some e2]
        rfl
      · cases h
    · cases h
theorem rows_dpAll {W : Hp} : ∀ {ks : List (Addr × List Int)}, (∀ p ∈ ks, SqT K0 W p.1 (p.2.map V.int)) → DpAll K0 W (ks.map fun p => V.ref p.1) ((ks.map (·.2)).map rowD)
  | [], _ => .nil
  | p :: ks, h => .cons (.tup (h p List.mem_cons_self) (ints_dpAll _)) (rows_dpAll fun q hq => h q (List.mem_cons_of_mem _ hq))
theorem de_sset {C : Cfg} {e : Expr} {f : Fn PyData} {p p2 q pos : Pos} (hK : X.K = C.K) (hc : X.calm = true) (hu : X.A.units + 200 < cLine) (hg : Gl X "sorted") (hm : X.mg "sorted" = none) (hg2 : Gl X "set") (hm2 : X.mg "set" = none) (ha : PE X e (tR C f))
    (na : starEach [e] X.env = (false, eval e X.env) :: starEach [] X.env) : PE X (.Call (.Name "sorted" p) [.Call (.Name "set" p2) [e] [] q] [] pos) (tE C fun Γ S => (f Γ S).bind fun x S1 => lift (ssetD x) S1) := by
  have k1 : PE X (.Call (.Name "set" p2) [e] [] q) (tCB (rSet2 X.K X.prog X.w) (tCons (tR C f) tNil)) := pe_callTy (cr_set2 hc (by omega)) hg2 hm2 PyProof.Rows.boot_set (pa_cons ha pa_nil na) (by decide) (by decide) na rfl
  have k2 := pe_callB (pos := pos) (p := p) (cr_sorted2 (X := X) hc (by omega)) hg hm PyProof.Rows.boot_sorted (pa_cons k1 pa_nil rfl) (by decide) (by decide) rfl rfl
  refine PE.imp k2 fun σ H Q ⟨Γ, W, S, he, hw, pp⟩ => ?_
  refine tG_then he hw pp (fun c d S' h => h) fun x S1 v H1 W1 s1 v1 e1 r1 p1 => ?_
  unfold ssetD at p1
  split at p1
  · rename_i xs
    split at p1
    · rename_i rs e2
      split at p1
      · rename_i hl
        cases rowsOfD_some e2
        obtain ⟨l, vs, rfl, h1, h2⟩ := r1.list
        obtain ⟨ks, rfl, rfl, h3⟩ := rows_dp h2
        have sq := h1.sq v1
        rw [← hK] at sq
        rw [List.length_map, List.all_eq_true] at hl
        refine .inl ⟨l, ks, rfl, sq, fun y hy => sqT0 (sqT_mono v1.sub (h3 y hy)), hl.1, fun a L hn hs hall => ?_⟩
        have v2 := v1.newH (o := SetTO X.prog X.w a L) hn
        refine .inl ⟨a, L, rfl, upd_same, fun y hy => sqT0 (sqT_mono v2.sub (h3 y (hs y hy))), fun y hy z => ?_, fun M pl pm nd hl64 pw hpn => ?_⟩
        · have := hl.2 y.2 (List.mem_map.mpr ⟨y, hs y hy, rfl⟩)
          rw [z] at this
          cases this
        · have v3 := v2.new (o := .lst (M.map fun q => V.ref q.1)) hpn
          have key : M.map (·.2) = (dd (ks.map (·.2))).mergeSort leB := one_row row_asy (up_rows (List.pairwise_map.mpr pw) nd) (ssort_up _) fun y => by
            rw [ssort_mem]
            constructor
            · intro hy
              obtain ⟨z, hz, rfl⟩ := List.mem_map.mp hy
              exact List.mem_map.mpr ⟨z, hs z (pm.mem_iff.mp hz), rfl⟩
            · intro hy
              obtain ⟨z, hz, rfl⟩ := List.mem_map.mp hy
              exact ((pm.map (·.2)).mem_iff).mpr (hall z hz)
          refine p1 (.ref pl) _ _ ((s1.trans (Stp.newH v1 hn)).trans (Stp.new v2 hpn)) v3 ?_
          rw [← key]
          refine .lst (.inl (.inl upd_same)) (dpAll_mono (fun b o e => ?_) (rows_dpAll fun y hy => h3 y (hs y (pm.mem_iff.mp hy))))
          rw [upd_ne (ne_of_none e (v2.wnone hpn))]
          exact e
      · exact p1.elim
    · exact p1.elim
  · rename_i xs
    split at p1
    · rename_i ns e2
      split at p1
      · rename_i hl
        cases intsOf_some e2
        obtain ⟨l, vs, rfl, h1, h2⟩ := r1.tuple
        cases dpAll_ints h2
        have sq : SqT X.K H1 l (ns.map V.int) := sqT0 (sqT_mono v1.sub h1)
        refine .inr ⟨l, ns, rfl, sq, hl, fun a c hn hcl => ?_⟩
        have v2 := v1.newH (o := SetO X.w a (fun j => decide (j ∈ ns)) c) hn
        refine .inr ⟨a, _, c, rfl, upd_same, by omega, fun ms pl pw hm hlen hpn => ?_⟩
        have v3 := v2.new (o := .lst (ms.map V.int)) hpn
        have key : ms = (dd ns).mergeSort leI := one_row (fun a b (h : a < b) (h' : b < a) => by omega) pw (ssortI_up _) fun y => by
          rw [ssortI_mem, hm y, decide_eq_true_eq]
        refine p1 (.ref pl) _ _ ((s1.trans (Stp.newH v1 hn)).trans (Stp.new v2 hpn)) v3 ?_
        rw [← key]
        exact .lst (.inl (.inl upd_same)) (ints_dpAll _)
      · exact p1.elim
    · exact p1.elim
  · exact p1.elim
end
end PD
set_option maxHeartbeats 1000000
/-! PR1: an error of the text is made. -/
namespace PD
open PySem PySem.Spec PyProof.Rows L2

section
variable {prog : Program} {w : World} {A : Around} {E : Value → Shared → Prop} {hp : Heap} {g : Array GenState} {d : Drawn} {t : Nat} {os : OsState} {K : PySem.W.Frag}
/-- self.name = v on an exception that has no dict yet, over any built-in class -/
theorem osaX {R : Result → Shared → Prop} {name : Str} {tk : Tok} {v : Value} {x C : Addr} {fv : Array Value} {cd : ClassData} {B : String} {bmB : List Value} (SF : StoreFacts B bmB "object.__setattr__" "object") (X : K.In hp)
    (hx : hp.get? x = some { cls := .ref C, data := .fields fv }) (hov : PySem.W.excOver K C bmB = true) (hcd : PySem.W.clsIn K C = some cd) (hh : cd.hasDict = true) (ha : PySem.W.takerIn K C name = some none)
    (hq : ∀ h' tk' dx, (∀ b o, b ≠ x → hp.get? b = some o → h'.get? b = some o) → hp.objs.size ≤ dx → dx ≠ x → h'.get? x = some { cls := .ref C, dict := some dx, data := .fields fv } →
      h'.Ns1 dx (fun y => if y = name then some v else none) → R (.ok (.ret .none)) ⟨h', g, d, tk', os⟩) :
    codeAny (model prog w) A (.call (.builtin "object.__setattr__") ⟨[.ref x, .str name tk, v], []⟩) R ⟨hp, g, d, t, os⟩ := by
  have I : PySem.W.InstAt hp x { cls := .ref C, data := .fields fv } C none := ⟨hx, rfl, rfl, trivial⟩
  have hxs : x ≠ hp.objs.size := Nat.ne_of_lt (Heap.lt_size hx)
  refine PySem.W.osa_openX SF (s := ⟨hp, g, d, t, os⟩) X I hov ha fun b => ?_
  have hcls : PySem.W.Looks (model prog w) hp (classData C) cd := PySem.W.looks_clsIn X hcd
  obtain ⟨nm, bs, mro, ns, qn, hd, sn, sb, ab, col, del⟩ := cd
  dsimp only at hh
  subst hh
  show wpAny _ _ (Builtin.ObjectAttr.storeInOwnDict (.ref x) (.ref C) (.str name tk) name v b) _ _ _
  unfold Builtin.ObjectAttr.storeInOwnDict Builtin.ObjectAttr.ownDictForStores
  cases b
  all_goals repeat (first | with_reducible refine HandSPX.store_in_new ?_ ?_ | with_reducible refine wpAny_loadPart_at hx ?_ | with_reducible refine hcls.at ?_ | wp_step)
  all_goals first
    | exact ⟨_, #[], _, (Heap.get?_update_ne _ _ _ _ hxs.symm).trans (Heap.get?_push_at rfl rfl), rfl, fun e he => absurd he (by simp), fun _ => rfl⟩
    | (intro h' tk' hn' hs
       have hx₁ : (hp.push { cls := .type "dict", data := .dict #[] }).get? x = some { cls := .ref C, data := .fields fv } := Heap.get?_push_of_some _ hx
       refine hq h' tk' hp.objs.size (fun b o hb ho => ?_) (Nat.le_refl _) hxs.symm ?_ hn'
       · exact (hs.2 b (Nat.ne_of_lt (Heap.lt_size ho))).trans ((Heap.get?_update_ne _ _ _ _ hb).trans (Heap.get?_push_of_some _ ho))
       · exact (hs.2 x hxs).trans (Heap.get?_update_self _ hx₁ rfl))
end

/-- a body of an error's __init__: it keeps its argument under a name, or hands it on -/
inductive InitB (self par : Str) : Option Str → List Stmt → Prop where
  | fld {f m : Str} {j : Nat} {p0 p1 p2 p3 p4 p5 p6 p7 p8 p9 : Pos} (hl : (p2.endLine == p4.line) = true) : InitB self par (some f) [.Expr (.Call (.Attribute (.Call (.Name "super" p0) [] [] p1) "__init__" p2) [.Constant (.str m) j p3] [] p4) p5, .Assign [.Attribute (.Name self p6) f p7] (.Name par p8) p9]
  | non {p0 p1 p2 p3 p4 p5 : Pos} (hl : (p2.endLine == p4.line) = true) : InitB self par none [.Expr (.Call (.Attribute (.Call (.Name "super" p0) [] [] p1) "__init__" p2) [.Name par p3] [] p4) p5]

/-- what the written part says of an error's class -/
structure ErrD where
  B : String
  newId : String
  initId : String
  bmB : List Value
  fI : Addr
  cda : Addr
  cc : Addr
  nm : Str
  qual : Str
  params : Arguments
  body : List Stmt
  scope : Scope
  dV : Value
  kV : Value
  doc : Value
  pm : Value
  ct : Value
  oc : Value
  an : Option Addr
  od : Option Addr
  osl : Array (Option Value)
  self : Arg
  par : Str
  vs : Array Value
  file : Str
  tf : Tok
  ccl : Value
  cl : Value
  cdd : Option Addr
  cld : Option Addr
  ccs : Array (Option Value)
  csl : Array (Option Value)
  cd : ClassData
abbrev ErrD.fd (D : ErrD) : FuncData := PySem.W.ksFn D.nm D.qual D.params D.body D.scope D.dV D.kV D.doc D.pm D.an (.ref D.cda) D.ct D.cc
structure ErrK (prog : Program) (K : PySem.W.Frag) (C : Addr) (fld : Option Str) (D : ErrD) : Prop where
  base : ExcBaseFacts D.B D.newId D.initId D.bmB
  kx : PySem.W.KxsFacts D.B D.initId
  st : StoreFacts D.B D.bmB "object.__setattr__" "object"
  cls : PySem.W.excInitIn K C D.bmB D.newId = true
  over : PySem.W.excOver K C D.bmB = true
  clsd : PySem.W.clsIn K C = some D.cd
  hasD : D.cd.hasDict = true
  init : PySem.W.findIn K (.ref C) "__init__" = some (some (.ref D.fI))
  fnT : PySem.W.typeIn K (.ref D.fI) = some (.type "function")
  fn : K.lookup D.fI = some ⟨D.oc, D.od, .func D.fd, D.osl⟩
  code : PySem.W.codeIn K (.ref D.cda) D.qual = true
  par1 : (D.params.posonlyargs ++ D.params.args).head? = some D.self
  codeO : K.lookup D.cda = some ⟨D.ccl, D.cdd, .fields D.vs, D.ccs⟩
  file : D.vs[2]? = some (.str D.file D.tf)
  fileM : ((prog.main.file : Str) == D.file) = true
  cell : K.lookup D.cc = some ⟨D.cl, D.cld, .cell (some (.ref C)), D.csl⟩
  sub : PySem.W.mroIn K C (.ref C) = some true
  sub' : PySem.W.subIn K (.ref C) (.ref C) = some true
  top : (prog.main.scope.names.lookup ("super" : Str)).isSome = false
  opq : PySem.W.nsIn K cStatics "thirdparty.any" = some none
  sup : PySem.W.ks_superIn K C C "__init__" = some (some (.builtin D.initId))
  subB : PySem.W.subIn K (.ref C) (.type D.B) = some true
  exB : PySem.W.subIn K (.ref C) (.type "BaseException") = some true
  tyC : PySem.W.typeIn K (.ref C) = some (.type "type")
  kp : PySem.W.keepIn K (.ref C) = true
  sa : PySem.W.findIn K (.ref C) "__setattr__" = some (some (.builtin "object.__setattr__"))
  noF : ∀ f, fld = some f → PySem.W.takerIn K C f = some none ∧ PySem.W.findIn K (.ref C) f = some none
  ga : PySem.W.findIn K (.ref C) "__getattribute__" = some (some (.builtin "BaseException.__getattribute__"))
  gg : PySem.W.findIn K (.ref C) "__getattr__" = some none
  hdC : PySem.W.hasDictIn K C = true
  cl1 : PySem.W.findIn K (.ref C) "__class__" = some (some (.builtin "object.__class__"))
  cl2 : PySem.W.specialIn K (.builtin "object.__class__") "__get__" = some (some (.builtin "getset_descriptor.__get__"))
  cl3 : PySem.W.takesIn K (.builtin "object.__class__") = some true
  cl4 : PySem.W.mroIn K C (.type "object") = some true
  ks : D.scope.names.lookup ("super" : Str) = some .globalImplicit
  kc : D.scope.names.lookup ("__class__" : Str) = some .free
  ka : D.scope.names.lookup D.self.arg = some .local
  kb : D.scope.names.lookup D.par = some .local
  kind : D.scope.kind = .function
  noCell : ∀ x ∈ D.scope.names, x.2 ≠ .cell
  noCo : D.scope.isCoroutine = false
  noGen : D.scope.isGenerator = false
  ne : D.par ≠ D.self.arg
  nd1 : (D.self.arg == ("__debug__" : Str)) = false
  nd2 : (D.par == ("__debug__" : Str)) = false
  bd : ∀ a b : Value, bindArgs D.fd ⟨[a, b], []⟩ = pure [(D.self.arg, a), (D.par, b)]
  body : InitB D.self.arg D.par fld D.body

section
variable {prog : Program} {w : World} {A : Around} {E : Value → Shared → Prop} {K : PySem.W.Frag} {C : Addr} {fld : Option Str} {D : ErrD} {mg mb m : Str → Option Value} {h : Heap} {g : Array GenState} {d : Drawn} {t : Nat} {os : OsState} {L e t0 : Addr}
/-- the method-wrapper of the built-in __init__ is called -/
theorem kxs_raw (T : ErrK prog K C fld D) (X : K.In h) (he : h.get? e = some (PySem.W.excObj C t0 none .none)) {u : Addr} (hu : h.get? u = some (PySem.W.kxs_mw D.initId e)) {rest : List Value} (hz : rest.length ≤ sizeLine) {Q : Value → Shared → Prop}
    (hq : ∀ h' t1, (∀ b o, b ≠ e → h.get? b = some o → h'.get? b = some o) → h'.get? e = some (PySem.W.excObj C t1 none .none) → Q .none ⟨h', g, d, t, os⟩) : wpAny (model prog w) A (call (.ref u) rest) Q E ⟨h, g, d, t, os⟩ := by
  obtain ⟨nm, N', qn, bs, bm, hdct, sn, sub, ab, col, dd, k0, k1, k2, k3, k5, hC, hT⟩ := PySem.W.excInit_of X T.cls
  refine wpAny_call (codeAny_of_tree ?_)
  show wpAny _ A.in1 (callAny (.ref u) ⟨rest, []⟩) _ _ _
  simp only [callAny]
  refine wpAny_bind (wpAny_load hu ?_)
  simp only [PySem.W.kxs_mw, show (Value.type "method-wrapper" == Value.type "method" || Value.type "method-wrapper" == Value.type "builtin_function_or_method" || Value.type "method-wrapper" == Value.type "method-wrapper") = true by decide, if_true]
  refine PySem.W.KFB.if_so (by decide) ?_
  refine wpAny_bind (PySem.W.check_bound_init T.base.toExcCallFacts hC he rfl ?_)
  refine wpAny_bind (wpAny_pure (wpAny_pure ?_))
  refine ⟨plainId_quiet T.base.init.plain _, codeAny_builtin T.base.initEntry ?_⟩
  exact PySem.W.exc_init_tree (cls := .ref C) (t0 := t0) (dv := none) (c2 := .none) (c3 := .none) (b4 := .bool false) he hz fun h' k e' _ => hq h' _ k e'
/-- super().__init__(x) -/
theorem super_raw (T : ErrK prog K C fld D) (X : K.In h) (G : h.Ns mainGlobals mg) (hmg : mg "super" = none) (Bl : h.Ns builtinsNs mb) (hmb : mb "super" = some (.type "super")) (N : h.Ns L m) (hs : m D.self.arg = some (.ref e)) (he : h.get? e = some (PySem.W.excObj C t0 none .none))
    {ae : Expr} {p0 p1 p2 p4 : Pos} {Q : Value → Shared → Prop} {body : List Stmt} {pl : Sem Bool}
    (hce : eval (.Call (.Attribute (.Call (.Name "super" p0) [] [] p1) "__init__" p2) [ae] [] p4) (PySem.W.ksEnv D.qual D.scope L D.fI (.ref D.cda) D.cc) = (do
      let ov ← attributeBase (.Call (.Name "super" p0) [] [] p1) "__init__" (PySem.W.ksEnv D.qual D.scope L D.fI (.ref D.cda) D.cc) (eval (.Call (.Name "super" p0) [] [] p1) (PySem.W.ksEnv D.qual D.scope L D.fI (.ref D.cda) D.cc))
      standAt p2.atName
      let (f, first) ← holding [ov] (getMethod ov "__init__" pl)
      callWith p4 f first (backTo p4 (starEach [ae] (PySem.W.ksEnv D.qual D.scope L D.fI (.ref D.cda) D.cc))) []))
    (hae : ∀ (s1 : Shared) (Q' : Value → Shared → Prop), s1.heap.Ns L m → (∀ u tk, Q' u { s1 with toks := tk }) → wpAny (model prog w) A (eval ae (PySem.W.ksEnv D.qual D.scope L D.fI (.ref D.cda) D.cc)) Q' E s1)
    (hse : starEach [ae] (PySem.W.ksEnv D.qual D.scope L D.fI (.ref D.cda) D.cc) = (false, eval ae (PySem.W.ksEnv D.qual D.scope L D.fI (.ref D.cda) D.cc)) :: starEach [] (PySem.W.ksEnv D.qual D.scope L D.fI (.ref D.cda) D.cc))
    (hq : ∀ h' t1 tk, (∀ b o, b ≠ e → h.get? b = some o → h'.get? b = some o) → h'.get? e = some (PySem.W.excObj C t1 none .none) → Q .none ⟨h', g, d, tk, os⟩) :
    _root_.PySem.wpAt (model prog w) A (.func body (PySem.W.ksEnv D.qual D.scope L D.fI (.ref D.cda) D.cc)) (eval (.Call (.Attribute (.Call (.Name "super" p0) [] [] p1) "__init__" p2) [ae] [] p4) (PySem.W.ksEnv D.qual D.scope L D.fI (.ref D.cda) D.cc)) Q E ⟨h, g, d, t, os⟩ := by
  obtain ⟨oD, hD1, hD2⟩ : ∃ oD, h.get? C = some oD ∧ oD.data = .cls D.cd := by
    have hD := T.clsd
    unfold PySem.W.clsIn at hD
    split at hD
    · rename_i c d cd' sl ho
      cases hD
      exact ⟨_, X _ _ ho, rfl⟩
    · cases hD
  have I : PySem.W.InstAt h e (PySem.W.excObj C t0 none .none) C none := ⟨he, rfl, rfl, trivial⟩
  have hxC : e ≠ C := fun z => by
    rw [z, hD1] at he
    cases he
    cases hD2
  refine PySem.ks_wpAt_MethodCall ?_ hce
  refine PySem.ks_wpAt_super_base (env := PySem.W.ksEnv D.qual D.scope L D.fI (.ref D.cda) D.cc) T.ks T.kc (by decide) rfl (X _ _ T.fn) rfl T.par1 rfl (X _ _ T.codeO) rfl T.file T.fileM T.top ?_
  refine PySem.W.ks_loadName_global T.kind T.ks (Calls.loadGlobal_builtin (env := PySem.W.ksEnv D.qual D.scope L D.fI (.ref D.cda) D.cc) G hmg Bl hmb ⟨rfl, ?_⟩)
  refine wpAny_loadName_free T.kind T.kc rfl ⟨_, X _ _ T.cell, rfl⟩ ?_
  refine wpAny_loadName_local T.kind T.ka N hs ?_
  refine PySem.ks_wpAny_isType_cls hD1 hD2 ⟨rfl, ?_⟩
  refine PySem.ks_wpAny_call_super hD1 hD2 he rfl (fun c z => nomatch z) (PySem.W.looks_mroIn X T.sub) (fun h1 e1 k1 => ?_)
  have X1 : K.In h1 := X.keeps k1
  have he1 := k1 _ _ he
  have I1 : PySem.W.InstAt h1 e (PySem.W.excObj C t0 none .none) C none := ⟨he1, rfl, rfl, trivial⟩
  have hm := T.sup
  unfold PySem.W.ks_superIn at hm
  rw [T.clsd] at hm
  refine PySem.W.kxs_getMethod T.kx e1 (PySem.W.looks_opaque X1 T.opq) (l₀ := D.cd.mro) (fun A Q E s k q => wpAny_bind ((PySem.W.looks_clsIn X1 T.clsd) A _ E s k (wpAny_pure q))) rfl X1 hm (I1.type.andThen (PySem.W.looks_subIn X1 T.subB)) hxC (by decide) ?_
  have k2 : ∀ b o, h1.get? b = some o → (h1.push (PySem.W.kxs_mw D.initId e)).get? b = some o := fun b o z => Heap.get?_push_of_some _ z
  have hu : (h1.push (PySem.W.kxs_mw D.initId e)).get? h1.objs.size = some (PySem.W.kxs_mw D.initId e) := Heap.get?_push_at rfl rfl
  have N2 : (h1.push (PySem.W.kxs_mw D.initId e)).Ns L m := by
    obtain ⟨oL, es, ep, hL, r⟩ := N
    exact ⟨oL, es, ep, k2 _ _ (k1 _ _ hL), r⟩
  refine PySem.W.kxs_callWith (i := D.initId) (x := e) (by rw [hse]; rfl) ?_
  rw [hse]
  refine Calls.evalArgs_plain (Calls.spliced_cons (hae _ _ N2 fun u tk => Calls.spliced_nil ⟨hu, ?_⟩))
  exact kxs_raw T (X1.keeps k2) (k2 _ _ he1) hu (by rw [sizeLine_eq]; exact (by decide : 1 ≤ 16777216)) fun h' t1 k3 e3 => hq h' t1 tk (fun b o hb z => k3 b o hb (k2 _ _ (k1 _ _ z))) e3
theorem sup_eq {env : PySem.Env} {o ae : Expr} {name : Str} {p2 p4 : Pos} (hf : methodCallForm 1 (backTo p4 (starEach [ae] env)) [] = true) (hl : (p2.endLine == p4.line) = true) : eval (.Call (.Attribute o name p2) [ae] [] p4) env = (do
      let ov ← attributeBase o name env (eval o env)
      standAt p2.atName
      let (f, first) ← holding [ov] (getMethod ov name (do return (← importBound o env).getD true))
      callWith p4 f first (backTo p4 (starEach [ae] env)) []) := by
  have e : ∀ ov, methodCall o name p2 p4 env ov 1 (backTo p4 (starEach [ae] env)) [] = (do
      let (f, first) ← holding [ov] (getMethod ov name (do return (← importBound o env).getD true))
      callWith p4 f first (backTo p4 (starEach [ae] env)) []) := fun ov => by
    unfold methodCall calleeOf methodCallPos
    rw [hf]
    simp only [hl, Bool.not_true, Bool.false_or, if_true, pure_bind]
  show (attributeBase o name env (eval o env) >>= fun ov => standAt p2.atName >>= fun _ => methodCall o name p2 p4 env ov 1 (backTo p4 (starEach [ae] env)) []) = _
  simp only [e]
/-- the error's class is called -/
theorem mk_raw (T : ErrK prog K C fld D) {s : Shared} (X : K.In s.heap) (G : s.heap.Ns mainGlobals mg) (hmg : mg "super" = none) (Bl : s.heap.Ns builtinsNs mb) (hmb : mb "super" = some (.type "super")) (nl : s.heap.NoLimit) {k : Nat} (room : Room (k + 1) A) {u : Value} {Q : Value → Shared → Prop}
    (hq : ∀ (h' : Heap) (tk : Nat) (e t1 : Addr) (dd : Option Addr), (∀ b o, s.heap.get? b = some o → h'.get? b = some o) → s.heap.objs.size ≤ e → h'.get? e = some (PySem.W.excObj C t1 dd .none) →
      (match fld with
        | none => dd = none
        | some f => ∃ dx, dd = some dx ∧ s.heap.objs.size ≤ dx ∧ dx ≠ e ∧ h'.Ns1 dx (fun y => if y = f then some u else none)) → Q (.ref e) { s with heap := h', toks := tk }) :
    wpAny (model prog w) A (call (.ref C) [u]) Q E s := by
  obtain ⟨hp, g, d, t, os⟩ := s
  obtain ⟨nm, N', qn, bs, bm, hdct, sn, sub, ab, col, dd, k0, k1, k2, k3, k5, hC, hT⟩ := PySem.W.excInit_of X T.cls
  refine wpAny_call (PySem.HandSPX.call_own T.base hT hC (PySem.W.looks_findIn X T.init) (fun self => PySem.W.bind_fn X self T.fnT) (by rw [sizeLine_eq]; exact (by decide : 1 ≤ 16777216)) ?_)
  have kk : ∀ b o, hp.get? b = some o → ((hp.push (PySem.W.kdv_tup [u])).push (PySem.HandSPX.excO C hp.objs.size)).get? b = some o := fun b o e => Heap.get?_push_of_some _ (Heap.get?_push_of_some _ e)
  have hget : ((hp.push (PySem.W.kdv_tup [u])).push (PySem.HandSPX.excO C hp.objs.size)).get? (hp.objs.size + 1) = some (PySem.HandSPX.excO C hp.objs.size) := by heap_get
  have hsz : ((hp.push (PySem.W.kdv_tup [u])).push (PySem.HandSPX.excO C hp.objs.size)).objs.size = hp.objs.size + 2 := by rw [Heap.size_push, Heap.size_push]
  have X2 := X.keeps kk
  generalize (hp.push (PySem.W.kdv_tup [u])).push (PySem.HandSPX.excO C hp.objs.size) = hp2 at kk hget hsz X2 ⊢
  refine PySem.ks_codeAny_call_defAt (fd := D.fd) (body := D.body) (binds := [(D.self.arg, .ref (hp.objs.size + 1)), (D.par, u)]) (room.make C [u] []).depth (X2 _ _ T.fn) rfl (nl.keeps kk) (PySem.W.codeRec_of X2 T.code) rfl (fun _ _ _ _ q => by rw [T.bd]; exact wpAny_pure q) T.noCell (fun y hy => ?_) (fun h1 hns k1 => ?_) T.noCo T.noGen T.kind
  · rcases List.mem_cons.mp hy with rfl | hy
    · exact T.ka
    · rcases List.mem_cons.mp hy with rfl | hy
      · exact T.kb
      · cases hy
  have hb := T.body
  show _root_.PySem.wpAt _ _ (.func D.body (PySem.W.ksEnv D.qual D.scope hp2.objs.size D.fI (.ref D.cda) D.cc)) (execs D.body (PySem.W.ksEnv D.qual D.scope hp2.objs.size D.fI (.ref D.cda) D.cc)) _ _ _
  generalize D.body = bdy at hb ⊢
  dsimp only [hsz] at hns ⊢
  have s1 : (List.reverse [(D.self.arg, Value.ref (hp.objs.size + 1)), (D.par, u)]).lookup D.self.arg = some (.ref (hp.objs.size + 1)) := by
    have e : (D.self.arg == D.par) = false := by simpa using fun z => T.ne z.symm
    simp [List.lookup, e]
  have s2 : (List.reverse [(D.self.arg, Value.ref (hp.objs.size + 1)), (D.par, u)]).lookup D.par = some u := by simp [List.lookup]
  have neL : hp2.objs.size ≠ hp.objs.size + 1 := by omega
  have bk : ∀ b o, hp.get? b = some o → b ≠ hp.objs.size + 1 := fun b o e => Nat.ne_of_lt (Nat.lt_succ_of_lt (Heap.lt_size e))
  have nsk : ∀ {h' : Heap}, (∀ b o, b ≠ hp.objs.size + 1 → h1.get? b = some o → h'.get? b = some o) → h'.Ns hp2.objs.size (fun x => List.lookup x (List.reverse [(D.self.arg, Value.ref (hp.objs.size + 1)), (D.par, u)])) := fun {h'} kh => by
    obtain ⟨oL, es, ep, hL, r⟩ := hns
    exact ⟨oL, es, ep, kh _ _ neL hL, r⟩
  have up : ∀ {a : Addr} {m' : Str → Option Value} {h' : Heap}, (∀ b o, hp.get? b = some o → h'.get? b = some o) → hp.Ns a m' → h'.Ns a m' := fun kh ⟨oL, es, ep, hL, r⟩ => ⟨oL, es, ep, kh _ _ hL, r⟩
  have k01 : ∀ b o, hp.get? b = some o → h1.get? b = some o := fun b o e => k1 _ _ (kk _ _ e)
  cases hb with
  | non hl =>
    refine PySem.ks_wpAt_execs_cons (PySem.ks_wpAt_Expr_any ?_ (by show (D.scope.kind == .module && _) = false; rw [T.kind]; rfl))
    refine super_raw (t0 := hp.objs.size) (L := hp2.objs.size) T (X.keeps k01) (up k01 G) hmg (up k01 Bl) hmb hns s1 (k1 _ _ hget) (sup_eq rfl hl) (fun s1' Q' hN hQ => ?_) rfl fun h' t1 tk kh he' => ?_
    · exact wpAny_Name (wpAny_loadName_local T.kind T.kb hN s2 (hQ u s1'.toks)) T.nd2
    · refine wpAt_of_wpAny (wpAny_execs_nil ⟨rfl, ?_⟩)
      exact hq h' tk (hp.objs.size + 1) t1 none (fun b o e => kh b o (bk b o e) (k01 _ _ e)) (Nat.le_succ _) he' rfl
  | @fld f m j p0 p1 p2 p3 p4 p5 p6 p7 p8 p9 hl =>
    refine PySem.ks_wpAt_execs_cons (PySem.ks_wpAt_Expr_any ?_ (by show (D.scope.kind == .module && _) = false; rw [T.kind]; rfl))
    refine super_raw (t0 := hp.objs.size) (L := hp2.objs.size) T (X.keeps k01) (up k01 G) hmg (up k01 Bl) hmb hns s1 (k1 _ _ hget) (sup_eq rfl hl) (fun s1' Q' hN hQ => ?_) rfl fun h' t1 tk kh he' => ?_
    · exact wpAny_Constant_str (hQ _ _)
    · refine PySem.ks_wpAt_execs_cons (wpAt_of_wpAny (plainObj_wpAny_Assign_Attribute ?_))
      have kp : ∀ b o, hp.get? b = some o → h'.get? b = some o := fun b o e => kh b o (bk b o e) (k01 _ _ e)
      refine wpAny_Name (wpAny_loadName_local T.kind T.kb (nsk kh) s2 ?_) T.nd2
      refine wpAny_Name (wpAny_loadName_local T.kind T.ka (nsk kh) s1 ?_) T.nd1
      refine PySem.W.set_plain (X.keeps kp) (ox := PySem.W.excObj C t1 none .none) (od := none) ⟨he', rfl, rfl, trivial⟩ T.sa ?_
      refine osaX T.st (X.keeps kp) he' T.over T.clsd T.hasD (T.noF f rfl).1 fun h2 tk' dx kh2 dn dne hx hn => ?_
      refine wpAt_of_wpAny (wpAny_execs_nil ⟨rfl, ?_⟩)
      have le : hp.objs.size ≤ h'.objs.size := Nat.le_of_lt (Nat.lt_of_succ_lt (Heap.lt_size he'))
      exact hq h2 tk' (hp.objs.size + 1) t1 (some dx) (fun b o e => kh2 b o (bk b o e) (kp _ _ e)) (Nat.le_succ _) hx ⟨dx, rfl, Nat.le_trans le dn, dne, hn⟩
end
/-- X(e): an error is made -/
def tMkE (C : Addr) (fld : Option Str) (ta : TA) : L2.St → Hp → XK → Prop := fun σ H Q => ta σ H fun vs H1 => ∃ v, vs = [v] ∧ (match fld with
  | none => Q (.ref C) none H1
  | some f => ∀ dx, H1 dx = none → Q (.ref C) (some dx) (upd H1 dx (.xd [(f, v)])))
theorem pmk_err {X : Cx} {C : Addr} {fld : Option Str} {D : ErrD} {x : Str} {e : Expr} {ta : TA} {p pos : Pos} {k : Nat} (T : ErrK X.prog X.K C fld D) (hsup : X.mg "super" = none) (room : Room (k + 1) X.A) (hg : Gl X x) (hm : X.mg x = some (.ref C)) (ha : PA X [e] ta)
    (hdb : (x == ("__debug__" : Str)) = false) (he : starEach [e] X.env = (false, eval e X.env) :: starEach [] X.env) : L2.PMk X (.Call (.Name x p) [e] [] pos) (tMkE C fld ta) := by
  intro pins s σ H Q I h
  refine wpAny_Call_Name_kw (ld_glob I hg hm ?_ hdb)
  refine PySem.W.callWith_K (h₀ := X.base) I.ok.mod.kin T.kp (thn (ha.run pos pins s σ H _ I h) fun us s1 ⟨vs, H1, I1, r1, v, ev, q1⟩ => ⟨I1.kIn, ?_⟩) he rfl
  show wpAny _ _ (call (.ref C) us) _ _ _
  subst ev
  cases r1 with
  | @cons _ u _ ur ru rr =>
    cases rr
    obtain ⟨mb, b1, b2⟩ := I1.mod.blt
    refine mk_raw T I1.kIn (I1.mod.glob.keeps I1.bk) hsup (b1.keeps I1.bk) ((b2 _ (by decide +kernel)).trans (by kernel_rfl)) I1.nolimit room fun h' tk a t1 dd kp en he' hd => ?_
    obtain ⟨G, g1, g2⟩ := restrict h' fun b => decide (b ≠ a)
    have nea : ∀ b o, s1.heap.get? b = some o → b ≠ a := fun b o z => Nat.ne_of_lt (Nat.lt_of_lt_of_le (Heap.lt_size z) en)
    have gk : ∀ b o, s1.heap.get? b = some o → G.get? b = some o := fun b o z => by
      rw [g1 b (decide_eq_true (nea b o z))]
      exact kp b o z
    have ga : G.get? a = none := g2 a (by simp)
    have gs : ∀ b o, G.get? b = some o → h'.get? b = some o := fun b o z => by
      by_cases hb : b = a
      · rw [hb, ga] at z
        cases z
      · rw [← g1 b (decide_eq_true hb)]
        exact z
    have na : H1 a = none := I1.hok.fresh en
    cases fld with
    | none =>
      subst hd
      exact ⟨a, _, _, { s1 with heap := G, toks := tk }, H1, .ref C, none, rfl, I1.kept gk, gs, ga, he', ⟨rfl, rfl⟩, rfl, rfl, na, rfl, I1.bare, raises_own T.exB T.tyC, q1⟩
    | some f =>
      obtain ⟨dx, rfl, dn, dne, hn⟩ := hd
      have nd : H1 dx = none := I1.hok.fresh dn
      have J : Inv X pins σ (upd H1 dx (.xd [(f, v)])) { s1 with heap := G, toks := tk } := I1.laidN gk (Heap.get?_none_of_le dn) nd ⟨_, hn.at fun o q => by rw [g1 dx (decide_eq_true dne)]; exact q, relO_put (fs := []) ru fun _ => True.intro⟩
      exact ⟨a, _, _, { s1 with heap := G, toks := tk }, upd H1 dx (.xd [(f, v)]), .ref C, some dx, rfl, J, gs, ga, he', ⟨rfl, rfl⟩, rfl, rfl, by rw [upd_ne (Ne.symm dne)]; exact na, rfl, I1.bare, raises_own T.exB T.tyC, q1 dx nd⟩
end PD
set_option maxHeartbeats 1000000
/-! PR2: errors are raised, caught, held, looked at. -/
namespace PD
open PySem PySem.Spec PyProof.Rows L2

theorem hld_ok {P : Program} {w : World} {H : Hp} {h : Heap} {a : Addr} {cls : Value} {dd : Option Addr} {oe : Obj} {vs : Array Value} (e : h.get? a = some oe) (z : Zc cls dd oe) (d : oe.data = .fields vs) : ObjOk P w H h a (HldO cls dd a) :=
  ⟨⟨oe, e, z, vs, d⟩, ⟨oe, e⟩, fun _ _ ⟨o, q, r⟩ k => ⟨o, k o q, r⟩⟩
theorem hld_at {P : Program} {w : World} {H : Hp} {h : Heap} {a : Addr} {cls : Value} {dd : Option Addr} (hok : HOk P w H h) (e : H a = some (HldO cls dd a)) : ∃ oe : Obj, h.get? a = some oe ∧ Zc cls dd oe ∧ ∃ vs, oe.data = .fields vs := by
  have x : ObjOk P w H h a (.ext fun h => ∃ oe : Obj, h.get? a = some oe ∧ Zc cls dd oe ∧ ∃ vs, oe.data = .fields vs) := hok a _ e
  exact x.1
theorem hld_tbl {cls : Value} {dd : Option Addr} {a : Addr} (ps : Array Value) : HldO cls dd a ≠ .tbl ps := fun z => by
  unfold HldO at z
  cases z
section
variable {X : Cx} {pins : List (Addr × Obj)} {σ : L2.St} {H : Hp} {s : Shared}
/-- an object that stands there untracked, made in this frame, is tracked from now on -/
theorem inv_track {a : Addr} {o : HO} {ob : Obj} (I : Inv X pins σ H s) (hn : H a = none) (hg : s.heap.get? a = some ob) (nl : a ≠ X.env.locals) (nc : ∀ v, ob.data ≠ .cell v) (np : ∀ p ∈ X.pn ++ pins, p.1 ≠ a) (n0 : X.s_0.heap.get? a = none) (new : ObjOk X.prog X.w (upd H a o) s.heap a o) :
    Inv X pins σ (upd H a o) s := by
  refine ⟨I.ok, I.os, I.bare, ⟨I.base.keep, I.base.slot, fun b u e n hx => ?_, I.base.there, fun b xs e => ?_, fun b ob u e => ?_, fun b ps e => ?_⟩, I.loc, I.cell, ?_, fun x c e => ?_, fun p hp => ?_, fun b u e => ?_, I.len⟩
  · rw [upd_ne (fun z => by rw [z, n0] at e; cases e)]
    exact I.base.free b u e n hx
  · have z := I.base.tups b xs e
    rw [upd_ne (ne_of_none z hn)]
    exact z
  · have z := I.base.frzs b ob u e
    rw [upd_ne (ne_of_none z hn)]
    exact z
  · obtain ⟨more, z⟩ := I.base.tbls b ps e
    exact ⟨more, by rw [upd_ne (ne_of_none z hn)]; exact z⟩
  · rw [upd_ne (Ne.symm nl)]
    exact I.free
  · rw [upd_ne (fun z => ?_)]
    · exact I.freeC x c e
    · obtain ⟨v, oc, h1, h2⟩ := I.cell x c e
      rw [z, hg] at h1
      cases h1
      exact nc v h2
  · obtain ⟨h1, h2, h3, h4, h5⟩ := I.pin p hp
    exact ⟨h1, by rw [upd_ne (np p hp)]; exact h2, h3, h4, h5⟩
  · by_cases hb : b = a
    · subst hb
      rw [upd_same] at e
      cases e
      exact new
    · rw [upd_ne hb] at e
      exact (I.hok b u e).stay (fun _ _ _ r => r) (fun c q => by rw [upd_ne (ne_of_none q hn)]; exact q) fun c xs q => by rw [upd_ne (ne_of_none q hn)]; exact q
end
/-- the test of a clause: ans says of a class whether it is caught -/
def TestP (X : Cx) (xt : Expr) (ans : Value → Option Bool) : Prop := ∀ (a : Addr) (oe : Obj) (pn pins : List (Addr × Obj)) (σ : L2.St) (H : Hp) (s : Shared) (Q : Bool → Shared → Prop) (E E' : Value → Shared → Prop) (b : Bool),
  Inv (X.suite a ((a, oe) :: pn)) pins σ H s → ans oe.cls = some b → (∀ h', (∀ c o, s.heap.get? c = some o → h'.get? c = some o) → Q b { s with heap := h' }) →
    wpAny (model X.prog X.w) (X.A.mark (some (.ref a))) (eval xt X.env) (fun c s₁ => wpAny (model X.prog X.w) (X.A.mark (some (.ref a))) (excMatches (.ref a) c) Q E s₁) E' s
theorem looks_cls {X : Cx} {a : Addr} {oe : Obj} {pn pins : List (Addr × Obj)} {σ : L2.St} {H : Hp} {s : Shared} (I : Inv (X.suite a ((a, oe) :: pn)) pins σ H s) : PySem.W.Looks (model X.prog X.w) s.heap (typeOf (.ref a)) oe.cls := fun A Q E s' k q => by
  obtain ⟨ha, _⟩ := I.pin (a, oe) (List.mem_append_left _ List.mem_cons_self)
  exact wpAny_typeOf_ref (k _ _ ha) q
theorem test_one {X : Cx} {x : Str} {c : Value} {p : Pos} (hg : Gl X x) (hm : X.mg x = some c) (hd : (x == ("__debug__" : Str)) = false) : TestP X (.Name x p) fun cls => PySem.W.exmOne X.K cls c := fun a oe pn pins σ H s Q E E' b I hb hq =>
  ld_glob (X := X.suite a ((a, oe) :: pn)) I hg hm ((PySem.W.exm_one (M := model X.prog X.w) I.kIn (looks_cls I) hb).here (hq s.heap fun _ _ z => z)) hd
section
open PySem.W
variable {K : Frag} {M : Model}
/-- the loops of excMatches over a row of classes -/
theorem exm_loop1 {h : Heap} (X : K.In h) {cls : Value} (Z : Value → PUnit → Sem (ForInStep PUnit)) : ∀ {cs : List Value} {b : Bool}, exmAny K cls cs = some b →
    Looks M h (forIn cs PUnit.unit fun c r => (isExcClass c >>= fun d => if (!d) = true then Z c r else pure (ForInStep.yield PUnit.unit) : Sem (ForInStep PUnit))) PUnit.unit
  | [], b, _ => by
    rw [List.forIn_nil]
    exact .now
  | c :: cs, b, e => by
    obtain ⟨b1, d1, x1, y1, z1⟩ := exmAny_cons e
    obtain ⟨e1, _⟩ := exm_cls (M := M) X x1
    rw [List.forIn_cons]
    intro A Q E s k q
    refine wpAny_bind (wpAny_bind (e1 A _ E s k ?_))
    simp only [Bool.not_true, Bool.false_eq_true, if_false]
    exact wpAny_pure (exm_loop1 X Z y1 A Q E s k q)
theorem exm_loop2 {h : Heap} (X : K.In h) {cls : Value} : ∀ {cs : List Value} {b : Bool}, exmAny K cls cs = some b →
    Looks M h (forIn cs ((none, ()) : Option Bool × Unit) fun c r => (isSubtype cls c >>= fun d => if d = true then pure (ForInStep.done (some true, ())) else pure (ForInStep.yield (none, ())) : Sem (ForInStep (Option Bool × Unit)))) (if b = true then (some true, ()) else (none, ()))
  | [], b, e => by
    rw [List.forIn_nil]
    cases e
    exact .now
  | c :: cs, b, e => by
    obtain ⟨b1, d1, x1, y1, z1⟩ := exmAny_cons e
    obtain ⟨_, e1⟩ := exm_cls (M := M) X x1
    rw [List.forIn_cons]
    intro A Q E s k q
    refine wpAny_bind (wpAny_bind (e1 A _ E s k ?_))
    subst z1
    cases b1 with
    | true =>
      rw [if_pos rfl]
      exact wpAny_pure (wpAny_pure q)
    | false =>
      rw [if_neg Bool.false_ne_true]
      exact wpAny_pure (exm_loop2 X y1 A Q E s k q)
theorem exm_tup {cs : List Value} {cls : Value} {tp e : Addr} {b : Bool} {h : Heap} (X : K.In h) (LT : Looks M h (typeOf (.ref e)) cls) (hp : h.get? tp = some { cls := .type "tuple", data := .seq cs.toArray }) (hx : exmAny K cls cs = some b) : Looks M h (excMatches (.ref e) (.ref tp)) b := by
  intro A Q E s k₀ q
  obtain ⟨hh, g, d, tk, os⟩ := s
  have k : ∀ b o, h.get? b = some o → hh.get? b = some o := k₀
  have LT0 : Looks M h (isInstance (.ref tp) (.type "tuple")) true := ((Looks.ld hp).andThen .now).andThen (Looks.of_pure isSubtype_tuple_tuple)
  have LT := LT.keeps k
  have LT0 := LT0.keeps k
  have hp' := k _ _ hp
  unfold excMatches
  refine wpAny_bind (LT0.at ?_)
  dsimp only
  rw [if_pos rfl]
  first
    | refine wpAny_bind (wpAny_seqItems hp' rfl ?_)
    | refine wpAny_bind (wpAny_bind (wpAny_seqItems hp' rfl (wpAny_pure ?_)))
  dsimp only [Option.getD_some, Option.getD]
  refine wpAny_bind (wpAny_pure ?_)
  refine wpAny_bind ((exm_loop1 (X.keeps k) _ hx).at ?_)
  refine wpAny_bind (LT.at ?_)
  refine wpAny_bind ((exm_loop2 (X.keeps k) hx).at ?_)
  cases b <;> exact wpAny_pure q
end
/-- names of classes -/
inductive NamesAt (X : Cx) : List Expr → List Value → Prop where
  | nil : NamesAt X [] []
  | cons {x : Str} {p : Pos} {xs : List Expr} {c : Value} {cs : List Value} (hg : Gl X x) (hm : X.mg x = some c) (hd : (x == ("__debug__" : Str)) = false) (r : NamesAt X xs cs) : NamesAt X (.Name x p :: xs) (c :: cs)
theorem names_spl {X : Cx} {pins : List (Addr × Obj)} {σ : L2.St} {H : Hp} {s : Shared} {E : Value → Shared → Prop} {pos : Pos} (I : Inv X pins σ H s) : ∀ {xs : List Expr} {cs : List Value} {Q : List Value → Shared → Prop}, NamesAt X xs cs → Q cs s → wpAny (model X.prog X.w) X.A (spliced (backTo pos (starEach xs X.env))) Q E s
  | _, _, Q, .nil, q => wpAny_items_nil q
  | _, _, Q, .cons hg hm hd r, q => wpAny_items_cons (ld_glob I hg hm (names_spl I r q) hd)
theorem NamesAt.suite {X : Cx} {a : Addr} {pn : List (Addr × Obj)} : ∀ {xs : List Expr} {cs : List Value}, NamesAt X xs cs → NamesAt (X.suite a pn) xs cs
  | _, _, .nil => .nil
  | _, _, .cons hg hm hd r => .cons hg hm hd r.suite
theorem test_tup {X : Cx} {xs : List Expr} {cs : List Value} {k : Nat} {p : Pos} (h : NamesAt X xs cs) (hl : cs.length ≤ 100) : TestP X (.Tuple xs k p) fun cls => PySem.W.exmAny X.K cls cs := fun a oe pn pins σ H s Q E E' b I hb hq => by
  refine wpAny_Tuple (names_spl (X := X.suite a ((a, oe) :: pn)) I h.suite ⟨by rw [sizeLine_eq]; omega, ?_⟩)
  have kp : ∀ c o, s.heap.get? c = some o → (s.heap.push { cls := .type "tuple", data := .seq cs.toArray }).get? c = some o := fun _ _ z => Heap.get?_push_of_some _ z
  exact (exm_tup (M := model X.prog X.w) (I.kIn.keeps kp) ((looks_cls I).keeps kp) (Heap.get?_push_size s.heap rfl) hb).here (hq _ kp)

/-! ### try: body / except xt as n: y = n -/
def heldS (σ : L2.St) (i m : Nat) (a : Addr) : L2.St := ((σ.set i (some (.ref a))).set m (some (.ref a))).set i none
def wHold (ans : Value → Option Bool) (i m : Nat) (D : Ends) : WX := fun cls d σ H => ans cls = some true ∧ ∀ a, H a = none → D.nx (heldS σ i m a) (upd H a (HldO cls d a))
theorem flying_kept {B : Heap} {l : List PySem.Env} {a : Addr} {Z : Obj → Prop} {h h' : Heap} (f : HandSPX.FlyingZ B l a Z h) (k : ∀ b o, h.get? b = some o → h'.get? b = some o) : HandSPX.FlyingZ B l a Z h' := by
  obtain ⟨h1, h2, h3, oe, vs, T, oT, ts, e1, e2, e3, e4, e5, e6, e7, e8, e9⟩ := f
  exact ⟨fun b o q => k b o (h1 b o q), h2, h3.of_keeps fun b o q _ => ⟨o, k b o q, rfl⟩, oe, vs, T, oT, ts, k _ _ e1, e2, e3, e4, e5, e6, k _ _ e7, e8, e9⟩
section
variable {X : Cx} {n y : Str} {i m : Nat} {body : List Stmt} {xt : Expr} {p1 p2 p3 pos pos' : Pos} {tb : WX → TS} {ans : Value → Option Bool}
theorem ps_try_hold (hs : X.stack = X.env :: X.outer) (hf : X.env.frame = some X.env.locals) (hex : X.ex = []) (hN : X.N.Nodup) (hi : X.N[i]? = some n) (hln : X.env.kindOf n = some .local) (hm : X.N[m]? = some y) (hly : Loc X.env.scope y) (hfy : X.fn y = true ∨ X.env.scope.names.lookup y = some .local)
    (hdn : (n == ("__debug__" : Str)) = false) (hcn : (n == ("__classdict__" : Str)) = false) (test : TestP X xt ans)
    (hb : ∀ (W : WX) (pn : List (Addr × Obj)) (xe : Value → Shared → Prop), Takes (X.tr pn xe) W → PassesOwn (model X.prog X.w) X.A X.env xe → PSs (X.tr pn xe) body (tb W)) :
    PS X (.Try body [.ExceptHandler (some xt) (some n) [.Assign [.Name y p1] (.Name n p2) p3] pos'] [] [] pos) (fun D σ H => tb (wHold ans i m D) D σ H) := by
  refine ⟨fun pins s σ H D I h => ?_⟩
  have ok := I.ok
  have hfr : X.A.frames = some (X.env :: X.outer) := by rw [ok.frames, hs]
  have hloc : Loc X.env.scope n := .inl hln
  refine wpAny_Try_except ?_
  refine wpAny_mono ((hb (wHold ans i m D) (X.pn ++ pins) (fun e s₁ => wpAny (model X.prog X.w) X.A (noteFrame e X.env) (fun _ s₂ => wpAny (model X.prog X.w) X.A (setFlight e none) (fun _ s₃ =>
    wpAny (model X.prog X.w) X.A (handleBy e X.env [.ExceptHandler (some xt) (some n) [.Assign [.Name y p1] (.Name n p2) p3] pos']) (SP X pins D) X.xe s₃) X.xe s₂) X.xe s₁) (fun u s' xx => ?_) PassesOwn.looking).run [] s σ H D (I.toTry _) h) (fun f s1 hsp => ?_) (fun e s1 he => he)
  · obtain ⟨a, B, sI, pins', σ', H', cls, d, rfl, J', nb, up, sky, na, os, ag, hb1, hyes⟩ := xx
    have J : Inv X pins σ' H' sI := J'.ofTry ok
    have sky' : Sky B (X.env :: X.outer) a (Zc cls d) X.env.locals s'.heap := by rw [← hs]; exact sky
    show wpAny (model X.prog X.w) X.A (noteFrame (.ref a) X.env) _ _ _
    refine Sky.land Zc.steady hfr hf sky' fun h3 fl3 up3 => ?_
    have J3 : Inv X pins σ' H' { s' with heap := h3 } := J.landed nb fl3.1 (up.trans up3) os ag
    obtain ⟨oe3, vs3, he3, hz3, hd3⟩ := fl3.there
    have notFr : ∀ {h : Heap} {o : Obj} {vs : Array Value}, h.FunFrames B (X.env :: X.outer) → h.get? a = some o → o.data = .fields vs → a ∉ frs (X.env :: X.outer) := fun {h o vs} ff e dd hm => by
      obtain ⟨_, o', e', hnf⟩ := ff.mem hm
      rw [e] at e'; cases e'
      exact hnf _ dd
    have nfr := notFr fl3.2.2.1 he3 hd3
    have nL : a ≠ X.env.locals := fun z => nfr (List.mem_filterMap.mpr ⟨X.env, List.mem_cons_self, by rw [hf, z]⟩)
    have nF : a ∉ X.fs := fun hm => by
      obtain ⟨e, he, q⟩ := List.mem_filterMap.mp hm
      exact nfr (List.mem_filterMap.mpr ⟨e, List.mem_cons_of_mem _ he, q⟩)
    have nI : sI.heap.get? a = none := by
      cases e : sI.heap.get? a with
      | none => rfl
      | some o =>
        have z := nb a o e (by rw [hs]; exact nfr)
        rw [fl3.2.1] at z
        cases z
    have n0 : X.s_0.heap.get? a = none := by
      cases e : X.s_0.heap.get? a with
      | none => rfl
      | some o =>
        obtain ⟨o', z⟩ := J.base.there a o e (by rw [hex]; exact fun z => nomatch z)
        rw [nI] at z
        cases z
    have np : ∀ p ∈ X.pn ++ pins, p.1 ≠ a := fun p hp z => by
      obtain ⟨q, _⟩ := J.pin p hp
      rw [z, nI] at q
      cases q
    have S3 := J3.suite he3 hd3 na nL nF
    refine wpAny_handleBy_cons (codeAny_handlers_test ?_) (by intro q; cases q)
    refine test a oe3 (X.pn ++ pins) [] _ _ _ _ _ _ true S3 (by rw [hz3.1]; exact hb1) fun h3' kp => ?_
    have fl3' := flying_kept fl3 kp
    have up3' : s'.heap.UpToSlots h3' := up3.trans (Heap.UpToSlots.of_keeps kp)
    refine codeAny_handlers_suite_as ?_
    refine HandSPX.lands_againZ (s := { s' with heap := h3' }) fl3' fun h4 fl4 up4 => ?_
    have J4 : Inv X pins σ' H' { s' with heap := h4 } := J.landed nb fl4.1 ((up.trans up3').trans up4) os ag
    obtain ⟨oe4, vs4, he4, hz4, hd4⟩ := fl4.there
    have S4 := J4.suite he4 hd4 na nL nF
    refine store_ok (X := X.suite a ((a, oe4) :: (X.pn ++ pins))) (v := .ref a) S4 hN hi hloc rfl (fun s5 S5 => ?_) (.inr hln)
    have li : i < σ'.length := by rw [J.len]; exact (List.getElem?_eq_some_iff.mp hi).1
    have asg := pss_one (ps_set (X := X.suite a ((a, oe4) :: (X.pn ++ pins))) (pos := p3) (pos' := p1) hN hm hly (pe_var (pos := p2) hi (.inl hln) hdn hcn) rfl hfy)
    refine wpAny_mono (asg.run [] s5 _ H' { nx := fun σ6 H6 => σ6 = (σ'.set i (some (.ref a))).set m (some (.ref a)) ∧ H6 = H', rt := fun _ _ => False } S5 ⟨.ref a, List.getElem?_set_self li, rfl, rfl⟩) (fun f s6 hsp => ?_) (fun _ _ z => False.elim z)
    cases f with
    | next =>
      obtain ⟨σ6, H6, S6, rfl, rfl⟩ := hsp
      have P6 : Inv X ((a, oe4) :: pins) ((σ'.set i (some (.ref a))).set m (some (.ref a))) H6 s6 := by
        have U := S6.unsuite ok
        refine ⟨U.ok, U.os, U.bare, U.base, U.loc, U.cell, U.free, U.freeC, fun p hp => ?_, U.hok, U.len⟩
        rcases List.mem_append.mp hp with hp | hp
        · exact U.pin p (List.mem_append_left _ hp)
        · rcases List.mem_cons.mp hp with rfl | hp
          · obtain ⟨q1, q2, q3, q4, q5⟩ := S6.pin (a, oe4) (List.mem_append_left _ List.mem_cons_self)
            exact ⟨q1, q2, q3, q4, q5⟩
          · exact U.pin p (List.mem_append_right _ hp)
      refine gone_ok P6 hN hi hln fun s7 P7 => ?_
      obtain ⟨q1, q2, _⟩ := P7.pin (a, oe4) (List.mem_append_right _ List.mem_cons_self)
      have J7 : Inv X pins (heldS σ' i m a) H6 s7 := ⟨P7.ok, P7.os, P7.bare, P7.base, P7.loc, P7.cell, P7.free, P7.freeC, fun p hp => P7.pin p (by
        rcases List.mem_append.mp hp with hp | hp
        · exact List.mem_append_left _ hp
        · exact List.mem_append_right _ (List.mem_cons_of_mem _ hp)), P7.hok, P7.len⟩
      exact ⟨_, _, inv_track J7 q2 q1 nL (fun v z => by rw [hd4] at z; cases z) np n0 (hld_ok q1 hz4 hd4), hyes a na⟩
    | brk => exact hsp.choose_spec.choose_spec.2.elim
    | cont => exact hsp.choose_spec.choose_spec.2.elim
    | ret u =>
      obtain ⟨_, _, _, _, _, z⟩ := hsp
      exact z.elim
  · cases f with
    | next =>
      obtain ⟨σ', H', J', q⟩ := hsp
      exact wpAny_execs_nil ⟨σ', H', J'.ofTry ok, q⟩
    | brk =>
      obtain ⟨σ', H', J', q⟩ := hsp
      exact ⟨σ', H', J'.ofTry ok, q⟩
    | cont =>
      obtain ⟨σ', H', J', q⟩ := hsp
      exact ⟨σ', H', J'.ofTry ok, q⟩
    | ret u =>
      obtain ⟨v, σ', H', J', r, q⟩ := hsp
      exact ⟨v, σ', H', J'.ofTry ok, r, q⟩
end
end PD
set_option maxHeartbeats 1000000
/-! PR3: errors over plain data. -/
namespace PD
open PySem PySem.Spec PyProof.Rows L2

/-- the same frame with another wish about errors -/
def Cfg.wx (C : Cfg) (q : Nat → PyData → Draw → L2.St → Hp → Hp → Prop) : Cfg := { C with XQ := q }
section
variable {C : Cfg} {q : Nat → PyData → Draw → L2.St → Hp → Hp → Prop} {Γ : Env} {σ : L2.St} {H W : Hp} {S : Draw}
theorem slot_wx {k : Kd} {v : V} {d : PyData} (h : Slot C H W k v d) : Slot (C.wx q) H W k v d := by cases k <;> exact h
theorem slot_un {k : Kd} {v : V} {d : PyData} (h : Slot (C.wx q) H W k v d) : Slot C H W k v d := by cases k <;> exact h
theorem EnvOk.wx (e : EnvOk C Γ σ H W) : EnvOk (C.wx q) Γ σ H W := ⟨e.len, fun i d h => let ⟨v, h1, h2⟩ := e.at_ i d h; ⟨v, h1, slot_wx h2⟩, e.sep, e.zd⟩
theorem EnvOk.un (e : EnvOk (C.wx q) Γ σ H W) : EnvOk C Γ σ H W := ⟨e.len, fun i d h => let ⟨v, h1, h2⟩ := e.at_ i d h; ⟨v, h1, slot_un h2⟩, e.sep, e.zd⟩
theorem Vw.wx (v : Vw C W H S) : Vw (C.wx q) W H S := ⟨v.sub, v.hid, v.st, v.tab, v.nt⟩
theorem Vw.un (v : Vw (C.wx q) W H S) : Vw C W H S := ⟨v.sub, v.hid, v.st, v.tab, v.nt⟩
/-- a name goes -/
theorem EnvOk.gone (e : EnvOk C Γ σ H W) (i : Nat) : EnvOk C (Γ.set i none) (σ.set i none) H W where
  len := by rw [List.length_set, List.length_set]; exact e.len
  at_ := fun j x hj => by
    by_cases hji : i = j
    · subst hji
      by_cases hl : i < Γ.length
      · rw [List.getElem?_set_self hl] at hj
        cases hj
      · rw [List.getElem?_eq_none (by rw [List.length_set]; omega)] at hj
        cases hj
    · rw [List.getElem?_set_ne hji] at hj ⊢
      exact e.at_ j x hj
  sep := fun j k p x y hjk h1 h2 h3 h4 h5 => by
    have go : ∀ {l : Nat} {z : PyData}, (Γ.set i none)[l]? = some (some z) → i ≠ l := fun {l z} h w => by
      subst w
      by_cases hl : i < Γ.length
      · rw [List.getElem?_set_self hl] at h
        cases h
      · rw [List.getElem?_eq_none (by rw [List.length_set]; omega)] at h
        cases h
    have n1 := go h3
    have n2 := go h4
    rw [List.getElem?_set_ne n1] at h3 h5
    rw [List.getElem?_set_ne n2] at h4 ⊢
    exact e.sep j k p x y hjk h1 h2 h3 h4 h5
  zd := e.zd
theorem heldS_eq {i m : Nat} {a : Addr} (h : i ≠ m) : heldS σ i m a = (σ.set i none).set m (some (.ref a)) := by
  unfold heldS
  rw [List.set_comm _ _ h.symm, List.set_set]
/-- an error is held -/
theorem EnvOk.hold (e : EnvOk C Γ σ H W) (v : Vw C W H S) {i m c : Nat} {d : PyData} {a : Addr} {cls : Value} {dd : Option Addr} (him : i ≠ m) (hk : C.kdOf m = .exv) (ha : H a = none) (x : ExcAt C.ex C.ea W c d cls dd) :
    EnvOk C ((Γ.set i none).set m (some (excD c d))) (heldS σ i m a) (upd H a (HldO cls dd a)) (upd W a (HldO cls dd a)) := by
  have s := Stp.new (C := C) v ha (o := HldO cls dd a)
  rw [heldS_eq him]
  refine ((e.stp s).gone i).setS (by rw [hk]; exact fun z => nomatch z) ?_
  rw [hk]
  exact .inr ⟨c, d, a, cls, dd, rfl, rfl, upd_same, x.mono s.w⟩
end
section
variable {X : Cx} {C : Cfg} {H0 W0 : Hp}
/-- raise y(e) -/
theorem ds_rse {c k : Nat} {keep : Bool} {y : Str} {fld : Option Str} {D : ErrD} {xe : Expr} {f : Fn PyData} {p pos pos' : Pos} (hc : X.calm = true) (T : ErrK X.prog X.K (C.ea c) fld D) (hx : C.ex.lookup c = some (y, fld)) (hkeep : keep = fld.isSome) (hsup : X.mg "super" = none) (room : Room (k + 1) X.A) (hg : Gl X y) (hm : X.mg y = some (.ref (C.ea c)))
    (hdb : (y == ("__debug__" : Str)) = false) (tk : TakesC C X) (he : PE X xe (tE C f)) (hse : starEach [xe] X.env = (false, eval xe X.env) :: starEach [] X.env) :
    PS X (.Raise (some (.Call (.Name y p) [xe] [] pos)) none pos') (tS C H0 W0 fun Γ S => (f Γ S).out fun x S1 => .exc c (if keep then x else .none) S1) :=
  PS.imp (ps_raise hc tk (pmk_err T hsup room hg hm (pa_cons he pa_nil hse) hdb hse)) fun D σ H ⟨Γ, W, S, en, hv, st, p⟩ =>
    out_then en hv st p fun x S1 v H1 W1 s1 v1 e1 r1 p1 => by
      refine ⟨v, rfl, ?_⟩
      subst hkeep
      have p1 : ExD C H0 W0 c (if fld.isSome then x else .none) S1 := p1
      cases fld with
      | none => exact ⟨c, .none, S1, W1, ⟨y, none, hx, rfl, rfl, rfl⟩, v1, p1 σ H1 W1 (st.trans s1) v1⟩
      | some f => exact fun dx hdx => ⟨c, x, S1, upd W1 dx (.xd [(f, v)]), ⟨y, some f, hx, rfl, dx, v, rfl, upd_same, dp_mono (Stp.new (C := C) v1 hdx).w r1⟩, v1.new hdx, p1 σ _ _ ((st.trans s1).trans (Stp.new v1 hdx)) (v1.new hdx)⟩
/-- try: s / except xt as n: y = n -/
theorem ds_tre {n y : Str} {i m : Nat} {st : Stmt} {xt : Expr} {p1 p2 p3 pos pos' : Pos} {ans : Value → Option Bool} {cs : List Nat} {f : FnS} (hs : X.stack = X.env :: X.outer) (hf : X.env.frame = some X.env.locals) (hex : X.ex = []) (hN : X.N.Nodup) (hi : X.N[i]? = some n) (hln : X.env.kindOf n = some .local)
    (hm : X.N[m]? = some y) (hly : Loc X.env.scope y) (hfy : X.fn y = true ∨ X.env.scope.names.lookup y = some .local) (hdn : (n == ("__debug__" : Str)) = false) (hcn : (n == ("__classdict__" : Str)) = false) (test : TestP X xt ans)
    (hans : ∀ c z, C.ex.lookup c = some z → cs.contains c = true → ans (.ref (C.ea c)) = some true) (him : i ≠ m) (hk : C.kdOf m = .exv)
    (hb : ∀ (q : Nat → PyData → Draw → L2.St → Hp → Hp → Prop) (pn : List (Addr × Obj)) (xe : Value → Shared → Prop), TakesC (C.wx q) (X.tr pn xe) → PS (X.tr pn xe) st (tS1 (C.wx q) H0 W0 f)) :
    PS X (.Try [st] [.ExceptHandler (some xt) (some n) [.Assign [.Name y p1] (.Name n p2) p3] pos'] [] [] pos) (tS C H0 W0 fun Γ S => match f Γ S with
      | .exc c d S1 => if cs.contains c then .nx ((Γ.set i none).set m (some (excD c d))) S1 else .bad
      | o => o) := by
  refine PS.imp (ps_try_hold (tb := fun W D σ H => tS1 (C.wx fun c d S σ' H' W' => ∀ cls dd, ExcAt C.ex C.ea W' c d cls dd → W cls dd σ' H') H0 W0 f D σ H) hs hf hex hN hi hln hm hly hfy hdn hcn test fun W pn xe tk po => pss_one (hb _ pn xe (tk.imp fun cls dd σ' H' ⟨c, d, S, W', x, v, q⟩ => q cls dd x))) fun D σ H ⟨Γ, W, S, he, hv, sp, p⟩ => ?_
  refine ⟨Γ, W, S, he.wx, hv.wx, sp, ?_⟩
  dsimp only at p
  cases e : f Γ S with
  | nx Γ1 S1 => rw [e] at p; exact fun σ' H' W' en v' => p σ' H' W' en.un v'.un
  | ret d S1 => rw [e] at p; exact fun v H' W' v' => p v H' W' v'.un
  | brk Γ1 S1 => rw [e] at p; exact fun σ' H' W' en v' => p σ' H' W' en.un v'.un
  | cnt Γ1 S1 => rw [e] at p; exact fun σ' H' W' en v' => p σ' H' W' en.un v'.un
  | bad => rw [e] at p; exact p.elim
  | exc c d S1 =>
    rw [e] at p
    dsimp only at p
    split at p
    · rename_i hc
      intro H' W' s' v' cls dd x
      refine ⟨?_, fun a ha => ?_⟩
      · obtain ⟨z, fld, x1, x2, _⟩ := x
        rw [x2]
        exact hans c _ x1 hc
      · have s2 := Stp.new (C := C) v'.un ha (o := HldO cls dd a)
        exact p _ _ (upd W' a (HldO cls dd a)) ((he.stp s').hold v'.un him hk ha x) (v'.un.new ha hld_tbl) ((sp.trans s').trans s2) fun b o hb => s2.w b o (s'.w b o hb)
    · exact p.elim
/-! ### looks at what may be a held error -/
theorem isop (neg : Bool) : (if neg = true then CmpOp.IsNot else CmpOp.Is) ≠ .In ∧ (if neg = true then CmpOp.IsNot else CmpOp.Is) ≠ .NotIn := by cases neg <;> decide
theorem de_exn {i j : Nat} {x : Str} {neg : Bool} {p p' : Pos} (hN : X.N[i]? = some x) (hv : Vis X.env.scope x) (hd : (x == ("__debug__" : Str)) = false) (hcd : (x == ("__classdict__" : Str)) = false) (hk : C.kdOf i = .exv) :
    PC X (if neg then .IsNot else .Is) (.Name x p) (.Constant .none j p') (tE C fun Γ S => (lift (getV Γ i) S).bind fun x S1 => .ok (.bool (isNon x != neg)) S1) := by
  have key : ∀ {σ : L2.St} {H : Hp} {Q : VK}, tE C (fun Γ S => (lift (getV Γ i) S).bind fun x S1 => .ok (.bool (isNon x != neg)) S1) σ H Q → ∃ v, σ[i]? = some (some v) ∧ Q (.bl (decide (v = .non) != neg)) H := fun {σ H Q} ⟨Γ, W, S, he, hw, p⟩ => by
    dsimp only [getV] at p
    split at p
    · rename_i d e
      obtain ⟨v, h1, h2⟩ := he.at_ i d e
      rw [hk] at h2
      have eq : decide (v = .non) = isNon d := by
        rcases h2 with h2 | ⟨c, x, a, cls, dd, rfl, rfl, _⟩
        · cases h2 <;> rfl
        · rfl
      refine ⟨v, h1, ?_⟩
      rw [eq]
      exact p _ H W (Stp.refl _ _ _) hw (.bl _)
    · exact p.elim
  cases neg with
  | false =>
    have h := pc_isN (j := j) (pos' := p') (pe_var (pos := p) hN hv hd hcd)
    refine ⟨fun pins s σ H Q I w => h.run pins s σ H Q I ?_⟩
    obtain ⟨v, h1, h2⟩ := key w
    exact ⟨v, h1, by simpa using h2⟩
  | true =>
    have h := pc_notN (j := j) (pos' := p') (pe_var (pos := p) hN hv hd hcd)
    refine ⟨fun pins s σ H Q I w => h.run pins s σ H Q I ?_⟩
    obtain ⟨v, h1, h2⟩ := key w
    exact ⟨v, h1, by simpa using h2⟩
theorem dt_exn {i j : Nat} {x : Str} {neg : Bool} {p p' pos : Pos} (hN : X.N[i]? = some x) (hv : Vis X.env.scope x) (hd : (x == ("__debug__" : Str)) = false) (hcd : (x == ("__classdict__" : Str)) = false) (hk : C.kdOf i = .exv) :
    PT X (.Compare (.Name x p) [if neg then .IsNot else .Is] [.Constant .none j p'] pos) (tT C fun Γ S => toB ((lift (getV Γ i) S).bind fun x S1 => .ok (.bool (isNon x != neg)) S1) fun b S1 => .ok b S1) :=
  PT.imp (pt_cmp (de_exn hN hv hd hcd hk) (nobehind _ (isop _).1 (isop _).2)) fun σ H Q ⟨Γ, W, S, he, hw, q⟩ => ⟨Γ, W, S, he, hw, by
    dsimp only at q ⊢
    cases e : getV Γ i with
    | none => rw [e] at q; exact q.elim
    | some d =>
      rw [e] at q
      intro v H' W' s' v' r
      cases r
      exact ⟨_, rfl, q _ H' W' s' v' rfl⟩⟩
/-- x.f -/
theorem de_exf {i : Nat} {x f : Str} {cs : List Nat} {p pos : Pos} (hN : X.N[i]? = some x) (hv : Vis X.env.scope x) (hd : (x == ("__debug__" : Str)) = false) (hcd : (x == ("__classdict__" : Str)) = false) (hk : C.kdOf i = .exv)
    (T : ∀ c y fld, C.ex.lookup c = some (y, fld) → ∃ D, ErrK X.prog X.K (C.ea c) fld D) (hcs : ∀ c z, C.ex.lookup c = some z → cs.contains c = true → z.2 = some f) :
    PE X (.Attribute (.Name x p) f pos) (tE C fun Γ S => (lift (getV Γ i) S).bind fun x S1 => match excOf x with
      | some (c, d) => if cs.contains c then .ok d S1 else .bad
      | none => .bad) := by
  refine ⟨fun pins s σ H Q I ⟨Γ, W, S, he, hw, p⟩ => ?_⟩
  dsimp only [getV] at p
  split at p
  · rename_i d e
    obtain ⟨v, h1, h2⟩ := he.at_ i d e
    rw [hk] at h2
    rcases h2 with h2 | ⟨c, z, a, cls, dd, rfl, rfl, wa, y, fld, x1, rfl, x3⟩
    · cases h2 <;> exact p.elim
    · simp only [lift_some, Res.bind_ok, show excOf (excD c z) = some (c, z) from rfl] at p
      split at p
      · rename_i hc
        have ef : fld = some f := hcs c _ x1 hc
        subst ef
        obtain ⟨dx, u, rfl, wd, du⟩ := x3
        obtain ⟨D, T⟩ := T c _ _ x1
        have p : Q u H := p u H W (Stp.refl _ _ _) hw du
        refine attr_of rfl (thn ((pe_var hN hv hd hcd).run pins s σ H (fun v H1 => v = .ref a ∧ H1 = H) I ⟨.ref a, h1, rfl, rfl⟩) fun u1 s1 ⟨v1, H1, I1, r1, q1, q2⟩ => ?_)
        subst q1 q2
        obtain rfl : u1 = Value.ref a := r1
        obtain ⟨oe, ha, hz, vs, hdd⟩ := hld_at I1.hok (hw.sub _ _ wa)
        have hx : ObjOk X.prog X.w H1 s1.heap dx (.xd [(f, u)]) := I1.hok dx _ (hw.sub _ _ wd)
        obtain ⟨mA, hns, hr⟩ := hx
        obtain ⟨od, ho, hl⟩ := lookIn_ns hns
        obtain ⟨u2, hu, ru⟩ := RelO.some_of (v := u) (o := mA f) (by have := hr f; simpa [List.lookup] using this)
        have J : PySem.W.InstAt s1.heap a oe (C.ea c) (some od) := ⟨ha, hz.1, by unfold PySem.W.notCls; rw [hdd] <;> rfl, by rw [hz.2]; exact ho⟩
        exact HandSPX.exc_get I1.kIn J T.ga T.gg T.exB (PySem.W.findObj_own T.hdC (T.noF f rfl).2 rfl (by rw [hl, hu])) (handed_of ru) ⟨u, H1, I1.tok _, ru, p⟩
      · exact p.elim
  · exact p.elim
/-- isinstance(x, z) -/
theorem call_isx {a : Addr} {c c' : Nat} (T : ∃ y fld D, C.ex.lookup c = some (y, fld) ∧ ErrK X.prog X.K (C.ea c) fld D) (T' : ∃ fld D, ErrK X.prog X.K (C.ea c') fld D) (hsub : PySem.W.subIn X.K (.ref (C.ea c)) (.ref (C.ea c')) = some (c == c')) :
    CallR X (.builtin "isinstance") (fun xs H Q => ∃ dd, xs = [.ref a, .ref (C.ea c')] ∧ H a = some (HldO (.ref (C.ea c)) dd a) ∧ (∀ dx, dd = some dx → ∃ fs, H dx = some (.xd fs)) ∧ Q (.bl (c == c')) H) := by
  intro pins s σ H xs us Q I r h
  obtain ⟨dd, rfl, hh, hdx, q⟩ := h
  obtain ⟨u1, u2, rfl, r1, r2⟩ := Vals.two r
  obtain rfl : u1 = Value.ref a := r1
  obtain rfl : u2 = Value.ref (C.ea c') := r2
  obtain ⟨oe, ha, hz, vs, hdd⟩ := hld_at I.hok hh
  obtain ⟨y, fld, D, _, T⟩ := T
  obtain ⟨fld', D', T'⟩ := T'
  have nc : PySem.W.notCls oe = true := by unfold PySem.W.notCls; rw [hdd] <;> rfl
  have e : PySem.W.kitOne X.K (.ref (C.ea c)) (.ref (C.ea c')) = some (c == c') := by
    unfold PySem.W.kitOne
    by_cases z : (Value.ref (C.ea c) == Value.ref (C.ea c')) = true
    · rw [if_pos z]
      have z2 : C.ea c = C.ea c' := Value.ref.inj (beq_iff_eq.mp z)
      rw [← hsub, ← z2, T.sub']
    · rw [if_neg z]
      have e2 : ((PySem.W.clsIn X.K (C.ea c')).isSome && PySem.W.typeIn X.K (.ref (C.ea c')) == some (.type "type")) = true := by rw [T'.clsd, T'.tyC] <;> rfl
      show (if ((PySem.W.clsIn X.K (C.ea c')).isSome && PySem.W.typeIn X.K (.ref (C.ea c')) == some (.type "type")) = true then PySem.W.subIn X.K (.ref (C.ea c)) (.ref (C.ea c')) else none) = _
      rw [if_pos e2]
      exact hsub
  have hcl : (PySem.W.clsIn X.K (C.ea c)).isSome = true := by rw [T.clsd]; rfl
  have fin : ∀ tk, EP X pins σ Q (.bool (c == c')) { s with toks := tk } := fun tk => ⟨.bl _, H, I.tok tk, rfl, q⟩
  cases dd with
  | none => exact PySem.W.kia_one (PySem.W.kitx_exc (od := none) hcl T.ga T.gg T.exB T.cl1 T.cl2 T.cl3 T.cl4) I.kIn (⟨ha, hz.1, nc, by rw [hz.2]; trivial⟩ : PySem.W.InstAt s.heap a oe (C.ea c) none) e (fun z => nomatch z) fin
  | some dx =>
    obtain ⟨fs, hd⟩ := hdx dx rfl
    have hx : ObjOk X.prog X.w H s.heap dx (.xd fs) := I.hok dx _ hd
    obtain ⟨mA, hns, hr⟩ := hx
    obtain ⟨od, ho, hl⟩ := lookIn_ns hns
    exact PySem.W.kia_one (PySem.W.kitx_exc (od := some od) hcl T.ga T.gg T.exB T.cl1 T.cl2 T.cl3 T.cl4) I.kIn (⟨ha, hz.1, nc, by rw [hz.2]; exact ho⟩ : PySem.W.InstAt s.heap a oe (C.ea c) (some od)) e (fun z => nomatch z) fin
theorem de_exi {i c' : Nat} {x y' : Str} {z' : Option Str} {p p2 p3 pos : Pos} (hN : X.N[i]? = some x) (hv : Vis X.env.scope x) (hd : (x == ("__debug__" : Str)) = false) (hcd : (x == ("__classdict__" : Str)) = false) (hk : C.kdOf i = .exv)
    (hg : Gl X "isinstance") (hm : X.mg "isinstance" = none) (hg2 : Gl X y') (hm2 : X.mg y' = some (.ref (C.ea c'))) (hd2 : (y' == ("__debug__" : Str)) = false) (hc' : C.ex.lookup c' = some (y', z'))
    (T : ∀ c y fld, C.ex.lookup c = some (y, fld) → ∃ D, ErrK X.prog X.K (C.ea c) fld D) (hsub : ∀ c c' z z', C.ex.lookup c = some z → C.ex.lookup c' = some z' → PySem.W.subIn X.K (.ref (C.ea c)) (.ref (C.ea c')) = some (c == c')) :
    PE X (.Call (.Name "isinstance" p) [.Name x p2, .Name y' p3] [] pos) (tE C fun Γ S => (lift (getV Γ i) S).bind fun x S1 => match excOf x with
      | some (c, _) => .ok (.bool (c == c')) S1
      | none => .bad) := by
  refine ⟨fun pins s σ H Q I ⟨Γ, W, S, he, hw, p⟩ => ?_⟩
  dsimp only [getV] at p
  split at p
  · rename_i d e
    obtain ⟨v, h1, h2⟩ := he.at_ i d e
    rw [hk] at h2
    rcases h2 with h2 | ⟨c, z, a, cls, dd, rfl, rfl, wa, y, fld, x1, rfl, x3⟩
    · cases h2 <;> exact p.elim
    · simp only [lift_some, Res.bind_ok, show excOf (excD c z) = some (c, z) from rfl] at p
      have p : Q (.bl (c == c')) H := p _ H W (Stp.refl _ _ _) hw (.bl _)
      obtain ⟨D, T1⟩ := T c _ _ x1
      obtain ⟨D', T2⟩ := T c' _ _ hc'
      refine (pe_callB (call_isx (a := a) (C := C) ⟨y, fld, D, x1, T1⟩ ⟨_, D', T2⟩ (hsub c c' _ _ x1 hc')) hg hm boot_isi (pa_cons (pe_var (pos := p2) hN hv hd hcd) (pa_cons (pe_glob (v := .ref (C.ea c')) hg2 hm2 rfl hd2) pa_nil rfl) rfl) (by decide) (by decide) rfl rfl).run pins s σ H Q I ?_
      refine ⟨.ref a, h1, ⟨dd, rfl, hw.sub _ _ wa, fun dx e => ?_, p⟩⟩
      cases fld with
      | none => rw [x3.1] at e; cases e
      | some f =>
        obtain ⟨dx', u, e1, wd, _⟩ := x3
        rw [e1] at e
        cases e
        exact ⟨_, hw.sub _ _ wd⟩
  · exact p.elim
end
end PD
/-! P12: the checker that ties a program's text to the small language; expressions. -/
namespace PD
open PySem PySem.Spec PyProof.Rows L2

structure Ct where
  N : List Str
  kd : List Kd
  sc : Scope
  raw : Scope
  top : Bool
def Ct.k (ct : Ct) (i : Nat) : Kd := ct.kd.getD i .nrm
def visB (sc : Scope) (x : Str) : Bool :=
  match sc.names.lookup x with
  | some .local => true
  | some .cell => true
  | some .free => true
  | _ => false
def locB (sc : Scope) (x : Str) : Bool :=
  match sc.names.lookup x with
  | some .local => true
  | some .cell => true
  | _ => false
def isLocal (sc : Scope) (x : Str) : Bool :=
  match sc.names.lookup x with
  | some .local => true
  | _ => false
def isCell (sc : Scope) (x : Str) : Bool :=
  match sc.names.lookup x with
  | some .cell => true
  | _ => false
def glB (ct : Ct) (x : Str) : Bool :=
  match ct.sc.names.lookup x with
  | some .globalImplicit => true
  | _ => false
def dbg (x : Str) : Bool := x == ("__debug__" : Str)
def nmB (ct : Ct) (i : Nat) (x : Str) : Bool := decide (ct.N[i]? = some x) && visB ct.sc x && !dbg x && !(x == ("__classdict__" : Str))
def stB (ct : Ct) (i : Nat) (x : Str) : Bool := decide (ct.N[i]? = some x) && locB ct.sc x && (ct.top || isCell ct.raw x || isLocal ct.sc x)
mutual
def tgB (ct : Ct) : Tg → Expr → Bool
  | .nm i, x => match x with
    | .Name y _ => stB ct i y && (decide (ct.k i = .nrm) || decide (ct.k i = .exv))
    | _ => false
  | .tp ts, x => match x with
    | .Tuple xs _ _ => tgsB ct ts xs
    | _ => false
def tgsB (ct : Ct) : List Tg → List Expr → Bool
  | [], xs => xs.isEmpty
  | t :: ts, xs => match xs with
    | x :: r => tgB ct t x && notStar x && tgsB ct ts r
    | [] => false
end
structure Chk where
  e : Ct → Ex → Expr → Bool
  t : Ct → Ex → Expr → Bool
  s : Ct → List Sx → List Stmt → Bool

def all2 {α β : Type} (f : α → β → Bool) : List α → List β → Bool
  | [], [] => true
  | a :: as, b :: bs => f a b && all2 f as bs
  | _, _ => false
def ownS (ct : Ct) (own : List Nat) : List (Str × Nat) := own.map fun i => (ct.N.getD i ⟨#[]⟩, i)
def Ct.inn (ct : Ct) (scope : Scope) : Ct := { ct with sc := relS scope ct.sc, raw := scope, top := false }
def cEq : PyData → PyData → Bool
  | .none, .none => true
  | .bool a, .bool b => decide (a = b)
  | .int a, .int b => decide (a = b)
  | .str a, .str b => decide (a = b)
  | _, _ => false
theorem cEq_eq {a b : PyData} (h : cEq a b = true) : a = b := by
  unfold cEq at h
  split at h <;> first | rfl | (rw [decide_eq_true_eq] at h; rw [h]) | cases h
section
variable (P : Prg) (gc : List (Str × PyData)) (r : Chk)
def rdB (ct : Ct) (a : Ex) (x : Expr) : Bool :=
  match a with
  | .var i => match x with
    | .Name y _ => nmB ct i y && !decide (ct.k i = .hnd) && !decide (ct.k i = .exv)
    | _ => false
  | a => r.e ct a x
def argB (ct : Ct) (k : Kd) (a : Ex) (x : Expr) : Bool :=
  match k with
  | .hnd => match a with
    | .var i => match x with
      | .Name y _ => nmB ct i y && decide (ct.k i = .hnd)
      | _ => false
    | _ => false
  | .exv => match a with
    | .var i => match x with
      | .Name y _ => nmB ct i y && decide (ct.k i = .exv)
      | _ => false
    | a => r.e ct a x
  | _ => r.e ct a x
def argsB (ct : Ct) : List Kd → List Ex → List Expr → Bool
  | [], [], [] => true
  | k :: ks, a :: as, x :: xs => argB r ct k a x && notStar x && argsB ct ks as xs
  | _, _, _ => false
def isTup : Expr → Bool
  | .Tuple .. => true
  | _ => false
def rngB (ct : Ct) (es : List Ex) (x : Expr) : Bool :=
  match x with
  | .Call (.Name y _) xs [] _ => y == ("range" : Str) && glB ct "range" && all2 (r.e ct) es xs && xs.all notStar && !xs.isEmpty && decide (xs.length ≤ 3)
  | _ => false
def itB (ct : Ct) (see : Bool) (a : Ex) (tg x : Expr) : Bool :=
  match a with
  | .rng es => rngB r ct es x
  | .zip a b => match x with
    | .Call (.Name y _) [xa, xb] [] _ => y == ("zip" : Str) && glB ct "zip" && isTup tg && notStar xa && notStar xb && (if see then r.e ct a xa && r.e ct b xb else rdB r ct a xa && rdB r ct b xb)
    | _ => false
  | .enm a => match x with
    | .Call (.Name y _) [xa] [] _ => y == ("enumerate" : Str) && glB ct "enumerate" && isTup tg && notStar xa && (if see then r.e ct a xa else rdB r ct a xa)
    | _ => false
  | a => if see then r.e ct a x else rdB r ct a x
def ifsB (ct : Ct) (cs : List Ex) (xs : List Expr) : Bool :=
  match cs, xs with
  | [], [] => true
  | [c], [x] => r.t ct c x
  | _, _ => false
def optB (ct : Ct) (o : Option Ex) (x : Option Expr) : Bool :=
  match o, x with
  | none, none => true
  | some a, some y => r.e ct a y
  | _, _ => false
def subB (a b : List Nat) : Bool := a.all fun i => b.contains i
def compB (ct : Ct) (elt : Ex) (t : Tg) (it : Ex) (cs : List Ex) (own : List Nat) (x : Expr) : Bool :=
  match x with
  | .ListComp xe [⟨tg, iter, ifs, as⟩] scope _ => decide (as = 0) && itB r ct false it tg iter && notSet iter && blkC ct.N ct.sc scope (ownS ct own) && tgB (ct.inn scope) t tg && ifsB r (ct.inn scope) cs ifs && r.e (ct.inn scope) elt xe && subB t.slots own
  | _ => false
def comp2B (ct : Ct) (elt : Ex) (t : Tg) (it : Ex) (cs : List Ex) (t2 : Tg) (it2 : Ex) (cs2 : List Ex) (own own2 : List Nat) (x : Expr) : Bool :=
  match x with
  | .ListComp xe [⟨tg, iter, ifs, as⟩, ⟨tg2, iter2, ifs2, as2⟩] scope _ => decide (as = 0) && decide (as2 = 0) && itB r ct false it tg iter && notSet iter && notSet iter2 && blkC ct.N ct.sc scope (ownS ct own) && tgB (ct.inn scope) t tg && ifsB r (ct.inn scope) cs ifs &&
      itB r (ct.inn scope) true it2 tg2 iter2 && tgB (ct.inn scope) t2 tg2 && ifsB r (ct.inn scope) cs2 ifs2 && r.e (ct.inn scope) elt xe && subB t.slots own && subB t2.slots own2 && subB own2 own && t.slots.all fun i => decide (ct.k i = .nrm)
  | _ => false
def Mt.nm : Mt → Str
  | .join => "join" | .split => "split" | .startswith => "startswith" | .index => "index"
def exnB (ct : Ct) (i : Nat) (neg : Bool) (xa : Expr) (ops : List CmpOp) (xs : List Expr) : Bool :=
  match xa, ops, xs with
  | .Name y _, [op], [.Constant .none _ _] => nmB ct i y && decide (ct.k i = .exv) && decide (op = if neg then .IsNot else .Is)
  | _, _, _ => false
def eStep (ct : Ct) (a : Ex) (x : Expr) : Bool :=
  match a with
  | .exn i neg => match x with
    | .Compare xa ops xs _ => exnB ct i neg xa ops xs
    | _ => false
  | .exf i f cs => match x with
    | .Attribute (.Name y _) f' _ => f' == f && nmB ct i y && decide (ct.k i = .exv) && cs.all fun c => decide ((P.ex.lookup c).map (·.2) = some (some f)) || decide (P.ex.lookup c = none)
    | _ => false
  | .exi i c => match x with
    | .Call (.Name y _) [.Name z _, .Name u _] kws _ => kws.isEmpty && y == ("isinstance" : Str) && glB ct y && nmB ct i z && decide (ct.k i = .exv) && glB ct u && !dbg u && decide ((P.ex.lookup c).map (·.1) = some u)
    | _ => false
  | .var i => match x with
    | .Name y _ => nmB ct i y && decide (ct.k i = .nrm)
    | _ => false
  | .con d => match x with
    | .Constant c _ _ => constB d c
    | _ => false
  | .glb z d => match x with
    | .Name y _ => y == z && glB ct y && !dbg y && (match gc.lookup z with | some d' => cEq d d' | none => false)
    | _ => false
  | .tup es => match x with
    | .Tuple xs _ _ => all2 (r.e ct) es xs && xs.all notStar
    | _ => false
  | .lst es => match x with
    | .List xs _ => all2 (r.e ct) es xs && xs.all notStar
    | _ => false
  | .bin op a b => match x with
    | .BinOp xa op' xb _ => decide (op = op') && r.e ct a xa && r.e ct b xb
    | _ => false
  | .neg a => match x with
    | .UnaryOp op xa _ => decide (op = .USub) && r.e ct a xa
    | _ => false
  | .cmp op a b => match x with
    | .Compare xa [op'] [xb] _ => decide (op = op') && rdB r ct a xa && rdB r ct b xb && !behindInMarks op xb
    | _ => false
  | .chn op op2 a b c => match x with
    | .Compare xa [op', op2'] [xb, xc] _ => decide (op = op') && decide (op2 = op2') && rdB r ct a xa && rdB r ct b xb && rdB r ct c xc && !lastMarks [op, op2] [xb, xc]
    | _ => false
  | .and es => match x with
    | .BoolOp op xs _ => decide (op = .And) && all2 (r.e ct) es xs && !es.isEmpty
    | _ => false
  | .or es => match x with
    | .BoolOp op xs _ => decide (op = .Or) && all2 (r.e ct) es xs && !es.isEmpty
    | _ => false
  | .not a => match x with
    | .UnaryOp op xa _ => decide (op = .Not) && r.e ct a xa
    | _ => false
  | .ite c a b => match x with
    | .IfExp xc xa xb _ => r.t ct c xc && r.e ct a xa && r.e ct b xb
    | _ => false
  | .idx a b => match x with
    | .Subscript xa xb _ => notSlice xb && rdB r ct a xa && rdB r ct b xb
    | _ => false
  | .sl a lo hi => match x with
    | .Subscript xa (.Slice l h st _) _ => st.isNone && rdB r ct a xa && optB r ct lo l && optB r ct hi h
    | _ => false
  | .blt b es => match x with
    | .Call (.Name y _) xs kws _ => kws.isEmpty && y == b.nm && glB ct y && !xs.isEmpty && all2 (rdB r ct) es xs && xs.all notStar
    | _ => false
  | .call j es => match x with
    | .Call (.Name y _) xs kws _ => kws.isEmpty && glB ct y && !dbg y && (match P.fs[j]? with | some f => f.nm == y && argsB r ct (f.kd.take f.np) es xs | none => false)
    | _ => false
  | .comp elt t it cs own => compB r ct elt t it cs own x
  | .comp2 elt t it cs t2 it2 cs2 own own2 => comp2B r ct elt t it cs t2 it2 cs2 own own2 x
  | .isi a t => match x with
    | .Call (.Name y _) [xa, .Name z _] kws _ => kws.isEmpty && y == ("isinstance" : Str) && glB ct y && z == t.nm && glB ct z && rdB r ct a xa && notStar xa
    | _ => false
  | .trng es => match x with
    | .Call (.Name y _) [xr] kws _ => kws.isEmpty && y == ("tuple" : Str) && glB ct y && rngB r ct es xr && decide (es.length ≤ 2)
    | _ => false
  | .lrng es => match x with
    | .Call (.Name y _) [xr] kws _ => kws.isEmpty && y == ("list" : Str) && glB ct y && rngB r ct es xr && decide (es.length ≤ 2)
    | _ => false
  | .meth m a b => match x with
    | .Call (.Attribute o nm ap) [xb] kws p => kws.isEmpty && nm == m.nm && plainO o && r.e ct a o && (match m with | .join => rdB r ct b xb | .split => r.e ct b xb | .startswith => r.e ct b xb | .index => false) && notStar xb && (ap.endLine == p.line)
    | _ => false
  | .sset a => match x with
    | .Call (.Name y _) [.Call (.Name z _) [xa] kws2 _] kws _ => kws.isEmpty && kws2.isEmpty && y == ("sorted" : Str) && glB ct y && z == ("set" : Str) && glB ct z && rdB r ct a xa && notStar xa
    | _ => false
  | _ => false
def tStep (ct : Ct) (a : Ex) (x : Expr) : Bool :=
  match x with
  | .Compare xa ops xs _ => match a with
    | .exn i neg => exnB ct i neg xa ops xs
    | .cmp op a b => match ops, xs with
      | [op'], [xb] => decide (op = op') && rdB r ct a xa && rdB r ct b xb && !behindInMarks op xb
      | _, _ => false
    | .chn op op2 a b c => match ops, xs with
      | [op', op2'], [xb, xc] => decide (op = op') && decide (op2 = op2') && rdB r ct a xa && rdB r ct b xb && rdB r ct c xc && !lastMarks [op, op2] [xb, xc]
      | _, _ => false
    | _ => false
  | .BoolOp op xs _ => match a with
    | .and es => decide (op = .And) && all2 (r.t ct) es xs && !es.isEmpty
    | .or es => decide (op = .Or) && all2 (r.t ct) es xs && !es.isEmpty
    | _ => false
  | .UnaryOp .Not xa _ => match a with
    | .not a => r.t ct a xa
    | _ => false
  | x => plainT x && eStep P gc r ct a x
end

/-! ### what stands in a frame -/
def bltNames : List Str := ["len", "abs", "min", "max", "sum", "all", "any", "int", "str", "list", "tuple", "sorted", "repr", "range", "zip", "enumerate", "isinstance", "bool", "set", "super"]
theorem bl_mem (b : Bl) : b.nm ∈ bltNames := by cases b <;> simp [Bl.nm, bltNames]
theorem ty_mem (t : Ty) : t.nm ∈ bltNames := by cases t <;> simp [Ty.nm, bltNames]
/-- a def's own frame -/
structure FrmOk (X : Cx) : Prop where
  hs : X.stack = X.env :: X.outer
  hf : X.env.frame = some X.env.locals
  hx : X.ex = []
structure Gd (P : Prg) (gc : List (Str × PyData)) (ct : Ct) (C : Cfg) (X : Cx) (n : Nat) : Prop where
  hK : X.K = C.K
  calm : X.calm = true
  un : X.A.units + 200 < cLine
  gd : X.A.guards = some []
  N : X.N = ct.N
  nd : ct.N.Nodup
  sc : X.env.scope = ct.sc
  kd : C.kd = ct.kd
  kind : ct.sc.kind = .function
  fn : ∀ x, (ct.top || isCell ct.raw x) = true → X.fn x = true
  blt : ∀ x ∈ bltNames, X.mg x = none
  con : ∀ x d, gc.lookup x = some d → ∃ v u, X.mg x = some u ∧ RelV v u ∧ conV d = some v
  room : Room n X.A
  xq : TakesC C X
  hex : C.ex = P.ex
  exs : ∀ c y fld, C.ex.lookup c = some (y, fld) → (∃ D, ErrK X.prog X.K (C.ea c) fld D) ∧ X.mg y = some (.ref (C.ea c))
  sub2 : ∀ c c' z z', C.ex.lookup c = some z → C.ex.lookup c' = some z' → PySem.W.subIn X.K (.ref (C.ea c)) (.ref (C.ea c')) = some (c == c')
  fns : ∀ m, m < n → ∀ (j : Nat) (f : FDef), P.fs[j]? = some f → ∃ fa fd ps, FnG X.prog X.w X.K X.mg X.base (L2.CX X.prog X.w) m fa fd ps (spF P C.M C.K C.ea C.T m j (f.kd.take f.np)) ∧ X.mg f.nm = some (.ref fa) ∧ PySem.W.keepIn X.K (.ref fa) = true ∧ Binds X.K fd ps []
section
variable {P : Prg} {gc : List (Str × PyData)} {ct : Ct} {C : Cfg} {X : Cx} {n : Nat}
theorem Gd.low (g : Gd P gc ct C X (n + 1)) : Gd P gc ct C X n := { g with room := g.room.mono (Nat.le_succ n), fns := fun m hm => g.fns m (Nat.lt_succ_of_lt hm) }
theorem isCell_eq {sc : Scope} {x : Str} (h : isCell sc x = true) : sc.names.lookup x = some .cell := by
  unfold isCell at h
  split at h
  · assumption
  · cases h
theorem isLocal_eq {sc : Scope} {x : Str} (h : isLocal sc x = true) : sc.names.lookup x = some .local := by
  unfold isLocal at h
  split at h
  · assumption
  · cases h
theorem Gd.blk (g : Gd P gc ct C X n) (s : Shared) (H : Hp) (scope : Scope) (hk : scope.kind = .function) (cl : List (Str × Addr)) (a : Addr) (fp : List Addr) : Gd P gc (ct.inn scope) C.inner (X.blk s H scope (compEnvC scope cl a X.env) fp) n where
  hK := g.hK
  calm := g.calm
  un := g.un
  gd := g.gd
  N := g.N
  nd := g.nd
  sc := by
    show relS scope X.env.scope = relS scope ct.sc
    rw [g.sc]
  kd := g.kd
  kind := hk
  fn := fun x h => by
    have h : isCell scope x = true := h
    show (scope.names.lookup x == some .cell) = true
    rw [isCell_eq h]; rfl
  blt := g.blt
  con := g.con
  room := g.room
  xq := fun _ _ x => by
    obtain ⟨_, _, _, _, _, _, _, _, _, _, _, _, _, _, _, _, _, _, _, _, _, _, z⟩ := x
    exact z.elim
  hex := g.hex
  exs := g.exs
  sub2 := g.sub2
  fns := g.fns
theorem Gd.gl (g : Gd P gc ct C X n) {x : Str} (h : glB ct x = true) : Gl X x := by
  unfold glB at h
  split at h
  · rename_i e
    show X.env.scope.names.lookup x = _
    rw [g.sc]; exact e
  · cases h
theorem visB_eq {sc : Scope} {x : Str} (h : visB sc x = true) : Vis sc x := by
  unfold visB at h
  split at h
  · exact .inl (by assumption)
  · exact .inr (.inl (by assumption))
  · exact .inr (.inr (by assumption))
  · cases h
theorem locB_eq {sc : Scope} {x : Str} (h : locB sc x = true) : Loc sc x := by
  unfold locB at h
  split at h
  · exact .inl (by assumption)
  · exact .inr (by assumption)
  · cases h
theorem Gd.nm (g : Gd P gc ct C X n) {i : Nat} {x : Str} (h : nmB ct i x = true) : X.N[i]? = some x ∧ Vis X.env.scope x ∧ (x == ("__debug__" : Str)) = false ∧ (x == ("__classdict__" : Str)) = false := by
  unfold nmB at h
  simp only [Bool.and_eq_true, decide_eq_true_eq, Bool.not_eq_true'] at h
  obtain ⟨⟨⟨h1, h2⟩, h3⟩, h4⟩ := h
  exact ⟨by rw [g.N]; exact h1, by rw [g.sc]; exact visB_eq h2, h3, h4⟩
theorem Gd.st (g : Gd P gc ct C X n) {i : Nat} {x : Str} (h : stB ct i x = true) : X.N[i]? = some x ∧ Loc X.env.scope x ∧ (X.fn x = true ∨ X.env.scope.names.lookup x = some .local) := by
  unfold stB at h
  rw [Bool.and_eq_true, Bool.and_eq_true, decide_eq_true_eq, Bool.or_eq_true] at h
  obtain ⟨⟨h1, h2⟩, h3⟩ := h
  refine ⟨by rw [g.N]; exact h1, by rw [g.sc]; exact locB_eq h2, ?_⟩
  rcases h3 with h3 | h3
  · exact .inl (g.fn x h3)
  · right; rw [g.sc]; exact isLocal_eq h3
theorem Gd.kOf (g : Gd P gc ct C X n) (i : Nat) : C.kdOf i = ct.k i := by
  unfold Cfg.kdOf Ct.k
  rw [g.kd]
mutual
theorem tg_snd (g : Gd P gc ct C X n) : ∀ {t : Tg} {x : Expr}, tgB ct t x = true → PG X x (tgD C t)
  | .nm i, x, h => by
    unfold tgB at h
    split at h
    · rename_i y p
      rw [Bool.and_eq_true, Bool.or_eq_true, decide_eq_true_eq, decide_eq_true_eq] at h
      obtain ⟨h1, h2, h3⟩ := g.st h.1
      exact dg_nm (by rw [g.N]; exact g.nd) h1 h2 h3 (by rw [g.kOf]; exact h.2)
    · cases h
  | .tp ts, x, h => by
    unfold tgB at h
    split at h
    · rename_i xs k p
      obtain ⟨h1, h2, h3⟩ := tgs_snd g h
      exact dg_tp g.calm h1 h2 h3
    · cases h
theorem tgs_snd (g : Gd P gc ct C X n) : ∀ {ts : List Tg} {xs : List Expr}, tgsB ct ts xs = true → PGs X xs (tgsD C ts) ∧ (assignEach xs X.env).length = ts.length ∧ (assignEach xs X.env).findIdx? (·.1) = none
  | [], xs, h => by
    unfold tgsB at h
    cases xs with
    | nil => exact ⟨dgs_nil, rfl, rfl⟩
    | cons a b => cases h
  | t :: ts, xs, h => by
    unfold tgsB at h
    cases xs with
    | nil => cases h
    | cons a b =>
      rw [Bool.and_eq_true, Bool.and_eq_true] at h
      obtain ⟨⟨h1, h2⟩, h3⟩ := h
      obtain ⟨k1, k2, k3⟩ := tgs_snd g h3
      refine ⟨dgs_cons (tg_snd g h1) k1 (by rw [asg_cons h2]; rfl), by rw [asg_cons h2, List.length_cons, List.length_cons, k2], ?_⟩
      rw [asg_cons h2, List.findIdx?_cons]
      simp only [Bool.false_eq_true, if_false, k3]
      rfl
end
/-! ### soundness: what is promised at a level -/
structure Snd (P : Prg) (gc : List (Str × PyData)) (n : Nat) (r : Chk) : Prop where
  e : ∀ {ct : Ct} {C : Cfg} {X : Cx} {a : Ex} {x : Expr}, Gd P gc ct C X n → r.e ct a x = true → PE X x (tE C fun Γ S => (run P n).e Γ S a)
  t : ∀ {ct : Ct} {C : Cfg} {X : Cx} {a : Ex} {x : Expr}, Gd P gc ct C X n → r.t ct a x = true → PT X x (tT C fun Γ S => evT (run P n) Γ S a)
  s : ∀ {ct : Ct} {C : Cfg} {X : Cx} {ss : List Sx} {b : List Stmt} {H0 W0 : Hp}, Gd P gc ct C X n → ct.top = true → FrmOk X → PassesOwn (model X.prog X.w) X.A X.env X.xe → (∀ b o, H0 b = some o → C.Z b) → r.s ct ss b = true → PSs X b (tS C H0 W0 fun Γ S => (run P n).s Γ S ss)
variable {r : Chk}
/-- n: the children's level -/
theorem rd_snd (sn : Snd P gc n r) (g : Gd P gc ct C X n) {a : Ex} {x : Expr} (h : rdB r ct a x = true) : PE X x (tR C fun Γ S => (run P n).e Γ S a) := by
  unfold rdB at h
  split at h
  · rename_i i
    split at h
    · rename_i y p
      rw [Bool.and_eq_true, Bool.and_eq_true, Bool.not_eq_true', decide_eq_false_iff_not, Bool.not_eq_true', decide_eq_false_iff_not] at h
      obtain ⟨h1, h2, h3, h4⟩ := g.nm h.1.1
      cases n with
      | zero => exact PE.imp (de_varR (C := C) h1 h2 h3 h4 (by rw [g.kOf]; exact h.1.2) (by rw [g.kOf]; exact h.2)) fun σ H Q ⟨Γ, W, S, he, hv, p⟩ => p.elim
      | succ n => exact de_varR h1 h2 h3 h4 (by rw [g.kOf]; exact h.1.2) (by rw [g.kOf]; exact h.2)
    · cases h
  · exact pe_rd (sn.e g h)
theorem all2_as (sn : Snd P gc n r) (g : Gd P gc ct C X n) : ∀ {es : List Ex} {xs : List Expr}, all2 (r.e ct) es xs = true → xs.all notStar = true → PA X xs (tAs C fun Γ S => evs ((run P n).e Γ) es S)
  | [], [], _, _ => de_nil fun _ _ => .nil
  | [], _ :: _, h, _ => by cases h
  | _ :: _, [], h, _ => by cases h
  | a :: as, x :: xs, h, hs => by
    unfold all2 at h
    rw [Bool.and_eq_true] at h
    rw [List.all_cons, Bool.and_eq_true] at hs
    exact de_cons (sn.e g h.1) (all2_as sn g h.2 hs.2) (star_cons hs.1 _ _) (fun _ _ _ _ _ _ s r => dp_mono s.w r) fun _ _ _ _ _ _ a b => .cons a b
theorem all2_rs (sn : Snd P gc n r) (g : Gd P gc ct C X n) : ∀ {es : List Ex} {xs : List Expr}, all2 (rdB r ct) es xs = true → xs.all notStar = true → PA X xs (tRs C fun Γ S => evs ((run P n).e Γ) es S)
  | [], [], _, _ => de_nil fun _ _ => .nil
  | [], _ :: _, h, _ => by cases h
  | _ :: _, [], h, _ => by cases h
  | a :: as, x :: xs, h, hs => by
    unfold all2 at h
    rw [Bool.and_eq_true] at h
    rw [List.all_cons, Bool.and_eq_true] at hs
    exact de_cons (rd_snd sn g h.1) (all2_rs sn g h.2 hs.2) (star_cons hs.1 _ _) (fun _ _ _ _ _ _ s r => r.stp s) fun _ _ _ _ _ _ a b => .cons a b
theorem arg_snd (sn : Snd P gc n r) (g : Gd P gc ct C X n) {k : Kd} {a : Ex} {x : Expr} (h : argB r ct k a x = true) : PE X x (tG C (fun _ W v d => ArgK C.pm C.K C.ex C.ea W k v d) fun Γ S => (run P n).e Γ S a) := by
  unfold argB at h
  split at h
  · split at h
    · rename_i i
      split at h
      · rename_i y p
        rw [Bool.and_eq_true, decide_eq_true_eq] at h
        obtain ⟨h1, h2, h3, h4⟩ := g.nm h.1
        cases n with
        | zero => exact PE.imp (de_hnd (C := C) h1 h2 h3 h4 (by rw [g.kOf]; exact h.2)) fun σ H Q ⟨Γ, W, S, he, hv, p⟩ => p.elim
        | succ n => exact de_hnd h1 h2 h3 h4 (by rw [g.kOf]; exact h.2)
      · cases h
    · cases h
  · split at h
    · rename_i i
      split at h
      · rename_i y p
        rw [Bool.and_eq_true, decide_eq_true_eq] at h
        obtain ⟨h1, h2, h3, h4⟩ := g.nm h.1
        cases n with
        | zero => exact PE.imp (de_exv (C := C) h1 h2 h3 h4 (by rw [g.kOf]; exact h.2)) fun σ H Q ⟨Γ, W, S, he, hv, p⟩ => p.elim
        | succ n => exact de_exv h1 h2 h3 h4 (by rw [g.kOf]; exact h.2)
      · cases h
    · exact de_argE (sn.e g h) fun e => nomatch e
  · rename_i k hk hk2
    exact de_argE (sn.e g h) fun e => hk e
theorem args_snd (sn : Snd P gc n r) (g : Gd P gc ct C X n) : ∀ {ks : List Kd} {es : List Ex} {xs : List Expr}, argsB r ct ks es xs = true → PA X xs (tG C (fun _ W vs ds => ArgsK C.pm C.K C.ex C.ea W ks vs ds) fun Γ S => evs ((run P n).e Γ) es S) ∧ xs.all notStar = true
  | [], [], [], _ => ⟨de_nil fun _ _ => .nil, rfl⟩
  | k :: ks, a :: as, x :: xs, h => by
    unfold argsB at h
    rw [Bool.and_eq_true, Bool.and_eq_true] at h
    obtain ⟨k1, k2⟩ := args_snd sn g h.2
    exact ⟨de_cons2 (arg_snd sn g h.1.1) k1 (star_cons h.1.2 _ _) (fun _ _ _ _ _ _ s r => r.mono s.w) fun _ _ _ _ _ _ a b => .cons a b, by rw [List.all_cons, h.1.2, k2]; rfl⟩
  | [], _ :: _, _, h => by cases h
  | [], [], _ :: _, h => by cases h
  | _ :: _, [], _, h => by cases h
  | _ :: _, _ :: _, [], h => by cases h
theorem rng_snd (sn : Snd P gc n r) (g : Gd P gc ct C X n) {kp : (Hp → Hp → Prop) → Prop} (hk : kp fun _ _ => True) {es : List Ex} {tg x : Expr} (h : rngB r ct es x = true) : PI X tg x (tI C kp fun Γ S => evI (run P n) Γ S (.rng es)) := by
  unfold rngB at h
  split at h
  · rename_i y p xs pos
    simp only [Bool.and_eq_true, beq_iff_eq, decide_eq_true_eq, Bool.not_eq_true'] at h
    obtain ⟨⟨⟨⟨⟨rfl, h2⟩, h3⟩, h4⟩, h5⟩, h6⟩ := h
    have gl := g.gl h2
    have hm := g.blt "range" (by simp [bltNames])
    cases xs with
    | nil => cases h5
    | cons xa xs =>
      cases es with
      | nil => cases h3
      | cons a es =>
        simp only [all2, Bool.and_eq_true] at h3
        simp only [List.all_cons, Bool.and_eq_true] at h4
        cases xs with
        | nil =>
          cases es with
          | cons _ _ => simp [all2] at h3
          | nil =>
            refine pi_fn (di_rng1 hk gl hm (sn.e g h3.1) (star_cons h4.1 _ _)) fun Γ S => ?_
            simp only [evI, evs, bind_bind]
            rfl
        | cons xb xs =>
          cases es with
          | nil => simp [all2] at h3
          | cons b es =>
            simp only [all2, Bool.and_eq_true] at h3
            simp only [List.all_cons, Bool.and_eq_true] at h4
            cases xs with
            | nil =>
              cases es with
              | cons _ _ => simp [all2] at h3
              | nil =>
                refine pi_fn (di_rng2 hk gl hm (sn.e g h3.1) (sn.e g h3.2.1) (by rw [star_cons h4.1, star_cons h4.2.1]; rfl) (star_cons h4.2.1 _ _)) fun Γ S => ?_
                simp only [evI, evs, bind_bind]
                rfl
            | cons xc xs =>
              cases es with
              | nil => simp [all2] at h3
              | cons c es =>
                simp only [all2, Bool.and_eq_true] at h3
                simp only [List.all_cons, Bool.and_eq_true] at h4
                cases xs with
                | cons _ _ => simp at h6
                | nil =>
                  cases es with
                  | cons _ _ => simp [all2] at h3
                  | nil =>
                    refine pi_fn (di_rng3 hk gl hm (sn.e g h3.1) (sn.e g h3.2.1) (sn.e g h3.2.2.1) (star_cons h4.1 _ _) (star_cons h4.2.1 _ _) (star_cons h4.2.2.1 _ _)) fun Γ S => ?_
                    simp only [evI, evs, bind_bind]
                    rfl
  · cases h
theorem isTup_eq {x : Expr} (h : isTup x = true) : ∃ es k p, x = .Tuple es k p := by
  cases x <;> first | exact ⟨_, _, _, rfl⟩ | cases h
theorem itE_snd (sn : Snd P gc n r) (g : Gd P gc ct C X n) {a : Ex} {tg x : Expr} (h : itB r ct false a tg x = true) : PI X tg x (tI C (KeepE C) fun Γ S => evI (run P n) Γ S a) := by
  unfold itB at h
  split at h
  · exact rng_snd sn g (fun _ _ _ _ _ h => h) h
  · rename_i a b
    split at h
    · rename_i y p xa xb pos
      simp only [Bool.and_eq_true, beq_iff_eq, Bool.false_eq_true, if_false] at h
      obtain ⟨⟨⟨⟨⟨rfl, h2⟩, h3⟩, h4⟩, h5⟩, h6⟩ := h
      obtain ⟨es, k, tp, rfl⟩ := isTup_eq h3
      exact di_zip g.hK (g.gl h2) (g.blt _ (by simp [bltNames])) (rd_snd sn g h6.1) (rd_snd sn g h6.2) (star_cons h4 _ _) (star_cons h5 _ _)
    · cases h
  · rename_i a
    split at h
    · rename_i y p xa pos
      simp only [Bool.and_eq_true, beq_iff_eq, Bool.false_eq_true, if_false] at h
      obtain ⟨⟨⟨⟨rfl, h2⟩, h3⟩, h4⟩, h6⟩ := h
      obtain ⟨es, k, tp, rfl⟩ := isTup_eq h3
      exact di_enm g.hK (g.gl h2) (g.blt _ (by simp [bltNames])) (rd_snd sn g h6) (star_cons h4 _ _)
    · cases h
  · rename_i n1 n2 n3
    simp only [Bool.false_eq_true, if_false] at h
    refine pi_fn (di_val g.hK (rd_snd sn g h)) fun Γ S => ?_
    unfold evI
    split
    · exact absurd rfl (n1 _)
    · exact absurd rfl (n2 _ _)
    · exact absurd rfl (n3 _)
    · rfl
theorem itS_snd (sn : Snd P gc n r) (g : Gd P gc ct C X n) {a : Ex} {tg x : Expr} (h : itB r ct true a tg x = true) : PI X tg x (tI C KeepS fun Γ S => evI (run P n) Γ S a) := by
  unfold itB at h
  split at h
  · exact rng_snd sn g (fun _ _ _ _ _ h => h) h
  · rename_i a b
    split at h
    · rename_i y p xa xb pos
      simp only [Bool.and_eq_true, beq_iff_eq, if_true] at h
      obtain ⟨⟨⟨⟨⟨rfl, h2⟩, h3⟩, h4⟩, h5⟩, h6⟩ := h
      obtain ⟨es, k, tp, rfl⟩ := isTup_eq h3
      exact di_zipS g.hK (g.gl h2) (g.blt _ (by simp [bltNames])) (sn.e g h6.1) (sn.e g h6.2) (star_cons h4 _ _) (star_cons h5 _ _)
    · cases h
  · rename_i a
    split at h
    · rename_i y p xa pos
      simp only [Bool.and_eq_true, beq_iff_eq, if_true] at h
      obtain ⟨⟨⟨⟨rfl, h2⟩, h3⟩, h4⟩, h6⟩ := h
      obtain ⟨es, k, tp, rfl⟩ := isTup_eq h3
      exact di_enmS g.hK (g.gl h2) (g.blt _ (by simp [bltNames])) (sn.e g h6) (star_cons h4 _ _)
    · cases h
  · rename_i n1 n2 n3
    simp only [if_true] at h
    refine pi_fn (di_valS g.hK (sn.e g h)) fun Γ S => ?_
    unfold evI
    split
    · exact absurd rfl (n1 _)
    · exact absurd rfl (n2 _ _)
    · exact absurd rfl (n3 _)
    · rfl
theorem ifs_snd (sn : Snd P gc n r) (g : Gd P gc ct C X n) {cs : List Ex} {xs : List Expr} (h : ifsB r ct cs xs = true) : PTs X xs (tT C fun Γ S => evTs (run P n) Γ cs S) := by
  unfold ifsB at h
  split at h
  · refine ⟨fun pins s σ H Q I q => pts_nil.run pins s σ H Q I ?_⟩
    obtain ⟨Γ, W, S, he, hv, p⟩ := q
    exact p true H W (Stp.refl _ _ _) hv rfl
  · rename_i c x
    refine pts_one (pt_fn (sn.t g h) fun Γ S => ?_)
    unfold evTs
    cases evT (run P n) Γ S c with
    | ok b S1 => cases b <;> rfl
    | exc c d S1 => rfl
    | bad => rfl
  · cases h
theorem opt_snd (sn : Snd P gc n r) (g : Gd P gc ct C X n) {o : Option Ex} {x : Option Expr} (h : optB r ct o x = true) : PO X x (tOpt C fun Γ S => evOpt (run P n) Γ o S) := by
  unfold optB at h
  split at h
  · exact do_none
  · exact do_some (sn.e g h)
  · cases h
end
end PD
/-! P13: expressions that are checked do what the evaluation says. -/
namespace PD
open PySem PySem.Spec PyProof.Rows L2
section
variable {P : Prg} {gc : List (Str × PyData)} {ct : Ct} {C : Cfg} {X : Cx} {n : Nat} {r : Chk}
theorem ownS_ix (ct : Ct) (own : List Nat) : (ownS ct own).map (·.2) = own := by
  unfold ownS
  rw [List.map_map]
  exact List.map_id' own
theorem subB_mem {a b : List Nat} (h : subB a b = true) : ∀ i ∈ a, i ∈ b := fun i hi => by
  unfold subB at h
  rw [List.all_eq_true] at h
  simpa using h i hi
theorem blk_kind {N : List Str} {sc scope : Scope} {own : List (Str × Nat)} (h : blkC N sc scope own = true) : scope.kind = .function := (blkOk_by h).kind
theorem comp_snd (sn : Snd P gc n r) (g : Gd P gc ct C X n) {elt : Ex} {t : Tg} {it : Ex} {cs : List Ex} {own : List Nat} {x : Expr} (h : compB r ct elt t it cs own x = true) : PE X x (tF C fun Γ S => evComp (run P n) Γ elt t it cs own S) := by
  unfold compB at h
  split at h
  · rename_i xe tg iter ifs as scope pos
    simp only [Bool.and_eq_true, decide_eq_true_eq] at h
    obtain ⟨⟨⟨⟨⟨⟨⟨rfl, h1⟩, h2⟩, h3⟩, h4⟩, h5⟩, h6⟩, h7⟩ := h
    have hk := blk_kind h3
    have key := de_compF (pos := pos) g.calm (by rw [g.N]; exact g.nd) (itE_snd sn g h1) (by rw [g.N, g.sc]; exact blkOk_by h3) (fun s H a cl fp => tg_snd (g.blk s H scope hk cl a fp) h4) (fun s H a cl fp => ifs_snd sn (g.blk s H scope hk cl a fp) h5) (fun s H a cl fp => sn.e (g.blk s H scope hk cl a fp) h6) (folded h2 _) (by rw [ownS_ix]; exact subB_mem h7)
    rw [ownS_ix] at key
    exact key
  · cases h
theorem comp2_snd (sn : Snd P gc n r) (g : Gd P gc ct C X n) {elt : Ex} {t : Tg} {it : Ex} {cs : List Ex} {t2 : Tg} {it2 : Ex} {cs2 : List Ex} {own own2 : List Nat} {x : Expr} (h : comp2B r ct elt t it cs t2 it2 cs2 own own2 x = true) : PE X x (tF C fun Γ S => evComp2 (run P n) Γ elt t it cs t2 it2 cs2 own own2 S) := by
  unfold comp2B at h
  split at h
  · rename_i xe tg iter ifs as tg2 iter2 ifs2 as2 scope pos
    simp only [Bool.and_eq_true, decide_eq_true_eq] at h
    obtain ⟨⟨⟨⟨⟨⟨⟨⟨⟨⟨⟨⟨⟨⟨⟨rfl, rfl⟩, h1⟩, h2⟩, h2'⟩, h3⟩, h4⟩, h5⟩, h6⟩, h7⟩, h8⟩, h9⟩, h10⟩, h11⟩, h12⟩, h13⟩ := h
    have hk := blk_kind h3
    have key := de_comp2F (pos := pos) (vs1 := own2) g.calm (by rw [g.N]; exact g.nd) (itE_snd sn g h1) (by rw [g.N, g.sc]; exact blkOk_by h3) (by rw [ownS_ix]; exact subB_mem h12) (fun s H a cl fp => tg_snd (g.blk s H scope hk cl a fp) h4) (fun s H a cl fp => ifs_snd sn (g.blk s H scope hk cl a fp) h5)
      (fun s H a cl fp => itS_snd sn (g.blk s H scope hk cl a fp) h6) (fun s H a cl fp => tg_snd (g.blk s H scope hk cl a fp) h7) (fun s H a cl fp => ifs_snd sn (g.blk s H scope hk cl a fp) h8) (fun s H a cl fp => sn.e (g.blk s H scope hk cl a fp) h9) (folded h2 _) (folded h2') (by rw [ownS_ix]; exact subB_mem h10) (subB_mem h11) (fun i hi => by
        rw [g.kOf]
        rw [List.all_eq_true] at h13
        exact of_decide_eq_true (h13 i hi))
    rw [ownS_ix] at key
    exact key
  · cases h
theorem and_snd (sn : Snd P gc n r) (g : Gd P gc ct C X n) {pos : Pos} : ∀ {es : List Ex} {xs : List Expr}, all2 (r.e ct) es xs = true → es ≠ [] → PE X (.BoolOp .And xs pos) (tE C fun Γ S => evAnd (run P n) Γ es S)
  | [], _, _, h => absurd rfl h
  | [a], [x], h, _ => by
    simp only [all2, Bool.and_eq_true] at h
    exact pe_one (sn.e g h.1)
  | a :: b :: es, x :: y :: xs, h, _ => by
    rw [all2, Bool.and_eq_true] at h
    exact de_and (sn.e g h.1) (and_snd sn g h.2 (by simp))
  | _ :: _, [], h, _ => by cases h
  | [_], _ :: _ :: _, h, _ => by simp [all2] at h
  | _ :: _ :: _, [_], h, _ => by simp [all2] at h
theorem or_snd (sn : Snd P gc n r) (g : Gd P gc ct C X n) {pos : Pos} : ∀ {es : List Ex} {xs : List Expr}, all2 (r.e ct) es xs = true → es ≠ [] → PE X (.BoolOp .Or xs pos) (tE C fun Γ S => evOr (run P n) Γ es S)
  | [], _, _, h => absurd rfl h
  | [a], [x], h, _ => by
    simp only [all2, Bool.and_eq_true] at h
    exact pe_one (sn.e g h.1)
  | a :: b :: es, x :: y :: xs, h, _ => by
    rw [all2, Bool.and_eq_true] at h
    exact de_or (sn.e g h.1) (or_snd sn g h.2 (by simp))
  | _ :: _, [], h, _ => by cases h
  | [_], _ :: _ :: _, h, _ => by simp [all2] at h
  | _ :: _ :: _, [_], h, _ => by simp [all2] at h
theorem and_t (sn : Snd P gc n r) (g : Gd P gc ct C X n) {pos : Pos} : ∀ {es : List Ex} {xs : List Expr}, all2 (r.t ct) es xs = true → es ≠ [] → PW X (.BoolOp .And xs pos) (tT C fun Γ S => toB (evAnd (run P n) Γ es S) fun b S1 => .ok b S1)
  | [], _, _, h => absurd rfl h
  | [a], [x], h, _ => by
    simp only [all2, Bool.and_eq_true] at h
    exact pw_and1 (sn.t g h.1)
  | a :: b :: es, x :: y :: xs, h, _ => by
    rw [all2, Bool.and_eq_true] at h
    have key := dw_and (pos := pos) (sn.t g h.1) (and_t sn g h.2 (by simp))
    have e : (fun (Γ : Env) (S : Draw) => (evT (run P n) Γ S a).bind fun k S1 => if k then toB (evAnd (run P n) Γ (b :: es) S1) (fun b S1 => Res.ok b S1) else .ok false S1) = fun Γ S => toB (evAnd (run P n) Γ (a :: b :: es) S) fun b S1 => .ok b S1 := by
      funext Γ S
      show ((toB ((run P n).e Γ S a) fun b S1 => Res.ok b S1).bind fun k S1 => if k then toB (evAnd (run P n) Γ (b :: es) S1) (fun b S1 => Res.ok b S1) else .ok false S1) = toB (toB ((run P n).e Γ S a) fun k S1 => if k then evAnd (run P n) Γ (b :: es) S1 else .ok (.bool false) S1) fun b S1 => .ok b S1
      cases (run P n).e Γ S a with
      | bad => rfl
      | exc c d S1 => rfl
      | ok d S1 => cases d <;> first | rfl | (rename_i k; cases k <;> rfl)
    rw [← e]
    exact key
  | _ :: _, [], h, _ => by cases h
  | [_], _ :: _ :: _, h, _ => by simp [all2] at h
  | _ :: _ :: _, [_], h, _ => by simp [all2] at h
theorem or_t (sn : Snd P gc n r) (g : Gd P gc ct C X n) {pos : Pos} : ∀ {es : List Ex} {xs : List Expr}, all2 (r.t ct) es xs = true → es ≠ [] → PW X (.BoolOp .Or xs pos) (tT C fun Γ S => toB (evOr (run P n) Γ es S) fun b S1 => .ok b S1)
  | [], _, _, h => absurd rfl h
  | [a], [x], h, _ => by
    simp only [all2, Bool.and_eq_true] at h
    exact pw_or1 (sn.t g h.1)
  | a :: b :: es, x :: y :: xs, h, _ => by
    rw [all2, Bool.and_eq_true] at h
    have key := dw_or (pos := pos) (sn.t g h.1) (or_t sn g h.2 (by simp))
    have e : (fun (Γ : Env) (S : Draw) => (evT (run P n) Γ S a).bind fun k S1 => if k then .ok true S1 else toB (evOr (run P n) Γ (b :: es) S1) (fun b S1 => Res.ok b S1)) = fun Γ S => toB (evOr (run P n) Γ (a :: b :: es) S) fun b S1 => .ok b S1 := by
      funext Γ S
      show ((toB ((run P n).e Γ S a) fun b S1 => Res.ok b S1).bind fun k S1 => if k then .ok true S1 else toB (evOr (run P n) Γ (b :: es) S1) (fun b S1 => Res.ok b S1)) = toB (toB ((run P n).e Γ S a) fun k S1 => if k then .ok (.bool true) S1 else evOr (run P n) Γ (b :: es) S1) fun b S1 => .ok b S1
      cases (run P n).e Γ S a with
      | bad => rfl
      | exc c d S1 => rfl
      | ok d S1 => cases d <;> first | rfl | (rename_i k; cases k <;> rfl)
    rw [← e]
    exact key
  | _ :: _, [], h, _ => by cases h
  | [_], _ :: _ :: _, h, _ => by simp [all2] at h
  | _ :: _ :: _, [_], h, _ => by simp [all2] at h
theorem rg_val (sn : Snd P gc n r) (g : Gd P gc ct C X n) {tup : Bool} {es : List Ex} {x : Expr} {p pos : Pos} (hg : glB ct (if tup then "tuple" else "list") = true) (h : rngB r ct es x = true) (hl : es.length ≤ 2) :
    PE X (.Call (.Name (if tup then "tuple" else "list") p) [x] [] pos) (tE C fun Γ S => (evs ((run P n).e Γ) es S).bind fun xs S1 => match rngD xs with
      | some ys => if ys.length ≤ 16777216 ∧ xs.length ≤ 2 then .ok (mkR tup ys) S1 else .bad
      | none => .bad) := by
  unfold rngB at h
  split at h
  · rename_i y p xs pos
    simp only [Bool.and_eq_true, beq_iff_eq, decide_eq_true_eq, Bool.not_eq_true'] at h
    obtain ⟨⟨⟨⟨⟨rfl, h2⟩, h3⟩, h4⟩, h5⟩, h6⟩ := h
    have gl := g.gl h2
    have hm := g.blt "range" (by simp [bltNames])
    have hm2 : X.mg (if tup then "tuple" else "list") = none := g.blt _ (by cases tup <;> simp [bltNames])
    cases xs with
    | nil => cases h5
    | cons xa xs =>
      cases es with
      | nil => cases h3
      | cons a es =>
        simp only [all2, Bool.and_eq_true] at h3
        simp only [List.all_cons, Bool.and_eq_true] at h4
        cases xs with
        | nil =>
          cases es with
          | cons _ _ => simp [all2] at h3
          | nil =>
            refine pe_fn (de_rg1 g.calm (g.gl hg) hm2 gl hm (sn.e g h3.1) (star_cons h4.1 _ _)) fun Γ S => ?_
            simp only [evs, bind_bind]
            refine congrArg _ (funext fun x => funext fun S1 => ?_)
            simp only [Res.bind_ok]
            cases rngD [x] with
            | none => rfl
            | some ys => simp
        | cons xb xs =>
          cases es with
          | nil => simp [all2] at h3
          | cons b es =>
            simp only [all2, Bool.and_eq_true] at h3
            simp only [List.all_cons, Bool.and_eq_true] at h4
            cases es with
            | cons _ _ => simp at hl
            | nil =>
              cases xs with
              | cons _ _ => simp [all2] at h3
              | nil =>
                refine pe_fn (de_rg2 g.calm (g.gl hg) hm2 gl hm (sn.e g h3.1) (sn.e g h3.2.1) (star_cons h4.1 _ _) (star_cons h4.2.1 _ _) (star_any (by simp [h4.2.1]) _ _)) fun Γ S => ?_
                simp only [evs, bind_bind]
                refine congrArg _ (funext fun x => funext fun S1 => ?_)
                refine congrArg _ (funext fun y => funext fun S2 => ?_)
                simp only [Res.bind_ok]
                cases rngD [x, y] with
                | none => rfl
                | some ys => simp
  · cases h
theorem e_snd (sn : Snd P gc n r) (g' : Gd P gc ct C X (n + 1)) {a : Ex} {x : Expr} (h : eStep P gc r ct a x = true) : PE X x (tE C fun Γ S => evStep (run P n) Γ S a) := by
  have g := g'.low
  cases a with
  | var i =>
    simp only [eStep] at h
    split at h
    · rw [Bool.and_eq_true, decide_eq_true_eq] at h
      obtain ⟨h1, h2, h3, h4⟩ := g.nm h.1
      exact de_var h1 h2 h3 h4 (by rw [g.kOf]; exact h.2)
    · cases h
  | con d =>
    simp only [eStep] at h
    split at h
    · exact de_con h
    · cases h
  | glb z d =>
    simp only [eStep] at h
    split at h
    · rename_i y p
      simp only [Bool.and_eq_true, beq_iff_eq, Bool.not_eq_true'] at h
      obtain ⟨⟨⟨rfl, h2⟩, h3⟩, h4⟩ := h
      split at h4
      · rename_i d' e
        cases cEq_eq h4
        obtain ⟨v, u, k1, k2, k3⟩ := g.con _ _ e
        exact de_tC (pe_glob (g.gl h2) k1 k2 h3) k3
      · cases h4
    · cases h
  | tup es =>
    simp only [eStep] at h
    split at h
    · rw [Bool.and_eq_true] at h
      exact de_tup (all2_as sn g h.1 h.2)
    · cases h
  | lst es =>
    simp only [eStep] at h
    split at h
    · rw [Bool.and_eq_true] at h
      refine pe_fn (pe_show (de_lstF (all2_as sn g h.1 h.2))) fun Γ S => ?_
      simp only [evStep, bind_bind]
      refine congrArg _ (funext fun xs => funext fun S1 => ?_)
      split <;> rfl
    · cases h
  | bin op a b =>
    simp only [eStep] at h
    split at h
    · simp only [Bool.and_eq_true, decide_eq_true_eq] at h
      obtain ⟨⟨rfl, h2⟩, h3⟩ := h
      exact de_bin (sn.e g h2) (sn.e g h3)
    · cases h
  | neg a =>
    simp only [eStep] at h
    split at h
    · simp only [Bool.and_eq_true, decide_eq_true_eq] at h
      obtain ⟨rfl, h2⟩ := h
      exact de_neg (sn.e g h2)
    · cases h
  | cmp op a b =>
    simp only [eStep] at h
    split at h
    · simp only [Bool.and_eq_true, decide_eq_true_eq, Bool.not_eq_true'] at h
      obtain ⟨⟨⟨rfl, h2⟩, h3⟩, h4⟩ := h
      exact de_cmp g.hK g.un (rd_snd sn g h2) (rd_snd sn g h3) h4
    · cases h
  | chn op op2 a b c =>
    simp only [eStep] at h
    split at h
    · simp only [Bool.and_eq_true, decide_eq_true_eq, Bool.not_eq_true'] at h
      obtain ⟨⟨⟨⟨⟨rfl, rfl⟩, h2⟩, h3⟩, h4⟩, h5⟩ := h
      exact de_chn g.hK g.un (rd_snd sn g h2) (rd_snd sn g h3) (rd_snd sn g h4) h5
    · cases h
  | and es =>
    simp only [eStep] at h
    split at h
    · simp only [Bool.and_eq_true, decide_eq_true_eq, Bool.not_eq_true'] at h
      obtain ⟨⟨rfl, h2⟩, h3⟩ := h
      exact and_snd sn g h2 (by rintro rfl; cases h3)
    · cases h
  | or es =>
    simp only [eStep] at h
    split at h
    · simp only [Bool.and_eq_true, decide_eq_true_eq, Bool.not_eq_true'] at h
      obtain ⟨⟨rfl, h2⟩, h3⟩ := h
      exact or_snd sn g h2 (by rintro rfl; cases h3)
    · cases h
  | not a =>
    simp only [eStep] at h
    split at h
    · simp only [Bool.and_eq_true, decide_eq_true_eq] at h
      obtain ⟨rfl, h2⟩ := h
      exact de_not (sn.e g h2)
    · cases h
  | ite c a b =>
    simp only [eStep] at h
    split at h
    · simp only [Bool.and_eq_true] at h
      exact de_ite (sn.t g h.1.1) (sn.e g h.1.2) (sn.e g h.2)
    · cases h
  | idx a b =>
    simp only [eStep] at h
    split at h
    · simp only [Bool.and_eq_true] at h
      exact de_idx g.hK (rd_snd sn g h.1.2) (rd_snd sn g h.2) (plain_ix h.1.1)
    · cases h
  | sl a lo hi =>
    simp only [eStep] at h
    split at h
    · simp only [Bool.and_eq_true] at h
      obtain ⟨⟨⟨h1, h2⟩, h3⟩, h4⟩ := h
      rename_i st _ _
      cases st with
      | some _ => cases h1
      | none => exact de_sl g.hK (rd_snd sn g h2) (opt_snd sn g h3) (opt_snd sn g h4)
    · cases h
  | blt b es =>
    simp only [eStep] at h
    split at h
    · rename_i y p xs kws pos
      simp only [Bool.and_eq_true, beq_iff_eq, Bool.not_eq_true'] at h
      obtain ⟨⟨⟨⟨⟨h0, rfl⟩, h2⟩, h3⟩, h4⟩, h5⟩ := h
      cases kws with
      | cons _ _ => cases h0
      | nil =>
        cases xs with
        | nil => cases h3
        | cons xa xs =>
          have hst := h5
          rw [List.all_cons, Bool.and_eq_true] at hst
          exact de_blt g.hK g.calm g.un g.gd (g.gl h2) (g.blt _ (bl_mem b)) (all2_rs sn g h4 h5) (star_cons hst.1 _ _) (star_any hst.2 _ _)
    · cases h
  | call j es =>
    simp only [eStep] at h
    split at h
    · rename_i y p xs kws pos
      simp only [Bool.and_eq_true, Bool.not_eq_true'] at h
      obtain ⟨⟨⟨h0, h1⟩, h2⟩, h3⟩ := h
      cases kws with
      | cons _ _ => cases h0
      | nil =>
        split at h3
        · rename_i f hf
          rw [Bool.and_eq_true, beq_iff_eq] at h3
          obtain ⟨rfl, h3⟩ := h3
          obtain ⟨ar, st⟩ := args_snd sn g h3
          obtain ⟨fa, fd, ps, F, mf, kp, bd⟩ := g'.fns n (Nat.lt_succ_self n) j f hf
          cases xs with
          | nil =>
            cases hk : f.kd.take f.np with
            | cons _ _ => rw [hk] at h3; cases es <;> cases h3
            | nil =>
              rw [hk] at h3 F
              cases es with
              | cons _ _ => cases h3
              | nil => exact de_call0 F g.room g.gd (g.gl h1) mf kp bd g.hex h2 g.xq
          | cons xa xs =>
            rw [List.all_cons, Bool.and_eq_true] at st
            exact de_call F g.room g.gd (g.gl h1) mf kp bd g.hex ar h2 (star_cons st.1 _ _) (star_any st.2 _ _) g.xq
        · cases h3
    · cases h
  | comp elt t it cs own =>
    exact pe_show (comp_snd sn g h)
  | comp2 elt t it cs t2 it2 cs2 own own2 =>
    exact pe_show (comp2_snd sn g h)
  | isi a t =>
    simp only [eStep] at h
    split at h
    · rename_i y p xa z pz kws pos
      simp only [Bool.and_eq_true, beq_iff_eq] at h
      obtain ⟨⟨⟨⟨⟨⟨h0, rfl⟩, h2⟩, rfl⟩, h4⟩, h5⟩, h6⟩ := h
      cases kws with
      | cons _ _ => cases h0
      | nil => exact de_isi g.hK (g.gl h2) (g.blt _ (by simp [bltNames])) (g.gl h4) (g.blt _ (ty_mem t)) (rd_snd sn g h5) (star_cons h6 _ _)
    · cases h
  | trng es =>
    simp only [eStep] at h
    split at h
    · rename_i y p xr kws pos
      simp only [Bool.and_eq_true, beq_iff_eq, decide_eq_true_eq] at h
      obtain ⟨⟨⟨⟨h0, rfl⟩, h2⟩, h3⟩, h4⟩ := h
      cases kws with
      | cons _ _ => cases h0
      | nil => exact rg_val (tup := true) sn g h2 h3 h4
    · cases h
  | lrng es =>
    simp only [eStep] at h
    split at h
    · rename_i y p xr kws pos
      simp only [Bool.and_eq_true, beq_iff_eq, decide_eq_true_eq] at h
      obtain ⟨⟨⟨⟨h0, rfl⟩, h2⟩, h3⟩, h4⟩ := h
      cases kws with
      | cons _ _ => cases h0
      | nil => exact rg_val (tup := false) sn g h2 h3 h4
    · cases h
  | meth m a b =>
    simp only [eStep] at h
    split at h
    · rename_i o nm ap xb kws p
      simp only [Bool.and_eq_true, beq_iff_eq] at h
      obtain ⟨⟨⟨⟨⟨⟨h0, rfl⟩, h2⟩, h3⟩, h4⟩, h5⟩, h6⟩ := h
      have h6 : (ap.endLine == p.line) = true := by rw [beq_iff_eq]; exact h6
      cases kws with
      | cons _ _ => cases h0
      | nil =>
        cases m with
        | join => exact de_join g.hK (sn.e g h3) (rd_snd sn g h4) (star_cons h5 _ _) (plain_base h2 _ _) h6
        | split => exact de_split (sn.e g h3) (sn.e g h4) (star_cons h5 _ _) (plain_base h2 _ _) h6
        | startswith => exact de_starts (sn.e g h3) (sn.e g h4) (star_cons h5 _ _) (plain_base h2 _ _) h6
        | index => cases h4
    · cases h
  | rng es => cases h
  | zip a b => cases h
  | enm a => cases h
  | sset a =>
    simp only [eStep] at h
    split at h
    · rename_i y p z p2 xa kws2 q kws pos
      simp only [Bool.and_eq_true, beq_iff_eq] at h
      obtain ⟨⟨⟨⟨⟨⟨⟨h0, h1⟩, rfl⟩, h2⟩, rfl⟩, h3⟩, h4⟩, h5⟩ := h
      cases kws with
      | cons _ _ => cases h0
      | nil =>
        cases kws2 with
        | cons _ _ => cases h1
        | nil => exact de_sset g.hK g.calm g.un (g.gl h2) (g.blt _ (by simp [bltNames])) (g.gl h3) (g.blt _ (by simp [bltNames])) (rd_snd sn g h4) (star_cons h5 _ _)
    · cases h
  | hnn i => cases h
  | lam j e => cases h
  | cat a b => cases h
  | exn i neg =>
    simp only [eStep] at h
    split at h
    · unfold exnB at h
      split at h
      · simp only [Bool.and_eq_true, decide_eq_true_eq] at h
        obtain ⟨⟨h1, h2⟩, rfl⟩ := h
        obtain ⟨n1, n2, n3, n4⟩ := g.nm h1
        exact pe_cmp (de_exn n1 n2 n3 n4 (by rw [g.kOf]; exact h2)) (nobehind _ (isop _).1 (isop _).2)
      · cases h
    · cases h
  | exf i f cs =>
    simp only [eStep] at h
    split at h
    · simp only [Bool.and_eq_true, decide_eq_true_eq, beq_iff_eq] at h
      obtain ⟨⟨⟨rfl, h1⟩, h2⟩, h3⟩ := h
      obtain ⟨n1, n2, n3, n4⟩ := g.nm h1
      refine de_exf n1 n2 n3 n4 (by rw [g.kOf]; exact h2) (fun c y fld e => (g.exs c y fld e).1) fun c z e hc => ?_
      rw [List.all_eq_true] at h3
      have q := h3 c (by simpa using hc)
      rw [Bool.or_eq_true, decide_eq_true_eq, decide_eq_true_eq] at q
      rw [g.hex] at e
      rw [e] at q
      rcases q with q | q
      · exact Option.some.inj q
      · cases q
    · cases h
  | exi i c =>
    simp only [eStep] at h
    split at h
    · rename_i y p z p2 u p3 kws pos
      simp only [Bool.and_eq_true, decide_eq_true_eq, beq_iff_eq, Bool.not_eq_true'] at h
      obtain ⟨⟨⟨⟨⟨⟨⟨h0, rfl⟩, h2⟩, h3⟩, h4⟩, h5⟩, h6⟩, h7⟩ := h
      cases kws with
      | cons _ _ => cases h0
      | nil =>
        obtain ⟨n1, n2, n3, n4⟩ := g.nm h3
        rw [Option.map_eq_some_iff] at h7
        obtain ⟨⟨u', fld⟩, e1, rfl⟩ := h7
        rw [← g.hex] at e1
        exact de_exi n1 n2 n3 n4 (by rw [g.kOf]; exact h4) (g.gl h2) (g.blt _ (by simp [bltNames])) (g.gl h5) (g.exs c _ _ e1).2 h6 e1 (fun c y fld e => (g.exs c y fld e).1) g.sub2
    · cases h
theorem toB_cases {α : Type} (x : Res PyData) (k : Bool → Draw → Res α) : toB x k = (toB x fun b S => .ok b S).bind k := by
  unfold toB
  cases x with
  | bad => rfl
  | exc c d S => rfl
  | ok d S => cases d <;> rfl
theorem t_snd (sn : Snd P gc n r) (g' : Gd P gc ct C X (n + 1)) {a : Ex} {x : Expr} (h : tStep P gc r ct a x = true) : PT X x (tT C fun Γ S => toB (evStep (run P n) Γ S a) fun b S1 => .ok b S1) := by
  have g := g'.low
  unfold tStep at h
  split at h
  · split at h
    · unfold exnB at h
      split at h
      · simp only [Bool.and_eq_true, decide_eq_true_eq] at h
        obtain ⟨⟨h1, h2⟩, rfl⟩ := h
        obtain ⟨n1, n2, n3, n4⟩ := g.nm h1
        exact dt_exn n1 n2 n3 n4 (by rw [g.kOf]; exact h2)
      · cases h
    · split at h
      · simp only [Bool.and_eq_true, decide_eq_true_eq, Bool.not_eq_true'] at h
        obtain ⟨⟨⟨rfl, h2⟩, h3⟩, h4⟩ := h
        exact dt_cmp g.hK g.un (rd_snd sn g h2) (rd_snd sn g h3) h4
      · cases h
    · split at h
      · simp only [Bool.and_eq_true, decide_eq_true_eq, Bool.not_eq_true'] at h
        obtain ⟨⟨⟨⟨⟨rfl, rfl⟩, h2⟩, h3⟩, h4⟩, h5⟩ := h
        exact dt_chn g.hK g.un (rd_snd sn g h2) (rd_snd sn g h3) (rd_snd sn g h4) h5
      · cases h
    · cases h
  · split at h
    · simp only [Bool.and_eq_true, decide_eq_true_eq, Bool.not_eq_true'] at h
      obtain ⟨⟨rfl, h2⟩, h3⟩ := h
      exact (and_t sn g h2 (by rintro rfl; cases h3)).pt
    · simp only [Bool.and_eq_true, decide_eq_true_eq, Bool.not_eq_true'] at h
      obtain ⟨⟨rfl, h2⟩, h3⟩ := h
      exact (or_t sn g h2 (by rintro rfl; cases h3)).pt
    · cases h
  · split at h
    · rename_i a
      refine pt_fn (dt_not (sn.t g h)) fun Γ S => ?_
      show ((toB ((run P n).e Γ S a) fun b S1 => Res.ok b S1).bind fun b S1 => Res.ok (!b) S1) = toB (toB ((run P n).e Γ S a) fun b S1 => Res.ok (.bool (!b)) S1) fun b S1 => .ok b S1
      cases (run P n).e Γ S a with
      | bad => rfl
      | exc c d S1 => rfl
      | ok d S1 => cases d <;> rfl
    · cases h
  · rw [Bool.and_eq_true] at h
    exact dt_val (e_snd sn g' h.2) (plain_true h.1 _)
end
end PD
/-! P14: statements that are checked do what the evaluation says; the program's functions do. -/
namespace PD
open PySem PySem.Spec PyProof.Rows L2

def Ct.opn (ct : Ct) : Ct := { ct with kd := ct.kd.map Kd.opn }
/-- new lists -/
def isF : Ex → Bool
  | .lst _ => true
  | .comp .. => true
  | .comp2 .. => true
  | .cat .. => true
  | _ => false
def evF (r : Fns) (Γ : Env) (S : Draw) (a : Ex) : Res (List PyData) := (r.e Γ S a).bind fun d S1 => match d with
  | .list xs => .ok xs S1
  | _ => .bad
theorem evF_e (P : Prg) {a : Ex} (h : isF a = true) : ∀ (n : Nat) (Γ : Env) (S : Draw), (run P n).e Γ S a = (evF (run P n) Γ S a).bind fun xs S1 => .ok (.list xs) S1
  | 0, _, _ => rfl
  | n + 1, Γ, S => by
    cases a <;> try cases h
    · rename_i es
      show ((evs ((run P n).e Γ) es S).bind fun xs S1 => if xs.length ≤ 16777216 then Res.ok (PyData.list xs) S1 else .bad) = (((evs ((run P n).e Γ) es S).bind fun xs S1 => if xs.length ≤ 16777216 then Res.ok (PyData.list xs) S1 else .bad).bind fun d S1 => match d with
        | .list xs => .ok xs S1
        | _ => .bad).bind _
      cases evs ((run P n).e Γ) es S with
      | ok xs S1 => simp only [Res.bind_ok]; split <;> rfl
      | _ => rfl
    · rename_i elt t it cs own
      show ((evComp (run P n) Γ elt t it cs own S).bind fun ys S1 => Res.ok (PyData.list ys) S1) = (((evComp (run P n) Γ elt t it cs own S).bind fun ys S1 => Res.ok (PyData.list ys) S1).bind fun d S1 => match d with
        | .list xs => .ok xs S1
        | _ => .bad).bind _
      cases evComp (run P n) Γ elt t it cs own S <;> rfl
    · rename_i elt t it cs t2 it2 cs2 own own2
      show ((evComp2 (run P n) Γ elt t it cs t2 it2 cs2 own own2 S).bind fun ys S1 => Res.ok (PyData.list ys) S1) = (((evComp2 (run P n) Γ elt t it cs t2 it2 cs2 own own2 S).bind fun ys S1 => Res.ok (PyData.list ys) S1).bind fun d S1 => match d with
        | .list xs => .ok xs S1
        | _ => .bad).bind _
      cases evComp2 (run P n) Γ elt t it cs t2 it2 cs2 own own2 S <;> rfl
    · rename_i a b
      show (((run P n).e Γ S a).bind fun x S1 => ((run P n).e Γ S1 b).bind fun y S2 => match x, y with
        | .list xs, .list ys => if xs.length + ys.length ≤ 16777216 then Res.ok (PyData.list (xs ++ ys)) S2 else .bad
        | _, _ => .bad) = ((((run P n).e Γ S a).bind fun x S1 => ((run P n).e Γ S1 b).bind fun y S2 => match x, y with
        | .list xs, .list ys => if xs.length + ys.length ≤ 16777216 then Res.ok (PyData.list (xs ++ ys)) S2 else .bad
        | _, _ => .bad).bind fun d S1 => match d with
        | .list xs => .ok xs S1
        | _ => .bad).bind _
      cases (run P n).e Γ S a with
      | ok x S1 =>
        simp only [Res.bind_ok]
        cases (run P n).e Γ S1 b with
        | ok y S2 =>
          simp only [Res.bind_ok]
          split
          · split <;> rfl
          · rfl
        | _ => rfl
      | _ => rfl
structure Chk2 extends Chk where
  f : Ct → Ex → Expr → Bool
section
variable (P : Prg) (gc : List (Str × PyData)) (r : Chk2)
def roB (ct : Ct) (a : Ex) (x : Expr) : Bool :=
  match a with
  | .var i => match x with
    | .Name y _ => nmB ct i y && (decide (ct.k i = .nrm) || decide (ct.k i = .own))
    | _ => false
  | a => r.e ct a x
def fStep (ct : Ct) (a : Ex) (x : Expr) : Bool :=
  match a with
  | .lst es => match x with
    | .List xs _ => all2 (r.e ct) es xs && xs.all notStar
    | _ => false
  | .comp elt t it cs own => compB r.toChk ct elt t it cs own x
  | .comp2 elt t it cs t2 it2 cs2 own own2 => comp2B r.toChk ct elt t it cs t2 it2 cs2 own own2 x
  | .cat a b => match x with
    | .BinOp xa .Add xb _ => roB r ct a xa && roB r ct b xb
    | _ => false
  | _ => false
def kB (ct : Ct) (i : Nat) (a : Ex) (x : Expr) : Bool :=
  match ct.k i with
  | .nrm => r.e ct a x
  | .own => isF a && r.f ct a x
  | _ => false
/-- a name among the targets is no plain local -/
def cellTg (sc : Scope) : Expr → Bool
  | .Tuple ts _ _ => ts.any fun t => match t with
    | .Name y _ => isCell sc y
    | _ => false
  | _ => false
def plainV : Expr → Bool
  | .Tuple vs _ _ => (!(vs.length == 2 || vs.length == 3)) || vs.all (foldedForSure 8)
  | _ => true
/-- the classes that a clause names -/
def specB (ct : Ct) (cs : List Nat) (x : Expr) : Bool :=
  match x with
  | .Name z _ => match cs with
    | [c] => glB ct z && !dbg z && decide ((P.ex.lookup c).map (·.1) = some z)
    | _ => false
  | .Tuple zs _ _ => decide (cs.length ≤ 100) && all2 (fun c z => match z with | .Name y _ => glB ct y && !dbg y && decide ((P.ex.lookup c).map (·.1) = some y) | _ => false) cs zs
  | _ => false
def appB (ct : Ct) (i : Nat) (e : Ex) (x : Stmt) : Bool :=
  match x with
  | .Expr (.Call (.Attribute (.Name y _) nm ap) [xa] [] cp) _ => nm == ("append" : Str) && nmB ct i y && decide (ct.k i = .own) && r.e ct e xa && notStar xa && (ap.endLine == cp.line)
  | _ => false
def stmtB (ct : Ct) (s : Sx) (x : Stmt) : Bool :=
  match s with
  | .rse c keep e => match x with
    | .Raise (some (.Call (.Name y _) [xe] [] _)) none _ => (match P.ex.lookup c with | some z => z.1 == y && (keep == z.2.isSome) | none => false) && glB ct y && !dbg y && r.e ct e xe && notStar xe
    | _ => false
  | .tre j e cs i m => match x with
    | .Try [xs] [.ExceptHandler (some xt) (some n) [.Assign [.Name y _] (.Name n' _) _] _] [] [] _ => n' == n && stB ct m y && decide (ct.N[i]? = some n) && isLocal ct.sc n && !dbg n && !(n == ("__classdict__" : Str)) && decide (i ≠ m) && decide (ct.k m = .exv) && specB P ct cs xt &&
        appB r ct j e xs
    | _ => false
  | .asg t e => match x with
    | .Assign [tg] xe _ => match t with
      | .nm i => match tg with
        | .Name y _ => stB ct i y && (if notComp xe then (decide (ct.k i = .nrm) || decide (ct.k i = .exv)) && r.e ct e xe else decide (ct.k i = .nrm) && isF e && r.f ct e xe && isLocal ct.sc y)
        | _ => false
      | t => notComp xe && r.e ct e xe && tgB ct t tg && (plainV xe || cellTg ct.sc tg) && notStar tg
    | _ => false
  | .asgO i e => match x with
    | .Assign [tg] xe _ => match tg with
      | .Name y _ => stB ct i y && decide (ct.k i = .own) && isF e && r.f ct e xe && isLocal ct.sc y
      | _ => false
    | _ => false
  | .par is es => match x with
    | .Assign [.Tuple [.Name y1 p1, .Name y2 p2] _ _] (.Tuple [x1, x2] _ _) _ => match is, es with
      | [i, j], [a, b] => stB ct i y1 && stB ct j y2 && isLocal ct.sc y1 && isLocal ct.sc y2 && !(y1 == y2) && decide (i ≠ j) && (p1.line == p2.line) && notStar x1 && notStar x2 && kB r ct i a x1 && kB r ct j b x2 && !([x1, x2].all (foldedForSure 8)) && !([x1, x2].all (constantsAlone 8))
      | _, _ => false
    | .Assign [.Tuple [.Name y1 p1, .Name y2 p2, .Name y3 p3] _ _] (.Tuple [x1, x2, x3] _ _) _ => match is, es with
      | [i, j, l], [a, b, c] => stB ct i y1 && stB ct j y2 && stB ct l y3 && isLocal ct.sc y1 && isLocal ct.sc y2 && isLocal ct.sc y3 && !(y1 == y2) && !(y1 == y3) && !(y2 == y3) && decide (i ≠ j) && decide (i ≠ l) && decide (j ≠ l) && (p1.line == p2.line) && (p1.line == p3.line) &&
          notStar x1 && notStar x2 && notStar x3 && kB r ct i a x1 && kB r ct j b x2 && kB r ct l c x3 && !([x1, x2, x3].all (foldedForSure 8)) && !([x1, x2, x3].all (constantsAlone 8))
      | _, _ => false
    | _ => false
  | .aug i op e => match x with
    | .AugAssign (.Name y _) op' xe _ => decide (op = .Add) && decide (op' = .Add) && stB ct i y && decide (ct.k i = .nrm) && r.e ct e xe
    | _ => false
  | .app i e => appB r ct i e x
  | .ret e => match x with
    | .Return (some xe) _ => r.e ct.opn e xe
    | _ => false
  | .ife c a b => match x with
    | .If xc xa xb _ => r.t ct c xc && r.s ct a xa && r.s ct b xb
    | _ => false
  | .fr t it body => match x with
    | .For tg iter xb [] _ => itB r.toChk ct true it tg iter && tgB ct t tg && r.s ct body xb && notSet iter
    | _ => false
  | .whl c body => match x with
    | .While xc xb [] _ => r.t ct c xc && r.s ct body xb
    | _ => false
  | .exp e => match x with
    | .Expr xe _ => notComp xe && r.e ct e xe
    | _ => false
  | .brk => match x with
    | .Break _ => true
    | _ => false
  | .cnt => match x with
    | .Continue _ => true
    | _ => false
  | .rais => true
def sStep (ct : Ct) (ss : List Sx) (xs : List Stmt) : Bool := all2 (stmtB P r ct) ss xs
def chk : Nat → Chk2
  | 0 => ⟨⟨fun _ _ _ => false, fun _ _ _ => false, fun _ _ _ => false⟩, fun _ _ _ => false⟩
  | m + 1 => ⟨⟨eStep P gc (chk m).toChk, tStep P gc (chk m).toChk, sStep P (chk m)⟩, fStep (chk m)⟩
end
structure Snd2 (P : Prg) (gc : List (Str × PyData)) (n : Nat) (r : Chk2) : Prop where
  b : Snd P gc n r.toChk
  f : ∀ {ct : Ct} {C : Cfg} {X : Cx} {a : Ex} {x : Expr}, Gd P gc ct C X n → r.f ct a x = true → PE X x (tF C fun Γ S => evF (run P n) Γ S a)
  fa : ∀ {ct : Ct} {C : Cfg} {X : Cx} {a : Ex} {x : Expr} {i : Nat} {y : Str} (py spos : Pos), Gd P gc ct C X n → r.f ct a x = true → stB ct i y = true → isLocal ct.sc y = true → ∃ te : TE, PS X (.Assign [.Name y py] x spos) (tAsg te (gName i)) ∧ ∀ σ H Q, tF C (fun Γ S => evF (run P n) Γ S a) σ H Q → te σ H Q
section
variable {P : Prg} {gc : List (Str × PyData)} {ct : Ct} {C : Cfg} {X : Cx} {n : Nat} {r : Chk2} {H0 W0 : Hp}
theorem sw_eq {elt : Expr} {gs : List Comprehension} {scope : Scope} {pos py : Pos} {y : Str} {l : Nat} {env : PySem.Env} (hk : env.scope.kind = .function) (hy : env.scope.names.lookup y = some .local) :
    swapsWith (.ListComp elt gs scope pos) (some (.Name y py)) l env = pure ((py.line == pos.line) && !(scope.names.any fun (n, k) => n == y && (k == .local || k == .cell))) := by
  have ky : env.kindOf y = some .local := hy
  have hb : env.blockKind = .function := by unfold Env.blockKind; rw [hk]; rfl
  unfold swapsWith
  simp only [hb, ky, Expr.pos]
  rfl
theorem Gd.loc (g : Gd P gc ct C X n) {y : Str} (h : isLocal ct.sc y = true) : X.env.scope.names.lookup y = some .local := by rw [g.sc]; exact isLocal_eq h
theorem Gd.nd' (g : Gd P gc ct C X n) : X.N.Nodup := by rw [g.N]; exact g.nd
theorem Gd.opn (g : Gd P gc ct C X n) : Gd P gc ct.opn C.opn X n := { g with kd := by show C.kd.map Kd.opn = ct.kd.map Kd.opn; rw [g.kd], xq := Takes.imp g.xq fun cls dd σ H ⟨c, d, S, W, x, v, q⟩ => ⟨c, d, S, W, x, ⟨v.sub, v.hid, v.st, v.tab, v.nt⟩, q⟩ }
theorem Gd.tr (g : Gd P gc ct C X n) {q : Nat → PyData → Draw → L2.St → Hp → Hp → Prop} {pn : List (Addr × Obj)} {xe : Value → Shared → Prop} (tk : TakesC (C.wx q) (X.tr pn xe)) : Gd P gc ct (C.wx q) (X.tr pn xe) n :=
  { hK := g.hK, calm := g.calm, un := g.un, gd := g.gd, N := g.N, nd := g.nd, sc := g.sc, kd := g.kd, kind := g.kind, fn := g.fn, blt := g.blt, con := g.con, room := g.room, xq := tk, hex := g.hex, exs := g.exs, sub2 := g.sub2, fns := g.fns }
theorem ro_snd (sn : Snd2 P gc n r) (g : Gd P gc ct C X n) {a : Ex} {x : Expr} (h : roB r ct a x = true) : PE X x (tG C (fun H W v d => RO C H W v d) fun Γ S => (run P n).e Γ S a) := by
  unfold roB at h
  split at h
  · rename_i i
    split at h
    · rename_i y p
      rw [Bool.and_eq_true, Bool.or_eq_true, decide_eq_true_eq, decide_eq_true_eq] at h
      obtain ⟨h1, h2, h3, h4⟩ := g.nm h.1
      cases n with
      | zero => exact PE.imp (de_varO (C := C) h1 h2 h3 h4 (by rw [g.kOf]; exact h.2)) fun σ H Q ⟨Γ, W, S, he, hv, p⟩ => p.elim
      | succ n => exact de_varO h1 h2 h3 h4 (by rw [g.kOf]; exact h.2)
    · cases h
  · exact pe_ro (sn.b.e g h)
theorem f_snd (sn : Snd2 P gc n r) (g' : Gd P gc ct C X (n + 1)) {a : Ex} {x : Expr} (h : fStep r ct a x = true) : PE X x (tF C fun Γ S => evF (run P (n + 1)) Γ S a) := by
  have g := g'.low
  unfold fStep at h
  split at h
  · rename_i es
    split at h
    · rw [Bool.and_eq_true] at h
      refine pf_fn (de_lstF (all2_as sn.b g h.1 h.2)) fun Γ S => ?_
      show _ = ((evs ((run P n).e Γ) es S).bind fun xs S1 => if xs.length ≤ 16777216 then Res.ok (PyData.list xs) S1 else .bad).bind fun d S1 => match d with
        | .list xs => .ok xs S1
        | _ => .bad
      cases evs ((run P n).e Γ) es S with
      | ok xs S1 => simp only [Res.bind_ok]; split <;> rfl
      | _ => rfl
    · cases h
  · rename_i elt t it cs own
    refine pf_fn (comp_snd sn.b g h) fun Γ S => ?_
    show _ = ((evComp (run P n) Γ elt t it cs own S).bind fun ys S1 => Res.ok (PyData.list ys) S1).bind fun d S1 => match d with
        | .list xs => .ok xs S1
        | _ => .bad
    cases evComp (run P n) Γ elt t it cs own S <;> rfl
  · rename_i elt t it cs t2 it2 cs2 own own2
    refine pf_fn (comp2_snd sn.b g h) fun Γ S => ?_
    show _ = ((evComp2 (run P n) Γ elt t it cs t2 it2 cs2 own own2 S).bind fun ys S1 => Res.ok (PyData.list ys) S1).bind fun d S1 => match d with
        | .list xs => .ok xs S1
        | _ => .bad
    cases evComp2 (run P n) Γ elt t it cs t2 it2 cs2 own own2 S <;> rfl
  · rename_i a b
    split at h
    · rw [Bool.and_eq_true] at h
      refine pf_fn (de_catF (ro_snd sn g h.1) (ro_snd sn g h.2)) fun Γ S => ?_
      show _ = (((run P n).e Γ S a).bind fun x S1 => ((run P n).e Γ S1 b).bind fun y S2 => match x, y with
        | .list xs, .list ys => if xs.length + ys.length ≤ 16777216 then Res.ok (PyData.list (xs ++ ys)) S2 else .bad
        | _, _ => .bad).bind fun d S1 => match d with
        | .list xs => .ok xs S1
        | _ => .bad
      cases (run P n).e Γ S a with
      | ok x S1 =>
        simp only [Res.bind_ok]
        cases (run P n).e Γ S1 b with
        | ok y S2 =>
          simp only [Res.bind_ok]
          cases x <;> try rfl
          cases y <;> try rfl
          rename_i xs ys
          by_cases hl : xs.length + ys.length ≤ 16777216 <;> simp [hl]
        | _ => rfl
      | _ => rfl
    · cases h
  · cases h
theorem fa_snd (sn : Snd2 P gc n r) (g' : Gd P gc ct C X (n + 1)) {a : Ex} {x : Expr} {i : Nat} {y : Str} (py spos : Pos) (h : fStep r ct a x = true) (hst : stB ct i y = true) (hl : isLocal ct.sc y = true) :
    ∃ te : TE, PS X (.Assign [.Name y py] x spos) (tAsg te (gName i)) ∧ ∀ σ H Q, tF C (fun Γ S => evF (run P (n + 1)) Γ S a) σ H Q → te σ H Q := by
  have g := g'.low
  have pf := f_snd sn g' h
  obtain ⟨s1, s2, s3⟩ := g.st hst
  have plain : swapsWith x (some (.Name y py)) spos.line X.env = pure false → ∃ te : TE, PS X (.Assign [.Name y py] x spos) (tAsg te (gName i)) ∧ ∀ σ H Q, tF C (fun Γ S => evF (run P (n + 1)) Γ S a) σ H Q → te σ H Q := fun hs => ⟨_, ps_setF pf g.nd' s1 s2 hs s3, fun _ _ _ q => q⟩
  have ks : X.env.scope.kind = .function := by rw [g.sc]; exact g.kind
  unfold fStep at h
  split at h
  · split at h
    · exact plain rfl
    · cases h
  · rename_i elt t it cs own
    have h0 := h
    unfold compB at h
    split at h
    · rename_i xe tg iter ifs as scope pos
      simp only [Bool.and_eq_true, decide_eq_true_eq] at h
      obtain ⟨⟨⟨⟨⟨⟨⟨rfl, h1⟩, h2⟩, h3⟩, h4⟩, h5⟩, h6⟩, h7⟩ := h
      have hk := blk_kind h3
      have sw := sw_eq (elt := xe) (gs := [⟨tg, iter, ifs, 0⟩]) (scope := scope) (pos := pos) (py := py) (l := spos.line) ks (g.loc hl)
      cases hb : ((py.line == pos.line) && !(scope.names.any fun (n, k) => n == y && (k == .local || k == .cell))) with
      | false => rw [hb] at sw; exact plain sw
      | true =>
        rw [hb] at sw
        refine ⟨_, ps_setLc g.calm g.nd' s1 (g.loc hl) sw (itE_snd sn.b g h1) (by rw [g.N, g.sc]; exact blkOk_by h3) (fun s H a cl fp => tg_snd (g.blk s H scope hk cl a fp) h4) (fun s H a cl fp => ifs_snd sn.b (g.blk s H scope hk cl a fp) h5) (fun s H a cl fp => sn.b.e (g.blk s H scope hk cl a fp) h6) (folded h2 _), fun σ H Q q => ?_⟩
        refine lc_data (by rw [ownS_ix]; exact subB_mem h7) ?_
        have e : (fun Γ S => evF (run P (n + 1)) Γ S (.comp elt t it cs own)) = fun Γ S => evComp (run P n) Γ elt t it cs own S := by
          funext Γ S
          show ((evComp (run P n) Γ elt t it cs own S).bind fun ys S1 => Res.ok (PyData.list ys) S1).bind (fun d S1 => match d with
            | .list xs => .ok xs S1
            | _ => .bad) = _
          cases evComp (run P n) Γ elt t it cs own S <;> rfl
        rw [e] at q
        rw [ownS_ix]
        exact q
    · cases h
  · rename_i elt t it cs t2 it2 cs2 own own2
    unfold comp2B at h
    split at h
    · rename_i xe tg iter ifs as tg2 iter2 ifs2 as2 scope pos
      simp only [Bool.and_eq_true, decide_eq_true_eq] at h
      obtain ⟨⟨⟨⟨⟨⟨⟨⟨⟨⟨⟨⟨⟨⟨⟨rfl, rfl⟩, h1⟩, h2⟩, h2'⟩, h3⟩, h4⟩, h5⟩, h6⟩, h7⟩, h8⟩, h9⟩, h10⟩, h11⟩, h12⟩, h13⟩ := h
      have hk := blk_kind h3
      have sw := sw_eq (elt := xe) (gs := [⟨tg, iter, ifs, 0⟩, ⟨tg2, iter2, ifs2, 0⟩]) (scope := scope) (pos := pos) (py := py) (l := spos.line) ks (g.loc hl)
      cases hb : ((py.line == pos.line) && !(scope.names.any fun (n, k) => n == y && (k == .local || k == .cell))) with
      | false => rw [hb] at sw; exact plain sw
      | true =>
        rw [hb] at sw
        refine ⟨_, ps_setLc2 (vs1 := own2) g.calm g.nd' s1 (g.loc hl) sw (itE_snd sn.b g h1) (by rw [g.N, g.sc]; exact blkOk_by h3) (by rw [ownS_ix]; exact subB_mem h12) (fun s H a cl fp => tg_snd (g.blk s H scope hk cl a fp) h4) (fun s H a cl fp => ifs_snd sn.b (g.blk s H scope hk cl a fp) h5)
          (fun s H a cl fp => itS_snd sn.b (g.blk s H scope hk cl a fp) h6) (fun s H a cl fp => tg_snd (g.blk s H scope hk cl a fp) h7) (fun s H a cl fp => ifs_snd sn.b (g.blk s H scope hk cl a fp) h8) (fun s H a cl fp => sn.b.e (g.blk s H scope hk cl a fp) h9) (folded h2 _) (folded h2'), fun σ H Q q => ?_⟩
        refine lc2_data (by rw [ownS_ix]; exact subB_mem h10) (subB_mem h11) (fun i hi => by
          rw [g.kOf]
          rw [List.all_eq_true] at h13
          exact of_decide_eq_true (h13 i hi)) ?_
        have e : (fun Γ S => evF (run P (n + 1)) Γ S (.comp2 elt t it cs t2 it2 cs2 own own2)) = fun Γ S => evComp2 (run P n) Γ elt t it cs t2 it2 cs2 own own2 S := by
          funext Γ S
          show ((evComp2 (run P n) Γ elt t it cs t2 it2 cs2 own own2 S).bind fun ys S1 => Res.ok (PyData.list ys) S1).bind (fun d S1 => match d with
            | .list xs => .ok xs S1
            | _ => .bad) = _
          cases evComp2 (run P n) Γ elt t it cs t2 it2 cs2 own own2 S <;> rfl
        rw [e] at q
        rw [ownS_ix]
        exact q
    · cases h
  · split at h
    · exact plain rfl
    · cases h
  · cases h
theorem k_snd (sn : Snd2 P gc n r) (g : Gd P gc ct C X n) {i : Nat} {a : Ex} {x : Expr} (h : kB r ct i a x = true) : (C.kdOf i = .nrm ∨ C.kdOf i = .own) ∧ PE X x (tK C (C.kdOf i) fun Γ S => (run P n).e Γ S a) := by
  unfold kB at h
  rw [g.kOf]
  split at h
  · rename_i e
    rw [e]
    exact ⟨.inl rfl, pk_nrm (by simp) (sn.b.e g h)⟩
  · rename_i e
    rw [e]
    rw [Bool.and_eq_true] at h
    refine ⟨.inr rfl, ?_⟩
    have key := pk_own (sn.f g h.2)
    have e : (fun (Γ : Env) (S : Draw) => (evF (run P n) Γ S a).bind fun ds S1 => Res.ok (PyData.list ds) S1) = fun Γ S => (run P n).e Γ S a := by
      funext Γ S
      rw [← evF_e P h.1]
    rw [e] at key
    exact key
  · cases h
theorem fm_lt {α β : Type} {f : α → Option β} : ∀ {l : List α} {a : α}, a ∈ l → f a = none → (l.filterMap f).length < l.length
  | x :: l, a, h, e => by
    have le := List.length_filterMap_le f l
    rw [List.filterMap_cons]
    rcases List.mem_cons.mp h with rfl | h
    · rw [e]
      simp only [List.length_cons]
      omega
    · have := fm_lt h e
      cases f x <;> simp only [List.length_cons] <;> omega
theorem swapped_cell {tg x : Expr} {env : PySem.Env} (h : cellTg env.scope tg = true) : swappedStores [tg] x env = pure none := by
  unfold cellTg at h
  split at h
  · rename_i ts k p
    rw [List.any_eq_true] at h
    obtain ⟨t, ht, hc⟩ := h
    split at hc
    · rename_i y q
      have hk : env.kindOf y = some .cell := isCell_eq hc
      unfold swappedStores
      split
      · rename_i z ts' vs hz
        cases x <;> cases hz
        split
        · rfl
        split
        · rfl
        have lt : ∀ line : Nat, ((ts.filterMap fun t => match t with
          | .Name id pos => if env.kindOf id == some .local && pos.line == line then some id else none
          | _ => none).length != ts.length) = true := fun line => by
          have := fm_lt (f := fun t => match t with
            | Expr.Name id pos => if env.kindOf id == some .local && pos.line == line then some id else none
            | _ => none) ht (by simp [hk])
          rw [bne_iff_ne]
          omega
        dsimp only
        refine if_pos ?_
        rw [Bool.or_eq_true]
        exact .inl (lt _)
      · rfl
    · cases hc
  · cases h
theorem swapped_none {tg x : Expr} (h : plainV x = true) (env : PySem.Env) : swappedStores [tg] x env = pure none := by
  cases x with
  | Tuple vs k p =>
    unfold plainV at h
    rw [Bool.or_eq_true] at h
    cases tg with
    | Tuple ts kt pt =>
      unfold swappedStores
      simp only []
      split
      · rfl
      · rename_i h1
        split
        · rfl
        · split
          · rfl
          · split
            · rfl
            · rename_i h4
              exfalso
              rcases h with h | h
              · simp only [Bool.or_eq_true, bne_iff_ne, ne_eq, Bool.not_eq_true', not_or, Bool.not_eq_false, Decidable.not_not] at h1
                rw [h1.1.2] at h
                rcases h1.1.1 with z | z <;> (rw [z] at h; first | cases h | (rw [Bool.or_true] at h; cases h))
              · exact h4 h
    | List ts pt =>
      unfold swappedStores
      simp only []
      split
      · rfl
      · rename_i h1
        split
        · rfl
        · split
          · rfl
          · split
            · rfl
            · rename_i h4
              exfalso
              rcases h with h | h
              · simp only [Bool.or_eq_true, bne_iff_ne, ne_eq, Bool.not_eq_true', not_or, Bool.not_eq_false, Decidable.not_not] at h1
                rw [h1.1.2] at h
                rcases h1.1.1 with z | z <;> (rw [z] at h; first | cases h | (rw [Bool.or_true] at h; cases h))
              · exact h4 h
    | _ => rfl
  | _ => cases tg <;> rfl
theorem swapped_two {y1 y2 : Str} {p1 p2 pt p2' : Pos} {kt k2 : Nat} {x1 x2 : Expr} {env : PySem.Env} (hk : env.scope.kind = .function) (h1 : env.scope.names.lookup y1 = some .local) (h2 : env.scope.names.lookup y2 = some .local) (ne : (y1 == y2) = false) (hl : (p1.line == p2.line) = true)
    (s1 : notStar x1 = true) (s2 : notStar x2 = true) (f : ([x1, x2].all (foldedForSure 8)) = false) (c : ([x1, x2].all (constantsAlone 8)) = false) :
    swappedStores [.Tuple [.Name y1 p1, .Name y2 p2] kt pt] (.Tuple [x1, x2] k2 p2') env = pure (some [y1, y2]) := by
  have hb : env.blockKind = .function := by unfold Env.blockKind; rw [hk]; rfl
  have k1 : env.kindOf y1 = some .local := h1
  have k2 : env.kindOf y2 = some .local := h2
  have st : ∀ F : Expr → Bool, F x1 = false → F x2 = false → [x1, x2].any F = false := fun F a b => by simp [a, b]
  have hl2 : (p2.line == p1.line) = true := by rw [beq_iff_eq] at hl ⊢; exact hl.symm
  have nm : ∀ F : Expr → Option Str, F (.Name y1 p1) = some y1 → F (.Name y2 p2) = some y2 → [Expr.Name y1 p1, Expr.Name y2 p2].filterMap F = [y1, y2] := fun F a b => by simp [a, b]
  have du : ([y1, y2] : List Str).eraseDups = [y1, y2] := by
    have ne' : (y2 == y1) = false := by rw [beq_eq_false_iff_ne] at ne ⊢; exact fun e => ne e.symm
    simp only [List.eraseDups_cons, List.filter_cons, ne', List.filter_nil, List.eraseDups_nil]
    rfl
  unfold swappedStores
  simp only [hb, f, c]
  rw [st _ (by cases x1 <;> first | rfl | cases s1) (by cases x2 <;> first | rfl | cases s2)]
  rw [nm _ (by show (if _ then _ else _) = _; rw [if_pos]; rw [k1]; simp [Expr.pos]) (by show (if _ then _ else _) = _; rw [if_pos]; rw [k2]; exact hl2)]
  rw [du]
  rfl
theorem swapped_three {y1 y2 y3 : Str} {p1 p2 p3 pt p2' : Pos} {kt k2 : Nat} {x1 x2 x3 : Expr} {env : PySem.Env} (hk : env.scope.kind = .function) (h1 : env.scope.names.lookup y1 = some .local) (h2 : env.scope.names.lookup y2 = some .local) (h3 : env.scope.names.lookup y3 = some .local) (n12 : (y1 == y2) = false) (n13 : (y1 == y3) = false) (n23 : (y2 == y3) = false) (hl : (p1.line == p2.line) = true) (hl3 : (p1.line == p3.line) = true)
    (s1 : notStar x1 = true) (s2 : notStar x2 = true) (s3 : notStar x3 = true) (f : ([x1, x2, x3].all (foldedForSure 8)) = false) (c : ([x1, x2, x3].all (constantsAlone 8)) = false) :
    swappedStores [.Tuple [.Name y1 p1, .Name y2 p2, .Name y3 p3] kt pt] (.Tuple [x1, x2, x3] k2 p2') env = pure (some [y1, y2, y3]) := by
  have hb : env.blockKind = .function := by unfold Env.blockKind; rw [hk]; rfl
  have k1 : env.kindOf y1 = some .local := h1
  have k2 : env.kindOf y2 = some .local := h2
  have k3 : env.kindOf y3 = some .local := h3
  have st : ∀ F : Expr → Bool, F x1 = false → F x2 = false → F x3 = false → [x1, x2, x3].any F = false := fun F a b c => by simp [a, b, c]
  have hl2 : (p2.line == p1.line) = true := by rw [beq_iff_eq] at hl ⊢; exact hl.symm
  have hl3' : (p3.line == p1.line) = true := by rw [beq_iff_eq] at hl3 ⊢; exact hl3.symm
  have nm : ∀ F : Expr → Option Str, F (.Name y1 p1) = some y1 → F (.Name y2 p2) = some y2 → F (.Name y3 p3) = some y3 → [Expr.Name y1 p1, Expr.Name y2 p2, Expr.Name y3 p3].filterMap F = [y1, y2, y3] := fun F a b c => by simp [a, b, c]
  have du : ([y1, y2, y3] : List Str).eraseDups = [y1, y2, y3] := by
    have a : (y2 == y1) = false := by rw [beq_eq_false_iff_ne] at n12 ⊢; exact fun e => n12 e.symm
    have b : (y3 == y1) = false := by rw [beq_eq_false_iff_ne] at n13 ⊢; exact fun e => n13 e.symm
    have c : (y3 == y2) = false := by rw [beq_eq_false_iff_ne] at n23 ⊢; exact fun e => n23 e.symm
    simp [List.eraseDups_cons, List.filter_cons, a, b, c, List.filter_nil, List.eraseDups_nil]
  unfold swappedStores
  simp only [hb, f, c]
  rw [st _ (by cases x1 <;> first | rfl | cases s1) (by cases x2 <;> first | rfl | cases s2) (by cases x3 <;> first | rfl | cases s3)]
  rw [nm _ (by show (if _ then _ else _) = _; rw [if_pos]; rw [k1]; simp [Expr.pos]) (by show (if _ then _ else _) = _; rw [if_pos]; rw [k2]; exact hl2) (by show (if _ then _ else _) = _; rw [if_pos]; rw [k3]; exact hl3')]
  rw [du]
  rfl
end
end PD
/-! P15: statements that are checked do what the evaluation says. -/
namespace PD
open PySem PySem.Spec PyProof.Rows L2
section
variable {P : Prg} {gc : List (Str × PyData)} {ct : Ct} {C : Cfg} {X : Cx} {n : Nat} {r : Chk2} {H0 W0 : Hp}
theorem par2_eq (e : Draw → Ex → Res PyData) (Γ : Env) (S : Draw) (i j : Nat) (a b : Ex) :
    (((e S a).bind fun u S1 => (e S1 b).bind fun v S2 => (.ok (u, v) S2 : Res (PyData × PyData))).out fun p S2 => .nx ((Γ.set i (some p.1)).set j (some p.2)) S2) = (evs e [a, b] S).out fun xs S1 => match setAll [i, j] xs Γ with
      | some Γ' => .nx Γ' S1
      | none => .bad := by
  unfold evs
  cases e S a with
  | ok u S1 =>
    simp only [Res.bind_ok, evs]
    cases e S1 b with
    | ok v S2 => rfl
    | _ => rfl
  | _ => rfl
theorem par3_eq (e : Draw → Ex → Res PyData) (Γ : Env) (S : Draw) (i j l : Nat) (a b c : Ex) :
    (((e S a).bind fun u S1 => (e S1 b).bind fun v S2 => (e S2 c).bind fun w S3 => (.ok (u, v, w) S3 : Res (PyData × PyData × PyData))).out fun p S2 => .nx (((Γ.set i (some p.1)).set j (some p.2.1)).set l (some p.2.2)) S2) = (evs e [a, b, c] S).out fun xs S1 => match setAll [i, j, l] xs Γ with
      | some Γ' => .nx Γ' S1
      | none => .bad := by
  unfold evs
  cases e S a with
  | ok u S1 =>
    simp only [Res.bind_ok, evs]
    cases e S1 b with
    | ok v S2 =>
      simp only [Res.bind_ok, evs]
      cases e S2 c with
      | ok v S2 => rfl
      | _ => rfl
    | _ => rfl
  | _ => rfl
theorem newF_eq {a : Ex} (h : isF a = true) (Γ : Env) (S : Draw) (i : Nat) : ((evF (run P n) Γ S a).out fun xs S1 => .nx (Γ.set i (some (.list xs))) S1) = ((run P n).e Γ S a).out fun x S1 => .nx (Γ.set i (some x)) S1 := by
  rw [evF_e P h]
  cases evF (run P n) Γ S a <;> rfl
theorem newO_eq {a : Ex} (h : isF a = true) (Γ : Env) (S : Draw) (i : Nat) : ((evF (run P n) Γ S a).out fun xs S1 => .nx (Γ.set i (some (.list xs))) S1) = ((run P n).e Γ S a).out fun x S1 => match x with
    | .list _ => .nx (Γ.set i (some x)) S1
    | _ => .bad := by
  rw [evF_e P h]
  cases evF (run P n) Γ S a <;> rfl
theorem exm_at (g : Gd P gc ct C X n) {c c' : Nat} {z z' : Str × Option Str} (h : C.ex.lookup c = some z) (h' : C.ex.lookup c' = some z') : PySem.W.exmOne X.K (.ref (C.ea c)) (.ref (C.ea c')) = some (c == c') := by
  obtain ⟨⟨D, T⟩, _⟩ := g.exs c' z'.1 z'.2 h'
  have e1 : (PySem.W.subIn X.K (.ref (C.ea c')) (.type "BaseException") == some true) = true := by rw [T.exB] <;> rfl
  have e2 : ((PySem.W.clsIn X.K (C.ea c')).isSome && PySem.W.typeIn X.K (.ref (C.ea c')) == some (.type "type")) = true := by rw [T.clsd, T.tyC] <;> rfl
  show (if (PySem.W.subIn X.K (.ref (C.ea c')) (.type "BaseException") == some true) = true then (if ((PySem.W.clsIn X.K (C.ea c')).isSome && PySem.W.typeIn X.K (.ref (C.ea c')) == some (.type "type")) = true then PySem.W.subIn X.K (.ref (C.ea c)) (.ref (C.ea c')) else none) else none) = _
  rw [if_pos e1, if_pos e2]
  exact g.sub2 c c' z z' h h'
theorem exms_at (g : Gd P gc ct C X n) {c : Nat} {z : Str × Option Str} (h : C.ex.lookup c = some z) : ∀ {cs : List Nat}, (∀ c' ∈ cs, ∃ z', C.ex.lookup c' = some z') → PySem.W.exmAny X.K (.ref (C.ea c)) (cs.map fun c' => .ref (C.ea c')) = some (cs.contains c)
  | [], _ => rfl
  | c' :: cs, hc => by
    obtain ⟨z', hz'⟩ := hc c' List.mem_cons_self
    have ih := exms_at g h (cs := cs) fun c2 h2 => hc c2 (List.mem_cons_of_mem _ h2)
    rw [List.map_cons]
    unfold PySem.W.exmAny
    rw [exm_at g h hz', ih, List.contains_cons]
theorem names_snd (g : Gd P gc ct C X n) : ∀ {cs : List Nat} {zs : List Expr}, all2 (fun c z => match z with | .Name y _ => glB ct y && !dbg y && decide ((P.ex.lookup c).map (·.1) = some y) | _ => false) cs zs = true →
    NamesAt X zs (cs.map fun c => .ref (C.ea c)) ∧ ∀ c' ∈ cs, ∃ z', C.ex.lookup c' = some z'
  | [], [], _ => ⟨.nil, fun _ h => nomatch h⟩
  | [], _ :: _, h => by cases h
  | _ :: _, [], h => by cases h
  | c :: cs, z :: zs, h => by
    rw [all2, Bool.and_eq_true] at h
    obtain ⟨h1, h2⟩ := h
    obtain ⟨i1, i2⟩ := names_snd g h2
    split at h1
    · rename_i y p
      simp only [Bool.and_eq_true, Bool.not_eq_true', decide_eq_true_eq] at h1
      obtain ⟨⟨h3, h4⟩, h5⟩ := h1
      rw [Option.map_eq_some_iff] at h5
      obtain ⟨⟨y', fld⟩, e1, rfl⟩ := h5
      rw [← g.hex] at e1
      refine ⟨.cons (g.gl h3) (g.exs c _ _ e1).2 h4 i1, fun c' hc' => ?_⟩
      rcases List.mem_cons.mp hc' with rfl | hc'
      · exact ⟨_, e1⟩
      · exact i2 c' hc'
    · cases h1
theorem spec_snd (g : Gd P gc ct C X n) {cs : List Nat} {xt : Expr} (h : specB P ct cs xt = true) : ∃ ans, TestP X xt ans ∧ ∀ c z, C.ex.lookup c = some z → cs.contains c = true → ans (.ref (C.ea c)) = some true := by
  unfold specB at h
  split at h
  · rename_i z p
    split at h
    · rename_i c
      simp only [Bool.and_eq_true, Bool.not_eq_true', decide_eq_true_eq] at h
      obtain ⟨⟨h3, h4⟩, h5⟩ := h
      rw [Option.map_eq_some_iff] at h5
      obtain ⟨⟨y', fld⟩, e1, rfl⟩ := h5
      rw [← g.hex] at e1
      refine ⟨_, test_one (g.gl h3) (g.exs c _ _ e1).2 h4, fun c' z' hz' hc => ?_⟩
      have e : c' = c := by simpa using hc
      subst e
      show PySem.W.exmOne X.K _ _ = _
      rw [exm_at g hz' e1]
      simp
    · cases h
  · rename_i zs k p
    rw [Bool.and_eq_true, decide_eq_true_eq] at h
    obtain ⟨i1, i2⟩ := names_snd g h.2
    refine ⟨_, test_tup i1 (by rw [List.length_map]; exact h.1), fun c z hz hc => ?_⟩
    show PySem.W.exmAny X.K _ _ = _
    rw [exms_at g hz i2, hc]
  · cases h
theorem app_snd (sn : Snd2 P gc n r) (g : Gd P gc ct C X n) (hz : ∀ b o, H0 b = some o → C.Z b) {i : Nat} {e : Ex} {x : Stmt} (h : appB r ct i e x = true) : PS X x (tS1 C H0 W0 fun Γ S => appO (run P n) Γ S i e) := by
  unfold appB at h
  split at h
  · rename_i y py nm ap xa cp pos
    simp only [Bool.and_eq_true, decide_eq_true_eq, beq_iff_eq] at h
    obtain ⟨⟨⟨⟨⟨rfl, h2⟩, h3⟩, h4⟩, h5⟩, h6⟩ := h
    obtain ⟨s1, s2, s3, s4⟩ := g.nm h2
    exact ds_app1 s1 s2 s3 s4 (by rw [g.kOf]; exact h3) (sn.b.e g h4) (star_cons h5 _ _) (by rw [beq_iff_eq]; exact h6) hz
  · cases h
theorem stmt_snd (sn : Snd2 P gc n r) (g' : Gd P gc ct C X (n + 1)) (top : ct.top = true) (fr : FrmOk X) (po : PassesOwn (model X.prog X.w) X.A X.env X.xe) (hz : ∀ b o, H0 b = some o → C.Z b) {s : Sx} {x : Stmt} (h : stmtB P r ct s x = true) : PS X x (tS C H0 W0 fun Γ S => stStep (run P n) Γ S s) := by
  have g := g'.low
  cases s with
  | asg t e =>
    simp only [stmtB] at h
    split at h
    · rename_i tg xe pos
      split at h
      · rename_i i
        split at h
        · rename_i y p
          rw [Bool.and_eq_true] at h
          obtain ⟨h1, h3⟩ := h
          obtain ⟨s1, s2, s3⟩ := g.st h1
          split at h3
          · rename_i hn
            rw [Bool.and_eq_true, Bool.or_eq_true, decide_eq_true_eq, decide_eq_true_eq] at h3
            exact ds_setE (sn.b.e g h3.2) g.nd' s1 s2 (no_swap hn _ _ _) s3 (by rw [g.kOf]; exact h3.1)
          · rw [Bool.and_eq_true, Bool.and_eq_true, Bool.and_eq_true, decide_eq_true_eq] at h3
            obtain ⟨te, k1, k2⟩ := sn.fa p pos g h3.1.2 h1 h3.2
            exact ps_fn (ds_newN k1 k2 (by rw [g.kOf]; exact h3.1.1.1)) fun Γ S => newF_eq h3.1.1.2 Γ S i
        · cases h
      · simp only [Bool.and_eq_true] at h
        obtain ⟨⟨⟨⟨h1, h2⟩, h3⟩, h4⟩, h5⟩ := h
        refine ds_asg (sn.b.e g h2) (tg_snd g h3) (no_swap h1 _ _ _) ?_ (by rw [asg_cons h5]; rfl)
        rw [Bool.or_eq_true] at h4
        rcases h4 with h4 | h4
        · exact swapped_none h4 _
        · exact swapped_cell (by rw [g.sc]; exact h4)
    · cases h
  | asgO i e =>
    simp only [stmtB] at h
    split at h
    · rename_i tg xe pos
      split at h
      · rename_i y p
        simp only [Bool.and_eq_true, decide_eq_true_eq] at h
        obtain ⟨⟨⟨⟨h1, h2⟩, h3⟩, h4⟩, h5⟩ := h
        obtain ⟨te, k1, k2⟩ := sn.fa p pos g h4 h1 h5
        exact ps_fn (ds_newO k1 k2 (by rw [g.kOf]; exact h2)) fun Γ S => newO_eq h3 Γ S i
      · cases h
    · cases h
  | par is es =>
    simp only [stmtB] at h
    split at h
    · rename_i y1 p1 y2 p2 kt pt x1 x2 k2 pt2 pos
      split at h
      · rename_i i j a b
        simp only [Bool.and_eq_true, decide_eq_true_eq, Bool.not_eq_true'] at h
        obtain ⟨⟨⟨⟨⟨⟨⟨⟨⟨⟨⟨⟨h1, h2⟩, h3⟩, h4⟩, h5⟩, h6⟩, h7⟩, h8⟩, h9⟩, h10⟩, h11⟩, h12⟩, h13⟩ := h
        obtain ⟨ki, pi⟩ := k_snd sn g h10
        obtain ⟨kj, pj⟩ := k_snd sn g h11
        have ks : X.env.scope.kind = .function := by rw [g.sc]; exact g.kind
        exact ps_fn (ds_par g.calm g.nd' (g.st h1).1 (g.st h2).1 h6 (g.loc h3) (g.loc h4) ki kj pi pj (star_cons h8 _ _) (star_cons h9 _ _) (swapped_two ks (g.loc h3) (g.loc h4) h5 h7 h8 h9 h12 h13) rfl) fun Γ S => par2_eq ((run P n).e Γ) Γ S i j a b
      · cases h
    · rename_i y1 p1 y2 p2 y3 p3 kt pt x1 x2 x3 k2 pt2 pos
      split at h
      · rename_i i j l a b c
        simp only [Bool.and_eq_true, decide_eq_true_eq, Bool.not_eq_true'] at h
        obtain ⟨⟨⟨⟨⟨⟨⟨⟨⟨⟨⟨⟨⟨⟨⟨⟨⟨⟨⟨⟨⟨h1, h2⟩, h3⟩, h4⟩, h5⟩, h6⟩, h7⟩, h8⟩, h9⟩, h10⟩, h11⟩, h12⟩, h13⟩, h14⟩, h15⟩, h16⟩, h17⟩, h18⟩, h19⟩, h20⟩, h21⟩, h22⟩ := h
        obtain ⟨ki, pi⟩ := k_snd sn g h18
        obtain ⟨kj, pj⟩ := k_snd sn g h19
        obtain ⟨kl, pl⟩ := k_snd sn g h20
        have ks : X.env.scope.kind = .function := by rw [g.sc]; exact g.kind
        exact ps_fn (ds_par3 g.calm g.nd' (g.st h1).1 (g.st h2).1 (g.st h3).1 h10 h11 h12 (g.loc h4) (g.loc h5) (g.loc h6) ki kj kl pi pj pl (star_cons h15 _ _) (star_cons h16 _ _) (star_cons h17 _ _) (swapped_three ks (g.loc h4) (g.loc h5) (g.loc h6) h7 h8 h9 h13 h14 h15 h16 h17 h21 h22) rfl) fun Γ S => par3_eq ((run P n).e Γ) Γ S i j l a b c
      · cases h
    · cases h
  | aug i op e =>
    simp only [stmtB] at h
    split at h
    · rename_i y p op' xe pos
      simp only [Bool.and_eq_true, decide_eq_true_eq] at h
      obtain ⟨⟨⟨⟨rfl, rfl⟩, h3⟩, h4⟩, h5⟩ := h
      obtain ⟨s1, s2, s3⟩ := g.st h3
      refine ps_fn (ds_augA g.nd' s1 s2 s3 (by rw [g.kOf]; exact h4) (sn.b.e g h5)) fun Γ S => ?_
      show _ = (match getV Γ i with
        | some x => ((run P n).e Γ S e).out fun y S1 => match Operator.Add, x, y with
          | .Add, .int a, .int b => .nx (Γ.set i (some (.int (a + b)))) S1
          | .Sub, .int a, .int b => .nx (Γ.set i (some (.int (a - b)))) S1
          | _, _, _ => .bad
        | none => .bad)
      cases getV Γ i with
      | none => rfl
      | some z =>
        cases (run P n).e Γ S e with
        | ok y S1 => cases z <;> first | rfl | (cases y <;> rfl)
        | _ => rfl
    · cases h
  | rse c keep e =>
    simp only [stmtB] at h
    split at h
    · rename_i y p xe pos pos'
      simp only [Bool.and_eq_true, Bool.not_eq_true'] at h
      obtain ⟨⟨⟨⟨h1, h2⟩, h3⟩, h4⟩, h5⟩ := h
      split at h1
      · rename_i z hz'
        obtain ⟨y', fld⟩ := z
        simp only [Bool.and_eq_true, beq_iff_eq] at h1
        obtain ⟨rfl, rfl⟩ := h1
        rw [← g.hex] at hz'
        obtain ⟨⟨D, T⟩, hm⟩ := g.exs c _ _ hz'
        exact ds_rse g.calm T hz' rfl (g.blt _ (by simp [bltNames])) g'.room (g.gl h2) hm h3 g.xq (sn.b.e g h4) (star_cons h5 _ _)
      · cases h1
    · cases h
  | tre j e cs i m =>
    simp only [stmtB] at h
    split at h
    · rename_i xs xt n y p1 n' p2 p3 pos' pos
      simp only [Bool.and_eq_true, Bool.not_eq_true', decide_eq_true_eq, beq_iff_eq] at h
      obtain ⟨⟨⟨⟨⟨⟨⟨⟨⟨rfl, h2⟩, h3⟩, h4⟩, h5⟩, h6⟩, h7⟩, h8⟩, h9⟩, h10⟩ := h
      obtain ⟨s1, s2, s3⟩ := g.st h2
      obtain ⟨ans, ta, hans⟩ := spec_snd g h9
      exact ds_tre (X := X) (C := C) (H0 := H0) (W0 := W0) (cs := cs) (i := i) (m := m) fr.hs fr.hf fr.hx g.nd' (by rw [g.N]; exact h3) (g.loc h4) s1 s2 s3 h5 h6 ta hans h7 (by rw [g.kOf]; exact h8) fun q pn xe tk => app_snd sn (g.tr tk) hz h10
    · cases h
  | app i e =>
    simp only [stmtB, appB] at h
    split at h
    · rename_i y py nm ap xa cp pos
      simp only [Bool.and_eq_true, decide_eq_true_eq, beq_iff_eq] at h
      obtain ⟨⟨⟨⟨⟨rfl, h2⟩, h3⟩, h4⟩, h5⟩, h6⟩ := h
      obtain ⟨s1, s2, s3, s4⟩ := g.nm h2
      exact ds_app s1 s2 s3 s4 (by rw [g.kOf]; exact h3) (sn.b.e g h4) (star_cons h5 _ _) (by rw [beq_iff_eq]; exact h6) hz
    · cases h
  | ret e =>
    simp only [stmtB] at h
    split at h
    · exact ds_ret (sn.b.e g.opn h) hz
    · cases h
  | ife c a b =>
    simp only [stmtB] at h
    split at h
    · simp only [Bool.and_eq_true] at h
      exact ds_ife (sn.b.t g h.1.1) (sn.b.s g top fr po hz h.1.2) (sn.b.s g top fr po hz h.2)
    · cases h
  | fr t it body =>
    simp only [stmtB] at h
    split at h
    · simp only [Bool.and_eq_true] at h
      obtain ⟨⟨⟨h1, h2⟩, h3⟩, h4⟩ := h
      exact ds_for po g.calm (itS_snd sn.b g h1) (tg_snd g h2) (sn.b.s g top fr po hz h3) (folded h4 _)
    · cases h
  | whl c body =>
    simp only [stmtB] at h
    split at h
    · simp only [Bool.and_eq_true] at h
      exact ds_whl po (sn.b.t g h.1) (sn.b.s g top fr po hz h.2) 1000000
    · cases h
  | exp e =>
    simp only [stmtB] at h
    split at h
    · simp only [Bool.and_eq_true] at h
      exact ds_exp (sn.b.e g h.2) (no_swap h.1 _ _ _)
    · cases h
  | brk =>
    simp only [stmtB] at h
    split at h
    · exact ds_brk
    · cases h
  | cnt =>
    simp only [stmtB] at h
    split at h
    · exact ds_cnt
    · cases h
  | rais => exact ds_never
theorem ss_snd (sn : Snd2 P gc n r) (g' : Gd P gc ct C X (n + 1)) (top : ct.top = true) (fr : FrmOk X) (po : PassesOwn (model X.prog X.w) X.A X.env X.xe) (hz : ∀ b o, H0 b = some o → C.Z b) : ∀ {ss : List Sx} {xs : List Stmt}, all2 (stmtB P r ct) ss xs = true → PSs X xs (tS C H0 W0 fun Γ S => ssStep (run P n) Γ S ss)
  | [], [], _ => ds_nil
  | [], _ :: _, h => by cases h
  | _ :: _, [], h => by cases h
  | s :: ss, x :: xs, h => by
    rw [all2, Bool.and_eq_true] at h
    exact ds_cons (stmt_snd sn g' top fr po hz h.1) (ss_snd sn g' top fr po hz h.2)
end
theorem snd2 (P : Prg) (gc : List (Str × PyData)) : ∀ (n m : Nat), Snd2 P gc n (chk P gc m)
  | 0, m => {
      b := ⟨fun g h => ⟨fun pins s σ H Q I ⟨Γ, W, S, he, hv, p⟩ => p.elim⟩, fun g h => ⟨fun pins s σ H Q I ⟨Γ, W, S, he, hv, p⟩ => p.elim⟩, fun g _ _ _ _ h => ⟨fun pins s σ H D I ⟨Γ, W, S, he, hv, st, p⟩ => p.elim⟩⟩
      f := fun g h => ⟨fun pins s σ H Q I ⟨Γ, W, S, he, hv, p⟩ => p.elim⟩
      fa := fun py sp g h _ _ => ⟨fun _ _ _ => False, ⟨fun pins s σ H D I h => h.elim⟩, fun σ H Q ⟨Γ, W, S, he, hv, p⟩ => p.elim⟩ }
  | n + 1, 0 => {
      b := ⟨fun g h => (by cases h), fun g h => (by cases h), fun g _ _ _ _ h => (by cases h)⟩
      f := fun g h => by cases h
      fa := fun py sp g h _ _ => by cases h }
  | n + 1, m + 1 => {
      b := ⟨fun g h => e_snd (snd2 P gc n m).b g h, fun g h => t_snd (snd2 P gc n m).b g h, fun g top fr po hz h => ss_snd (snd2 P gc n m) g top fr po hz h⟩
      f := fun g h => f_snd (snd2 P gc n m) g h
      fa := fun py sp g h h1 h2 => fa_snd (snd2 P gc n m) g py sp h h1 h2 }
end PD
/-! P16: all functions of a program that is checked do what the evaluation says. -/
namespace PD
open PySem PySem.Spec PyProof.Rows L2

/-- a program's functions in their world -/
structure Wld (P : Prg) (gc : List (Str × PyData)) (M : Mch) (prog : Program) (w : World) (K : PySem.W.Frag) (mg : Str → Option Value) (base : Heap) where
  blt : ∀ x ∈ bltNames, mg x = none
  con : ∀ x d, gc.lookup x = some d → ∃ v u, mg x = some u ∧ RelV v u ∧ conV d = some v
  /-- the errors' classes -/
  ea : Nat → Addr
  /-- the tables of code objects -/
  T : List (Addr × Str)
  exs : ∀ c y fld, P.ex.lookup c = some (y, fld) → (∃ D, ErrK prog K (ea c) fld D) ∧ mg y = some (.ref (ea c))
  sub2 : ∀ c c' z z', P.ex.lookup c = some z → P.ex.lookup c' = some z' → PySem.W.subIn K (.ref (ea c)) (.ref (ea c')) = some (c == c')
  fa : Nat → Addr
  fd : Nat → FuncData
  ps : Nat → List Str
  mgf : ∀ (j : Nat) (f : FDef), P.fs[j]? = some f → mg f.nm = some (.ref (fa j))
  kp : ∀ (j : Nat) (f : FDef), P.fs[j]? = some f → PySem.W.keepIn K (.ref (fa j)) = true
  bd : ∀ (j : Nat) (f : FDef), P.fs[j]? = some f → Binds K (fd j) (ps j) []
  np : ∀ (j : Nat) (f : FDef), P.fs[j]? = some f → (ps j).length = (f.kd.take f.np).length
  /-- with a body: its text is checked -/
  cd : ∀ (j : Nat) (f : FDef) (b : List Sx), P.fs[j]? = some f → f.body = some b → ∃ (st : Stmt) (q : Str) (m : Nat), Fun K f.nm q st (fa j) (fd j) ∧ FnScope f.N (ps j) (defScope st) ∧ (∀ k ∈ f.kd.take f.np, k ≠ .own) ∧
    (chk P gc m).s ⟨f.N, f.kd, defScope st, defScope st, true⟩ b (defBody st) = true
  /-- the draws: by hand -/
  dr : ∀ (j : Nat) (f : FDef), P.fs[j]? = some f → f.body = none → ∀ n, FnG prog w K mg base CX0 n (fa j) (fd j) (ps j) (spF P M K ea T n j (f.kd.take f.np))

section
variable {P : Prg} {gc : List (Str × PyData)} {M : Mch} {prog : Program} {w : World} {K : PySem.W.Frag} {mg : Str → Option Value} {base : Heap}
theorem ArgsK.get {pm : Addr} {ex : List (Nat × Str × Option Str)} {ea : Nat → Addr} {W : Hp} : ∀ {ks : List Kd} {vs : List V} {ds : List PyData}, ArgsK pm K ex ea W ks vs ds → ∀ (i : Nat) (d : PyData), ds[i]? = some d → ∃ k v, ks[i]? = some k ∧ vs[i]? = some v ∧ ArgK pm K ex ea W k v d
  | _, _, _, .nil, i, d, h => by simp at h
  | _, _, _, .cons a b, 0, d, h => by simp at h; subst h; exact ⟨_, _, rfl, rfl, a⟩
  | _, _, _, .cons a b, i + 1, d, h => by
    obtain ⟨k, v, h1, h2, h3⟩ := b.get i d (by simpa using h)
    exact ⟨k, v, by simpa using h1, by simpa using h2, h3⟩
/-- a frame's first state -/
theorem EnvOk.start {C : Cfg} {W H : Hp} {N : List Str} {kd : List Kd} {np : Nat} {xs : List V} {ds : List PyData} (hkd : C.kd = kd) (hZ : C.Z = fun a => ∃ o, H a = some o) (hno : ∀ k ∈ kd.take np, k ≠ .own) (a : ArgsK C.pm C.K C.ex C.ea W (kd.take np) xs ds) :
    EnvOk C (ds.map some ++ List.replicate (N.length - ds.length) none) (L2.start N xs) H W := by
  obtain ⟨l1, l2⟩ := a.len
  have hl : xs.length = ds.length := by rw [l1, l2]
  have low : ∀ (i : Nat) (d : PyData), (ds.map some ++ List.replicate (N.length - ds.length) none)[i]? = some (some d) → ds[i]? = some d := fun i d h => by
    rw [List.getElem?_append] at h
    split at h
    · rw [List.getElem?_map, Option.map_eq_some_iff] at h
      obtain ⟨x, h1, h2⟩ := h
      cases h2
      exact h1
    · rw [List.getElem?_replicate] at h
      split at h <;> cases h
  refine ⟨by unfold L2.start; simp [hl], fun i d h => ?_, fun i j p d e hij h1 h2 h3 => ?_, fun a h => by rw [hZ] at h; exact h⟩
  · obtain ⟨k, v, k1, k2, k3⟩ := a.get i d (low i d h)
    refine ⟨v, ?_, ?_⟩
    · unfold L2.start
      rw [List.getElem?_append_left (by rw [List.length_map]; exact (List.getElem?_eq_some_iff.mp k2).1), List.getElem?_map, k2]
      rfl
    · have kk : C.kdOf i = k := by
        unfold Cfg.kdOf
        rw [hkd, List.getD_eq_getElem?_getD]
        rw [List.getElem?_take] at k1
        split at k1
        · rw [k1]; rfl
        · cases k1
      rw [kk]
      have nk : k ≠ .own := hno k (List.mem_of_getElem? k1)
      cases k with
      | nrm => exact k3
      | own => exact absurd rfl nk
      | hnd => exact k3
      | scr => exact k3
      | exv => exact k3
  · exfalso
    obtain ⟨k, v, k1, k2, k3⟩ := a.get i d (low i d h3)
    have kk : C.kdOf i = k := by
      unfold Cfg.kdOf
      rw [hkd, List.getD_eq_getElem?_getD]
      rw [List.getElem?_take] at k1
      split at k1
      · rw [k1]; rfl
      · cases k1
    exact hno k (List.mem_of_getElem? k1) (by rw [← kk]; exact h1)
def Wld.fns (w' : Wld P gc M prog w K mg base) (n : Nat) : Prop := ∀ (j : Nat) (f : FDef), P.fs[j]? = some f → FnG prog w K mg base (L2.CX prog w) n (w'.fa j) (w'.fd j) (w'.ps j) (spF P M K w'.ea w'.T n j (f.kd.take f.np))
/-- a frame of the program's -/
def frC (M : Mch) (K : PySem.W.Frag) (pm : Addr) (H : Hp) (kd : List Kd) (ex : List (Nat × Str × Option Str)) (ea : Nat → Addr) (T : List (Addr × Str)) (E : XK) : Cfg := { M := M, K := K, pm := pm, Z := fun a => ∃ o, H a = some o, kd := kd, ex := ex, ea := ea, T := T, XQ := fun c d _ _ H' W' => ∀ cls dd, ExcAt ex ea W' c d cls dd → E cls dd H' }
theorem Wld.gd (w' : Wld P gc M prog w K mg base) {n : Nat} (hf : ∀ m, m < n → w'.fns m) {N ps : List Str} {kd : List Kd} {q : Str} {sc : Scope} {a : Addr} {cd : Value} {pm : Addr} {H H1 : Hp} (S : FnScope N ps sc) {A : Around} {fr : List PySem.Env} {s : Shared} {E : XK}
    (room : Room n (A.deeper (envOfC q sc s.heap.objs.size a cd))) (gd : A.guards = some []) : Gd P gc ⟨N, kd, sc, sc, true⟩ (frC M K pm H kd P.ex w'.ea w'.T E) (cxOf (L2.CX prog w) prog w K mg base N q sc a cd A fr s H1 E) n where
  hK := rfl
  calm := rfl
  un := by have := room.un; show (A.deeper _).units + 200 < cLine; omega
  gd := guards_deep gd
  N := rfl
  nd := S.nd
  sc := rfl
  kd := rfl
  kind := S.kind
  fn := fun _ _ => rfl
  blt := w'.blt
  con := w'.con
  room := room
  xq := Takes.imp (takes_of rfl rfl rfl rfl) fun cls dd σ H ⟨c, d, S, W, x, v, q⟩ => q cls dd x
  hex := rfl
  exs := w'.exs
  sub2 := w'.sub2
  fns := fun m hm j f hj => ⟨w'.fa j, w'.fd j, w'.ps j, hf m hm j f hj, w'.mgf j f hj, w'.kp j f hj, w'.bd j f hj⟩
theorem Wld.all (w' : Wld P gc M prog w K mg base) : ∀ n, w'.fns n := by
  intro n
  induction n using Nat.strongRecOn with
  | _ n ih =>
    intro j f hj
    cases n with
    | zero => exact ⟨fun xs H Q E ⟨C, W, S, ds, _, _, _, _, _, _, _, p⟩ => p.elim, fun A fr s H args us xs Q E _ _ _ _ _ ⟨C, W, S, ds, _, _, _, _, _, _, _, p⟩ => p.elim⟩
    | succ n =>
      cases hb : f.body with
      | none => exact (w'.dr j f hj hb (n + 1)).up
      | some b =>
        obtain ⟨st, q, m, F, S, hno, hc⟩ := w'.cd j f b hj hb
        refine fnG_of F S (fun xs H Q E ⟨C, W, D, ds, _, _, _, _, _, _, a, _⟩ => by rw [w'.np j f hj]; exact a.len.1) fun cd A fr s H xs Q E room gd want => ?_
        obtain ⟨C, W, D, ds, eM, eK, eX, eA, eT, hv, ha, p⟩ := want
        have g := w'.gd (kd := f.kd) (pm := C.pm) (H := H) (fr := fr) (H1 := H) (E := E) (fun m hm => ih m (Nat.lt_succ_of_lt hm)) S room gd
        refine ⟨_, (snd2 P gc n m).b.s (H0 := H) (W0 := W) g rfl ⟨rfl, rfl, rfl⟩ (passes_of rfl) (fun b o h => ⟨o, h⟩) hc, ?_⟩
        subst eM eK
        refine ⟨ds.map some ++ List.replicate (f.N.length - ds.length) none, W, D, EnvOk.start rfl rfl hno ha, ⟨hv.sub, hv.hid, hv.st, by rw [← eT]; exact hv.tab, hv.nt⟩, Stp.refl _ _ _, ?_⟩
        have p : (cStep P (run P n) j ds D).Post (fun d S' => ∀ v H' W', Stp C.pm H W H' W' → Vw C W' H' S' → Dp K0 W' v d → Q v H') (fun c d S' => ∀ cls dd H' W', Stp C.pm H W H' W' → Vw C W' H' S' → ExcAt P.ex w'.ea W' c d cls dd → E cls dd H') := p
        have back : ∀ {W' H' S'}, Vw (frC C.M C.K C.pm H f.kd P.ex w'.ea w'.T E) W' H' S' → Vw C W' H' S' := fun v' => ⟨v'.sub, v'.hid, v'.st, by rw [eT]; exact v'.tab, v'.nt⟩
        unfold cStep at p
        rw [hj] at p
        dsimp only at p
        split at p
        · rw [hb] at p
          dsimp only at p ⊢
          cases eo : (run P n).s (ds.map some ++ List.replicate (f.N.length - ds.length) none) D b with
          | nx Γ' S' => rw [eo] at p; exact fun σ' H' W' _ v' t' _ => p .non H' W' t' (back v') .non
          | ret d S' => rw [eo] at p; exact fun v H' W' v' t' dv => p v H' W' t' (back v') dv
          | brk Γ' S' => rw [eo] at p; exact p.elim
          | cnt Γ' S' => rw [eo] at p; exact p.elim
          | exc c d S' => rw [eo] at p; exact fun σ' H' W' t' v' cls dd x => p cls dd H' W' t' (back v') x
          | bad => rw [eo] at p; exact p.elim
        · exact p.elim
end
end PD
/-! P17: a law's end: the call from without, the law's own frame. -/
namespace PD
open PySem PySem.Spec PyProof.Rows L2

section
variable {P : Program} {w : World} {K : PySem.W.Frag} {mg mb : Str → Option Value} {k : Nat} {fa a : Addr} {fd : FuncData} {x : Str} {sp : Sp} {s1 : Shared} {us : List Value} {ns : List Int}
def FinOk (s1 : Shared) : Result → Shared → Prop := fun r s' => r = .ok (.ret (.bool true)) ∧ OldK s1.heap s'.heap ∧ s'.os = s1.os ∧ AllBare s'.gens
/-- over a heap in which nothing is tracked but the script -/
theorem end_core (inK : K.In s1.heap) (gl : s1.heap.Ns mainGlobals mg) (bl : s1.heap.Ns builtinsNs mb) (bb : ∀ y : Str, y ≠ "__name__" → mb y = bootBuiltins y) (nl : s1.heap.NoLimit) (ng : s1.gens = #[])
    (at_ : s1.heap.get? a = some { cls := .type "list", data := .seq us.toArray }) (room : Room k callerA) (F : ∀ base : Heap, K.In base → base.Ns mainGlobals mg → FnG P w K mg base (L2.CX P w) k fa fd [x] sp) (bd : ∀ (s : Shared) (u : Value), BindsTo s fd ⟨[u], []⟩ [(x, u)])
    {H : Hp} (only : Only H) (want : sp [.ref a] H (fun v _ => v = .bl true) fun _ _ _ => False) (hok : HOk P w H s1.heap) (lone : ∀ b u, H b = some u → b = a) (nK : ∀ u, H a = some u → K.lookup a = none) :
    codeAny (model P w) callerA (.call (.ref fa) ⟨[.ref a], []⟩) (FinOk s1) s1 := by
  have dictFree : ∀ {b : Addr} {o : Obj} {es : Array DictEntry} {m : Nat}, s1.heap.get? b = some o → o.data = .dict es m → H b = none := by
    intro b o es m h1 h2
    cases hb : H b with
    | none => rfl
    | some u =>
      cases lone b u hb
      rw [at_] at h1
      cases h1
      exact nomatch (show Data.seq us.toArray _ = Data.dict es m from h2)
  have nsOf : ∀ {b : Addr} {m : Str → Option Value}, s1.heap.Ns b m → (hidT s1.heap H).Ns b m := by
    rintro b m ⟨o, es, n, h1, h2, h3⟩
    exact ⟨o, es, n, hidT_get h1 (dictFree h1 h2), h2, h3⟩
  have inB : K.In (hidT s1.heap H) := by
    intro b o h1
    refine hidT_get (inK b o h1) ?_
    cases hb : H b with
    | none => rfl
    | some u =>
      cases lone b u hb
      rw [nK u hb] at h1
      cases h1
  obtain ⟨mc, c1, c2⟩ := nl
  have md : Mod K mg (hidT s1.heap H) := ⟨inB, nsOf gl, ⟨mb, nsOf bl, bb⟩, ⟨mc, nsOf c1, c2⟩⟩
  have noMem : ∀ b : Addr, b ∉ ([] : List Addr) := fun b z => by cases z
  have e0 : Env0 P w K mg (hidT s1.heap H) callerA [] s1 H := ⟨rfl, md, fun b o e => of_hidT e, Nat.le_of_eq (hidT_size _ _), trivial, fun b z => absurd z (noMem b), hok, .of_eq ng⟩
  refine codeAny_mono ((F _ inB (nsOf gl)).go callerA [] s1 H ⟨[.ref a], []⟩ [.ref a] [.ref a] _ _ room rfl e0 (bd s1 (.ref a)) (.cons rfl .nil) want) ?_
  intro r s' h
  cases r with
  | error e =>
    obtain ⟨_, _, _, _, _, _, _, _, _, _, _, _, z⟩ := h
    exact z.elim
  | ok flow =>
    cases flow with
    | ret u =>
      obtain ⟨v, H', z1, z2, z3, z4, z5, z6⟩ := h
      cases (show v = .bl true from z6)
      cases (show u = Value.bool true from z5)
      refine ⟨rfl, OldK.of_keep fun b o e => ?_, z1, z2⟩
      cases hb : H b with
      | none => exact z3.keep b o e hb (noMem b) (noMem b)
      | some u =>
        rcases only b with z | ⟨ob, xs, z⟩
        · rw [hb] at z; cases z
        · obtain ⟨y1, _⟩ := hok b _ z
          obtain ⟨y2, _⟩ := z4 b _ (z3.frzs b ob _ z)
          rw [e] at y1
          cases y1
          exact y2
    | next => exact False.elim h
    | brk => exact False.elim h
    | cont => exact False.elim h
def scrH (a : Addr) (us : List Value) (ns : List Int) : Hp := fun b => if b = a then some (.frz { cls := .type "list", data := .seq us.toArray } (.lst (ns.map V.int))) else none
theorem law_end (inK : K.In s1.heap) (gl : s1.heap.Ns mainGlobals mg) (bl : s1.heap.Ns builtinsNs mb) (bb : ∀ y : Str, y ≠ "__name__" → mb y = bootBuiltins y) (nl : s1.heap.NoLimit) (ng : s1.gens = #[])
    (at_ : s1.heap.get? a = some { cls := .type "list", data := .seq us.toArray }) (hin : IntsAre us ns) (size : ns.length ≤ sizeLine) (room : Room k callerA) (F : ∀ base : Heap, K.In base → base.Ns mainGlobals mg → FnG P w K mg base (L2.CX P w) k fa fd [x] sp) (bd : ∀ (s : Shared) (u : Value), BindsTo s fd ⟨[u], []⟩ [(x, u)])
    (want : ∀ H : Hp, Only H → SqL K H a (ns.map V.int) → (∀ b u, H b = some u → b = a) → sp [.ref a] H (fun v _ => v = .bl true) fun _ _ _ => False) : codeAny (model P w) callerA (.call (.ref fa) ⟨[.ref a], []⟩) (FinOk s1) s1 := by
  have vs := vals_ints hin
  cases hk : K.lookup a with
  | some o =>
    have h1 := inK a o hk
    rw [at_] at h1
    cases h1
    have sq : SqL K (fun _ => none) a (ns.map V.int) := .inr ⟨_, us.toArray, _, hk, rfl, rfl, rfl, by rw [List.size_toArray, hin.length]; exact size, by simpa using vs⟩
    exact end_core inK gl bl bb nl ng at_ room F bd (fun _ => .inl rfl) (want _ (fun _ => .inl rfl) sq fun _ _ z => nomatch z) (fun _ _ z => nomatch z) (fun _ _ z => nomatch z) fun _ z => nomatch z
  | none =>
    have hit : scrH a us ns a = some (.frz { cls := .type "list", data := .seq us.toArray } (.lst (ns.map V.int))) := if_pos rfl
    have mis : ∀ {b : Addr} {u : HO}, scrH a us ns b = some u → b = a := fun {b u} z => by
      by_cases e : b = a
      · exact e
      · rw [show scrH a us ns b = none from if_neg e] at z; cases z
    have only : Only (scrH a us ns) := fun b => by
      by_cases e : b = a
      · cases e; exact .inr ⟨_, _, hit⟩
      · exact .inl (if_neg e)
    refine end_core inK gl bl bb nl ng at_ room F bd only (want _ only (.inl (.inr ⟨_, hit⟩)) fun b u z => mis z) (fun b u z => ?_) (fun b u z => mis z) fun _ _ => hk
    cases mis z
    rw [hit] at z
    cases z
    exact ⟨at_, by rw [List.length_map]; exact size, us, _, vs, at_⟩
end
/-- the goal behind the head, from the law's own promise -/
theorem walk_pd {l : PySem.W.OpenLaw} {n k : Nat} {q : Program} {loose : List Str} {XP : (Str → Option Value) → Heap → Prop} {YP : World → Heap → Prop} {d : DefRec} {K : Params → PySem.W.Frag} {sp : World → Sp} {x : Str}
    (most : l.most = some n) (most2 : n ≤ sizeLine) (nodef : d.params.defaults = []) (room : Room k callerA) (hY : ∀ (w : World) (h : Heap), YP w h → (K w.params).In h)
    (F : ∀ (w : World) (mg : Str → Option Value) (fa : Addr) (h : Heap), (K w.params).In h → h.Ns mainGlobals mg → mg d.name = some (.ref fa) → ∃ fd : FuncData, (∀ (s : Shared) (u : Value), BindsTo s fd ⟨[u], []⟩ [(x, u)]) ∧
      ∀ base : Heap, (K w.params).In base → base.Ns mainGlobals mg → FnG l.prog w (K w.params) mg base (L2.CX l.prog w) k fa fd [x] (sp w))
    (want : ∀ (w : World) (H : Hp) (a : Addr) (ns : List Int), ns.length ≤ n → Only H → SqL (K w.params) H a (ns.map V.int) → (∀ b u, H b = some u → b = a) → sp w [.ref a] H (fun v _ => v = .bl true) fun _ _ _ => False) :
    PySem.W.WalkO q loose XP YP l.row.toRowW d [] (fun f vs => PySem.call f vs) := by
  refine Att.attach_call most nodef ?_
  intro w s0 s1 mg mb fa o pm cd doc a us ns G Y _ _ _ mgf at_ hin len ng
  have inK := hY w _ Y
  obtain ⟨fd, bd, F'⟩ := F w mg fa _ inK G.T.g mgf
  exact law_end inK G.T.g G.T.b G.T.builtins G.T.nolimit ng at_ hin (Nat.le_trans len most2) room F' bd fun H h1 h2 h3 => want w H a ns len h1 h2 h3

/-! ### the law's own function -/
/-- the maker of the draws: new things alone -/
def spStart (M : Mch) (K : PySem.W.Frag) (init : List Int → Draw) : Sp := fun xs H Q E => ∃ (a : Addr) (ns : List Int), xs = [.ref a] ∧ ns.length ≤ 63 ∧ SqL K H a (ns.map V.int) ∧
  ∀ pm H', (∀ b o, H b = some o → H' b = some o) → StAt M H' pm (init ns) → (∀ b, Mst H' pm b → H b = none) → Q (.ref pm) H'
def spLaw (K : PySem.W.Frag) (T : List (Addr × Str)) (n : Nat) : Sp := fun xs H Q E => ∃ (a : Addr) (ns : List Int), xs = [.ref a] ∧ SqL K H a (ns.map V.int) ∧ ns.length ≤ n ∧ LamX.Tabs T H ∧ ∀ H', Q (.bl true) H'
theorem tabs_nil {H : Hp} : LamX.Tabs [] H := fun _ h => nomatch h
/-- what is seen at first: all but the tables -/
def noT (H : Hp) : Hp := fun a => match H a with
  | some (.tbl _) => none
  | o => o
theorem noT_some {H : Hp} {a : Addr} {o : HO} (h : noT H a = some o) : H a = some o := by
  unfold noT at h
  split at h
  · cases h
  · exact h
theorem noT_tbl {H : Hp} (a : Addr) (ps : Array Value) : noT H a ≠ some (.tbl ps) := fun h => by
  have z := noT_some h
  unfold noT at h
  rw [z] at h
  cases h
theorem noT_keep {H : Hp} {a : Addr} {o : HO} (h : H a = some o) (ho : ∀ ps, o ≠ .tbl ps) : noT H a = some o := by
  unfold noT
  rw [h]
  cases o <;> first | rfl | (rename_i ps; exact absurd rfl (ho ps))
theorem noT_none {H : Hp} {a : Addr} (h : H a = none) : noT H a = none := by
  unfold noT
  rw [h]
def firstB (ct : Ct) (ys : Str) (s1 : Stmt) : Bool :=
  match s1 with
  | .Assign [.Name ym _] (.Call (.Name y _) [.Name x _] kws _) _ => kws.isEmpty && y == ys && glB ct y && !dbg y && nmB ct 0 x && stB ct 1 ym
  | _ => false
theorem PSs.union {X : Cx} {b : List Stmt} {I : Type} {p : I → Prop} {t : I → TS} (h : ∀ i, p i → PSs X b (t i)) : PSs X b (fun D σ H => ∃ i, p i ∧ t i D σ H) :=
  ⟨fun pins s σ H D J ⟨i, hi, q⟩ => (h i hi).run pins s σ H D J q⟩
section
variable {P : Prg} {gc : List (Str × PyData)} {M : Mch} {prog : Program} {w : World} {K : PySem.W.Frag} {mg : Str → Option Value} {base : Heap}
def lawEnv (N : List Str) (ns : List Int) : Env := some (.list (ns.map .int)) :: some hndD :: List.replicate (N.length - 2) none
theorem law_fn (w' : Wld P gc M prog w K mg base) {n m : Nat} {x q px ys : Str} {st s1 : Stmt} {rest : List Stmt} {fa fs : Addr} {fd fds : FuncData} {N pss : List Str} {kd : List Kd} {body : List Sx} {init : List Int → Draw}
    (F : Fun K x q st fa fd) (S : FnScope N [px] (defScope st)) (hb : defBody st = s1 :: rest) (kd0 : kd.getD 0 .nrm = .scr) (kd1 : kd.getD 1 .nrm = .hnd) (hN : 2 ≤ N.length) (hf : firstB ⟨N, kd, defScope st, defScope st, true⟩ ys s1 = true)
    (fst : FnG prog w K mg base CX0 n fs fds pss (spStart M K init)) (mgs : mg ys = some (.ref fs)) (kps : PySem.W.keepIn K (.ref fs) = true) (bds : Binds K fds pss []) (hc : (chk P gc m).s ⟨N, kd, defScope st, defScope st, true⟩ body rest = true)
    (go : ∀ ns : List Int, ns.length ≤ 63 → ∃ S', (run P n).s (lawEnv N ns) (init ns) body = .ret (.bool true) S') : FnG prog w K mg base (L2.CX prog w) (n + 1) fa fd [px] (spLaw K w'.T 63) := by
  refine fnG_of F S (fun xs H Q E ⟨a, ns, e, _⟩ => by rw [e]; rfl) fun cd A fr s H xs Q E room gd want => ?_
  obtain ⟨a, ns, rfl, sq, len, htab, hQ⟩ := want
  obtain ⟨S', eS⟩ := go ns len
  have g : ∀ (pm : Addr) (H' : Hp), Gd P gc ⟨N, kd, defScope st, defScope st, true⟩ (frC M K pm H' kd P.ex w'.ea w'.T E) (cxOf (L2.CX prog w) prog w K mg base N q (defScope st) fa cd A fr s H E) n := fun pm H' => w'.gd (fun m _ => w'.all m) S room gd
  have later := fun (i : Addr × Hp × Hp) (_ : True) => (snd2 P gc n m).b.s (H0 := i.2.1) (W0 := i.2.2) (g i.1 i.2.1) rfl ⟨rfl, rfl, rfl⟩ (passes_of rfl) (fun b o h => ⟨o, h⟩) hc
  unfold firstB at hf
  split at hf
  · rename_i ym pym y py x' px' kws cpos pos
    simp only [Bool.and_eq_true, Bool.not_eq_true', beq_iff_eq] at hf
    obtain ⟨⟨⟨⟨⟨h0, rfl⟩, h2⟩, h3⟩, h4⟩, h5⟩ := hf
    cases kws with
    | cons _ _ => cases h0
    | nil =>
      have g0 := g 0 H
      obtain ⟨n1, n2, n3, n4⟩ := g0.nm h4
      obtain ⟨t1, t2, t3⟩ := g0.st h5
      have call := pe_callG (E := E0) (p := py) (pos := cpos) fst room g0.gd (g0.gl h2) mgs kps bds pass0 (pa_cons (pe_var (pos := px') n1 n2 n3 n4) pa_nil rfl) h3 rfl rfl
      rw [hb]
      refine ⟨_, pss_cons (ps_set (pos := pos) (pos' := pym) g0.nd' t1 t2 call rfl t3) (PSs.union later), ?_⟩
      have s0 : (L2.start N [V.ref a])[0]? = some (some (.ref a)) := rfl
      refine ⟨.ref a, s0, a, ns, rfl, len, sq, fun pm H' sub stt new => ?_⟩
      refine ⟨(pm, H', noT H), trivial, lawEnv N ns, noT H, init ns, ⟨?_, ?_, ?_, fun b z => z⟩, ⟨fun b o h => sub b o (noT_some h), fun b m => noT_none (new b m), stt, htab.ext sub, noT_tbl⟩, ?_, ?_⟩
      · unfold lawEnv L2.start
        simp
        omega
      · intro i d hi
        match i with
        | 0 =>
          cases hi
          refine ⟨.ref a, s0, ?_⟩
          show Slot _ _ _ (kd.getD 0 .nrm) _ _
          rw [kd0]
          rcases sq with z | z
          · refine .inl (.lst (.inl ?_) (ints_dpAll _))
            rcases z with z | ⟨o, z⟩
            · exact .inl (noT_keep z fun ps y => by cases y)
            · exact .inr ⟨o, noT_keep z fun ps y => by cases y⟩
          · exact .inr ⟨a, ns, rfl, rfl, .inr z⟩
        | 1 =>
          cases hi
          refine ⟨.ref pm, ?_, ?_⟩
          · rw [List.getElem?_set_self]
            unfold L2.start
            simp
            omega
          · show Slot _ _ _ (kd.getD 1 .nrm) _ _
            rw [kd1]
            exact ⟨rfl, rfl⟩
        | i + 2 =>
          exfalso
          unfold lawEnv at hi
          simp only [List.getElem?_cons_succ, List.getElem?_replicate] at hi
          split at hi <;> cases hi
      · intro i j p d e hij h1 h2 h3
        exfalso
        have h1 : kd.getD i .nrm = .own := h1
        match i with
        | 0 => rw [kd0] at h1; cases h1
        | 1 => rw [kd1] at h1; cases h1
        | i + 2 =>
          unfold lawEnv at h3
          simp only [List.getElem?_cons_succ, List.getElem?_replicate] at h3
          split at h3 <;> cases h3
      · exact Stp.refl _ _ _
      · dsimp only
        rw [eS]
        intro v H2 W2 _ _ dv
        cases dv
        exact hQ H2
  · cases hf
end
end PD
/-! P18: the functions that draw: ints, one dict with two lists. -/
namespace PD
open PySem PySem.Spec PyProof.Rows L2

structure Lay where
  c : Str
  g : Str
  a : Str
  b : Option Str
def Lay.dct (L : Lay) (S : Draw) (pc pg : Addr) : List (Key × V) := [(.inr L.c, V.ref pc), (.inr L.g, V.ref pg), (.inr L.a, V.int S.a)] ++ (match L.b with | some x => [(.inr x, V.int S.b)] | none => [])
structure Lay.Ok (L : Lay) : Prop where
  cg : L.c ≠ L.g
  ca : L.c ≠ L.a
  ga : L.g ≠ L.a
  cb : ∀ x, L.b = some x → L.c ≠ x
  gb : ∀ x, L.b = some x → L.g ≠ x
  ab : ∀ x, L.b = some x → L.a ≠ x
def Lay.m (L : Lay) : Mch where
  lay := L.dct
  refs := fun S pc pg k a h => by
    unfold Lay.dct at h
    rw [List.mem_append] at h
    rcases h with h | h
    · simp only [List.mem_cons, List.not_mem_nil, or_false] at h
      rcases h with h | h | h
      · cases h; exact .inl rfl
      · cases h; exact .inr rfl
      · cases h
    · cases hb : L.b with
      | none => rw [hb] at h; cases h
      | some x =>
        rw [hb] at h
        simp only [List.mem_cons, List.not_mem_nil, or_false] at h
        cases h
  hc := fun S pc pg => ⟨.inr L.c, by simp [Lay.dct]⟩
  hg := fun S pc pg => ⟨.inr L.g, by simp [Lay.dct]⟩
section
variable {L : Lay} (ok : L.Ok) (S : Draw) (pc pg : Addr)
theorem lay_c : valV (L.dct S pc pg) (.inr L.c) = some (.ref pc) := by simp [valV, Lay.dct]
theorem lay_g (ok : L.Ok) : valV (L.dct S pc pg) (.inr L.g) = some (.ref pg) := by
  simp [valV, Lay.dct, List.find?_cons, ok.cg]
theorem lay_a (ok : L.Ok) : valV (L.dct S pc pg) (.inr L.a) = some (.int S.a) := by
  simp [valV, Lay.dct, List.find?_cons, ok.ca, ok.ga]
theorem lay_b (ok : L.Ok) {x : Str} (hb : L.b = some x) : valV (L.dct S pc pg) (.inr x) = some (.int S.b) := by
  simp [valV, Lay.dct, List.find?_cons, hb, ok.cb x hb, ok.gb x hb, ok.ab x hb]
theorem put_g (ok : L.Ok) (q : Addr) : putK (L.dct S pc pg) (.inr L.g) (.ref q) = L.dct S pc q := by
  have h1 : L.c ≠ L.g := ok.cg
  have h2 : ¬ L.a = L.g := fun e => ok.ga e.symm
  cases hb : L.b with
  | none => simp [putK, Lay.dct, hb, h1, h2]
  | some x =>
    have h3 : ¬ x = L.g := fun e => ok.gb x hb e.symm
    simp [putK, Lay.dct, hb, h1, h2, h3]
theorem put_a (ok : L.Ok) (i : Int) : putK (L.dct S pc pg) (.inr L.a) (.int i) = L.dct { S with a := i } pc pg := by
  have h1 : L.c ≠ L.a := ok.ca
  have h2 : L.g ≠ L.a := ok.ga
  cases hb : L.b with
  | none => simp [putK, Lay.dct, hb, h1, h2]
  | some x =>
    have h3 : ¬ x = L.a := fun e => ok.ab x hb e.symm
    simp [putK, Lay.dct, hb, h1, h2, h3]
theorem put_b (ok : L.Ok) {x : Str} (hb : L.b = some x) (i : Int) : putK (L.dct S pc pg) (.inr x) (.int i) = L.dct { S with b := i } pc pg := by
  simp [putK, Lay.dct, hb, ok.cb x hb, ok.gb x hb, ok.ab x hb]
theorem dct_len : (L.dct S pc pg).length < sizeLine := by
  have h : (L.dct S pc pg).length ≤ 4 := by
    unfold Lay.dct
    cases L.b <;> simp
  rw [sizeLine_eq]
  omega
end
/-- the state at a point of a drawing function, that began at H0 -/
structure Cur (L : Lay) (pm : Addr) (H0 H : Hp) (S : Draw) (pc pg : Addr) : Prop where
  d : H pm = some (.dK (L.dct S pc pg))
  lc : H pc = some (.lst (S.cells.map V.int))
  lg : H pg = some (.lst (S.great.map V.int))
  ne : pc ≠ pg
  k : ∀ a o, H0 a = some o → ¬ Mst H0 pm a → H a = some o ∧ a ≠ pm ∧ a ≠ pc ∧ a ≠ pg
  t : ∀ a o, H0 a = some o → ∃ o', H a = some o'
section
variable {L : Lay} {pm : Addr} {H0 H : Hp} {S : Draw} {pc pg : Addr}
theorem Cur.mc (c : Cur L pm H0 H S pc pg) : pm ≠ pc := fun e => by have := c.d; rw [e, c.lc] at this; cases this
theorem Cur.mg (c : Cur L pm H0 H S pc pg) : pm ≠ pg := fun e => by have := c.d; rw [e, c.lg] at this; cases this
theorem Cur.mst (c : Cur L pm H0 H S pc pg) {a : Addr} (h : Mst H pm a) : a = pm ∨ a = pc ∨ a = pg := by
  rcases h with h | ⟨kvs, k, h1, h2⟩
  · exact .inl h
  · rw [c.d] at h1
    cases h1
    exact .inr (L.m.refs S pc pg k a h2)
/-- a new thing -/
theorem Cur.new (c : Cur L pm H0 H S pc pg) {q : Addr} {o : HO} (hq : H q = none) : Cur L pm H0 (upd H q o) S pc pg where
  d := by rw [upd_ne (ne_of_none c.d hq)]; exact c.d
  lc := by rw [upd_ne (ne_of_none c.lc hq)]; exact c.lc
  lg := by rw [upd_ne (ne_of_none c.lg hq)]; exact c.lg
  ne := c.ne
  k := fun a u h n => by
    obtain ⟨h1, h2⟩ := c.k a u h n
    exact ⟨by rw [upd_ne (ne_of_none h1 hq)]; exact h1, h2⟩
  t := fun a u h => by
    obtain ⟨u', h1⟩ := c.t a u h
    exact ⟨u', by rw [upd_ne (ne_of_none h1 hq)]; exact h1⟩
theorem Cur.putA (c : Cur L pm H0 H S pc pg) (ok : L.Ok) (i : Int) : Cur L pm H0 (upd H pm (.dK (putK (L.dct S pc pg) (.inr L.a) (.int i)))) { S with a := i } pc pg where
  d := by rw [upd_same, put_a S pc pg ok]
  lc := by rw [upd_ne c.mc.symm]; exact c.lc
  lg := by rw [upd_ne c.mg.symm]; exact c.lg
  ne := c.ne
  k := fun a u h n => by
    obtain ⟨h1, h2, h3⟩ := c.k a u h n
    exact ⟨by rw [upd_ne h2]; exact h1, h2, h3⟩
  t := fun a u h => by
    by_cases e : a = pm
    · exact ⟨_, by rw [e]; exact upd_same⟩
    · rw [upd_ne e]; exact c.t a u h
theorem Cur.putB (c : Cur L pm H0 H S pc pg) (ok : L.Ok) {x : Str} (hb : L.b = some x) (i : Int) : Cur L pm H0 (upd H pm (.dK (putK (L.dct S pc pg) (.inr x) (.int i)))) { S with b := i } pc pg where
  d := by rw [upd_same, put_b S pc pg ok hb]
  lc := by rw [upd_ne c.mc.symm]; exact c.lc
  lg := by rw [upd_ne c.mg.symm]; exact c.lg
  ne := c.ne
  k := fun a u h n => by
    obtain ⟨h1, h2, h3⟩ := c.k a u h n
    exact ⟨by rw [upd_ne h2]; exact h1, h2, h3⟩
  t := fun a u h => by
    by_cases e : a = pm
    · exact ⟨_, by rw [e]; exact upd_same⟩
    · rw [upd_ne e]; exact c.t a u h
/-- the second list anew -/
theorem Cur.putG (c : Cur L pm H0 H S pc pg) (ok : L.Ok) {q : Addr} {gs : List Int} (hq : H0 q = none) (hl : H q = some (.lst (gs.map V.int))) (nm : q ≠ pm) (nc : q ≠ pc) : Cur L pm H0 (upd H pm (.dK (putK (L.dct S pc pg) (.inr L.g) (.ref q)))) { S with great := gs } pc q where
  d := by rw [upd_same, put_g S pc pg ok]; rfl
  lc := by rw [upd_ne c.mc.symm]; exact c.lc
  lg := by rw [upd_ne nm]; exact hl
  ne := nc.symm
  k := fun a u h n => by
    obtain ⟨h1, h2, h3, h4⟩ := c.k a u h n
    exact ⟨by rw [upd_ne h2]; exact h1, h2, h3, ne_of_none h hq⟩
  t := fun a u h => by
    by_cases e : a = pm
    · exact ⟨_, by rw [e]; exact upd_same⟩
    · rw [upd_ne e]; exact c.t a u h
/-- a place of the second list -/
theorem Cur.setG (c : Cur L pm H0 H S pc pg) (j : Nat) (i : Int) : Cur L pm H0 (upd H pg (.lst ((S.great.map V.int).set j (.int i)))) { S with great := S.great.set j i } pc pg where
  d := by rw [upd_ne c.mg]; exact c.d
  lc := by rw [upd_ne c.ne]; exact c.lc
  lg := by rw [upd_same, List.map_set]
  ne := c.ne
  k := fun a u h n => by
    obtain ⟨h1, h2, h3, h4⟩ := c.k a u h n
    exact ⟨by rw [upd_ne h4]; exact h1, h2, h3, h4⟩
  t := fun a u h => by
    by_cases e : a = pg
    · exact ⟨_, by rw [e]; exact upd_same⟩
    · rw [upd_ne e]; exact c.t a u h
/-- the beginning, the end -/
theorem Cur.begin {C : Cfg} {W : Hp} (hM : C.M = L.m) (v : Vw C W H S) : ∃ pc pg, Cur L C.pm H H S pc pg := by
  obtain ⟨pc, pg, ne, h1, h2, h3⟩ := v.st
  rw [hM] at h1
  refine ⟨pc, pg, h1, h2, h3, ne, fun a o h n => ⟨h, fun e => n (.inl e), fun e => n ?_, fun e => n ?_⟩, fun a o h => ⟨o, h⟩⟩
  · subst e
    obtain ⟨k, hk⟩ := L.m.hc S a pg
    exact .inr ⟨_, k, h1, hk⟩
  · subst e
    obtain ⟨k, hk⟩ := L.m.hg S pc a
    exact .inr ⟨_, k, h1, hk⟩
theorem Cur.fin {C : Cfg} {W H' : Hp} {S' : Draw} (hM : C.M = L.m) (v : Vw C W H S) (c : Cur L C.pm H H' S' pc pg) : Stp C.pm H W H' W ∧ Vw C W H' S' := by
  have nm : ∀ a o, H a = some o → ¬ Mst H C.pm a → ¬ Mst H' C.pm a := fun a o h n m => by
    obtain ⟨_, h2, h3, h4⟩ := c.k a o h n
    rcases c.mst m with e | e | e
    · exact h2 e
    · exact h3 e
    · exact h4 e
  have keepT : ∀ a o, H a = some o → (∀ kvs, o ≠ .dK kvs) → (∀ vs, o ≠ .lst vs) → H' a = some o := fun a o h n1 n2 => (c.k a o h fun m => by
    obtain ⟨pc', pg', _, h1, h2, h3⟩ := v.st
    rcases m with rfl | ⟨kvs, k, e, hm⟩
    · rw [h1] at h
      exact n1 _ (Option.some.inj h).symm
    · rw [h1] at e
      cases e
      rcases C.M.refs _ _ _ _ _ hm with rfl | rfl
      · rw [h2] at h
        exact n2 _ (Option.some.inj h).symm
      · rw [h3] at h
        exact n2 _ (Option.some.inj h).symm).1
  refine ⟨⟨fun _ _ h => h, fun a o h n _ => ⟨(c.k a o h n).1, nm a o h n⟩, c.t, fun a o h n => by rw [n] at h; cases h⟩, ⟨fun a o h => ?_, fun a m => ?_, ⟨pc, pg, c.ne, by rw [hM]; exact c.d, c.lc, c.lg⟩, fun p hp => ?_, v.nt⟩⟩
  · have n : ¬ Mst H C.pm a := fun m => by rw [v.hid a m] at h; cases h
    exact (c.k a o (v.sub a o h) n).1
  · cases e : W a with
    | none => rfl
    | some o =>
      have n : ¬ Mst H C.pm a := fun m => by rw [v.hid a m] at e; cases e
      exact absurd m (nm a o (v.sub a o e) n)
  · obtain ⟨ps, h1, h2, h3⟩ := v.tab p hp
    refine ⟨ps, keepT _ _ h1 (fun _ z => by cases z) (fun _ z => by cases z), h2, fun pos cv hc => ?_⟩
    obtain ⟨x, e1, e2⟩ := h3 pos cv hc
    refine ⟨x, e1, keepT _ _ e2 (fun _ z => ?_) (fun _ z => ?_)⟩
    · unfold LamX.CodeO at z
      cases z
    · unfold LamX.CodeO at z
      cases z
end
end PD
/-! P19: rules of the functions that draw. -/
namespace PD
open PySem PySem.Spec PyProof.Rows L2

abbrev ZEnv := List (Option Int)
structure ZOk (pm : Addr) (Γ : ZEnv) (σ : L2.St) : Prop where
  h : σ[0]? = some (some (.ref pm))
  len : Γ.length = σ.length
  at_ : ∀ (i : Nat) (d : Int), Γ[i]? = some (some d) → σ[i]? = some (some (V.int d))
  z : ∀ d : Int, Γ[0]? ≠ some (some d)
theorem ZOk.set {pm : Addr} {Γ : ZEnv} {σ : L2.St} (o : ZOk pm Γ σ) {i : Nat} (h0 : i ≠ 0) (d : Int) : ZOk pm (Γ.set i (some d)) (σ.set i (some (.int d))) where
  h := by rw [List.getElem?_set_ne h0]; exact o.h
  len := by rw [List.length_set, List.length_set]; exact o.len
  at_ := fun j e hj => by
    by_cases hij : i = j
    · subst hij
      by_cases hl : i < Γ.length
      · rw [List.getElem?_set_self hl] at hj
        cases hj
        exact List.getElem?_set_self (by rw [← o.len]; exact hl)
      · rw [List.getElem?_eq_none (by rw [List.length_set]; omega)] at hj
        cases hj
    · rw [List.getElem?_set_ne hij] at hj ⊢
      exact o.at_ j e hj
  z := fun e => by rw [List.getElem?_set_ne h0]; exact o.z e
def getI (Γ : ZEnv) (i : Nat) : Option Int :=
  match Γ[i]? with
  | some (some d) => some d
  | _ => none
abbrev ZFn := ZEnv → Draw → Option Int
abbrev ZTst := ZEnv → Draw → Option Bool
inductive ZOut where
  | nx (Γ : ZEnv) (S : Draw)
  | ret (i : Int) (S : Draw)
  | bad
abbrev ZSt := ZEnv → Draw → ZOut
def ZOut.Post (nx : ZEnv → Draw → Prop) (rt : Int → Draw → Prop) : ZOut → Prop
  | .nx Γ S => nx Γ S
  | .ret i S => rt i S
  | .bad => False
section
variable (L : Lay) (pm : Addr) (H0 : Hp)
def zN (g : ZFn) : TE := fun σ H Q => ∃ Γ S pc pg i, ZOk pm Γ σ ∧ Cur L pm H0 H S pc pg ∧ g Γ S = some i ∧ ∀ H', Cur L pm H0 H' S pc pg → Q (.int i) H'
def zT (g : ZTst) : TT := fun σ H Q => ∃ Γ S pc pg b, ZOk pm Γ σ ∧ Cur L pm H0 H S pc pg ∧ g Γ S = some b ∧ ∀ H', Cur L pm H0 H' S pc pg → Q b H'
def zS (f : ZSt) : TS := fun D σ H => ∃ Γ S pc pg, ZOk pm Γ σ ∧ Cur L pm H0 H S pc pg ∧ (f Γ S).Post (fun Γ' S' => ∀ σ' H' pc' pg', ZOk pm Γ' σ' → Cur L pm H0 H' S' pc' pg' → D.nx σ' H') (fun i S' => ∀ H' pc' pg', Cur L pm H0 H' S' pc' pg' → D.rt (.int i) H')
end
section
variable {X : Cx} {L : Lay} {pm : Addr} {H0 : Hp} {pos p1 p2 p3 : Pos} {m : Str}
/-- the handle's name -/
structure HNm (X : Cx) (m : Str) : Prop where
  n : X.N[0]? = some m
  v : Vis X.env.scope m
  d : (m == ("__debug__" : Str)) = false
  c : (m == ("__classdict__" : Str)) = false
theorem op_neE (hu : X.A.units + 200 < cLine) : OpR X (compareOp .NotEq) (fun x y H Q => ∃ (p q : Addr) (ns : List Int), x = .ref p ∧ y = .ref q ∧ H p = some (.lst (ns.map V.int)) ∧ H q = some (.lst []) ∧ Q (.bl (!ns.isEmpty)) H) := by
  intro pins s σ H x y v u Q I rx ry h
  obtain ⟨p, q, ns, rfl, rfl, h1, h2, hq⟩ := h
  have wx : Dp X.K H (.ref p) (.list (ns.map .int)) := .lst (.of h1) (ints_dpAll _)
  have wy : Dp X.K H (.ref q) (.list []) := .lst (.of h2) .nil
  obtain ⟨as, r1⟩ := Dp.reads I _ _ v wx rx
  obtain ⟨bs, r2⟩ := Dp.reads I _ _ u wy ry
  have e : (!PyData.eqv (.list (ns.map .int)) (.list [])) = !ns.isEmpty := by
    cases ns with
    | nil => rfl
    | cons a b => rfl
  refine SeqAt.ne_plain r1 r2 (dp_plain wx) (dp_plain wy) (dpt_min (x := .list (ns.map .int)) (y := .list []) ?_ hu) (by rw [e]; exact ⟨.bl _, H, I, rfl, hq⟩)
  unfold dpt
  simp [PyData.depth, PyData.depthAll]
theorem zn_var {i : Nat} {x : Str} (hN : X.N[i]? = some x) (hv : Vis X.env.scope x) (hd : (x == ("__debug__" : Str)) = false) (hcd : (x == ("__classdict__" : Str)) = false) : PE X (.Name x pos) (zN L pm H0 fun Γ _ => getI Γ i) :=
  PE.imp (pe_var hN hv hd hcd) fun σ H Q ⟨Γ, S, pc, pg, j, o, c, e, q⟩ => by
    dsimp only [getI] at e
    split at e
    · rename_i d h
      cases e
      exact ⟨.int j, o.at_ i j h, q H c⟩
    · cases e
theorem zn_con {i : Int} {k : Nat} : PE X (.Constant (.int i) k pos) (zN L pm H0 fun _ _ => some i) := PE.imp pe_int fun σ H Q ⟨Γ, S, pc, pg, j, o, c, e, q⟩ => by
  cases e
  exact q H c
theorem zn_a (ok : L.Ok) (hm : HNm X m) (hu : X.A.units + 200 < cLine) {k : Nat} : PE X (.Subscript (.Name m p1) (.Constant (.str L.a) k p2) pos) (zN L pm H0 fun _ S => some S.a) :=
  PE.imp (pe_dget (by omega) (pe_var hm.n hm.v hm.d hm.c) pe_str (fun _ _ => rfl)) fun σ H Q ⟨Γ, S, pc, pg, j, o, c, e, q⟩ => by
    cases e
    exact ⟨.ref pm, o.h, pm, .int S.a, rfl, by have := DGet.k (k := .inr L.a) c.d; rw [lay_a S pc pg ok] at this; exact this, q H c⟩
theorem zn_b (ok : L.Ok) (hm : HNm X m) (hu : X.A.units + 200 < cLine) {x : Str} (hb : L.b = some x) {k : Nat} : PE X (.Subscript (.Name m p1) (.Constant (.str x) k p2) pos) (zN L pm H0 fun _ S => some S.b) :=
  PE.imp (pe_dget (by omega) (pe_var hm.n hm.v hm.d hm.c) pe_str (fun _ _ => rfl)) fun σ H Q ⟨Γ, S, pc, pg, j, o, c, e, q⟩ => by
    cases e
    exact ⟨.ref pm, o.h, pm, .int S.b, rfl, by have := DGet.k (k := .inr x) c.d; rw [lay_b S pc pg ok hb] at this; exact this, q H c⟩
/-- the lists -/
def zL (L : Lay) (pm : Addr) (H0 : Hp) (w : Bool) : TE := fun σ H Q => ∃ Γ S pc pg, ZOk pm Γ σ ∧ Cur L pm H0 H S pc pg ∧ Q (.ref (if w then pc else pg)) H
theorem zl_c (hm : HNm X m) (hu : X.A.units + 200 < cLine) {k : Nat} : PE X (.Subscript (.Name m p1) (.Constant (.str L.c) k p2) pos) (zL L pm H0 true) :=
  PE.imp (pe_dget (by omega) (pe_var hm.n hm.v hm.d hm.c) pe_str (fun _ _ => rfl)) fun σ H Q ⟨Γ, S, pc, pg, o, c, q⟩ =>
    ⟨.ref pm, o.h, pm, .ref pc, rfl, by have := DGet.k (k := .inr L.c) c.d; rw [lay_c S pc pg] at this; exact this, q⟩
theorem zl_g (ok : L.Ok) (hm : HNm X m) (hu : X.A.units + 200 < cLine) {k : Nat} : PE X (.Subscript (.Name m p1) (.Constant (.str L.g) k p2) pos) (zL L pm H0 false) :=
  PE.imp (pe_dget (by omega) (pe_var hm.n hm.v hm.d hm.c) pe_str (fun _ _ => rfl)) fun σ H Q ⟨Γ, S, pc, pg, o, c, q⟩ =>
    ⟨.ref pm, o.h, pm, .ref pg, rfl, by have := DGet.k (k := .inr L.g) c.d; rw [lay_g S pc pg ok] at this; exact this, q⟩
def lst (w : Bool) (S : Draw) : List Int := if w then S.cells else S.great
theorem Cur.l {H : Hp} {S : Draw} {pc pg : Addr} (c : Cur L pm H0 H S pc pg) (w : Bool) : H (if w then pc else pg) = some (.lst ((lst w S).map V.int)) := by
  cases w with
  | true => exact c.lc
  | false => exact c.lg
def ixZ (xs : List Int) (i : Int) : Option Int := if 0 ≤ i ∧ i < xs.length then xs[i.toNat]? else none
theorem atI_map {xs : List Int} {i j : Int} (h : ixZ xs i = some j) : atI (xs.map V.int) i = some (.int j) := by
  unfold ixZ at h
  split at h
  · rename_i hi
    unfold atI ixN
    rw [if_pos hi.1, List.length_map, if_pos hi.2]
    simp [h]
  · cases h
theorem zn_ix {w : Bool} {l e : Expr} {g : ZFn} (hl : PE X l (zL L pm H0 w)) (he : PE X e (zN L pm H0 g)) (hs : PlainIx e) : PE X (.Subscript l e pos) (zN L pm H0 fun Γ S => (g Γ S).bind fun i => ixZ (lst w S) i) :=
  PE.imp (pe_ix ix_list hl he hs) fun σ H Q ⟨Γ, S, pc, pg, j, o, c, e, q⟩ => by
    rw [Option.bind_eq_some_iff] at e
    obtain ⟨i, e1, e2⟩ := e
    exact ⟨Γ, S, pc, pg, o, c, Γ, S, pc, pg, i, o, c, e1, fun H' c' => ⟨_, _, i, .int j, rfl, rfl, .of (c'.l w), atI_map e2, q H' c'⟩⟩
theorem zn_len {w : Bool} {l : Expr} (hg : Gl X "len") (hm : X.mg "len" = none) (hl : PE X l (zL L pm H0 w)) (hs : starEach [l] X.env = (false, eval l X.env) :: starEach [] X.env) : PE X (.Call (.Name "len" p1) [l] [] pos) (zN L pm H0 fun _ S => some (lst w S).length) :=
  PE.imp (pe_callB call_len_seq hg hm (by decide +kernel) (pa_cons hl pa_nil hs) (by decide) (by decide) hs rfl) fun σ H Q ⟨Γ, S, pc, pg, j, o, c, e, q⟩ => by
    cases e
    exact ⟨Γ, S, pc, pg, o, c, _, (lst w S).map V.int, rfl, .inl (.of (c.l w)), by rw [List.length_map]; exact q H c⟩
theorem zn_int {e : Expr} {g : ZFn} (hg : Gl X "int") (hm : X.mg "int" = none) (he : PE X e (zN L pm H0 g)) (hs : starEach [e] X.env = (false, eval e X.env) :: starEach [] X.env) : PE X (.Call (.Name "int" p1) [e] [] pos) (zN L pm H0 g) :=
  PE.imp (pe_callTy call_int1 hg hm (by decide +kernel) (pa_cons he pa_nil hs) (by decide) (by decide) hs rfl) fun σ H Q ⟨Γ, S, pc, pg, j, o, c, e, q⟩ =>
    ⟨Γ, S, pc, pg, j, o, c, e, fun H' c' => .inl ⟨j, rfl, q H' c'⟩⟩
/-- two ints -/
def zOp : Operator → Int → Int → Option Int
  | .Add, i, j => some (i + j)
  | .Sub, i, j => some (i - j)
  | .Mult, i, j => if (-(2 ^ 64) < i ∧ i < 2 ^ 64) ∨ (-(2 ^ 64) < j ∧ j < 2 ^ 64) then some (i * j) else none
  | .Mod, i, j => if 0 < j then some (i % j) else none
  | .FloorDiv, i, j => if 0 < j ∧ j < 1073741824 then some (i / j) else none
  | _, _, _ => none
theorem op_z {op : Operator} : OpR X (binaryOp op) (fun x y H Q => ∃ i j k, x = .int i ∧ y = .int j ∧ zOp op i j = some k ∧ Q (.int k) H) := by
  intro pins s σ H x y v u Q I rx ry h
  obtain ⟨i, j, k, rfl, rfl, e, q⟩ := h
  unfold zOp at e
  split at e
  · cases e; exact op_add pins s σ H _ _ v u Q I rx ry ⟨_, _, rfl, rfl, q⟩
  · cases e; exact op_sub pins s σ H _ _ v u Q I rx ry ⟨_, _, rfl, rfl, q⟩
  · split at e
    · rename_i h; cases e; exact op_mul pins s σ H _ _ v u Q I rx ry ⟨_, _, rfl, rfl, h, q⟩
    · cases e
  · split at e
    · rename_i h; cases e; exact op_mod pins s σ H _ _ v u Q I rx ry ⟨_, _, rfl, rfl, h, q⟩
    · cases e
  · split at e
    · rename_i h; cases e; exact op_fdiv pins s σ H _ _ v u Q I rx ry ⟨_, _, rfl, rfl, h, q⟩
    · cases e
  · cases e
theorem zn_op {op : Operator} {a b : Expr} {g h : ZFn} (ha : PE X a (zN L pm H0 g)) (hb : PE X b (zN L pm H0 h)) : PE X (.BinOp a op b pos) (zN L pm H0 fun Γ S => (g Γ S).bind fun i => (h Γ S).bind fun j => zOp op i j) :=
  PE.imp (pe_op op_z ha hb) fun σ H Q ⟨Γ, S, pc, pg, k, o, c, e, q⟩ => by
    rw [Option.bind_eq_some_iff] at e
    obtain ⟨i, e1, e⟩ := e
    rw [Option.bind_eq_some_iff] at e
    obtain ⟨j, e2, e3⟩ := e
    exact ⟨Γ, S, pc, pg, i, o, c, e1, fun H' c' => ⟨Γ, S, pc, pg, j, o, c', e2, fun H2 c2 => ⟨i, j, k, rfl, rfl, e3, q H2 c2⟩⟩⟩
/-! ### tests -/
theorem zt_ne {w : Bool} {l : Expr} (hu : X.A.units + 200 < cLine) (hl : PE X l (zL L pm H0 w)) : PT X (.Compare l [.NotEq] [.List [] p1] pos) (zT L pm H0 fun _ S => some (!(lst w S).isEmpty)) :=
  PT.imp (pt_cmpR (op_neE hu) hl (pe_lst pa_nil) rfl) fun σ H Q ⟨Γ, S, pc, pg, b, o, c, e, q⟩ => by
    cases e
    refine ⟨Γ, S, pc, pg, o, c, by show 0 ≤ sizeLine; exact Nat.zero_le _, fun r hr => ⟨_, r, lst w S, rfl, rfl, (c.new hr).l w, upd_same, _, rfl, q _ (c.new hr)⟩⟩
theorem zt_eq {a : Expr} {g : ZFn} {n : Int} {k : Nat} (ha : PE X a (zN L pm H0 g)) : PT X (.Compare a [.Eq] [.Constant (.int n) k p1] pos) (zT L pm H0 fun Γ S => (g Γ S).map fun i => decide (i = n)) :=
  PT.imp (pt_cmpR op_eq ha pe_int rfl) fun σ H Q ⟨Γ, S, pc, pg, b, o, c, e, q⟩ => by
    rw [Option.map_eq_some_iff] at e
    obtain ⟨i, e1, rfl⟩ := e
    exact ⟨Γ, S, pc, pg, i, o, c, e1, fun H' c' => ⟨rfl, _, by simp, q H' c'⟩⟩
theorem zt_gt {a : Expr} {g : ZFn} {n : Int} {k : Nat} (ha : PE X a (zN L pm H0 g)) : PT X (.Compare a [.Gt] [.Constant (.int n) k p1] pos) (zT L pm H0 fun Γ S => (g Γ S).map fun i => decide (n < i)) :=
  PT.imp (pt_cmpR op_gt ha pe_int rfl) fun σ H Q ⟨Γ, S, pc, pg, b, o, c, e, q⟩ => by
    rw [Option.map_eq_some_iff] at e
    obtain ⟨i, e1, rfl⟩ := e
    exact ⟨Γ, S, pc, pg, i, o, c, e1, fun H' c' => ⟨_, _, rfl, rfl, _, rfl, q H' c'⟩⟩
theorem zt_and {a b : Expr} {g h : ZTst} (ha : PT X a (zT L pm H0 g)) (hb : PT X b (zT L pm H0 h)) : PT X (.BoolOp .And [a, b] pos) (zT L pm H0 fun Γ S => (g Γ S).bind fun k => if k then h Γ S else some false) :=
  PT.imp (pw_and ha (pw_and1 hb)).pt fun σ H Q ⟨Γ, S, pc, pg, b, o, c, e, q⟩ => by
    rw [Option.bind_eq_some_iff] at e
    obtain ⟨k, e1, e2⟩ := e
    refine ⟨Γ, S, pc, pg, k, o, c, e1, fun H' c' => ?_⟩
    cases k with
    | true => exact ⟨Γ, S, pc, pg, b, o, c', e2, q⟩
    | false => cases e2; exact q H' c'
theorem zn_ite {t a b : Expr} {f : ZTst} {g h : ZFn} (ht : PT X t (zT L pm H0 f)) (ha : PE X a (zN L pm H0 g)) (hb : PE X b (zN L pm H0 h)) : PE X (.IfExp t a b pos) (zN L pm H0 fun Γ S => (f Γ S).bind fun k => if k then g Γ S else h Γ S) :=
  PE.imp (pe_ifExp ht ha hb) fun σ H Q ⟨Γ, S, pc, pg, i, o, c, e, q⟩ => by
    rw [Option.bind_eq_some_iff] at e
    obtain ⟨k, e1, e2⟩ := e
    refine ⟨Γ, S, pc, pg, k, o, c, e1, fun H' c' => ?_⟩
    cases k with
    | true => exact ⟨Γ, S, pc, pg, i, o, c', e2, q⟩
    | false => exact ⟨Γ, S, pc, pg, i, o, c', e2, q⟩
/-! ### statements -/
def ZOut.seq (o : ZOut) (k : ZSt) : ZOut :=
  match o with
  | .nx Γ S => k Γ S
  | o => o
theorem zs_nil : PSs X [] (zS L pm H0 fun Γ S => .nx Γ S) := PSs.imp pss_nil fun D σ H ⟨Γ, S, pc, pg, o, c, p⟩ => p σ H pc pg o c
theorem zs_cons {s : Stmt} {r : List Stmt} {f g : ZSt} (h1 : PS X s (zS L pm H0 f)) (h2 : PSs X r (zS L pm H0 g)) : PSs X (s :: r) (zS L pm H0 fun Γ S => (f Γ S).seq g) :=
  PSs.imp (pss_cons h1 h2) fun D σ H ⟨Γ, S, pc, pg, o, c, p⟩ => by
    refine ⟨Γ, S, pc, pg, o, c, ?_⟩
    dsimp only at p
    cases e : f Γ S with
    | nx Γ1 S1 =>
      rw [e] at p
      exact fun σ1 H1 pc1 pg1 o1 c1 => ⟨Γ1, S1, pc1, pg1, o1, c1, p⟩
    | ret i S1 => rw [e] at p; exact p
    | bad => rw [e] at p; exact p
def zo {α : Type} (o : Option α) (k : α → ZOut) : ZOut :=
  match o with
  | some x => k x
  | none => .bad
theorem zs_set {i : Nat} {x : Str} {e : Expr} {g : ZFn} (h0 : i ≠ 0) (hN : X.N.Nodup) (hi : X.N[i]? = some x) (hx : Loc X.env.scope x) (hf : X.fn x = true ∨ X.env.scope.names.lookup x = some .local) (he : PE X e (zN L pm H0 g)) (hs : swapsWith e (some (.Name x p1)) pos.line X.env = pure false) :
    PS X (.Assign [.Name x p1] e pos) (zS L pm H0 fun Γ S => zo (g Γ S) fun j => .nx (Γ.set i (some j)) S) := PS.imp (ps_set hN hi hx he hs hf) fun D σ H ⟨Γ, S, pc, pg, o, c, p⟩ => by
  dsimp only at p
  cases e : g Γ S with
  | none => rw [e] at p; exact p.elim
  | some j => rw [e] at p; exact ⟨Γ, S, pc, pg, j, o, c, e, fun H' c' => p _ H' pc pg (o.set h0 j) c'⟩
theorem zs_a (ok : L.Ok) (hm : HNm X m) (hu : X.A.units + 200 < cLine) {e : Expr} {g : ZFn} {k : Nat} (he : PE X e (zN L pm H0 g)) (hs : swapsWith e (some (.Subscript (.Name m p1) (.Constant (.str L.a) k p2) p3)) pos.line X.env = pure false) :
    PS X (.Assign [.Subscript (.Name m p1) (.Constant (.str L.a) k p2) p3] e pos) (zS L pm H0 fun Γ S => zo (g Γ S) fun j => .nx Γ { S with a := j }) := PS.imp (ps_dput (by omega) (pe_var hm.n hm.v hm.d hm.c) pe_str he hs) fun D σ H ⟨Γ, S, pc, pg, o, c, p⟩ => by
  dsimp only at p
  cases e : g Γ S with
  | none => rw [e] at p; exact p.elim
  | some j => rw [e] at p; exact ⟨Γ, S, pc, pg, j, o, c, e, fun H' c' => ⟨.ref pm, o.h, pm, _, rfl, DPut.k (k := .inr L.a) c'.d (dct_len _ _ _), p _ _ pc pg o (c'.putA ok j)⟩⟩
theorem zs_b (ok : L.Ok) (hm : HNm X m) (hu : X.A.units + 200 < cLine) {x : Str} (hb : L.b = some x) {e : Expr} {g : ZFn} {k : Nat} (he : PE X e (zN L pm H0 g)) (hs : swapsWith e (some (.Subscript (.Name m p1) (.Constant (.str x) k p2) p3)) pos.line X.env = pure false) :
    PS X (.Assign [.Subscript (.Name m p1) (.Constant (.str x) k p2) p3] e pos) (zS L pm H0 fun Γ S => zo (g Γ S) fun j => .nx Γ { S with b := j }) := PS.imp (ps_dput (by omega) (pe_var hm.n hm.v hm.d hm.c) pe_str he hs) fun D σ H ⟨Γ, S, pc, pg, o, c, p⟩ => by
  dsimp only at p
  cases e : g Γ S with
  | none => rw [e] at p; exact p.elim
  | some j => rw [e] at p; exact ⟨Γ, S, pc, pg, j, o, c, e, fun H' c' => ⟨.ref pm, o.h, pm, _, rfl, DPut.k (k := .inr x) c'.d (dct_len _ _ _), p _ _ pc pg o (c'.putB ok hb j)⟩⟩
/-- m[g] = m[g][1:] -/
theorem cut1 (xs : List Int) : cutV (xs.map V.int) (some 1) none = (xs.drop 1).map V.int := by
  cases xs with
  | nil => rfl
  | cons x r =>
    unfold cutV
    have h1 : HT.sIx ((x :: r).map V.int).length 0 (some 1) = 1 := by simp [HT.sIx]
    have h2 : HT.sIx ((x :: r).map V.int).length ((x :: r).map V.int).length none = r.length + 1 := by simp [HT.sIx]
    rw [h1, h2]
    simp [← List.length_map (f := V.int) (as := r), -List.length_map]
theorem zs_pop (ok : L.Ok) (hm : HNm X m) (hu : X.A.units + 200 < cLine) {l : Expr} {k k2 : Nat} {p4 p5 p6 : Pos} (hl : PE X l (zL L pm H0 false)) :
    PS X (.Assign [.Subscript (.Name m p1) (.Constant (.str L.g) k p2) p3] (.Subscript l (.Slice (some (.Constant (.int 1) k2 p4)) none none p5) p6) pos) (zS L pm H0 fun Γ S => .nx Γ { S with great := S.great.drop 1 }) :=
  PS.imp (ps_dput (by omega) (pe_var hm.n hm.v hm.d hm.c) pe_str (pe_slice sl_list hl (po_some pe_int) po_none) rfl) fun D σ H ⟨Γ, S, pc, pg, o, c, p⟩ => by
    refine ⟨Γ, S, pc, pg, o, c, 1, rfl, pg, _, rfl, .of c.lg, fun q hq => ?_⟩
    have c1 := c.new (o := .lst (cutV (S.great.map V.int) (some 1) none)) hq
    have h0 : H0 q = none := by
      cases e : H0 q with
      | none => rfl
      | some u => obtain ⟨u', e'⟩ := c.t q u e; rw [hq] at e'; cases e'
    exact ⟨.ref pm, o.h, pm, _, rfl, DPut.k (k := .inr L.g) c1.d (dct_len _ _ _), p _ _ pc q o (c1.putG ok h0 (by rw [upd_same, cut1]) (ne_of_none c.d hq).symm (ne_of_none c.lc hq).symm)⟩
theorem ixN_of {n : Nat} {i : Int} (h : 0 ≤ i ∧ i < n) : ixN n i = some i.toNat := by
  unfold ixN
  rw [if_pos h.1, if_pos h.2]
/-- m[g][i] = e -/
def setZ (S : Draw) (i j : Int) : Option Draw := if 0 ≤ i ∧ i < S.great.length then some { S with great := S.great.set i.toNat j } else none
theorem zg_set {l e : Expr} {g : ZFn} (hl : PE X l (zL L pm H0 false)) (he : PE X e (zN L pm H0 g)) (ha : ∀ v, assign (.Subscript l e pos) X.env v = (do
      let ov ← holding [v] (eval l X.env)
      let iv ← holding [v, ov] (eval e X.env)
      standAt pos
      holding [v, ov, iv] (setItem ov iv v)
      release [v, ov, iv] [])) : PG X (.Subscript l e pos) (fun v σ H Q => ∃ Γ S pc pg i j S', v = .int j ∧ ZOk pm Γ σ ∧ Cur L pm H0 H S pc pg ∧ g Γ S = some i ∧ setZ S i j = some S' ∧ ∀ H', Cur L pm H0 H' S' pc pg → Q σ H') :=
  PG.imp (pg_sub hl he set_list ha) fun v σ H Q ⟨Γ, S, pc, pg, i, j, S', ev, o, c, e1, e2, q⟩ => by
    subst ev
    unfold setZ at e2
    split at e2
    · rename_i h
      cases e2
      exact ⟨Γ, S, pc, pg, o, c, Γ, S, pc, pg, i, o, c, e1, fun H' c' => ⟨pg, _, i, i.toNat, rfl, rfl, c'.lg, ixN_of (by rw [List.length_map]; exact h), q _ (c'.setG i.toNat j)⟩⟩
    · cases e2
theorem zs_put {l e v : Expr} {g f : ZFn} {p : Pos} (hl : PE X l (zL L pm H0 false)) (he : PE X e (zN L pm H0 g)) (hv : PE X v (zN L pm H0 f)) (ha : ∀ v, assign (.Subscript l e p) X.env v = (do
      let ov ← holding [v] (eval l X.env)
      let iv ← holding [v, ov] (eval e X.env)
      standAt p
      holding [v, ov, iv] (setItem ov iv v)
      release [v, ov, iv] [])) (hs : swapsWithSole [.Subscript l e p] v pos.line X.env = pure false) (hw : swappedStores [.Subscript l e p] v X.env = pure none) :
    PS X (.Assign [.Subscript l e p] v pos) (zS L pm H0 fun Γ S => zo (f Γ S) fun j => zo (g Γ S) fun i => zo (setZ S i j) fun S' => .nx Γ S') :=
  PS.imp (ps_asg hv (zg_set hl he ha) hs hw rfl) fun D σ H ⟨Γ, S, pc, pg, o, c, p⟩ => by
    dsimp only at p
    cases e1 : f Γ S with
    | none => rw [e1] at p; exact p.elim
    | some j =>
      rw [e1] at p
      dsimp only [zo] at p
      cases e2 : g Γ S with
      | none => rw [e2] at p; exact p.elim
      | some i =>
        rw [e2] at p
        dsimp only at p
        cases e3 : setZ S i j with
        | none => rw [e3] at p; exact p.elim
        | some S' => rw [e3] at p; exact ⟨Γ, S, pc, pg, j, o, c, e1, fun H' c' => ⟨Γ, S, pc, pg, i, j, S', rfl, o, c', e2, e3, fun H2 c2 => p σ H2 pc pg o c2⟩⟩
/-- x, m[g][i] = a, b -/
theorem zs_both {i0 : Nat} {x : Str} {l e a b : Expr} {g f1 f2 : ZFn} {p px pt p2' : Pos} {kt k2 : Nat} (hc : X.calm = true) (h0 : i0 ≠ 0) (hN : X.N.Nodup) (hi : X.N[i0]? = some x) (hx : Loc X.env.scope x) (hf : X.fn x = true ∨ X.env.scope.names.lookup x = some .local)
    (hl : PE X l (zL L pm H0 false)) (he : PE X e (zN L pm H0 g)) (h1 : PE X a (zN L pm H0 f1)) (h2 : PE X b (zN L pm H0 f2)) (ha : ∀ v, assign (.Subscript l e p) X.env v = (do
      let ov ← holding [v] (eval l X.env)
      let iv ← holding [v, ov] (eval e X.env)
      standAt p
      holding [v, ov, iv] (setItem ov iv v)
      release [v, ov, iv] [])) (s1 : starEach [a, b] X.env = (false, eval a X.env) :: starEach [b] X.env) (s2 : starEach [b] X.env = (false, eval b X.env) :: starEach [] X.env)
    (hs : swapsWithSole [.Tuple [.Name x px, .Subscript l e p] kt pt] (.Tuple [a, b] k2 p2') pos.line X.env = pure false) (hw : swappedStores [.Tuple [.Name x px, .Subscript l e p] kt pt] (.Tuple [a, b] k2 p2') X.env = pure none) :
    PS X (.Assign [.Tuple [.Name x px, .Subscript l e p] kt pt] (.Tuple [a, b] k2 p2') pos) (zS L pm H0 fun Γ S => zo (f1 Γ S) fun u => zo (f2 Γ S) fun v => zo (g (Γ.set i0 (some u)) S) fun i => zo (setZ S i v) fun S' => .nx (Γ.set i0 (some u)) S') :=
  PS.imp (ps_asg (pe_tup (pa_cons h1 (pa_cons h2 pa_nil s2) s1)) (pg_tup (n := 2) hc (pgs_cons (pg_name hN hi hx hf) (pgs_cons (zg_set hl he ha) pgs_nil rfl) rfl) rfl rfl) hs hw rfl) fun D σ H ⟨Γ, S, pc, pg, o, c, p⟩ => by
    dsimp only at p
    cases e1 : f1 Γ S with
    | none => rw [e1] at p; exact p.elim
    | some u =>
      rw [e1] at p
      dsimp only [zo] at p
      cases e2 : f2 Γ S with
      | none => rw [e2] at p; exact p.elim
      | some v =>
        rw [e2] at p
        dsimp only at p
        cases e3 : g (Γ.set i0 (some u)) S with
        | none => rw [e3] at p; exact p.elim
        | some i =>
          rw [e3] at p
          dsimp only at p
          cases e4 : setZ S i v with
          | none => rw [e4] at p; exact p.elim
          | some S' =>
            rw [e4] at p
            refine ⟨Γ, S, pc, pg, u, o, c, e1, fun H1 c1 => ⟨Γ, S, pc, pg, v, o, c1, e2, fun H2 c2 => ⟨by show 2 ≤ sizeLine; decide, fun r hr => ?_⟩⟩⟩
            exact ⟨r, [.int u, .int v], rfl, .of upd_same, rfl, .int u, [.int v], rfl, .int v, [], rfl, Γ.set i0 (some u), S, pc, pg, i, v, S', rfl, o.set h0 u, c2.new hr, e3, e4, fun H3 c3 => ⟨rfl, p _ H3 pc pg (o.set h0 u) c3⟩⟩
theorem zs_if {t : Expr} {a b : List Stmt} {f : ZTst} {g h : ZSt} (ht : PT X t (zT L pm H0 f)) (ha : PSs X a (zS L pm H0 g)) (hb : PSs X b (zS L pm H0 h)) : PS X (.If t a b pos) (zS L pm H0 fun Γ S => zo (f Γ S) fun k => if k then g Γ S else h Γ S) :=
  PS.imp (ps_if ht ha hb) fun D σ H ⟨Γ, S, pc, pg, o, c, p⟩ => by
    dsimp only at p
    cases e : f Γ S with
    | none => rw [e] at p; exact p.elim
    | some k =>
      rw [e] at p
      refine ⟨Γ, S, pc, pg, k, o, c, e, fun H' c' => ?_⟩
      cases k with
      | true => exact ⟨Γ, S, pc, pg, o, c', p⟩
      | false => exact ⟨Γ, S, pc, pg, o, c', p⟩
def zWh (f : ZTst) (g : ZSt) : Nat → ZSt
  | 0, _, _ => .bad
  | n + 1, Γ, S => zo (f Γ S) fun k => if k then (g Γ S).seq (zWh f g n) else .nx Γ S
theorem zs_while {t : Expr} {b : List Stmt} {f : ZTst} {g : ZSt} (hp : PassesOwn (model X.prog X.w) X.A X.env X.xe) (ht : PT X t (zT L pm H0 f)) (hb : PSs X b (zS L pm H0 g)) (n : ZEnv → Draw → Nat) : PS X (.While t b [] pos) (zS L pm H0 fun Γ S => zWh f g (n Γ S) Γ S) :=
  PS.imp (ps_while hp ht hb) fun D σ H ⟨Γ, S, pc, pg, o, c, p⟩ => by
    refine ⟨fun m σ H => ∃ Γ S pc pg, ZOk pm Γ σ ∧ Cur L pm H0 H S pc pg ∧ (zWh f g m Γ S).Post (fun Γ' S' => ∀ σ' H' pc' pg', ZOk pm Γ' σ' → Cur L pm H0 H' S' pc' pg' → D.nx σ' H') (fun i S' => ∀ H' pc' pg', Cur L pm H0 H' S' pc' pg' → D.rt (.int i) H'), ⟨_, Γ, S, pc, pg, o, c, p⟩, ?_⟩
    rintro m σ H ⟨Γ, S, pc, pg, o, c, p⟩
    cases m with
    | zero => exact p.elim
    | succ m =>
      unfold zWh at p
      cases e : f Γ S with
      | none => rw [e] at p; exact p.elim
      | some k =>
        rw [e] at p
        dsimp only [zo] at p
        refine ⟨Γ, S, pc, pg, k, o, c, e, fun H' c' => ?_⟩
        cases k with
        | false =>
          rw [if_neg Bool.false_ne_true] at p ⊢
          exact p σ H' pc pg o c'
        | true =>
          rw [if_pos rfl] at p ⊢
          refine ⟨fun σ H => ∃ Γ S pc pg, ZOk pm Γ σ ∧ Cur L pm H0 H S pc pg ∧ (zWh f g m Γ S).Post (fun Γ' S' => ∀ σ' H' pc' pg', ZOk pm Γ' σ' → Cur L pm H0 H' S' pc' pg' → D.nx σ' H') (fun i S' => ∀ H' pc' pg', Cur L pm H0 H' S' pc' pg' → D.rt (.int i) H'), fun σ' H' h' => ⟨m, Nat.lt_succ_self m, h'⟩, Γ, S, pc, pg, o, c', ?_⟩
          cases e2 : g Γ S with
          | nx Γ1 S1 => rw [e2] at p; exact fun σ1 H1 pc1 pg1 o1 c1 => ⟨Γ1, S1, pc1, pg1, o1, c1, p⟩
          | ret i S1 => rw [e2] at p; exact p
          | bad => rw [e2] at p; exact p
theorem zs_ret {e : Expr} {g : ZFn} (he : PE X e (zN L pm H0 g)) : PS X (.Return (some e) pos) (zS L pm H0 fun Γ S => zo (g Γ S) fun i => .ret i S) := PS.imp (ps_ret he) fun D σ H ⟨Γ, S, pc, pg, o, c, p⟩ => by
  dsimp only at p
  cases e : g Γ S with
  | none => rw [e] at p; exact p.elim
  | some i => rw [e] at p; exact ⟨Γ, S, pc, pg, i, o, c, e, fun H' c' => p H' pc pg c'⟩
end
end PD
/-! P20: a drawing function's promise. -/
namespace PD
open PySem PySem.Spec PyProof.Rows L2
section
variable {P : Prg} {L : Lay} {prog : Program} {w : World} {K : PySem.W.Frag} {mg : Str → Option Value} {base : Heap}
def zRun (z : ZSt) (n : Nat) (S : Draw) (t : Int) : Option (Int × Draw) :=
  match z (none :: some t :: List.replicate (n - 2) none) S with
  | .ret i S' => some (i, S')
  | _ => none
theorem draw_fn {ea : Nat → Addr} {T : List (Addr × Str)} {j : Nat} {f : FDef} (hj : P.fs[j]? = some f) (hb : f.body = none) (hk : f.kd.take f.np = [.hnd, .nrm]) {x q : Str} {st : Stmt} {fa : Addr} {fd : FuncData} {N ps : List Str} (F : Fun K x q st fa fd) (S : FnScope N ps (defScope st)) (hps : ps.length = 2) (hN : 2 ≤ N.length)
    {z : ZSt} (hz : P.nxt = zRun z N.length)
    (body : ∀ (cd : Value) (A : Around) (fr : List PySem.Env) (s : Shared) (H : Hp) (E : XK) (n : Nat) (pm : Addr), Room n (A.deeper (envOfC q (defScope st) s.heap.objs.size fa cd)) → PSs (cxOf CX0 prog w K mg base N q (defScope st) fa cd A fr s H E) (defBody st) (zS L pm H z)) :
    ∀ n, FnG prog w K mg base CX0 n fa fd ps (spF P L.m K ea T n j (f.kd.take f.np))
  | 0 => ⟨fun xs H Q E ⟨C, W, D, ds, _, _, _, _, _, _, _, p⟩ => p.elim, fun A fr s H args us xs Q E _ _ _ _ _ ⟨C, W, D, ds, _, _, _, _, _, _, _, p⟩ => p.elim⟩
  | n + 1 => by
    rw [hk]
    refine fnG_of F S (fun xs H Q E ⟨C, W, D, ds, _, _, _, _, _, _, a, _⟩ => by rw [hps]; exact a.len.1) fun cd A fr s H xs Q E room gd want => ?_
    obtain ⟨C, W, D, ds, eM, eK, eX, eA, eT, hv, ha, p⟩ := want
    refine ⟨_, body cd A fr s H E n C.pm room, ?_⟩
    cases ha with
    | cons a1 ha =>
      cases ha with
      | cons a2 ha =>
        cases ha
        rename_i v1 d1 v2 d2
        obtain ⟨rfl, rfl⟩ := a1
        have a2 : Dp K0 W v2 d2 := a2
        have p : (cStep P (run P n) j [hndD, d2] D).Post (fun d S' => ∀ v H' W', Stp C.pm H W H' W' → Vw C W' H' S' → Dp K0 W' v d → Q v H') (fun c d S' => ∀ cls dd H' W', Stp C.pm H W H' W' → Vw C W' H' S' → ExcAt P.ex ea W' c d cls dd → E cls dd H') := p
        unfold cStep at p
        rw [hj] at p
        dsimp only at p
        split at p
        · rw [hb] at p
          dsimp only at p
          cases a2 <;> try exact p.elim
          rename_i t hp1 hp2
          obtain ⟨pc, pg, c⟩ := Cur.begin eM hv
          refine ⟨none :: some t :: List.replicate (N.length - 2) none, D, pc, pg, ⟨rfl, ?_, ?_, fun d h => by cases h⟩, c, ?_⟩
          · unfold L2.start
            simp
          · intro i d hi
            match i with
            | 0 => cases hi
            | 1 => cases hi; rfl
            | i + 2 =>
              exfalso
              simp only [List.getElem?_cons_succ, List.getElem?_replicate] at hi
              split at hi <;> cases hi
          · rw [hz] at p
            dsimp only at p
            unfold zRun at p
            cases e : z (none :: some t :: List.replicate (N.length - 2) none) D with
            | nx Γ S' => rw [e] at p; exact p.elim
            | bad => rw [e] at p; exact p.elim
            | ret i S' =>
              rw [e] at p
              intro H' pc' pg' c'
              obtain ⟨s1, v1⟩ := c'.fin eM hv
              exact p (.int i) H' W s1 v1 (.int i)
        · exact p.elim
end
end PD
/-! P21: the drawing functions' parts by name; a frame's names by looking. -/
namespace PD
open PySem PySem.Spec PyProof.Rows L2
abbrev ZA : ZFn := fun _ S => some S.a
abbrev ZB : ZFn := fun _ S => some S.b
abbrev ZC (i : Int) : ZFn := fun _ _ => some i
abbrev ZV (i : Nat) : ZFn := fun Γ _ => getI Γ i
abbrev ZO (op : Operator) (g h : ZFn) : ZFn := fun Γ S => (g Γ S).bind fun i => (h Γ S).bind fun j => zOp op i j
abbrev ZI (w : Bool) (g : ZFn) : ZFn := fun Γ S => (g Γ S).bind fun i => ixZ (lst w S) i
abbrev ZL (w : Bool) : ZFn := fun _ S => some (lst w S).length
abbrev ZIf (f : ZTst) (g h : ZFn) : ZFn := fun Γ S => (f Γ S).bind fun k => if k then g Γ S else h Γ S
abbrev ZNe (w : Bool) : ZTst := fun _ S => some (!(lst w S).isEmpty)
abbrev ZEq (g : ZFn) (n : Int) : ZTst := fun Γ S => (g Γ S).map fun i => decide (i = n)
abbrev ZGt (g : ZFn) (n : Int) : ZTst := fun Γ S => (g Γ S).map fun i => decide (n < i)
abbrev ZAnd (g h : ZTst) : ZTst := fun Γ S => (g Γ S).bind fun k => if k then h Γ S else some false
abbrev YN : ZSt := fun Γ S => .nx Γ S
abbrev YQ (f g : ZSt) : ZSt := fun Γ S => (f Γ S).seq g
abbrev YA (g : ZFn) : ZSt := fun Γ S => zo (g Γ S) fun j => .nx Γ { S with a := j }
abbrev YB (g : ZFn) : ZSt := fun Γ S => zo (g Γ S) fun j => .nx Γ { S with b := j }
abbrev YV (i : Nat) (g : ZFn) : ZSt := fun Γ S => zo (g Γ S) fun j => .nx (Γ.set i (some j)) S
abbrev YPop : ZSt := fun Γ S => .nx Γ { S with great := S.great.drop 1 }
abbrev YPut (g f : ZFn) : ZSt := fun Γ S => zo (f Γ S) fun j => zo (g Γ S) fun i => zo (setZ S i j) fun S' => .nx Γ S'
abbrev YBoth (i0 : Nat) (g f1 f2 : ZFn) : ZSt := fun Γ S => zo (f1 Γ S) fun u => zo (f2 Γ S) fun v => zo (g (Γ.set i0 (some u)) S) fun i => zo (setZ S i v) fun S' => .nx (Γ.set i0 (some u)) S'
abbrev YIf (f : ZTst) (g h : ZSt) : ZSt := fun Γ S => zo (f Γ S) fun k => if k then g Γ S else h Γ S
abbrev YWh (f : ZTst) (g : ZSt) : ZSt := fun Γ S => zWh f g (S.great.length + 1) Γ S
abbrev YR (g : ZFn) : ZSt := fun Γ S => zo (g Γ S) fun i => .ret i S
/-- the draws of k87 to k99 -/
def layD : Lay := ⟨"cells", "great", "turn", some "sum"⟩
theorem layD_ok : layD.Ok := ⟨by decide +kernel, by decide +kernel, by decide +kernel, fun x h => by cases h; decide +kernel, fun x h => by cases h; decide +kernel, fun x h => by cases h; decide +kernel⟩
abbrev zDa : ZSt := YA (ZO .Add ZA (ZC 1))
abbrev zDb : ZSt := YWh (ZAnd (ZNe false) (ZEq (ZI false (ZC 0)) 0)) (YQ YPop YN)
abbrev zDc : ZSt := YIf (ZNe false) (YQ (YBoth 2 (ZC 0) (ZO .Mod (ZI false (ZC 0)) (ZV 1)) (ZO .FloorDiv (ZI false (ZC 0)) (ZV 1))) (YQ (YR (ZV 2)) YN)) YN
abbrev zDd : ZSt := YV 3 (ZI true (ZO .Mod ZA (ZL true)))
abbrev zDe : ZSt := YB (ZO .Mod (ZO .Add (ZO .Add (ZO .Mult ZB (ZC 75364)) (ZO .Mod (ZV 3) (ZC 2147483587))) (ZO .Mult (ZC 977) ZA)) (ZC 4294967291))
abbrev zDf : ZSt := YR (ZO .Mod (ZO .FloorDiv (ZO .Mod (ZO .Add (ZO .Mult ZB (ZC 40692)) ZA) (ZC 4294967279)) (ZC 128)) (ZV 1))
def zD6 : ZSt := YQ zDf YN
def zD5 : ZSt := YQ zDe zD6
def zD4 : ZSt := YQ zDd zD5
def zD3 : ZSt := YQ zDc zD4
def zD2 : ZSt := YQ zDb zD3
def zD : ZSt := YQ zDa zD2
/-- .. of k41 to k52 -/
def layB : Lay := ⟨"cells", "great", "spot", none⟩
theorem layB_ok : layB.Ok := ⟨by decide +kernel, by decide +kernel, by decide +kernel, fun x h => (by cases h), fun x h => (by cases h), fun x h => (by cases h)⟩
/-- .. of k01 to k13 -/
def layA : Lay := ⟨"cells", "left", "at", none⟩
theorem layA_ok : layA.Ok := ⟨by decide +kernel, by decide +kernel, by decide +kernel, fun x h => (by cases h), fun x h => (by cases h), fun x h => (by cases h)⟩
end PD
/-! P22: a program's world from what its top has left. -/
namespace PD
open PySem PySem.Spec PyProof.Rows L2
section
variable {P : Prg} {gc : List (Str × PyData)} {M : Mch} {prog : Program} {w : World} {K : PySem.W.Frag} {mg : Str → Option Value} {base h : Heap}
/-- a def stands under its name -/
def FAt (K : PySem.W.Frag) (x : Str) (st : Stmt) : Prop := ∃ (f : Addr) (fd : FuncData), PySem.W.nsIn K mainGlobals x = some (some (.ref f)) ∧ Fun K x x st f fd
theorem fAt_mk {x : Str} {st : Stmt} {f : Addr} {oc : Value} {od an : Option Addr} {osl : Array (Option Value)} {kV doc pm cdv ct : Value} (a : PySem.W.nsIn K mainGlobals x = some (some (.ref f))) (l : K.lookup f = some ⟨oc, od, .func (PySem.W.fnOf x x (defArgs st) (defBody st) (defScope st) .none kV doc pm an cdv ct), osl⟩)
    (c : PySem.W.codeIn K cdv x = true) (k : PySem.W.keepIn K (.ref f) = true) : FAt K x st := ⟨f, _, a, fun_mk l c k⟩
/-- a constant stands under its name -/
def CAt (K : PySem.W.Frag) (x : Str) (d : PyData) : Prop := ∃ (v : V) (u : Value), PySem.W.nsIn K mainGlobals x = some (some u) ∧ RelV v u ∧ conV d = some v
theorem cAt_int {x : Str} {i : Int} {t : Tok} (a : PySem.W.nsIn K mainGlobals x = some (some (.int i t))) : CAt K x (.int i) := ⟨.int i, _, a, ⟨t, rfl⟩, rfl⟩
theorem cAt_str {x y : Str} {t : Tok} (a : PySem.W.nsIn K mainGlobals x = some (some (.str y t))) : CAt K x (.str y) := ⟨.str y, _, a, ⟨t, rfl⟩, rfl⟩
/-- arguments by place -/
def Bd (st : Stmt) (x : Str) (ps : List Str) : Prop := ∀ (kV doc pm : Value) (an : Option Addr) (cdv ct : Value) (us : List Value), us.length = ps.length → bindArgs (PySem.W.fnOf x x (defArgs st) (defBody st) (defScope st) .none kV doc pm an cdv ct) ⟨us, []⟩ = pure (ps.zip us)
structure FnIn (P : Prg) (gc : List (Str × PyData)) (M : Mch) (prog : Program) (w : World) (K : PySem.W.Frag) (mg : Str → Option Value) (base : Heap) (j : Nat) (f : FDef) (st : Stmt) (ps : List Str) : Prop where
  at_ : FAt K f.nm st
  sc : FnScope f.N ps (defScope st)
  np : ps.length = (f.kd.take f.np).length
  bd : Bd st f.nm ps
  cd : ∀ b, f.body = some b → (∀ k ∈ f.kd.take f.np, k ≠ .own) ∧ ∃ m, (chk P gc m).s ⟨f.N, f.kd, defScope st, defScope st, true⟩ b (defBody st) = true
  dr : f.body = none → ∀ (ea : Nat → Addr) (T : List (Addr × Str)) (fa : Addr) (fd : FuncData), Fun K f.nm f.nm st fa fd → ∀ n, FnG prog w K mg base CX0 n fa fd ps (spF P M K ea T n j (f.kd.take f.np))
/-- an error's class stands under its name -/
def EAt (prog : Program) (K : PySem.W.Frag) (y : Str) (fld : Option Str) : Prop := ∃ C : Addr, PySem.W.nsIn K mainGlobals y = some (some (.ref C)) ∧ ∃ D, ErrK prog K C fld D
/-- of two of them -/
def SAt (K : PySem.W.Frag) (y y' : Str) (b : Bool) : Prop := ∃ C C' : Addr, PySem.W.nsIn K mainGlobals y = some (some (.ref C)) ∧ PySem.W.nsIn K mainGlobals y' = some (some (.ref C')) ∧ PySem.W.subIn K (.ref C) (.ref C') = some b
open Classical in
theorem wld_of (X : K.In h) (G : h.Ns mainGlobals mg) (hb : ∀ x ∈ bltNames, PySem.W.nsIn K mainGlobals x = some none) (hc : ∀ x d, gc.lookup x = some d → CAt K x d) (hf : ∀ (j : Nat) (f : FDef), P.fs[j]? = some f → ∃ st ps, FnIn P gc M prog w K mg base j f st ps)
    (hx : ∀ (c : Nat) (y : Str) (fld : Option Str), P.ex.lookup c = some (y, fld) → EAt prog K y fld) (h2 : ∀ (c c' : Nat) (z z' : Str × Option Str), P.ex.lookup c = some z → P.ex.lookup c' = some z' → SAt K z.1 z'.1 (c == c')) (T : List (Addr × Str)) : ∃ w' : Wld P gc M prog w K mg base, w'.T = T := by
  have pickE : ∀ c : Nat, ∃ C : Addr, ∀ y fld, P.ex.lookup c = some (y, fld) → PySem.W.nsIn K mainGlobals y = some (some (.ref C)) ∧ ∃ D, ErrK prog K C fld D := fun c => by
    cases e : P.ex.lookup c with
    | none => exact ⟨0, fun _ _ z => by cases z⟩
    | some p =>
      obtain ⟨y, fld⟩ := p
      obtain ⟨C, a, b⟩ := hx c y fld e
      exact ⟨C, fun y' fld' z => by cases z; exact ⟨a, b⟩⟩
  have he := fun c => Classical.choose_spec (pickE c)
  have pick : ∀ j : Nat, ∃ p : Addr × FuncData × List Str, ∀ f, P.fs[j]? = some f → ∃ st, FnIn P gc M prog w K mg base j f st p.2.2 ∧ PySem.W.nsIn K mainGlobals f.nm = some (some (.ref p.1)) ∧ Fun K f.nm f.nm st p.1 p.2.1 := fun j => by
    cases e : P.fs[j]? with
    | none => exact ⟨(0, PySem.W.fnOf "" "" default [] default .none .none .none .none none .none .none, []), fun f z => by cases z⟩
    | some f =>
      obtain ⟨st, ps, hi⟩ := hf j f e
      obtain ⟨fa, fd, a, F⟩ := hi.at_
      exact ⟨(fa, fd, ps), fun f' z => by cases z; exact ⟨st, hi, a, F⟩⟩
  have hp := fun j => Classical.choose_spec (pick j)
  have hs2 : ∀ (c c' : Nat) (z z' : Str × Option Str), P.ex.lookup c = some z → P.ex.lookup c' = some z' → PySem.W.subIn K (.ref (Classical.choose (pickE c))) (.ref (Classical.choose (pickE c'))) = some (c == c') := fun c c' z z' e e' => by
    obtain ⟨C, C', a1, a2, a3⟩ := h2 c c' z z' e e'
    have b1 := (he c z.1 z.2 e).1
    have b2 := (he c' z'.1 z'.2 e').1
    rw [a1] at b1
    rw [a2] at b2
    rw [← Value.ref.inj (Option.some.inj (Option.some.inj b1)), ← Value.ref.inj (Option.some.inj (Option.some.inj b2))]
    exact a3
  refine ⟨{ ea := fun c => Classical.choose (pickE c), T := T, exs := fun c y fld e => ⟨(he c y fld e).2, PySem.W.mg_of X G (he c y fld e).1⟩, sub2 := hs2, blt := fun x hx => PySem.W.mg_none_of X G (hb x hx), con := fun x d e => ?_, fa := fun j => (Classical.choose (pick j)).1, fd := fun j => (Classical.choose (pick j)).2.1, ps := fun j => (Classical.choose (pick j)).2.2, mgf := fun j f hj => ?_, kp := fun j f hj => ?_, bd := fun j f hj => ?_, np := fun j f hj => ?_, cd := fun j f b hj e => ?_, dr := fun j f hj e => ?_ }, rfl⟩
  · obtain ⟨v, u, a, r, q⟩ := hc x d e
    exact ⟨v, u, PySem.W.mg_of X G a, r, q⟩
  · obtain ⟨st, hi, a, F⟩ := hp j f hj
    exact PySem.W.mg_of X G a
  · obtain ⟨st, hi, a, F⟩ := hp j f hj
    exact F.kp
  · obtain ⟨st, hi, a, F⟩ := hp j f hj
    exact F.binds hi.bd
  · obtain ⟨st, hi, a, F⟩ := hp j f hj
    exact hi.np
  · obtain ⟨st, hi, a, F⟩ := hp j f hj
    obtain ⟨h1, m, h2⟩ := hi.cd b e
    exact ⟨st, f.nm, m, F, hi.sc, h1, h2⟩
  · obtain ⟨st, hi, a, F⟩ := hp j f hj
    exact hi.dr e _ _ _ _ F
end
end PD
/-! PR4: the facts of an error's class, from what the top has left. -/
namespace PD
open PySem PySem.Spec PyProof.Rows L2
theorem sAt_mk {K : PySem.W.Frag} {y y' : Str} {b : Bool} {C C' : Addr} (h1 : PySem.W.nsIn K mainGlobals y = some (some (.ref C))) (h2 : PySem.W.nsIn K mainGlobals y' = some (some (.ref C'))) (h3 : PySem.W.subIn K (.ref C) (.ref C') = some b) : SAt K y y' b := ⟨C, C', h1, h2, h3⟩
def fldOk (K : PySem.W.Frag) (C : Addr) : Option Str → Bool
  | none => true
  | some f => decide (PySem.W.takerIn K C f = some none) && decide (PySem.W.findIn K (.ref C) f = some none)
/-- what is seen of an error's __init__ without its world -/
structure InitOk (params : Arguments) (body : List Stmt) (scope : Scope) (nm qual : Str) (slf : Arg) (par : Str) (fld : Option Str) : Prop where
  par1 : (params.posonlyargs ++ params.args).head? = some slf
  ks : scope.names.lookup ("super" : Str) = some .globalImplicit
  kc : scope.names.lookup ("__class__" : Str) = some .free
  ka : scope.names.lookup slf.arg = some .local
  kb : scope.names.lookup par = some .local
  kind : scope.kind = .function
  noCell : ∀ x ∈ scope.names, x.2 ≠ .cell
  noCo : scope.isCoroutine = false
  noGen : scope.isGenerator = false
  ne : par ≠ slf.arg
  nd1 : (slf.arg == ("__debug__" : Str)) = false
  nd2 : (par == ("__debug__" : Str)) = false
  bd : ∀ (kV doc pm : Value) (an : Option Addr) (cda : Addr) (ct : Value) (cc : Addr) (a b : Value), bindArgs (PySem.W.ksFn nm qual params body scope .none kV doc pm an (.ref cda) ct cc) ⟨[a, b], []⟩ = pure [(slf.arg, a), (par, b)]
  body : InitB slf.arg par fld body
theorem eAt_mk {prog : Program} {K : PySem.W.Frag} {y : Str} {fld : Option Str} {C : Addr} {B newId initId : String} {bmB : List Value} {fI cda cc : Addr} {nm qual : Str} {params : Arguments} {body : List Stmt} {scope : Scope} {kV doc pm ct oc : Value} {an od : Option Addr} {osl : Array (Option Value)} {slf : Arg} {par : Str}
    {vs : Array Value} {file : Str} {tf : Tok} {ccl cl : Value} {cdd cld : Option Addr} {ccs csl : Array (Option Value)} {cd : ClassData}
    (at_ : PySem.W.nsIn K mainGlobals y = some (some (.ref C))) (base : ExcBaseFacts B newId initId bmB) (kx : PySem.W.KxsFacts B initId) (st : StoreFacts B bmB "object.__setattr__" "object") (init : PySem.W.findIn K (.ref C) "__init__" = some (some (.ref fI)))
    (fn : K.lookup fI = some ⟨oc, od, .func (PySem.W.ksFn nm qual params body scope .none kV doc pm an (.ref cda) ct cc), osl⟩) (codeO : K.lookup cda = some ⟨ccl, cdd, .fields vs, ccs⟩) (cell : K.lookup cc = some ⟨cl, cld, .cell (some (.ref C)), csl⟩) (clsd : PySem.W.clsIn K C = some cd)
    (I : InitOk params body scope nm qual slf par fld) (file_ : vs[2]? = some (.str file tf)) (fileM : ((prog.main.file : Str) == file) = true) (top : (prog.main.scope.names.lookup ("super" : Str)).isSome = false) (hasD : cd.hasDict = true)
    (cls : PySem.W.excInitIn K C bmB newId = true) (over : PySem.W.excOver K C bmB = true) (fnT : PySem.W.typeIn K (.ref fI) = some (.type "function")) (code : PySem.W.codeIn K (.ref cda) qual = true) (sub : PySem.W.mroIn K C (.ref C) = some true) (sub' : PySem.W.subIn K (.ref C) (.ref C) = some true)
    (opq : PySem.W.nsIn K cStatics "thirdparty.any" = some none) (sup : PySem.W.ks_superIn K C C "__init__" = some (some (.builtin initId))) (subB : PySem.W.subIn K (.ref C) (.type B) = some true) (exB : PySem.W.subIn K (.ref C) (.type "BaseException") = some true)
    (tyC : PySem.W.typeIn K (.ref C) = some (.type "type")) (kp : PySem.W.keepIn K (.ref C) = true) (sa : PySem.W.findIn K (.ref C) "__setattr__" = some (some (.builtin "object.__setattr__"))) (noF : fldOk K C fld = true)
    (ga : PySem.W.findIn K (.ref C) "__getattribute__" = some (some (.builtin "BaseException.__getattribute__"))) (gg : PySem.W.findIn K (.ref C) "__getattr__" = some none) (hdC : PySem.W.hasDictIn K C = true) (cl1 : PySem.W.findIn K (.ref C) "__class__" = some (some (.builtin "object.__class__")))
    (cl2 : PySem.W.specialIn K (.builtin "object.__class__") "__get__" = some (some (.builtin "getset_descriptor.__get__"))) (cl3 : PySem.W.takesIn K (.builtin "object.__class__") = some true) (cl4 : PySem.W.mroIn K C (.type "object") = some true) : EAt prog K y fld :=
  ⟨C, at_, ⟨B, newId, initId, bmB, fI, cda, cc, nm, qual, params, body, scope, .none, kV, doc, pm, ct, oc, an, od, osl, slf, par, vs, file, tf, ccl, cl, cdd, cld, ccs, csl, cd⟩,
    { base := base, kx := kx, st := st, cls := cls, over := over, clsd := clsd, hasD := hasD, init := init, fnT := fnT, fn := fn, code := code, par1 := I.par1, codeO := codeO, file := file_, fileM := fileM, cell := cell, sub := sub, sub' := sub', top := top, opq := opq, sup := sup, subB := subB, exB := exB, tyC := tyC, kp := kp, sa := sa,
      noF := fun f e => by
        subst e
        unfold fldOk at noF
        rw [Bool.and_eq_true, decide_eq_true_eq, decide_eq_true_eq] at noF
        exact noF
      ga := ga, gg := gg, hdC := hdC, cl1 := cl1, cl2 := cl2, cl3 := cl3, cl4 := cl4, ks := I.ks, kc := I.kc, ka := I.ka, kb := I.kb, kind := I.kind, noCell := I.noCell, noCo := I.noCo, noGen := I.noGen, ne := I.ne, nd1 := I.nd1, nd2 := I.nd2, bd := fun a b => I.bd _ _ _ _ _ _ _ a b, body := I.body }⟩
end PD
/-! PB1: the draws of k41 to k52, plainly. -/
namespace PD
open PySem L2
abbrev zBa : ZSt := YWh (ZAnd (ZNe false) (ZEq (ZI false (ZC 0)) 0)) (YQ YPop YN)
abbrev zBb : ZSt := YIf (ZNe false) (YQ (YV 2 (ZI false (ZC 0))) (YQ (YPut (ZC 0) (ZO .FloorDiv (ZV 2) (ZV 1))) (YQ (YR (ZO .Mod (ZV 2) (ZV 1))) YN))) YN
abbrev zBc : ZSt := YV 3 (ZO .Add ZA (ZC 1))
abbrev zBd : ZSt := YA (ZV 3)
abbrev zBe : ZSt := YV 4 (ZIf (ZNe true) (ZI true (ZO .Mod (ZV 3) (ZL true))) (ZC 53))
abbrev zBf : ZSt := YV 5 (ZO .Mult (ZO .Add (ZO .Add (ZO .Mod (ZV 4) (ZC 2147483563)) (ZO .Mult (ZC 6073) (ZV 3))) (ZO .Mult (ZO .Mult (ZC 61) (ZV 3)) (ZV 3))) (ZC 40014))
abbrev zBg : ZSt := YV 5 (ZO .Mult (ZO .Add (ZO .Mod (ZV 5) (ZC 2147483563)) (ZO .Mult (ZC 89003) (ZV 3))) (ZC 742938285))
abbrev zBh : ZSt := YR (ZO .Mod (ZO .FloorDiv (ZO .Mod (ZV 5) (ZC 2147483549)) (ZC 17)) (ZV 1))
def zB8 : ZSt := YQ zBh YN
def zB7 : ZSt := YQ zBg zB8
def zB6 : ZSt := YQ zBf zB7
def zB5 : ZSt := YQ zBe zB6
def zB4 : ZSt := YQ zBd zB5
def zB3 : ZSt := YQ zBc zB4
def zB2 : ZSt := YQ zBb zB3
def zB : ZSt := YQ zBa zB2
theorem wh_ok : ∀ (k : Nat) (Γ : ZEnv) (S : Draw), S.great.length ≤ k → ∃ gs, zWh (ZAnd (ZNe false) (ZEq (ZI false (ZC 0)) 0)) (YQ YPop YN) (k + 1) Γ S = .nx Γ { S with great := gs } ∧ (gs = [] ∨ ∃ g r, gs = g :: r)
  | k, Γ, S, h => by
    cases e : S.great with
    | nil =>
      refine ⟨[], ?_, .inl rfl⟩
      simp only [zWh, lst, e, List.isEmpty_nil, Bool.not_true, Option.bind_some, Bool.false_eq_true, if_false, zo]
      rw [← e]
    | cons g r =>
      by_cases hg : g = 0
      · cases k with
        | zero => rw [e] at h; simp at h
        | succ k =>
          obtain ⟨gs, h1, h2⟩ := wh_ok k Γ { S with great := r } (by rw [e] at h; simpa using h)
          refine ⟨gs, ?_, h2⟩
          rw [← h1]
          conv => lhs; unfold zWh
          simp [lst, e, hg, ixZ, zo, ZOut.seq]
      · refine ⟨g :: r, ?_, .inr ⟨g, r, rfl⟩⟩
        simp [zWh, lst, e, hg, ixZ, zo]
        rw [← e]
/-- so many draws may yet come -/
def Fit (k : Nat) (S : Draw) : Prop := 0 ≤ S.a ∧ S.a + (k : Int) ≤ 1099511627776
theorem Fit.mono {k k' : Nat} {S : Draw} (h : Fit k' S) (l : k ≤ k') : Fit k S := ⟨h.1, by have := h.2; omega⟩
theorem drawB {S : Draw} {t : Int} {k : Nat} (hf : Fit (k + 1) S) (h0 : 0 < t) (h1 : t < 1073741824) : ∃ i S', zRun zB 6 S t = some (i, S') ∧ 0 ≤ i ∧ i < t ∧ Fit k S' := by
  obtain ⟨f0, f1⟩ := hf
  obtain ⟨gs, hw, hg⟩ := wh_ok S.great.length [none, some t, none, none, none, none] S (Nat.le_refl _)
  have e0 : zB [none, some t, none, none, none, none] S = zB2 [none, some t, none, none, none, none] { S with great := gs } := by
    show ((zBa [none, some t, none, none, none, none] S).seq zB2) = _
    rw [show zBa [none, some t, none, none, none, none] S = .nx [none, some t, none, none, none, none] { S with great := gs } from hw]
    rfl
  have run : zRun zB 6 S t = (match zB2 [none, some t, none, none, none, none] { S with great := gs } with | .ret i S' => some (i, S') | _ => none) := by
    unfold zRun
    show (match zB [none, some t, none, none, none, none] S with | .ret i S' => some (i, S') | _ => none) = _
    rw [e0]
  rw [run]
  rcases hg with rfl | ⟨g, r, rfl⟩
  · have cell : ∃ c, (if S.cells.isEmpty then some 53 else ixZ S.cells ((S.a + 1) % (S.cells.length : Int))) = some c := by
      cases e : S.cells with
      | nil => exact ⟨53, rfl⟩
      | cons x xs =>
        have hp : (0 : Int) < ((x :: xs).length : Int) := by rw [List.length_cons]; omega
        have m1 := Int.emod_nonneg (S.a + 1) (show ((x :: xs).length : Int) ≠ 0 by omega)
        have m2 := Int.emod_lt_of_pos (S.a + 1) hp
        refine ⟨(x :: xs)[((S.a + 1) % ((x :: xs).length : Int)).toNat]'(by omega), ?_⟩
        rw [if_neg (by simp)]
        unfold ixZ
        rw [if_pos ⟨m1, m2⟩]
        exact List.getElem?_eq_getElem _
    obtain ⟨c, hc⟩ := cell
    have big : -(2 ^ 64) < S.a + 1 ∧ S.a + 1 < 2 ^ 64 := by omega
    have comp : ∃ m : Int, zB2 [none, some t, none, none, none, none] { S with great := [] } = .ret (m % t) { S with a := S.a + 1, great := [] } := by
      refine ⟨((((c % 2147483563 + 6073 * (S.a + 1) + 61 * (S.a + 1) * (S.a + 1)) * 40014) % 2147483563 + 89003 * (S.a + 1)) * 742938285) % 2147483549 / 17, ?_⟩
      have e4 : (zBe [none, some t, none, some (S.a + 1), none, none] { S with a := S.a + 1, great := [] }) = .nx [none, some t, none, some (S.a + 1), some c, none] { S with a := S.a + 1, great := [] } := by
        cases e : S.cells with
        | nil =>
          rw [e] at hc
          cases hc
          simp [zBe, YV, ZIf, ZNe, ZC, lst, e, zo]
        | cons x xs =>
          rw [e, if_neg (by simp)] at hc
          have hp : (0 : Int) < ((x :: xs).length : Int) := by rw [List.length_cons]; omega
          simp only [zBe, YV, ZIf, ZNe, ZC, ZI, ZO, ZV, ZL, lst, e, zo, zOp, getI, if_true, List.isEmpty_cons, Bool.not_false, Option.bind_some, List.getElem?_cons_succ, List.getElem?_cons_zero, hp, hc]
          rfl
      have zm : ∀ i j : Int, ((-(2 ^ 64) < i ∧ i < 2 ^ 64) ∨ (-(2 ^ 64) < j ∧ j < 2 ^ 64)) → zOp .Mult i j = some (i * j) := fun i j h => if_pos h
      have zd : ∀ i j : Int, 0 < j → zOp .Mod i j = some (i % j) := fun i j h => if_pos h
      have zf : ∀ i j : Int, (0 < j ∧ j < 1073741824) → zOp .FloorDiv i j = some (i / j) := fun i j h => if_pos h
      have m1 := fun i => zm i 40014 (.inr (by decide))
      have m2 := fun i => zm i 742938285 (.inr (by decide))
      have m3 := zm (61 * (S.a + 1)) (S.a + 1) (.inr big)
      have m4 := fun i => zm 61 i (.inl (by decide))
      have m5 := fun i => zm 6073 i (.inl (by decide))
      have m6 := fun i => zm 89003 i (.inl (by decide))
      have d1 := fun i => zd i 2147483563 (by decide)
      have d2 := fun i => zd i 2147483549 (by decide)
      have d3 := fun i => zf i 17 (by decide)
      have d4 := fun i => zd i t h0
      have a1 : ∀ i j : Int, zOp .Add i j = some (i + j) := fun i j => rfl
      have s1 : zB2 [none, some t, none, none, none, none] { S with great := [] } = zB5 [none, some t, none, some (S.a + 1), none, none] { S with a := S.a + 1, great := [] } := rfl
      rw [s1]
      show ((zBe [none, some t, none, some (S.a + 1), none, none] { S with a := S.a + 1, great := [] }).seq zB6) = _
      rw [e4]
      simp only [zB6, zB7, zB8, YQ, zBf, zBg, zBh, YV, YR, ZO, ZV, ZC, getI, zo, ZOut.seq, List.getElem?_cons_succ, List.getElem?_cons_zero, Option.bind_some, m1, m2, m3, m4, m5, m6, d1, d2, d3, d4, a1, List.set_cons_succ, List.set_cons_zero]
    obtain ⟨m, comp⟩ := comp
    rw [comp]
    exact ⟨_, _, rfl, Int.emod_nonneg _ (by omega), Int.emod_lt_of_pos _ h0, by show 0 ≤ S.a + 1; omega, by show S.a + 1 + (k : Int) ≤ _; omega⟩
  · have comp : zB2 [none, some t, none, none, none, none] { S with great := g :: r } = .ret (g % t) { S with great := (g / t) :: r } := by
      simp [zB2, YQ, zBb, YN, YIf, YV, YPut, YR, ZNe, ZI, ZO, ZC, ZV, zOp, zo, lst, ZOut.seq, ixZ, getI, h0, h1, setZ]
    rw [comp]
    exact ⟨_, _, rfl, Int.emod_nonneg _ (by omega), Int.emod_lt_of_pos _ h0, f0, by show S.a + (k : Int) ≤ _; omega⟩
def isBig (n : Int) : Bool := decide ((10 : Int) ^ 18 ≤ n)
def initB (ns : List Int) : Draw := ⟨ns, ns.filter isBig, 0, 0⟩
theorem take_filter {ns : List Int} {i : Nat} {n : Int} (h : ns[i]? = some n) : (ns.take (i + 1)).filter isBig = (ns.take i).filter isBig ++ (if isBig n then [n] else []) := by
  have hi := (List.getElem?_eq_some_iff.mp h).1
  rw [List.take_add_one, h, List.filter_append]
  cases e : isBig n <;> simp [e]
end PD
/-! P23: reckoning with the evaluation. -/
namespace PD
open PySem L2
theorem run_e (P : Prg) (n : Nat) : (run P (n + 1)).e = evStep (run P n) := rfl
theorem run_s (P : Prg) (n : Nat) (Γ : Env) (S : Draw) (ss : List Sx) : (run P (n + 1)).s Γ S ss = ssStep (run P n) Γ S ss := rfl
theorem run_c (P : Prg) (n : Nat) : (run P (n + 1)).c = cStep P (run P n) := rfl
theorem cmpL_pure {body : PyData → Draw → Res (List PyData)} {f : PyData → List PyData} {S : Draw} : ∀ {xs : List PyData}, (∀ x ∈ xs, body x S = .ok (f x) S) → cmpL body xs S = .ok (xs.flatMap f) S
  | [], _ => rfl
  | x :: xs, h => by
    unfold cmpL
    rw [h x List.mem_cons_self, Res.bind_ok, cmpL_pure fun y hy => h y (List.mem_cons_of_mem _ hy)]
    rfl
theorem cmpL_map {α : Type} {body : PyData → Draw → Res (List PyData)} {f : α → PyData} {g : α → PyData} {S : Draw} {xs : List α} (h : ∀ x ∈ xs, body (f x) S = .ok [g x] S) : cmpL body (xs.map f) S = .ok (xs.map g) S := by
  induction xs with
  | nil => rfl
  | cons x xs ih =>
    rw [List.map_cons]
    unfold cmpL
    rw [h x List.mem_cons_self, Res.bind_ok, ih fun y hy => h y (List.mem_cons_of_mem _ hy)]
    rfl
theorem few_ok' {ys : List PyData} {S : Draw} (h : ys.length ≤ 16777216) : few (noexc (.ok ys S)) = .ok ys S := by
  show (if ys.length ≤ 16777216 then Res.ok ys S else .bad) = _
  rw [if_pos h]
@[simp] theorem out_ok {α : Type} (x : α) (S : Draw) (k : α → Draw → Out) : (Res.ok x S).out k = k x S := rfl
@[simp] theorem seq_nx (Γ : Env) (S : Draw) (k : Env → Draw → Out) : (Out.nx Γ S).seq k = k Γ S := rfl
@[simp] theorem seq_ret (d : PyData) (S : Draw) (k : Env → Draw → Out) : (Out.ret d S).seq k = .ret d S := rfl
@[simp] theorem toB_ok {α : Type} (b : Bool) (S : Draw) (k : Bool → Draw → Res α) : toB (.ok (.bool b) S) k = k b S := rfl
@[simp] theorem noexc_ok {α : Type} (x : α) (S : Draw) : noexc (Res.ok x S) = .ok x S := rfl
theorem call_eq {P : Prg} {j : Nat} {f : FDef} {b : List Sx} (hj : P.fs[j]? = some f) (hb : f.body = some b) (n : Nat) (ds : List PyData) (S : Draw) (hl : ds.length = f.np) : (run P (n + 2)).c j ds S = (match ssStep (run P n) (ds.map some ++ List.replicate (f.N.length - ds.length) none) S b with
    | .nx _ S' => .ok .none S'
    | .ret d S' => .ok d S'
    | .exc c d S' => .exc c d S'
    | _ => .bad) := by
  show cStep P (run P (n + 1)) j ds S = _
  unfold cStep
  rw [hj]
  dsimp only
  rw [if_pos hl, hb]
  rfl
theorem zip_tail_map {α : Type} (f : α → PyData) (xs : List α) : List.zipWith (fun a b => PyData.tuple [a, b]) (xs.map f) ((xs.map f).drop 1) = (xs.zip (xs.drop 1)).map fun p => .tuple [f p.1, f p.2] := by
  rw [← List.map_drop, List.zipWith_map, List.zip, List.map_zipWith]
theorem boolsOf_map' {α : Type} (g : α → Bool) (xs : List α) : boolsOf (xs.map fun x => .bool (g x)) = some (xs.map g) := by
  have := boolsOf_map (xs.map g)
  rwa [List.map_map] at this
/-- [elt for t in it], one for each -/
theorem evComp_map {α : Type} {r : Fns} {Γ : Env} {elt it : Ex} {t : Tg} {own : List Nat} {S : Draw} {xs : List α} {f g : α → PyData} (hI : evI r Γ S it = .ok (xs.map f) S) (hl : xs.length ≤ 16777216) (hb : ∀ x ∈ xs, ∃ Γ', bindT t (f x) (wipeE Γ own) = some Γ' ∧ r.e Γ' S elt = .ok (g x) S) :
    evComp r Γ elt t it [] own S = .ok (xs.map g) S := by
  unfold evComp
  rw [hI, Res.bind_ok, cmpL_map (g := g) fun x hx => ?_]
  · exact few_ok' (by rw [List.length_map]; exact hl)
  · obtain ⟨Γ', h1, h2⟩ := hb x hx
    simp only [h1, evTs, Res.bind_ok, if_true, h2]
theorem cmpL_filter {α : Type} {body : PyData → Draw → Res (List PyData)} {f g : α → PyData} {p : α → Bool} {S : Draw} {xs : List α} (h : ∀ x ∈ xs, body (f x) S = .ok (if p x then [g x] else []) S) : cmpL body (xs.map f) S = .ok ((xs.filter p).map g) S := by
  induction xs with
  | nil => rfl
  | cons x xs ih =>
    rw [List.map_cons]
    unfold cmpL
    rw [h x List.mem_cons_self, Res.bind_ok, ih fun y hy => h y (List.mem_cons_of_mem _ hy)]
    cases e : p x <;> simp [e]
/-- .. with a test -/
theorem evComp_filter {α : Type} {r : Fns} {Γ : Env} {elt it c : Ex} {t : Tg} {own : List Nat} {S : Draw} {xs : List α} {f g : α → PyData} {p : α → Bool} (hI : evI r Γ S it = .ok (xs.map f) S) (hl : xs.length ≤ 16777216) (hb : ∀ x ∈ xs, ∃ Γ', bindT t (f x) (wipeE Γ own) = some Γ' ∧ r.e Γ' S c = .ok (.bool (p x)) S ∧ r.e Γ' S elt = .ok (g x) S) :
    evComp r Γ elt t it [c] own S = .ok ((xs.filter p).map g) S := by
  unfold evComp
  rw [hI, Res.bind_ok, cmpL_filter (g := g) (p := p) fun x hx => ?_]
  · exact few_ok' (by rw [List.length_map]; have := List.length_filter_le p xs; omega)
  · obtain ⟨Γ', h1, h2, h3⟩ := hb x hx
    simp only [h1, evTs, evT, h2, toB_ok, Res.bind_ok]
    cases p x <;> simp [h3]
theorem cut_tail (xs : List PyData) : cutD xs (some 1) none = xs.drop 1 := by
  cases xs with
  | nil => rfl
  | cons x r =>
    unfold cutD
    have h1 : HT.sIx (x :: r).length 0 (some 1) = 1 := by simp [HT.sIx]
    have h2 : HT.sIx (x :: r).length (x :: r).length none = r.length + 1 := by simp [HT.sIx]
    rw [h1, h2]
    simp
theorem bltAll {α : Type} (g : α → Bool) (xs : List α) : bltD .all [.list (xs.map fun x => .bool (g x))] = some (.bool (xs.all g)) := by
  simp [bltD, boolsOf_map', List.all_map]
/-! ### statements, one after another -/
section
variable {r : Fns} {Γ Γ1 : Env} {S S1 : Draw} {s : Sx} {ss a b : List Sx} {d : PyData} {c : Ex}
theorem ss_nx (h : stStep r Γ S s = .nx Γ1 S1) : ssStep r Γ S (s :: ss) = ssStep r Γ1 S1 ss := by
  show (stStep r Γ S s).seq _ = _
  rw [h]; rfl
theorem ss_ret (h : stStep r Γ S s = .ret d S1) : ssStep r Γ S (s :: ss) = .ret d S1 := by
  show (stStep r Γ S s).seq _ = _
  rw [h]; rfl
theorem st_if {k : Bool} (h : evT r Γ S c = .ok k S1) : stStep r Γ S (.ife c a b) = if k then r.s Γ S1 a else r.s Γ S1 b := by
  show (evT r Γ S c).out _ = _
  rw [h]; rfl
theorem st_skip {P : Prg} {n : Nat} (h : evT (run P (n + 1)) Γ S c = .ok false S1) : stStep (run P (n + 1)) Γ S (.ife c a []) = .nx Γ S1 := by rw [st_if h]; rfl
theorem st_return {e : Ex} (h : r.e Γ S e = .ok d S1) : stStep r Γ S (.ret e) = .ret d S1 := by
  show (r.e Γ S e).out _ = _
  rw [h]; rfl
theorem st_asg {i : Nat} {e : Ex} (h : r.e Γ S e = .ok d S1) : stStep r Γ S (.asg (.nm i) e) = .nx (Γ.set i (some d)) S1 := by
  show (r.e Γ S e).out _ = _
  rw [h]; rfl
/-- a call whose body returns -/
theorem call_ret {P : Prg} {j n : Nat} {f : FDef} {b : List Sx} {ds : List PyData} (hj : P.fs[j]? = some f) (hb : f.body = some b) (hl : ds.length = f.np) (h : ssStep (run P n) (ds.map some ++ List.replicate (f.N.length - ds.length) none) S b = .ret d S1) : (run P (n + 2)).c j ds S = .ok d S1 := by
  rw [call_eq hj hb n ds S hl, h]
end
theorem evT_ok {r : Fns} {Γ : Env} {S S1 : Draw} {c : Ex} {k : Bool} (h : r.e Γ S c = .ok (.bool k) S1) : evT r Γ S c = .ok k S1 := by
  unfold evT
  rw [h]; rfl
theorem blt_lenT (xs : List PyData) : bltD .len [.tuple xs] = some (.int xs.length) := rfl
theorem blt_lenL (xs : List PyData) : bltD .len [.list xs] = some (.int xs.length) := rfl
theorem blt_tup (xs : List PyData) : bltD .tuple [.list xs] = some (.tuple xs) := rfl
/-- all([.. for ..]) -/
theorem e_all {α : Type} {P : Prg} {n : Nat} {Γ : Env} {elt it : Ex} {t : Tg} {own : List Nat} {S : Draw} {xs : List α} {f : α → PyData} {p : α → Bool} (hI : evI (run P n) Γ S it = .ok (xs.map f) S) (hl : xs.length ≤ 16777216) (hb : ∀ x ∈ xs, ∃ Γ', bindT t (f x) (wipeE Γ own) = some Γ' ∧ (run P n).e Γ' S elt = .ok (.bool (p x)) S) :
    (run P (n + 2)).e Γ S (.blt .all [.comp elt t it [] own]) = .ok (.bool (xs.all p)) S := by
  show (evs ((run P (n + 1)).e Γ) [.comp elt t it [] own] S).bind (fun xs S1 => lift (bltD .all xs) S1) = _
  have h : (run P (n + 1)).e Γ S (.comp elt t it [] own) = .ok (.list (xs.map fun x => .bool (p x))) S := by
    show (evComp (run P n) Γ elt t it [] own S).bind _ = _
    rw [evComp_map (g := fun x => .bool (p x)) hI hl hb]; rfl
  simp only [evs, h, Res.bind_ok, bltAll]
  rfl
theorem e_not {P : Prg} {n : Nat} {Γ : Env} {e : Ex} {S S1 : Draw} {b : Bool} (h : (run P n).e Γ S e = .ok (.bool b) S1) : (run P (n + 1)).e Γ S (.not e) = .ok (.bool (!b)) S1 := by
  show toB ((run P n).e Γ S e) _ = _
  rw [h]; rfl
/-- a loop, turn by turn -/
theorem forL_to {t : Tg} {body : Env → Draw → Out} (st : Nat → Env × Draw) : ∀ (xs : List PyData) (k : Nat), (∀ i x, xs[i]? = some x → ∃ Γ', bindT t x (st (k + i)).1 = some Γ' ∧ (body Γ' (st (k + i)).2 = .nx (st (k + i + 1)).1 (st (k + i + 1)).2 ∨ body Γ' (st (k + i)).2 = .cnt (st (k + i + 1)).1 (st (k + i + 1)).2)) →
    forL t body xs (st k).1 (st k).2 = .nx (st (k + xs.length)).1 (st (k + xs.length)).2
  | [], k, _ => rfl
  | x :: xs, k, h => by
    obtain ⟨Γ', h1, h2⟩ := h 0 x rfl
    have ih := forL_to st xs (k + 1) fun i y hy => by
      have := h (i + 1) y (by simpa using hy)
      rw [show k + (i + 1) = k + 1 + i by omega] at this
      exact this
    unfold forL
    rw [Nat.add_zero] at h1 h2
    rw [h1]
    dsimp only
    rw [List.length_cons, show k + (xs.length + 1) = k + 1 + xs.length by omega, ← ih]
    rcases h2 with h2 | h2 <;> rw [h2]
theorem st_for {r : Fns} {Γ Γ1 : Env} {S S0 S1 : Draw} {t : Tg} {it : Ex} {b : List Sx} {xs : List PyData} (hI : evI r Γ S it = .ok xs S0) (h : forL t (fun Γ S => r.s Γ S b) xs Γ S0 = .nx Γ1 S1) : stStep r Γ S (.fr t it b) = .nx Γ1 S1 := by
  show (evI r Γ S it).out _ = _
  rw [hI]; exact h
theorem st_par {r : Fns} {Γ Γ1 : Env} {S S1 : Draw} {is : List Nat} {es : List Ex} {xs : List PyData} (h : evs (r.e Γ) es S = .ok xs S1) (hs : setAll is xs Γ = some Γ1) : stStep r Γ S (.par is es) = .nx Γ1 S1 := by
  show (evs (r.e Γ) es S).out _ = _
  rw [h]
  show (match setAll is xs Γ with | some Γ' => Out.nx Γ' S1 | none => .bad) = _
  rw [hs]
theorem st_app {r : Fns} {Γ : Env} {S S1 : Draw} {i : Nat} {e : Ex} {xs : List PyData} {y : PyData} (hg : getV Γ i = some (.list xs)) (h : r.e Γ S e = .ok y S1) (hl : xs.length < 16777216) : stStep r Γ S (.app i e) = .nx (Γ.set i (some (.list (xs ++ [y])))) S1 := by
  show (match getV Γ i with
    | some (.list xs) => (r.e Γ S e).out fun y S1 => if xs.length < 16777216 then .nx (Γ.set i (some (.list (xs ++ [y])))) S1 else .bad
    | _ => .bad) = _
  rw [hg]
  dsimp only
  rw [h]
  show (if xs.length < 16777216 then _ else _) = _
  rw [if_pos hl]
theorem atI_last (xs : List PyData) (y : PyData) : atI (xs ++ [y]) (-1) = some y := by
  unfold atI ixN
  rw [if_neg (by decide), if_pos (by simp; omega), Option.bind_some]
  have e : ((-1 : Int) + ((xs ++ [y]).length : Nat)).toNat = xs.length := by simp; omega
  rw [e]
  simp
theorem atI_last2 (xs : List PyData) (x y : PyData) : atI (xs ++ [x] ++ [y]) (-2) = some x := by
  unfold atI ixN
  rw [if_neg (by decide), if_pos (by simp; omega), Option.bind_some]
  have e : ((-2 : Int) + ((xs ++ [x] ++ [y]).length : Nat)).toNat = xs.length := by simp; omega
  rw [e]
  simp
end PD
/-! P24: how long a shown value is. -/
namespace PD
open PySem L2
mutual
def wt : PyData → Nat
  | .none => 4
  | .bool _ => 5
  | .int _ => 22
  | .str x => 10 * x.length + 2
  | .list xs => 3 + wtAll xs
  | .tuple xs => 3 + wtAll xs
  | .dict _ => 0
def wtAll : List PyData → Nat
  | [] => 0
  | x :: xs => wt x + 2 + wtAll xs
end
mutual
def sml : PyData → Bool
  | .none => true
  | .bool _ => true
  | .int i => decide (i.natAbs < 10 ^ 20)
  | .str x => x.cps.toList.all fun c => decide (c < 16 ^ 8)
  | .list xs => smlAll xs
  | .tuple xs => smlAll xs
  | .dict _ => false
def smlAll : List PyData → Bool
  | [] => true
  | x :: xs => sml x && smlAll xs
end
theorem len_of (s : String) : (Str.ofString s).length = s.toList.length := by
  rw [TL.len_tl, TL.tl_ofString, List.length_map]
theorem nat_len {n : Nat} (h : n < 10 ^ 20) : (toString n).toList.length ≤ 20 := by
  have h1 := TL.tl_num n
  have h2 := TL.numL_len (n := n) (k := 20) (by decide) h
  rw [← h1] at h2
  rw [TL.tl_ofString, List.length_map] at h2
  exact h2
theorem int_len {i : Int} (h : i.natAbs < 10 ^ 20) : (Str.ofString (toString i)).length ≤ 22 := by
  rw [len_of]
  cases i with
  | ofNat n =>
    have := nat_len (n := n) h
    exact Nat.le_trans this (by decide)
  | negSucc m =>
    have := nat_len (n := m + 1) h
    have e : (toString (Int.negSucc m)) = "-" ++ toString (m + 1) := rfl
    rw [e, String.toList_append, List.length_append]
    have e2 : "-".toList.length = 1 := rfl
    omega
theorem from_len : ∀ (ts : List Str) (k : Nat) (acc : Str), (PySem.textFrom k acc ts).length ≤ acc.length + (ts.map fun t => t.length + 2).sum
  | [], k, acc => by simp [PySem.textFrom]
  | t :: r, k, acc => by
    have h := from_len r (k + 1) (acc ++ (if k > 0 then ", " else "" : String) ++ t)
    have e : (acc ++ (if k > 0 then ", " else "" : String) ++ t).length ≤ acc.length + 2 + t.length := by
      rw [strLen_append, strLen_append]
      have : ((if k > 0 then ", " else "" : String) : Str).length ≤ 2 := by split <;> decide +kernel
      omega
    show (PySem.textFrom (k + 1) (acc ++ (if k > 0 then ", " else "" : String) ++ t) r).length ≤ _
    rw [List.map_cons, List.sum_cons]
    omega
theorem sum_shown (xs : List PyData) : ((PyData.shownAll xs).map fun t => t.length + 2).sum = ((PyData.shownAll xs).map (·.length)).sum + 2 * xs.length := by
  induction xs with
  | nil => rfl
  | cons x r ih =>
    simp only [PyData.shownAll, List.map_cons, List.sum_cons, List.length_cons]
    omega
theorem len_shown (xs : List PyData) : (PyData.shownAll xs).length = xs.length := by
  induction xs with
  | nil => rfl
  | cons x r ih => simp [PyData.shownAll, ih]
mutual
theorem shown_le : ∀ {d : PyData}, sml d = true → d.shown.length ≤ wt d ∧ d.showable = true
  | .none, _ => ⟨by decide +kernel, rfl⟩
  | .bool b, _ => by cases b <;> exact ⟨by decide +kernel, rfl⟩
  | .int i, h => by
    have h : i.natAbs < 10 ^ 20 := of_decide_eq_true h
    refine ⟨int_len h, decide_eq_true ?_⟩
    by_cases e : i.natAbs = 0
    · rw [e]; decide
    · exact (Nat.log2_lt e).mpr (Nat.lt_trans h (by decide))
  | .str x, h => by
    refine ⟨StrLaws.reprText_len x fun c hc => ?_, rfl⟩
    have h : (x.cps.toList.all fun c => decide (c < 16 ^ 8)) = true := h
    rw [List.all_eq_true] at h
    exact of_decide_eq_true (h c hc)
  | .list xs, h => by
    obtain ⟨h1, h2⟩ := shownAll_le h
    refine ⟨?_, h2⟩
    show (PySem.listText (PyData.shownAll xs)).length ≤ 3 + wtAll xs
    unfold PySem.listText
    rw [strLen_append]
    have := from_len (PyData.shownAll xs) 0 "["
    have e1 : (("[" : String) : Str).length = 1 := rfl
    have e2 : (("]" : String) : Str).length = 1 := rfl
    omega
  | .tuple xs, h => by
    obtain ⟨h1, h2⟩ := shownAll_le h
    refine ⟨?_, h2⟩
    show (PySem.tupleText (PyData.shownAll xs)).length ≤ 3 + wtAll xs
    unfold PySem.tupleText
    rw [strLen_append, strLen_append]
    have k1 := StrLaws.join_length_le ", " (PyData.shownAll xs)
    have e0 : ((", " : String) : Str).length = 2 := rfl
    have e1 : (("(" : String) : Str).length = 1 := rfl
    have e2 : ((if (PyData.shownAll xs).length == 1 then ",)" else ")" : String) : Str).length ≤ 2 := by split <;> decide +kernel
    rw [sum_shown] at h1
    rw [e0, len_shown] at k1
    omega
  | .dict _, h => by cases h
theorem shownAll_le : ∀ {xs : List PyData}, smlAll xs = true → ((PyData.shownAll xs).map fun t => t.length + 2).sum ≤ wtAll xs ∧ PyData.showableAll xs = true
  | [], _ => ⟨Nat.le_refl _, rfl⟩
  | x :: xs, h => by
    simp only [smlAll, Bool.and_eq_true] at h
    obtain ⟨h1, h2⟩ := shown_le h.1
    obtain ⟨h3, h4⟩ := shownAll_le h.2
    simp only [PyData.shownAll, List.map_cons, List.sum_cons, PyData.showableAll, wtAll, h2, h4]
    exact ⟨by omega, rfl⟩
end
theorem blt_repr {d : PyData} (h : sml d = true) (hw : wt d ≤ 16777216) (hd : d.depth ≤ 100) : bltD .repr [d] = some (.str d.shown) := by
  obtain ⟨h1, h2⟩ := shown_le h
  have h3 : d.shown.length ≤ 16777216 := by omega
  simp only [bltD, h2, h3, hd, decide_true, Bool.and_self, if_true]
end PD
/-! P25: what is drawn lies below the total (k87 to k99). -/
namespace PD
open PySem L2
theorem drawD {S : Draw} {t : Int} (hc : S.cells ≠ []) (h0 : 0 < t) (h1 : t < 1073741824) : ∃ i S', zRun zD 4 S t = some (i, S') ∧ 0 ≤ i ∧ i < t ∧ S'.cells = S.cells := by
  obtain ⟨gs, hw, hg⟩ := wh_ok S.great.length [none, some t, none, none] { S with a := S.a + 1 } (Nat.le_refl _)
  have e0 : zD [none, some t, none, none] S = zD3 [none, some t, none, none] { S with a := S.a + 1, great := gs } := by
    show ((zDa [none, some t, none, none] S).seq zD2) = _
    have : zDa [none, some t, none, none] S = .nx [none, some t, none, none] { S with a := S.a + 1 } := rfl
    rw [this]
    show ((zDb [none, some t, none, none] { S with a := S.a + 1 }).seq zD3) = _
    have : zDb [none, some t, none, none] { S with a := S.a + 1 } = .nx [none, some t, none, none] { S with a := S.a + 1, great := gs } := hw
    rw [this]
    rfl
  have run : zRun zD 4 S t = (match zD3 [none, some t, none, none] { S with a := S.a + 1, great := gs } with | .ret i S' => some (i, S') | _ => none) := by
    unfold zRun
    show (match zD [none, some t, none, none] S with | .ret i S' => some (i, S') | _ => none) = _
    rw [e0]
  rw [run]
  rcases hg with rfl | ⟨g, r, rfl⟩
  · have hlen : (0 : Int) < (S.cells.length : Int) := by
      cases e : S.cells with
      | nil => exact absurd e hc
      | cons a b => simp
    have m1 := Int.emod_nonneg (S.a + 1) (show (S.cells.length : Int) ≠ 0 by omega)
    have m2 := Int.emod_lt_of_pos (S.a + 1) hlen
    obtain ⟨c, hcell⟩ : ∃ c, S.cells[((S.a + 1) % (S.cells.length : Int)).toNat]? = some c := ⟨S.cells[((S.a + 1) % (S.cells.length : Int)).toNat]'(by omega), List.getElem?_eq_getElem _⟩
    have hl2 : 0 < S.cells.length := by omega
    have comp : zD3 [none, some t, none, none] { S with a := S.a + 1, great := [] } = .ret ((((S.b * 75364 + c % 2147483587 + 977 * (S.a + 1)) % 4294967291 * 40692 + (S.a + 1)) % 4294967279 / 128) % t) { S with a := S.a + 1, great := [], b := (S.b * 75364 + c % 2147483587 + 977 * (S.a + 1)) % 4294967291 } := by
      simp [zD3, zD4, zD5, zD6, YQ, zDc, zDd, zDe, zDf, YN, YIf, YV, YB, YR, ZNe, ZI, ZO, ZA, ZB, ZC, ZL, ZV, zOp, zo, lst, ZOut.seq, ixZ, m1, m2, hcell, hl2, getI, h0]
      have hce := (List.getElem?_eq_some_iff.mp hcell).2
      simp [hce]
    rw [comp]
    exact ⟨_, _, rfl, Int.emod_nonneg _ (by omega), Int.emod_lt_of_pos _ h0, rfl⟩
  · have comp : zD3 [none, some t, none, none] { S with a := S.a + 1, great := g :: r } = .ret (g % t) { S with a := S.a + 1, great := (g / t) :: r } := by
      simp [zD3, YQ, zDc, YN, YIf, YBoth, YR, ZNe, ZI, ZO, ZC, ZV, zOp, zo, lst, ZOut.seq, ixZ, getI, h0, h1, setZ]
    rw [comp]
    exact ⟨_, _, rfl, Int.emod_nonneg _ (by omega), Int.emod_lt_of_pos _ h0, rfl⟩
end PD
/-! P26: rows of ints in order. -/
namespace PD
open PySem L2
theorem lexLt_lt : ∀ (a b : List Int), HT.lexLt a b = decide (a < b)
  | [], [] => by simp [HT.lexLt]
  | [], _ :: _ => by simp [HT.lexLt]
  | _ :: _, [] => by simp [HT.lexLt]
  | x :: xs, y :: ys => by
    rw [HT.lexLt_cons, lexLt_lt xs ys]
    by_cases h : x = y
    · subst h
      simp [List.cons_lt_cons_iff]
    · simp [List.cons_lt_cons_iff, h]
theorem lex_three (a b : List Int) (h : ¬ b < a) (hn : a ≠ b) : HT.lexLt a b = true := by
  rw [lexLt_lt]
  refine decide_eq_true ?_
  have : a ≤ b := h
  rcases List.le_iff_lt_or_eq.mp this with z | z
  · exact z
  · exact absurd z hn
theorem sort_rows {ls : List (List Int)} (h : ∀ l ∈ ls, l ≠ []) (hl : ls.length ≤ 1000) : bltD .sorted [.list (ls.map rowD)] = some (.list ((ls.mergeSort leB).map rowD)) := by
  have ok : sortOk (ls.map rowD) = true := by
    unfold sortOk
    simp only [Bool.and_eq_true, List.all_eq_true, Bool.or_eq_true, decide_eq_true_eq]
    refine ⟨⟨⟨?_, .inl ?_⟩, ?_⟩, ?_⟩
    · intro x hx y hy
      obtain ⟨a, _, rfl⟩ := List.mem_map.mp hx
      obtain ⟨b, _, rfl⟩ := List.mem_map.mp hy
      exact alike_ints a b
    · intro x hx
      obtain ⟨a, ha, rfl⟩ := List.mem_map.mp hx
      obtain ⟨z, r, rfl⟩ := List.exists_cons_of_ne_nil (h a ha)
      rfl
    · rw [List.length_map]; omega
    · intro x hx
      obtain ⟨a, _, rfl⟩ := List.mem_map.mp hx
      have := row_depth a
      omega
  have e : (ls.mergeSort leB).map rowD = sortD (ls.map rowD) := List.map_mergeSort fun a _ b _ => (dataLe_row a b).symm
  simp only [bltD, ok, if_true, e]
theorem sort_up {ls : List (List Int)} (hn : ls.Nodup) : ((ls.mergeSort leB).zip ((ls.mergeSort leB).drop 1)).all (fun p => HT.lexLt p.1 p.2) = true := by
  have tr : ∀ a b c : List Int, leB a b = true → leB b c = true → leB a c = true := fun a b c h1 h2 => decide_eq_true (List.le_trans (of_decide_eq_true h1) (of_decide_eq_true h2))
  have tt : ∀ a b : List Int, (leB a b || leB b a) = true := fun a b => by
    unfold leB
    rcases List.le_total a b with z | z <;> simp [z]
  have p : (ls.mergeSort leB).Pairwise (fun a b => leB a b = true) := List.pairwise_mergeSort tr tt ls
  have nd : (ls.mergeSort leB).Nodup := (List.mergeSort_perm ls leB).nodup_iff.mpr hn
  generalize ls.mergeSort leB = ms at p nd
  rw [List.all_eq_true]
  intro x hx
  obtain ⟨i, hi⟩ := List.mem_iff_getElem?.mp hx
  rw [List.getElem?_zip_eq_some, List.getElem?_drop] at hi
  obtain ⟨h1, h2⟩ := hi
  obtain ⟨l1, e1⟩ := List.getElem?_eq_some_iff.mp h1
  obtain ⟨l2, e2⟩ := List.getElem?_eq_some_iff.mp h2
  have pw := List.pairwise_iff_getElem.mp p i (1 + i) l1 l2 (by omega)
  have ne := List.pairwise_iff_getElem.mp nd i (1 + i) l1 l2 (by omega)
  rw [e1, e2] at pw ne
  exact lex_three x.1 x.2 (of_decide_eq_true pw) ne
theorem eqv_row : ∀ (a b : List Int), PyData.eqvAll (a.map .int) (b.map .int) = decide (a = b)
  | [], [] => by simp [PyData.eqvAll]
  | [], _ :: _ => by simp [PyData.eqvAll]
  | _ :: _, [] => by simp [PyData.eqvAll]
  | x :: xs, y :: ys => by
    simp only [List.map_cons, PyData.eqvAll, PyData.eqv, eqv_row xs ys]
    by_cases h : x = y <;> simp [h]
theorem in_rows (l : List Int) (ls : List (List Int)) : inD (rowD l) (.list (ls.map rowD)) = some (decide (l ∈ ls)) := by
  have d := row_depth l
  simp only [inD, show (rowD l).depth ≤ 100 by omega, true_or, if_true, List.any_map]
  congr 1
  rw [Bool.eq_iff_iff, List.any_eq_true]
  simp only [Function.comp, rowD, PyData.eqv, eqv_row, decide_eq_true_eq]
  constructor
  · rintro ⟨x, hx, rfl⟩; exact hx
  · intro h; exact ⟨l, h, rfl⟩
end PD
/-! PF: the program's functions on shapes, in the small language (printed by cat.py). -/
namespace PD
open PySem L2
def Has (P : Prg) (j np nN : Nat) (b : List Sx) : Prop := ∃ f, P.fs[j]? = some f ∧ f.np = np ∧ f.N.length = nN ∧ f.body = some b
def AllF (Q : Nat → FDef → Prop) : Nat → List FDef → Prop
  | _, [] => True
  | k, f :: r => Q k f ∧ AllF Q (k + 1) r
theorem AllF.get {Q : Nat → FDef → Prop} : ∀ {l : List FDef} {k : Nat}, AllF Q k l → ∀ j f, l[j]? = some f → Q (k + j) f
  | [], _, _, _, _, e => by simp at e
  | g :: r, k, h, 0, f, e => by simp at e; subst e; exact h.1
  | g :: r, k, h, j + 1, f, e => by
    have := AllF.get h.2 j f (by simpa using e)
    rwa [show k + (j + 1) = k + 1 + j by omega]
def b_is_whole : List Sx := [.ife (.or [(.not (.isi (.var 0) .int)), (.isi (.var 0) .bool)]) [.ret (.con (.bool false))] [], .ret (.and [(.or [(.cmp .Is (.var 1) (.con .none)), (.cmp .GtE (.var 0) (.var 1))]), (.or [(.cmp .Is (.var 2) (.con .none)), (.cmp .LtE (.var 0) (.var 2))])])]
class F_is_whole (P : Prg) : Prop where
  h_is_whole : Has P 0 3 3 b_is_whole
def b_is_lot : List Sx := [.ife (.or [(.not (.isi (.var 1) .tuple)), (.cmp .Eq (.var 1) (.tup [])), (.not (.blt .all [(.comp (.call 0 [(.var 2), (.con (.int 0)), (.bin .Sub (.var 0) (.con (.int 1)))]) (.nm 2) (.var 1) [] [2])]))]) [.ret (.con (.bool false))] [], .ret (.blt .all [(.comp (.cmp .Lt (.var 3) (.var 4)) (.tp [(.nm 3), (.nm 4)]) (.zip (.var 1) (.sl (.var 1) (some (.con (.int 1))) none)) [] [3, 4])])]
class F_is_lot (P : Prg) : Prop extends F_is_whole P where
  h_is_lot : Has P 1 2 5 b_is_lot
def b_need_shape : List Sx := [.ife (.or [(.not (.isi (.var 0) .tuple)), (.cmp .NotEq (.blt .len [(.var 0)]) (.con (.int 2)))]) [.rse 0 true (.con (.str "form"))] [], .ife (.not (.call 0 [(.idx (.var 0) (.con (.int 0))), (.con (.int 1)), (.glb "MOST_CELLS" (.int 8))])) [.rse 0 true (.con (.str "cells"))] [], .ife (.or [(.not (.isi (.idx (.var 0) (.con (.int 1))) .tuple)), (.cmp .Gt (.blt .len [(.idx (.var 0) (.con (.int 1)))]) (.glb "MOST_SUMS" (.int 8)))]) [.rse 0 true (.con (.str "sums"))] [], .ife (.not (.blt .all [(.comp (.call 1 [(.idx (.var 0) (.con (.int 0))), (.var 1)]) (.nm 1) (.idx (.var 0) (.con (.int 1))) [] [1])])) [.rse 0 true (.con (.str "lot"))] [], .ife (.not (.blt .all [(.comp (.cmp .Lt (.var 2) (.var 3)) (.tp [(.nm 2), (.nm 3)]) (.zip (.idx (.var 0) (.con (.int 1))) (.sl (.idx (.var 0) (.con (.int 1))) (some (.con (.int 1))) none)) [] [2, 3])])) [.rse 0 true (.con (.str "order"))] [], .ret (.var 0)]
class F_need_shape (P : Prg) : Prop extends F_is_whole P, F_is_lot P where
  h_need_shape : Has P 2 1 4 b_need_shape
def b_need_lot : List Sx := [.ife (.not (.call 1 [(.idx (.call 2 [(.var 0)]) (.con (.int 0))), (.var 1)])) [.rse 4 false (.con (.str "no lot"))] []]
class F_need_lot (P : Prg) : Prop extends F_is_lot P, F_need_shape P where
  h_need_lot : Has P 3 2 2 b_need_lot
def b_rounded : List Sx := [.ret (.tup [(.bin .FloorDiv (.var 0) (.var 1)), (.bin .Sub (.con (.int 0)) (.bin .FloorDiv (.bin .Sub (.con (.int 0)) (.var 0)) (.var 1)))])]
class F_rounded (P : Prg) : Prop where
  h_rounded : Has P 4 2 2 b_rounded
def b_bounds_of : List Sx := [.ret (.comp (.call 4 [(.blt .sum [(.comp (.idx (.idx (.var 1) (.con (.int 1))) (.var 3)) (.nm 3) (.var 2) [] [3])]), (.idx (.var 1) (.con (.int 0)))]) (.nm 2) (.idx (.var 0) (.con (.int 1))) [] [2])]
class F_bounds_of (P : Prg) : Prop extends F_rounded P where
  h_bounds_of : Has P 5 2 4 b_bounds_of
def b_is_view_of : List Sx := [.ife (.or [(.not (.isi (.var 2) .tuple)), (.cmp .NotEq (.blt .len [(.var 2)]) (.idx (.var 0) (.con (.int 0)))), (.not (.blt .all [(.comp (.call 0 [(.var 4), (.con .none), (.con .none)]) (.nm 4) (.var 2) [] [4])]))]) [.ret (.con (.bool false))] [], .ife (.not (.blt .all [(.comp (.cmp .In (.var 5) (.call 4 [(.var 6), (.idx (.var 1) (.con (.int 0)))])) (.tp [(.nm 5), (.nm 6)]) (.zip (.var 2) (.idx (.var 1) (.con (.int 1)))) [] [5, 6])])) [.ret (.con (.bool false))] [], .asg (.nm 3) (.comp (.blt .sum [(.comp (.idx (.var 2) (.var 8)) (.nm 8) (.var 7) [] [8])]) (.nm 7) (.idx (.var 0) (.con (.int 1))) [] [7]), .ret (.blt .all [(.comp (.cmp .In (.var 4) (.var 9)) (.tp [(.nm 4), (.nm 9)]) (.zip (.var 3) (.call 5 [(.var 0), (.var 1)])) [] [4, 9])])]
class F_is_view_of (P : Prg) : Prop extends F_is_whole P, F_rounded P, F_bounds_of P where
  h_is_view_of : Has P 6 3 10 b_is_view_of
def b_lots_of : List Sx := [.asg (.nm 1) (.lst []), .fr (.nm 2) (.rng [(.bin .Sub (.var 0) (.con (.int 1))), (.neg (.con (.int 1))), (.neg (.con (.int 1)))]) [.asg (.nm 1) (.bin .Add (.bin .Add (.lst [(.tup [(.var 2)])]) (.comp (.bin .Add (.tup [(.var 2)]) (.var 3)) (.nm 3) (.var 1) [(.cmp .Gt (.idx (.var 3) (.con (.int 0))) (.var 2))] [3])) (.var 1))], .ret (.var 1)]
class F_lots_of (P : Prg) : Prop where
  h_lots_of : Has P 7 1 4 b_lots_of
def b_sides_of : List Sx := [.asg (.nm 2) (.lst [(.tup [])]), .fr (.nm 3) (.rng [(.var 0)]) [.asg (.nm 2) (.comp2 (.bin .Add (.var 4) (.tup [(.var 5)])) (.nm 4) (.var 2) [] (.nm 5) (.ite (.cmp .In (.var 3) (.var 1)) (.tup [(.neg (.con (.int 1))), (.con (.int 1))]) (.tup [(.con (.int 0))])) [] [4, 5] [5])], .ret (.var 2)]
class F_sides_of (P : Prg) : Prop where
  h_sides_of : Has P 8 2 6 b_sides_of
def b_is_even : List Sx := [.ret (.blt .all [(.comp (.cmp .LtE (.blt .abs [(.blt .sum [(.comp (.idx (.var 1) (.var 4)) (.nm 4) (.var 3) [] [4])])]) (.var 2)) (.nm 3) (.idx (.var 0) (.con (.int 1))) [] [3])])]
class F_is_even (P : Prg) : Prop where
  h_is_even : Has P 9 3 5 b_is_even
def b_parting_in : List Sx := [.fr (.nm 2) (.call 8 [(.idx (.var 0) (.con (.int 0))), (.var 1)]) [.ife (.call 9 [(.var 0), (.var 2), (.con (.int 1))]) [.ret (.var 2)] []], .ret (.con .none)]
class F_parting_in (P : Prg) : Prop extends F_sides_of P, F_is_even P where
  h_parting_in : Has P 10 2 3 b_parting_in
def b_parting : List Sx := [.exp (.call 3 [(.var 0), (.var 1)]), .ret (.call 10 [(.var 0), (.var 1)])]
class F_parting (P : Prg) : Prop extends F_need_lot P, F_parting_in P where
  h_parting : Has P 11 2 2 b_parting
def b_clash_in : List Sx := [.fr (.nm 1) (.call 7 [(.idx (.var 0) (.con (.int 0)))]) [.ife (.cmp .Is (.call 10 [(.var 0), (.var 1)]) (.con .none)) [.ret (.var 1)] []], .ret (.con .none)]
class F_clash_in (P : Prg) : Prop extends F_lots_of P, F_parting_in P where
  h_clash_in : Has P 12 1 2 b_clash_in
def b_is_fair_in : List Sx := [.ret (.cmp .Is (.call 12 [(.var 0)]) (.con .none))]
class F_is_fair_in (P : Prg) : Prop extends F_clash_in P where
  h_is_fair_in : Has P 13 1 1 b_is_fair_in
def b_is_fair : List Sx := [.ret (.call 13 [(.call 2 [(.var 0)])])]
class F_is_fair (P : Prg) : Prop extends F_is_fair_in P, F_need_shape P where
  h_is_fair : Has P 14 1 1 b_is_fair
def b_clash : List Sx := [.ret (.call 12 [(.call 2 [(.var 0)])])]
class F_clash (P : Prg) : Prop extends F_clash_in P, F_need_shape P where
  h_clash : Has P 15 1 1 b_clash
def b_halves_of : List Sx := [.ret (.tup [(.con (.int 2)), (.blt .tuple [(.comp (.blt .int [(.cmp .In (.var 2) (.var 1))]) (.nm 2) (.rng [(.idx (.var 0) (.con (.int 0)))]) [] [2])])])]
class F_halves_of (P : Prg) : Prop where
  h_halves_of : Has P 16 2 3 b_halves_of
def b_halves : List Sx := [.exp (.call 3 [(.var 0), (.var 1)]), .ret (.call 16 [(.var 0), (.var 1)])]
class F_halves (P : Prg) : Prop extends F_need_lot P, F_halves_of P where
  h_halves : Has P 17 2 2 b_halves
def b_fair_paper : List Sx := [.exp (.call 2 [(.var 0)]), .asg (.nm 1) (.call 12 [(.var 0)]), .ife (.cmp .IsNot (.var 1) (.con .none)) [.ret (.tup [(.glb "CLASH" (.str "clash")), (.var 1)])] [], .ret (.tup [(.glb "FAIR" (.str "fair")), (.blt .tuple [(.comp (.call 10 [(.var 0), (.var 2)]) (.nm 2) (.call 7 [(.idx (.var 0) (.con (.int 0)))]) [] [2])])])]
class F_fair_paper (P : Prg) : Prop extends F_need_shape P, F_clash_in P, F_parting_in P, F_lots_of P where
  h_fair_paper : Has P 18 1 3 b_fair_paper
def b_is_parting : List Sx := [.ife (.or [(.not (.isi (.var 2) .tuple)), (.cmp .NotEq (.blt .len [(.var 2)]) (.idx (.var 0) (.con (.int 0))))]) [.ret (.con (.bool false))] [], .ife (.not (.blt .all [(.comp (.and [(.call 0 [(.var 4), (.neg (.con (.int 1))), (.con (.int 1))]), (.cmp .Eq (.cmp .NotEq (.var 4) (.con (.int 0))) (.cmp .In (.var 3) (.var 1)))]) (.tp [(.nm 3), (.nm 4)]) (.enm (.var 2)) [] [3, 4])])) [.ret (.con (.bool false))] [], .ret (.call 9 [(.var 0), (.var 2), (.con (.int 1))])]
class F_is_parting (P : Prg) : Prop extends F_is_even P, F_is_whole P where
  h_is_parting : Has P 19 3 5 b_is_parting
def b_check_fair : List Sx := [.exp (.call 2 [(.var 0)]), .ife (.or [(.not (.isi (.var 1) .tuple)), (.cmp .NotEq (.blt .len [(.var 1)]) (.con (.int 2))), (.not (.isi (.idx (.var 1) (.con (.int 0))) .str))]) [.rse 2 true (.con (.str "form"))] [], .ife (.cmp .NotIn (.idx (.var 1) (.con (.int 0))) (.tup [(.glb "FAIR" (.str "fair")), (.glb "CLASH" (.str "clash"))])) [.rse 2 true (.con (.str "form"))] [], .ife (.cmp .Eq (.idx (.var 1) (.con (.int 0))) (.glb "CLASH" (.str "clash"))) [.ife (.or [(.not (.call 1 [(.idx (.var 0) (.con (.int 0))), (.idx (.var 1) (.con (.int 1)))])), (.cmp .IsNot (.call 10 [(.var 0), (.idx (.var 1) (.con (.int 1)))]) (.con .none))]) [.rse 2 true (.glb "CLASH" (.str "clash"))] [], .ret (.glb "CLASH" (.str "clash"))] [], .asg (.nm 2) (.call 7 [(.idx (.var 0) (.con (.int 0)))]), .ife (.or [(.not (.isi (.idx (.var 1) (.con (.int 1))) .tuple)), (.cmp .NotEq (.blt .len [(.idx (.var 1) (.con (.int 1)))]) (.blt .len [(.var 2)]))]) [.rse 2 true (.glb "FAIR" (.str "fair"))] [], .ife (.not (.blt .all [(.comp (.call 19 [(.var 0), (.var 3), (.var 4)]) (.tp [(.nm 3), (.nm 4)]) (.zip (.var 2) (.idx (.var 1) (.con (.int 1)))) [] [3, 4])])) [.rse 2 true (.glb "FAIR" (.str "fair"))] [], .ret (.glb "FAIR" (.str "fair"))]
class F_check_fair (P : Prg) : Prop extends F_need_shape P, F_lots_of P, F_is_lot P, F_parting_in P, F_is_parting P where
  h_check_fair : Has P 20 2 5 b_check_fair
-- BAD goods_of: expr Dict
def b_are_good : List Sx := [.ret (.blt .any [(.comp (.blt .all [(.comp (.idx (.var 2) (.var 3)) (.nm 3) (.var 1) [] [3])]) (.nm 2) (.var 0) [] [2])])]
class F_are_good (P : Prg) : Prop where
  h_are_good : Has P 22 2 4 b_are_good
def b_choices_by_size : List Sx := [.asg (.nm 1) (.bin .Add (.lst [(.tup [])]) (.ite (.cmp .Gt (.var 0) (.con (.int 0))) (.call 7 [(.var 0)]) (.lst []))), .ret (.comp2 (.var 3) (.nm 2) (.rng [(.bin .Add (.var 0) (.con (.int 1)))]) [] (.nm 3) (.var 1) [(.cmp .Eq (.blt .len [(.var 3)]) (.var 2))] [2, 3] [3])]
class F_choices_by_size (P : Prg) : Prop extends F_lots_of P where
  h_choices_by_size : Has P 23 1 4 b_choices_by_size
-- BAD cores_in: by ['goods_of']
-- BAD cores: by ['cores_in']
-- BAD least_left_out: by ['cores_in']
def b_is_left_out : List Sx := [.exp (.call 2 [(.var 0)]), .ife (.and [(.cmp .NotEq (.var 1) (.tup [])), (.not (.call 1 [(.blt .len [(.idx (.var 0) (.con (.int 1)))]), (.var 1)]))]) [.rse 4 false (.con (.str "no numbers of sums"))] [], .ret (.call 13 [(.tup [(.idx (.var 0) (.con (.int 0))), (.blt .tuple [(.comp (.var 3) (.tp [(.nm 2), (.nm 3)]) (.enm (.idx (.var 0) (.con (.int 1)))) [(.cmp .NotIn (.var 2) (.var 1))] [2, 3])])])])]
class F_is_left_out (P : Prg) : Prop extends F_need_shape P, F_is_fair_in P, F_is_lot P where
  h_is_left_out : Has P 27 2 4 b_is_left_out
def b_off_in : List Sx := [.asg (.tp [(.nm 2), (.nm 3)]) (.tup [(.con (.int 0)), (.call 8 [(.idx (.var 0) (.con (.int 0))), (.var 1)])]), .whl (.not (.blt .any [(.comp (.call 9 [(.var 0), (.var 4), (.var 2)]) (.nm 4) (.var 3) [] [4])])) [.aug 2 .Add (.con (.int 1))], .ret (.var 2)]
class F_off_in (P : Prg) : Prop extends F_sides_of P, F_is_even P where
  h_off_in : Has P 28 2 5 b_off_in
def b_off_at : List Sx := [.exp (.call 3 [(.var 0), (.var 1)]), .ret (.call 28 [(.var 0), (.var 1)])]
class F_off_at (P : Prg) : Prop extends F_need_lot P, F_off_in P where
  h_off_at : Has P 29 2 2 b_off_at
def b_off : List Sx := [.exp (.call 2 [(.var 0)]), .ret (.blt .max [(.comp (.call 28 [(.var 0), (.var 1)]) (.nm 1) (.call 7 [(.idx (.var 0) (.con (.int 0)))]) [] [1])])]
class F_off (P : Prg) : Prop extends F_need_shape P, F_off_in P, F_lots_of P where
  h_off : Has P 30 1 2 b_off
def b_choices_of : List Sx := [.asg (.nm 1) (.lst [(.tup [])]), .fr (.nm 2) (.idx (.var 0) (.con (.int 1))) [.asg (.tp [(.nm 3), (.nm 4)]) (.call 4 [(.var 2), (.idx (.var 0) (.con (.int 0)))]), .asg (.nm 1) (.comp2 (.bin .Add (.var 5) (.tup [(.var 6)])) (.nm 5) (.var 1) [] (.nm 6) (.ite (.cmp .Eq (.var 3) (.var 4)) (.tup [(.var 3)]) (.tup [(.var 3), (.var 4)])) [] [5, 6] [6])], .ret (.var 1)]
class F_choices_of (P : Prg) : Prop extends F_rounded P where
  h_choices_of : Has P 31 1 7 b_choices_of
def b_views_of : List Sx := [.ret (.comp (.var 2) (.nm 2) (.call 31 [(.var 1)]) [(.call 6 [(.var 0), (.var 1), (.var 2)])] [2])]
class F_views_of (P : Prg) : Prop extends F_choices_of P, F_is_view_of P where
  h_views_of : Has P 32 2 3 b_views_of
def b_need_fair : List Sx := [.ife (.not (.call 13 [(.var 0)])) [.rse 4 false (.con (.str "no fair shape"))] []]
class F_need_fair (P : Prg) : Prop extends F_is_fair_in P where
  h_need_fair : Has P 33 1 1 b_need_fair
def b_even_rows : List Sx := [.asg (.nm 1) (.lst [(.tup [])]), .fr (.nm 2) (.rng [(.idx (.var 0) (.con (.int 0)))]) [.asg (.nm 1) (.comp2 (.bin .Add (.var 3) (.tup [(.var 4)])) (.nm 3) (.var 1) [] (.nm 4) (.tup [(.neg (.con (.int 1))), (.con (.int 0)), (.con (.int 1))]) [] [3, 4] [4])], .ret (.comp (.var 3) (.nm 3) (.var 1) [(.call 9 [(.var 0), (.var 3), (.con (.int 1))])] [3])]
class F_even_rows (P : Prg) : Prop extends F_is_even P where
  h_even_rows : Has P 34 1 5 b_even_rows
def b_is_implied_by : List Sx := [.ret (.blt .all [(.comp (.cmp .LtE (.blt .abs [(.blt .sum [(.comp (.idx (.var 2) (.var 3)) (.nm 3) (.var 1) [] [3])])]) (.con (.int 1))) (.nm 2) (.var 0) [] [2])])]
class F_is_implied_by (P : Prg) : Prop where
  h_is_implied_by : Has P 35 2 4 b_is_implied_by
def b_is_implied : List Sx := [.exp (.call 2 [(.var 0)]), .exp (.call 33 [(.var 0)]), .exp (.call 3 [(.var 0), (.var 1)]), .ret (.call 35 [(.call 34 [(.var 0)]), (.var 1)])]
class F_is_implied (P : Prg) : Prop extends F_need_shape P, F_need_fair P, F_need_lot P, F_is_implied_by P, F_even_rows P where
  h_is_implied : Has P 36 2 2 b_is_implied
def b_implied : List Sx := [.exp (.call 2 [(.var 0)]), .exp (.call 33 [(.var 0)]), .asg (.nm 1) (.call 34 [(.var 0)]), .ret (.blt .tuple [(.comp (.var 2) (.nm 2) (.call 7 [(.idx (.var 0) (.con (.int 0)))]) [(.call 35 [(.var 1), (.var 2)])] [2])])]
class F_implied (P : Prg) : Prop extends F_need_shape P, F_need_fair P, F_even_rows P, F_lots_of P, F_is_implied_by P where
  h_implied : Has P 37 1 3 b_implied
def b_part_shapes : List Sx := [.exp (.call 2 [(.var 0)]), .exp (.call 33 [(.var 0)]), .ife (.cmp .NotEq (.idx (.call 2 [(.var 1)]) (.con (.int 0))) (.idx (.var 0) (.con (.int 0)))) [.rse 4 false (.con (.str "not as many cells"))] [], .exp (.call 33 [(.var 1)]), .fr (.nm 2) (.call 7 [(.idx (.var 0) (.con (.int 0)))]) [.asg (.nm 3) (.call 16 [(.var 0), (.var 2)]), .ife (.cmp .NotEq (.call 32 [(.var 0), (.var 3)]) (.call 32 [(.var 1), (.var 3)])) [.ret (.var 2)] []], .ret (.con .none)]
class F_part_shapes (P : Prg) : Prop extends F_need_shape P, F_need_fair P, F_lots_of P, F_halves_of P, F_views_of P where
  h_part_shapes : Has P 38 2 4 b_part_shapes
def b_need_contents : List Sx := [.exp (.call 2 [(.var 0)]), .ife (.or [(.not (.isi (.var 1) .tuple)), (.cmp .NotEq (.blt .len [(.var 1)]) (.con (.int 2)))]) [.rse 1 true (.con (.str "form"))] [], .ife (.not (.call 0 [(.idx (.var 1) (.con (.int 0))), (.glb "LEAST_BASE" (.int 2)), (.glb "MOST_BASE" (.int 1000))])) [.rse 1 true (.con (.str "base"))] [], .ife (.or [(.not (.isi (.idx (.var 1) (.con (.int 1))) .tuple)), (.cmp .NotEq (.blt .len [(.idx (.var 1) (.con (.int 1)))]) (.idx (.var 0) (.con (.int 0))))]) [.rse 1 true (.con (.str "row"))] [], .ife (.not (.blt .all [(.comp (.call 0 [(.var 2), (.bin .Sub (.con (.int 0)) (.glb "MOST_NUMBER" (.int 1000000000))), (.glb "MOST_NUMBER" (.int 1000000000))]) (.nm 2) (.idx (.var 1) (.con (.int 1))) [] [2])])) [.rse 1 true (.con (.str "row"))] [], .ret (.var 1)]
class F_need_contents (P : Prg) : Prop extends F_need_shape P, F_is_whole P where
  h_need_contents : Has P 39 2 3 b_need_contents
def b_is_view : List Sx := [.exp (.call 39 [(.var 0), (.var 1)]), .ret (.call 6 [(.var 0), (.var 1), (.var 2)])]
class F_is_view (P : Prg) : Prop extends F_need_contents P, F_is_view_of P where
  h_is_view : Has P 40 3 3 b_is_view
def b_broken : List Sx := [.exp (.call 39 [(.var 0), (.var 1)]), .ret (.blt .tuple [(.comp (.var 2) (.tp [(.nm 2), (.nm 3)]) (.enm (.idx (.var 1) (.con (.int 1)))) [(.cmp .NotEq (.bin .Mod (.blt .int [(.var 3)]) (.idx (.var 1) (.con (.int 0)))) (.con (.int 0)))] [2, 3])])]
class F_broken (P : Prg) : Prop extends F_need_contents P where
  h_broken : Has P 41 2 4 b_broken
def b_sum_bounds : List Sx := [.exp (.call 39 [(.var 0), (.var 1)]), .ret (.blt .tuple [(.call 5 [(.var 0), (.var 1)])])]
class F_sum_bounds (P : Prg) : Prop extends F_need_contents P, F_bounds_of P where
  h_sum_bounds : Has P 42 2 2 b_sum_bounds
def b_view : List Sx := [.exp (.call 39 [(.var 0), (.var 1)]), .asg (.nm 2) (.call 32 [(.var 0), (.var 1)]), .ret (.ite (.cmp .NotEq (.var 2) (.lst [])) (.idx (.var 2) (.con (.int 0))) (.con .none))]
class F_view (P : Prg) : Prop extends F_need_contents P, F_views_of P where
  h_view : Has P 43 2 3 b_view
def b_many_views : List Sx := [.exp (.call 39 [(.var 0), (.var 1)]), .ret (.blt .len [(.call 32 [(.var 0), (.var 1)])])]
class F_many_views (P : Prg) : Prop extends F_need_contents P, F_views_of P where
  h_many_views : Has P 44 2 2 b_many_views
def b_view_at : List Sx := [.exp (.call 39 [(.var 0), (.var 1)]), .ife (.not (.call 0 [(.var 2), (.con (.int 0)), (.con .none)])) [.rse 4 false (.con (.str "no number"))] [], .asg (.nm 3) (.call 32 [(.var 0), (.var 1)]), .ife (.cmp .GtE (.var 2) (.blt .len [(.var 3)])) [.rse 6 false (.con (.str "not so many views"))] [], .ret (.idx (.var 3) (.var 2))]
class F_view_at (P : Prg) : Prop extends F_need_contents P, F_views_of P, F_is_whole P where
  h_view_at : Has P 45 3 4 b_view_at
def b_need_view : List Sx := [.exp (.call 39 [(.var 0), (.var 1)]), .ife (.not (.call 6 [(.var 0), (.var 1), (.var 2)])) [.rse 4 false (.con (.str "no view"))] []]
class F_need_view (P : Prg) : Prop extends F_need_contents P, F_is_view_of P where
  h_need_view : Has P 46 3 3 b_need_view
def b_number_of : List Sx := [.exp (.call 46 [(.var 0), (.var 1), (.var 2)]), .ret (.meth .index (.call 32 [(.var 0), (.var 1)]) (.var 2))]
class F_number_of (P : Prg) : Prop extends F_need_view P, F_views_of P where
  h_number_of : Has P 47 3 3 b_number_of
def b_away_of : List Sx := [.ret (.blt .sum [(.comp (.blt .abs [(.bin .Sub (.bin .Mult (.var 2) (.idx (.var 0) (.con (.int 0)))) (.var 3))]) (.tp [(.nm 2), (.nm 3)]) (.zip (.var 1) (.idx (.var 0) (.con (.int 1)))) [] [2, 3])])]
class F_away_of (P : Prg) : Prop where
  h_away_of : Has P 48 2 4 b_away_of
def b_away : List Sx := [.exp (.call 46 [(.var 0), (.var 1), (.var 2)]), .ret (.call 48 [(.var 1), (.var 2)])]
class F_away (P : Prg) : Prop extends F_need_view P, F_away_of P where
  h_away : Has P 49 3 3 b_away
def b_nearest : List Sx := [.exp (.call 39 [(.var 0), (.var 1)]), .asg (.nm 2) (.call 32 [(.var 0), (.var 1)]), .ret (.ite (.cmp .NotEq (.var 2) (.lst [])) (.idx (.blt .min [(.comp (.tup [(.call 48 [(.var 1), (.var 3)]), (.var 3)]) (.nm 3) (.var 2) [] [3])]) (.con (.int 1))) (.con .none))]
class F_nearest (P : Prg) : Prop extends F_need_contents P, F_views_of P, F_away_of P where
  h_nearest : Has P 50 2 4 b_nearest
def b_integer_of : List Sx := [.ife (.or [(.not (.chn .LtE .LtE (.con (.int 1)) (.blt .len [(.var 0)]) (.glb "MOST_FIGURES" (.int 31)))), (.not (.blt .all [(.comp (.cmp .In (.var 1) (.glb "DIGITS" (.str "0123456789"))) (.nm 1) (.var 0) [] [1])]))]) [.ret (.con .none)] [], .ret (.ite (.cmp .Eq (.blt .str [(.blt .int [(.var 0)])]) (.var 0)) (.blt .int [(.var 0)]) (.con .none))]
class F_integer_of (P : Prg) : Prop where
  h_integer_of : Has P 51 1 2 b_integer_of
def b_signed_of : List Sx := [.ife (.not (.meth .startswith (.var 0) (.glb "MINUS" (.str "-")))) [.ret (.call 51 [(.var 0)])] [], .asg (.nm 1) (.call 51 [(.sl (.var 0) (some (.con (.int 1))) none)]), .ret (.ite (.and [(.cmp .IsNot (.var 1) (.con .none)), (.cmp .Gt (.var 1) (.con (.int 0)))]) (.bin .Sub (.con (.int 0)) (.var 1)) (.con .none))]
class F_signed_of (P : Prg) : Prop extends F_integer_of P where
  h_signed_of : Has P 52 1 2 b_signed_of
def b_row_text : List Sx := [.ret (.meth .join (.glb "BLANK" (.str " ")) (.comp (.blt .str [(.var 1)]) (.nm 1) (.var 0) [] [1]))]
class F_row_text (P : Prg) : Prop where
  h_row_text : Has P 53 1 2 b_row_text
def b_rows_text : List Sx := [.ret (.bin .Add (.lst [(.blt .str [(.idx (.var 0) (.con (.int 0)))])]) (.comp (.call 53 [(.var 1)]) (.nm 1) (.idx (.var 0) (.con (.int 1))) [] [1]))]
class F_rows_text (P : Prg) : Prop extends F_row_text P where
  h_rows_text : Has P 54 1 2 b_rows_text
def b_shape_text : List Sx := [.ret (.meth .join (.glb "LINE_END" (.str "\n")) (.call 54 [(.call 2 [(.var 0)])]))]
class F_shape_text (P : Prg) : Prop extends F_rows_text P, F_need_shape P where
  h_shape_text : Has P 55 1 1 b_shape_text
def b_row_of : List Sx := [.ret (.blt .tuple [(.comp (.call 51 [(.var 1)]) (.nm 1) (.meth .split (.var 0) (.glb "BLANK" (.str " "))) [] [1])])]
class F_row_of (P : Prg) : Prop extends F_integer_of P where
  h_row_of : Has P 56 1 2 b_row_of
def b_read_shape : List Sx := [.ife (.not (.isi (.var 0) .str)) [.rse 3 true (.con (.int 0))] [], .asg (.nm 1) (.meth .split (.var 0) (.glb "LINE_END" (.str "\n"))), .par [2, 3] [(.call 51 [(.idx (.var 1) (.con (.int 0)))]), (.lst [])], .ife (.not (.call 0 [(.var 2), (.con (.int 1)), (.glb "MOST_CELLS" (.int 8))])) [.rse 3 true (.con (.int 1))] [], .fr (.tp [(.nm 4), (.nm 5)]) (.enm (.sl (.var 1) (some (.con (.int 1))) none)) [.app 3 (.call 56 [(.var 5)]), .ife (.or [(.cmp .GtE (.var 4) (.glb "MOST_SUMS" (.int 8))), (.not (.call 1 [(.var 2), (.idx (.var 3) (.neg (.con (.int 1))))])), (.and [(.cmp .Gt (.var 4) (.con (.int 0))), (.not (.cmp .Lt (.idx (.var 3) (.neg (.con (.int 2)))) (.idx (.var 3) (.neg (.con (.int 1))))))])]) [.rse 3 true (.bin .Add (.var 4) (.con (.int 2)))] []], .ret (.tup [(.var 2), (.blt .tuple [(.var 3)])])]
class F_read_shape (P : Prg) : Prop extends F_integer_of P, F_is_whole P, F_row_of P, F_is_lot P where
  h_read_shape : Has P 57 1 6 b_read_shape
def b_row_or_none : List Sx := [.ret (.ite (.cmp .Is (.var 0) (.con .none)) (.glb "NONE" (.str "none")) (.call 53 [(.var 0)]))]
class F_row_or_none (P : Prg) : Prop extends F_row_text P where
  h_row_or_none : Has P 58 1 1 b_row_or_none
end PD
/-! PX1: what the functions of shapes.py do, plainly. -/
namespace PD
open PySem L2
theorem call_has {P : Prg} {j np nN : Nat} {b : List Sx} (h : Has P j np nN b) {n : Nat} {ds : List PyData} {S S1 : Draw} {d : PyData} (hl : ds.length = np) (hb : ssStep (run P n) (ds.map some ++ List.replicate (nN - ds.length) none) S b = .ret d S1) : (run P (n + 2)).c j ds S = .ok d S1 := by
  obtain ⟨f, h1, rfl, rfl, h4⟩ := h
  exact call_ret h1 h4 hl hb
theorem call_hasN {P : Prg} {j np nN : Nat} {b : List Sx} (h : Has P j np nN b) {n : Nat} {ds : List PyData} {S S1 : Draw} {Γ : Env} (hl : ds.length = np) (hb : ssStep (run P n) (ds.map some ++ List.replicate (nN - ds.length) none) S b = .nx Γ S1) : (run P (n + 2)).c j ds S = .ok .none S1 := by
  obtain ⟨f, h1, rfl, rfl, h4⟩ := h
  rw [call_eq h1 h4 n ds S hl, hb]
theorem ss_ifr {r : Fns} {Γ : Env} {S S1 S2 : Draw} {c : Ex} {a b ss : List Sx} {d : PyData} (h : r.e Γ S c = .ok (.bool true) S1) (hr : r.s Γ S1 a = .ret d S2) : ssStep r Γ S (.ife c a b :: ss) = .ret d S2 :=
  ss_ret ((st_if (evT_ok h)).trans hr)
theorem ss_if0 {P : Prg} {n : Nat} {Γ : Env} {S S1 : Draw} {c : Ex} {a ss : List Sx} (h : (run P (n + 1)).e Γ S c = .ok (.bool false) S1) : ssStep (run P (n + 1)) Γ S (.ife c a [] :: ss) = ssStep (run P (n + 1)) Γ S1 ss := ss_nx (st_skip (evT_ok h))
theorem e_or1 {P : Prg} {n : Nat} {Γ : Env} {S S1 : Draw} {a b : Ex} {l : List Ex} (h : (run P n).e Γ S a = .ok (.bool true) S1) : (run P (n + 1)).e Γ S (.or (a :: b :: l)) = .ok (.bool true) S1 := by
  show toB ((run P n).e Γ S a) _ = _
  rw [h]; rfl
theorem e_or0 {P : Prg} {n : Nat} {Γ : Env} {S S1 : Draw} {a b : Ex} {l : List Ex} (h : (run P n).e Γ S a = .ok (.bool false) S1) : (run P (n + 1)).e Γ S (.or (a :: b :: l)) = (run P (n + 1)).e Γ S1 (.or (b :: l)) := by
  show toB ((run P n).e Γ S a) _ = _
  rw [h]; rfl
theorem e_orZ {P : Prg} {n : Nat} {Γ : Env} {S : Draw} {a : Ex} : (run P (n + 1)).e Γ S (.or [a]) = (run P n).e Γ S a := rfl
theorem e_and0 {P : Prg} {n : Nat} {Γ : Env} {S S1 : Draw} {a b : Ex} {l : List Ex} (h : (run P n).e Γ S a = .ok (.bool false) S1) : (run P (n + 1)).e Γ S (.and (a :: b :: l)) = .ok (.bool false) S1 := by
  show toB ((run P n).e Γ S a) _ = _
  rw [h]; rfl
theorem e_and1 {P : Prg} {n : Nat} {Γ : Env} {S S1 : Draw} {a b : Ex} {l : List Ex} (h : (run P n).e Γ S a = .ok (.bool true) S1) : (run P (n + 1)).e Γ S (.and (a :: b :: l)) = (run P (n + 1)).e Γ S1 (.and (b :: l)) := by
  show toB ((run P n).e Γ S a) _ = _
  rw [h]; rfl
theorem e_andZ {P : Prg} {n : Nat} {Γ : Env} {S : Draw} {a : Ex} : (run P (n + 1)).e Γ S (.and [a]) = (run P n).e Γ S a := rfl
/-- [elt for t in it] -/
theorem e_comp {α : Type} {P : Prg} {n : Nat} {Γ : Env} {elt it : Ex} {t : Tg} {own : List Nat} {S : Draw} {xs : List α} {f g : α → PyData} (hI : evI (run P n) Γ S it = .ok (xs.map f) S) (hl : xs.length ≤ 16777216) (hb : ∀ x ∈ xs, ∃ Γ', bindT t (f x) (wipeE Γ own) = some Γ' ∧ (run P n).e Γ' S elt = .ok (g x) S) :
    (run P (n + 1)).e Γ S (.comp elt t it [] own) = .ok (.list (xs.map g)) S := by
  show (evComp (run P n) Γ elt t it [] own S).bind _ = _
  rw [evComp_map hI hl hb]; rfl
/-- [elt for t in it if c] -/
theorem e_compF {α : Type} {P : Prg} {n : Nat} {Γ : Env} {elt it c : Ex} {t : Tg} {own : List Nat} {S : Draw} {xs : List α} {f g : α → PyData} {p : α → Bool} (hI : evI (run P n) Γ S it = .ok (xs.map f) S) (hl : xs.length ≤ 16777216) (hb : ∀ x ∈ xs, ∃ Γ', bindT t (f x) (wipeE Γ own) = some Γ' ∧ (run P n).e Γ' S c = .ok (.bool (p x)) S ∧ (run P n).e Γ' S elt = .ok (g x) S) :
    (run P (n + 1)).e Γ S (.comp elt t it [c] own) = .ok (.list ((xs.filter p).map g)) S := by
  show (evComp (run P n) Γ elt t it [c] own S).bind _ = _
  rw [evComp_filter hI hl hb]; rfl
theorem e_blt {P : Prg} {n : Nat} {Γ : Env} {S S1 : Draw} {b : Bl} {e : Ex} {x d : PyData} (h : (run P n).e Γ S e = .ok x S1) (hb : bltD b [x] = some d) : (run P (n + 1)).e Γ S (.blt b [e]) = .ok d S1 := by
  show (evs ((run P n).e Γ) [e] S).bind _ = _
  simp only [evs, h, Res.bind_ok, hb, lift]
theorem e_any {α : Type} {P : Prg} {n : Nat} {Γ : Env} {elt it : Ex} {t : Tg} {own : List Nat} {S : Draw} {xs : List α} {f : α → PyData} {p : α → Bool} (hI : evI (run P n) Γ S it = .ok (xs.map f) S) (hl : xs.length ≤ 16777216) (hb : ∀ x ∈ xs, ∃ Γ', bindT t (f x) (wipeE Γ own) = some Γ' ∧ (run P n).e Γ' S elt = .ok (.bool (p x)) S) :
    (run P (n + 2)).e Γ S (.blt .any [.comp elt t it [] own]) = .ok (.bool (xs.any p)) S :=
  e_blt (e_comp (g := fun x => .bool (p x)) hI hl hb) (by simp [bltD, boolsOf_map', List.any_map])
theorem bltSum (ns : List Int) : bltD .sum [.list (ns.map .int)] = some (.int ns.sum) := by
  simp [bltD, intsOf_map]
theorem e_sum {α : Type} {P : Prg} {n : Nat} {Γ : Env} {elt it : Ex} {t : Tg} {own : List Nat} {S : Draw} {xs : List α} {f : α → PyData} {p : α → Int} (hI : evI (run P n) Γ S it = .ok (xs.map f) S) (hl : xs.length ≤ 16777216) (hb : ∀ x ∈ xs, ∃ Γ', bindT t (f x) (wipeE Γ own) = some Γ' ∧ (run P n).e Γ' S elt = .ok (.int (p x)) S) :
    (run P (n + 2)).e Γ S (.blt .sum [.comp elt t it [] own]) = .ok (.int (xs.map p).sum) S :=
  e_blt (e_comp (g := fun x => .int (p x)) hI hl hb) (by have := bltSum (xs.map p); rwa [List.map_map] at this)
section
variable {P : Prg}
/-! ### is_whole, is_lot -/
def wholeD (d : PyData) (lo hi : Int) : Bool :=
  match d with
  | .int i => decide (lo ≤ i) && decide (i ≤ hi)
  | _ => false
theorem whole_any [F_is_whole P] (n : Nat) (d : PyData) (lo hi : Int) (S : Draw) : (run P (n + 8)).c 0 [d, .int lo, .int hi] S = .ok (.bool (wholeD d lo hi)) S := by
  refine call_has F_is_whole.h_is_whole rfl ?_
  cases d <;> simp [run_s, run_e, evStep, ssStep, stStep, evT, evI, evOr, evAnd, evs, evOpt, getV, lift, wipeE, isiD, PyData.isInt, PyData.isBool, PyData.isTuple, PyData.isStr, PyData.isList, cmpB, cmpD, isD, ltD, dpt, PyData.depth, PyData.depthAll, PyData.eqv, PyData.eqvAll, ixD, atI, ixN, itemsOf, seqOf, zipD, enmD, slD, cut_tail, binD, blt_lenT, blt_lenL, blt_tup, bindT, bindTs, b_is_whole, wholeD]
  rename_i i
  by_cases h1 : lo ≤ i <;> by_cases h2 : i ≤ hi <;> simp [h1, h2]
theorem whole_nn [F_is_whole P] (n : Nat) (d : PyData) (S : Draw) : (run P (n + 8)).c 0 [d, .none, .none] S = .ok (.bool (match d with | .int _ => true | _ => false)) S := by
  refine call_has F_is_whole.h_is_whole rfl ?_
  cases d <;> simp [run_s, run_e, evStep, ssStep, stStep, evT, evI, evOr, evAnd, evs, evOpt, getV, lift, wipeE, isiD, PyData.isInt, PyData.isBool, PyData.isTuple, PyData.isStr, PyData.isList, cmpB, cmpD, isD, ltD, dpt, PyData.depth, PyData.depthAll, PyData.eqv, PyData.eqvAll, ixD, atI, ixN, itemsOf, seqOf, zipD, enmD, slD, cut_tail, binD, blt_lenT, blt_lenL, blt_tup, bindT, bindTs, b_is_whole]
theorem whole_in [F_is_whole P] (n : Nat) (d : PyData) (lo : Int) (S : Draw) : (run P (n + 8)).c 0 [d, .int lo, .none] S = .ok (.bool (match d with | .int i => decide (lo ≤ i) | _ => false)) S := by
  refine call_has F_is_whole.h_is_whole rfl ?_
  cases d <;> simp [run_s, run_e, evStep, ssStep, stStep, evT, evI, evOr, evAnd, evs, evOpt, getV, lift, wipeE, isiD, PyData.isInt, PyData.isBool, PyData.isTuple, PyData.isStr, PyData.isList, cmpB, cmpD, isD, ltD, dpt, PyData.depth, PyData.depthAll, PyData.eqv, PyData.eqvAll, ixD, atI, ixN, itemsOf, seqOf, zipD, enmD, slD, cut_tail, binD, blt_lenT, blt_lenL, blt_tup, bindT, bindTs, b_is_whole]
  rename_i i
  by_cases h1 : lo ≤ i <;> simp [h1]
def ascB (ns : List Int) : Bool := (ns.zip (ns.drop 1)).all fun p => decide (p.1 < p.2)
theorem ascB_iff : ∀ {ns : List Int}, ascB ns = true ↔ ns.Pairwise (· < ·)
  | [] => by simp [ascB]
  | [a] => by simp [ascB]
  | a :: b :: r => by
    have ih := ascB_iff (ns := b :: r)
    unfold ascB at ih ⊢
    simp only [List.drop_succ_cons, List.drop_zero, List.zip_cons_cons, List.all_cons, Bool.and_eq_true, decide_eq_true_eq] at ih ⊢
    rw [ih]
    constructor
    · rintro ⟨h1, h2⟩
      refine List.pairwise_cons.mpr ⟨fun x hx => ?_, h2⟩
      rcases List.mem_cons.mp hx with rfl | hx
      · exact h1
      · exact Int.lt_trans h1 ((List.pairwise_cons.mp h2).1 x hx)
    · intro h
      exact ⟨(List.pairwise_cons.mp h).1 b List.mem_cons_self, (List.pairwise_cons.mp h).2⟩
/-- a lot of c cells -/
def lotB (c : Int) (d : PyData) : Bool :=
  match d with
  | .tuple xs => !xs.isEmpty && xs.all (fun x => wholeD x 0 (c - 1)) && (match intsOf xs with | some ns => ascB ns | none => false)
  | _ => false
theorem ints_whole : ∀ {xs : List PyData} {lo hi : Int}, xs.all (fun x => wholeD x lo hi) = true → ∃ ns : List Int, xs = ns.map .int
  | [], _, _, _ => ⟨[], rfl⟩
  | x :: xs, lo, hi, h => by
    simp only [List.all_cons, Bool.and_eq_true] at h
    obtain ⟨ns, rfl⟩ := ints_whole h.2
    cases x <;> first | exact ⟨_ :: ns, rfl⟩ | cases h.1
theorem lot_any [F_is_lot P] (n : Nat) (c : Int) (d : PyData) (S : Draw) (hl : ∀ xs, d = .tuple xs → xs.length ≤ 16777216) : (run P (n + 16)).c 1 [.int c, d] S = .ok (.bool (lotB c d)) S := by
  refine call_has F_is_lot.h_is_lot rfl ?_
  by_cases ht : ∃ xs, d = .tuple xs
  · obtain ⟨xs, rfl⟩ := ht
    have hx := hl xs rfl
    cases xs with
    | nil => simp [run_s, run_e, evStep, ssStep, stStep, evT, evI, evOr, evAnd, evs, evOpt, getV, lift, wipeE, isiD, PyData.isInt, PyData.isBool, PyData.isTuple, PyData.isStr, PyData.isList, cmpB, cmpD, isD, ltD, dpt, PyData.depth, PyData.depthAll, PyData.eqv, PyData.eqvAll, ixD, atI, ixN, itemsOf, seqOf, zipD, enmD, slD, cut_tail, binD, blt_lenT, blt_lenL, blt_tup, bindT, bindTs, b_is_lot, lotB]
    | cons a r =>
      have all := e_all (P := P) (n := n + 10) (Γ := [some (.int c), some (.tuple (a :: r)), none, none, none]) (S := S) (elt := .call 0 [(.var 2), (.con (.int 0)), (.bin .Sub (.var 0) (.con (.int 1)))]) (it := .var 1) (t := .nm 2) (own := [2]) (xs := a :: r) (f := id) (p := fun x => wholeD x 0 (c - 1)) (by simp [run_s, run_e, evStep, ssStep, stStep, evT, evI, evOr, evAnd, evs, evOpt, getV, lift, wipeE, isiD, PyData.isInt, PyData.isBool, PyData.isTuple, PyData.isStr, PyData.isList, cmpB, cmpD, isD, ltD, dpt, PyData.depth, PyData.depthAll, PyData.eqv, PyData.eqvAll, ixD, atI, ixN, itemsOf, seqOf, zipD, enmD, slD, cut_tail, binD, blt_lenT, blt_lenL, blt_tup, bindT, bindTs]) hx (fun x hx => ⟨_, rfl, by simp [run_s, run_e, evStep, ssStep, stStep, evT, evI, evOr, evAnd, evs, evOpt, getV, lift, wipeE, isiD, PyData.isInt, PyData.isBool, PyData.isTuple, PyData.isStr, PyData.isList, cmpB, cmpD, isD, ltD, dpt, PyData.depth, PyData.depthAll, PyData.eqv, PyData.eqvAll, ixD, atI, ixN, itemsOf, seqOf, zipD, enmD, slD, cut_tail, binD, blt_lenT, blt_lenL, blt_tup, bindT, bindTs, whole_any]⟩)
      cases hb : (a :: r).all (fun x => wholeD x 0 (c - 1)) with
      | false =>
        rw [hb] at all
        have e : lotB c (.tuple (a :: r)) = false := by simp only [lotB, hb, Bool.and_false, Bool.false_and]
        rw [e]
        exact ss_ifr ((e_or0 (S1 := S) (by simp [run_s, run_e, evStep, ssStep, stStep, evT, evI, evOr, evAnd, evs, evOpt, getV, lift, wipeE, isiD, PyData.isInt, PyData.isBool, PyData.isTuple, PyData.isStr, PyData.isList, cmpB, cmpD, isD, ltD, dpt, PyData.depth, PyData.depthAll, PyData.eqv, PyData.eqvAll, ixD, atI, ixN, itemsOf, seqOf, zipD, enmD, slD, cut_tail, binD, blt_lenT, blt_lenL, blt_tup, bindT, bindTs])).trans ((e_or0 (S1 := S) (by simp [run_s, run_e, evStep, ssStep, stStep, evT, evI, evOr, evAnd, evs, evOpt, getV, lift, wipeE, isiD, PyData.isInt, PyData.isBool, PyData.isTuple, PyData.isStr, PyData.isList, cmpB, cmpD, isD, ltD, dpt, PyData.depth, PyData.depthAll, PyData.eqv, PyData.eqvAll, ixD, atI, ixN, itemsOf, seqOf, zipD, enmD, slD, cut_tail, binD, blt_lenT, blt_lenL, blt_tup, bindT, bindTs])).trans (e_orZ.trans (e_not all)))) rfl
      | true =>
        obtain ⟨ns, he⟩ := ints_whole hb
        rw [hb] at all
        have e : lotB c (.tuple (a :: r)) = ascB ns := by simp only [lotB, hb, List.isEmpty_cons, Bool.not_false, Bool.true_and]; rw [he, intsOf_map]
        rw [e]
        refine (ss_if0 (S1 := S) ((e_or0 (S1 := S) (by simp [run_s, run_e, evStep, ssStep, stStep, evT, evI, evOr, evAnd, evs, evOpt, getV, lift, wipeE, isiD, PyData.isInt, PyData.isBool, PyData.isTuple, PyData.isStr, PyData.isList, cmpB, cmpD, isD, ltD, dpt, PyData.depth, PyData.depthAll, PyData.eqv, PyData.eqvAll, ixD, atI, ixN, itemsOf, seqOf, zipD, enmD, slD, cut_tail, binD, blt_lenT, blt_lenL, blt_tup, bindT, bindTs])).trans ((e_or0 (S1 := S) (by simp [run_s, run_e, evStep, ssStep, stStep, evT, evI, evOr, evAnd, evs, evOpt, getV, lift, wipeE, isiD, PyData.isInt, PyData.isBool, PyData.isTuple, PyData.isStr, PyData.isList, cmpB, cmpD, isD, ltD, dpt, PyData.depth, PyData.depthAll, PyData.eqv, PyData.eqvAll, ixD, atI, ixN, itemsOf, seqOf, zipD, enmD, slD, cut_tail, binD, blt_lenT, blt_lenL, blt_tup, bindT, bindTs])).trans (e_orZ.trans (e_not all))))).trans ?_
        · refine ss_ret (st_return ?_)
          have k := e_all (P := P) (n := n + 12) (Γ := [some (.int c), some (.tuple (a :: r)), none, none, none]) (S := S) (elt := .cmp .Lt (.var 3) (.var 4)) (it := .zip (.var 1) (.sl (.var 1) (some (.con (.int 1))) none)) (t := .tp [(.nm 3), (.nm 4)]) (own := [3, 4]) (xs := ns.zip (ns.drop 1)) (f := fun p => .tuple [.int p.1, .int p.2]) (p := fun p => decide (p.1 < p.2)) (by
            have z := zip_tail_map PyData.int ns
            rw [he]
            simp [run_s, run_e, evStep, ssStep, stStep, evT, evI, evOr, evAnd, evs, evOpt, getV, lift, wipeE, isiD, PyData.isInt, PyData.isBool, PyData.isTuple, PyData.isStr, PyData.isList, cmpB, cmpD, isD, ltD, dpt, PyData.depth, PyData.depthAll, PyData.eqv, PyData.eqvAll, ixD, atI, ixN, itemsOf, seqOf, zipD, enmD, slD, cut_tail, binD, blt_lenT, blt_lenL, blt_tup, bindT, bindTs] at z ⊢
            exact z) (by rw [List.length_zip]; have := congrArg List.length he; rw [List.length_map] at this; omega) (fun p hp => ⟨_, rfl, by simp [run_s, run_e, evStep, ssStep, stStep, evT, evI, evOr, evAnd, evs, evOpt, getV, lift, wipeE, isiD, PyData.isInt, PyData.isBool, PyData.isTuple, PyData.isStr, PyData.isList, cmpB, cmpD, isD, ltD, dpt, PyData.depth, PyData.depthAll, PyData.eqv, PyData.eqvAll, ixD, atI, ixN, itemsOf, seqOf, zipD, enmD, slD, cut_tail, binD, blt_lenT, blt_lenL, blt_tup, bindT, bindTs]⟩)
          exact k
  · have e : lotB c d = false := by cases d <;> first | rfl | exact absurd ⟨_, rfl⟩ ht
    rw [e]
    cases d <;> first | exact absurd ⟨_, rfl⟩ ht | simp [run_s, run_e, evStep, ssStep, stStep, evT, evI, evOr, evAnd, evs, evOpt, getV, lift, wipeE, isiD, PyData.isInt, PyData.isBool, PyData.isTuple, PyData.isStr, PyData.isList, cmpB, cmpD, isD, ltD, dpt, PyData.depth, PyData.depthAll, PyData.eqv, PyData.eqvAll, ixD, atI, ixN, itemsOf, seqOf, zipD, enmD, slD, cut_tail, binD, blt_lenT, blt_lenL, blt_tup, bindT, bindTs, b_is_lot]
end
end PD
/-! PX2: what the functions of shapes.py and fairness.py do with good shapes. -/
namespace PD
open PySem L2
/-! ### rules -/
section
variable {P : Prg} {n : Nat} {Γ : Env} {S S1 S2 : Draw}
theorem e_cmp {op : CmpOp} {a b : Ex} {x y : PyData} {k : Bool} (ha : (run P n).e Γ S a = .ok x S1) (hb : (run P n).e Γ S1 b = .ok y S2) (hc : cmpD op x y = some k) : (run P (n + 1)).e Γ S (.cmp op a b) = .ok (.bool k) S2 := by
  show ((run P n).e Γ S a).bind _ = _
  rw [ha, Res.bind_ok, hb, Res.bind_ok, cmpB, hc]; rfl
theorem e_bin {op : Operator} {a b : Ex} {x y d : PyData} (ha : (run P n).e Γ S a = .ok x S1) (hb : (run P n).e Γ S1 b = .ok y S2) (hc : binD op x y = some d) : (run P (n + 1)).e Γ S (.bin op a b) = .ok d S2 := by
  show ((run P n).e Γ S a).bind _ = _
  rw [ha, Res.bind_ok, hb, Res.bind_ok, hc]; rfl
theorem e_idx {a b : Ex} {x y d : PyData} (ha : (run P n).e Γ S a = .ok x S1) (hb : (run P n).e Γ S1 b = .ok y S2) (hc : ixD x y = some d) : (run P (n + 1)).e Γ S (.idx a b) = .ok d S2 := by
  show ((run P n).e Γ S a).bind _ = _
  rw [ha, Res.bind_ok, hb, Res.bind_ok, hc]; rfl
theorem e_call {j : Nat} {es : List Ex} {xs : List PyData} {d : PyData} (h : evs ((run P n).e Γ) es S = .ok xs S1) (hc : (run P n).c j xs S1 = .ok d S2) : (run P (n + 1)).e Γ S (.call j es) = .ok d S2 := by
  show ((evs ((run P n).e Γ) es S).bind _) = _
  rw [h, Res.bind_ok, hc]
theorem evs_cons {f : Draw → Ex → Res PyData} {e : Ex} {r : List Ex} {x : PyData} {xs : List PyData} (h : f S e = .ok x S1) (hr : evs f r S1 = .ok xs S2) : evs f (e :: r) S = .ok (x :: xs) S2 := by
  show (f S e).bind _ = _
  rw [h, Res.bind_ok, hr]; rfl
theorem evs_one {f : Draw → Ex → Res PyData} {e : Ex} {x : PyData} (h : f S e = .ok x S1) : evs f [e] S = .ok [x] S1 := evs_cons h rfl
theorem e_tup {es : List Ex} {xs : List PyData} (h : evs ((run P n).e Γ) es S = .ok xs S1) (hl : xs.length ≤ 16777216) : (run P (n + 1)).e Γ S (.tup es) = .ok (.tuple xs) S1 := by
  show (evs ((run P n).e Γ) es S).bind _ = _
  rw [h, Res.bind_ok, if_pos hl]
theorem e_lst {es : List Ex} {xs : List PyData} (h : evs ((run P n).e Γ) es S = .ok xs S1) (hl : xs.length ≤ 16777216) : (run P (n + 1)).e Γ S (.lst es) = .ok (.list xs) S1 := by
  show (evs ((run P n).e Γ) es S).bind _ = _
  rw [h, Res.bind_ok, if_pos hl]
theorem e_ite1 {c a b : Ex} (h : (run P n).e Γ S c = .ok (.bool true) S1) : (run P (n + 1)).e Γ S (.ite c a b) = (run P n).e Γ S1 a := by
  show (evT (run P n) Γ S c).bind _ = _
  rw [evT_ok h]; rfl
theorem e_ite0 {c a b : Ex} (h : (run P n).e Γ S c = .ok (.bool false) S1) : (run P (n + 1)).e Γ S (.ite c a b) = (run P n).e Γ S1 b := by
  show (evT (run P n) Γ S c).bind _ = _
  rw [evT_ok h]; rfl
theorem ss_exp {r : Fns} {e : Ex} {d : PyData} {ss : List Sx} (h : r.e Γ S e = .ok d S1) : ssStep r Γ S (.exp e :: ss) = ssStep r Γ S1 ss := ss_nx (by
  show (r.e Γ S e).out _ = _
  rw [h]; rfl)
theorem ss_asg {r : Fns} {e : Ex} {d : PyData} {i : Nat} {ss : List Sx} (h : r.e Γ S e = .ok d S1) : ssStep r Γ S (.asg (.nm i) e :: ss) = ssStep r (Γ.set i (some d)) S1 ss := ss_nx (st_asg h)
theorem ss_rt {r : Fns} {e : Ex} {d : PyData} {ss : List Sx} (h : r.e Γ S e = .ok d S1) : ssStep r Γ S (.ret e :: ss) = .ret d S1 := ss_ret (st_return h)
end
theorem flat_len {α β : Type} {f : α → List β} {k : Nat} : ∀ {xs : List α}, (∀ x ∈ xs, (f x).length ≤ k) → (xs.flatMap f).length ≤ xs.length * k
  | [], _ => by simp
  | x :: xs, h => by
    rw [List.flatMap_cons, List.length_append, List.length_cons, Nat.add_mul]
    have := flat_len (xs := xs) (k := k) fun y hy => h y (List.mem_cons_of_mem _ hy)
    have := h x List.mem_cons_self
    omega
theorem cmpL_flat {α : Type} {body : PyData → Draw → Res (List PyData)} {f : α → PyData} {g : α → List PyData} {S : Draw} {xs : List α} (h : ∀ x ∈ xs, body (f x) S = .ok (g x) S) : cmpL body (xs.map f) S = .ok (xs.flatMap g) S := by
  induction xs with
  | nil => rfl
  | cons x xs ih =>
    rw [List.map_cons]
    unfold cmpL
    rw [h x List.mem_cons_self, Res.bind_ok, ih fun y hy => h y (List.mem_cons_of_mem _ hy)]
    rfl
/-- [elt for t in it for t2 in it2] -/
theorem e_comp2 {α β : Type} {P : Prg} {n : Nat} {Γ : Env} {elt it it2 : Ex} {t t2 : Tg} {own own2 : List Nat} {S : Draw} {xs : List α} {f : α → PyData} {ys : α → List β} {f2 : β → PyData} {g : α → β → PyData} (hI : evI (run P n) Γ S it = .ok (xs.map f) S) (hl : (xs.flatMap fun x => (ys x).map (g x)).length ≤ 16777216)
    (hb : ∀ x ∈ xs, ∃ Γ', bindT t (f x) (wipeE Γ own) = some Γ' ∧ evI (run P n) Γ' S it2 = .ok ((ys x).map f2) S ∧ ∀ y ∈ ys x, ∃ Γ2, bindT t2 (f2 y) (wipeE Γ' own2) = some Γ2 ∧ (run P n).e Γ2 S elt = .ok (g x y) S) :
    (run P (n + 1)).e Γ S (.comp2 elt t it [] t2 it2 [] own own2) = .ok (.list (xs.flatMap fun x => (ys x).map (g x))) S := by
  show (evComp2 (run P n) Γ elt t it [] t2 it2 [] own own2 S).bind _ = _
  unfold evComp2
  rw [hI, Res.bind_ok, cmpL_flat (g := fun x => (ys x).map (g x)) fun x hx => ?_]
  · rw [few_ok' hl]; rfl
  · obtain ⟨Γ', h1, h2, h3⟩ := hb x hx
    simp only [h1, evTs, Res.bind_ok, if_true, h2]
    refine cmpL_map fun y hy => ?_
    obtain ⟨Γ2, h4, h5⟩ := h3 y hy
    simp only [h4, evTs, Res.bind_ok, if_true, h5]
/-- a loop that looks for the first -/
theorem forL_find {α : Type} {t : Tg} {body : Env → Draw → Out} {f g : α → PyData} {p : α → Bool} {S : Draw} (E : Env → Prop) : ∀ (xs : List α) (Γ : Env), E Γ → (∀ x ∈ xs, ∀ Γ, E Γ → ∃ Γ', bindT t (f x) Γ = some Γ' ∧ (p x = true → body Γ' S = .ret (g x) S) ∧ (p x = false → ∃ Γ2, body Γ' S = .nx Γ2 S ∧ E Γ2)) →
    (∀ x, xs.find? p = some x → forL t body (xs.map f) Γ S = .ret (g x) S) ∧ (xs.find? p = none → ∃ Γ2, forL t body (xs.map f) Γ S = .nx Γ2 S ∧ E Γ2)
  | [], Γ, e, _ => ⟨fun x h => (by cases h), fun _ => ⟨Γ, rfl, e⟩⟩
  | x :: xs, Γ, e, h => by
    obtain ⟨Γ', h1, h2, h3⟩ := h x List.mem_cons_self Γ e
    rw [List.map_cons, List.find?_cons]
    unfold forL
    rw [h1]
    dsimp only
    cases hp : p x with
    | true => rw [h2 hp]; exact ⟨fun y hy => by cases hy; rfl, fun z => by cases z⟩
    | false =>
      obtain ⟨Γ2, h4, h5⟩ := h3 hp
      rw [h4]
      exact forL_find E xs Γ2 h5 fun y hy => h y (List.mem_cons_of_mem _ hy)
/-! ### rows, lots, shapes -/
def upTo (t : Int) : List Int := (List.range t.toNat).map fun (i : Nat) => (i : Int)
theorem upTo_rng (t : Int) : rngL 0 t.toNat = (upTo t).map PyData.int := by
  unfold rngL upTo
  rw [List.map_map]
  refine List.map_congr_left fun i _ => ?_
  simp
theorem upTo_len (t : Int) : (upTo t).length = t.toNat := by simp [upTo]
theorem upTo_mem {t i : Int} : i ∈ upTo t ↔ 0 ≤ i ∧ i < t := by
  unfold upTo
  rw [List.mem_map]
  constructor
  · rintro ⟨k, hk, rfl⟩
    have := List.mem_range.mp hk
    omega
  · rintro ⟨h0, h1⟩
    exact ⟨i.toNat, List.mem_range.mpr (by omega), by omega⟩
theorem upTo_pw (t : Int) : (upTo t).Pairwise (· < ·) := by
  unfold upTo
  rw [List.pairwise_map]
  exact (List.pairwise_lt_range).imp fun h => by omega
/-- a lot of c cells -/
structure Lot (c : Int) (ns : List Int) : Prop where
  ne : ns ≠ []
  low : ∀ i ∈ ns, 0 ≤ i ∧ i ≤ c - 1
  up : ns.Pairwise (· < ·)
theorem asc_len : ∀ {ns : List Int} {k : Int} {m : Nat}, ns.Pairwise (· < ·) → (∀ i ∈ ns, k ≤ i ∧ i < k + m) → ns.length ≤ m
  | [], _, _, _, _ => by simp
  | a :: r, k, m, h, hb => by
    obtain ⟨h1, h2⟩ := List.pairwise_cons.mp h
    have ha := hb a List.mem_cons_self
    cases m with
    | zero => omega
    | succ m =>
      have := asc_len (ns := r) (k := k + 1) (m := m) h2 fun i hi => by
        have := h1 i hi
        have := hb i (List.mem_cons_of_mem _ hi)
        omega
      simp only [List.length_cons]
      omega
theorem Lot.len {c : Int} {ns : List Int} (h : Lot c ns) : ns.length ≤ c.toNat := by
  refine asc_len (k := 0) h.up fun i hi => ?_
  have := h.low i hi
  omega
theorem lotB_row {c : Int} {ns : List Int} : lotB c (rowD ns) = true ↔ Lot c ns := by
  simp only [lotB, rowD, intsOf_map, Bool.and_eq_true, Bool.not_eq_true', List.isEmpty_eq_false_iff, List.all_map, List.all_eq_true, Function.comp, wholeD, decide_eq_true_eq, ascB_iff]
  constructor
  · rintro ⟨⟨h1, h2⟩, h3⟩
    exact ⟨fun e => h1 (by rw [e]; rfl), h2, h3⟩
  · rintro ⟨h1, h2, h3⟩
    exact ⟨⟨fun e => h1 (List.map_eq_nil_iff.mp e), h2⟩, h3⟩
def shpD (c : Int) (ls : List (List Int)) : PyData := .tuple [.int c, .tuple (ls.map rowD)]
structure Shp (c : Int) (ls : List (List Int)) : Prop where
  c1 : 1 ≤ c
  c8 : c ≤ 8
  len : ls.length ≤ 8
  lot : ∀ l ∈ ls, Lot c l
  up : ls.Pairwise (· < ·)
theorem Shp.l8 {c : Int} {ls : List (List Int)} (h : Shp c ls) {l : List Int} (hl : Lot c l) : l.length ≤ 8 := by
  have := hl.len
  have := h.c8
  omega
theorem zip_up : ∀ {ls : List (List Int)}, ls.Pairwise (· < ·) → ((ls.zip (ls.drop 1)).all fun p => HT.lexLt p.1 p.2) = true
  | [], _ => rfl
  | [_], _ => rfl
  | a :: b :: r, h => by
    have ih := zip_up (List.pairwise_cons.mp h).2
    have h1 := (List.pairwise_cons.mp h).1 b List.mem_cons_self
    simp only [List.drop_succ_cons, List.drop_zero, List.zip_cons_cons, List.all_cons, Bool.and_eq_true] at ih ⊢
    exact ⟨by rw [lexLt_lt]; exact decide_eq_true h1, ih⟩
section
variable {P : Prg}
theorem lot_row [F_is_lot P] (n : Nat) {c : Int} {ns : List Int} (S : Draw) (h : Lot c ns) (hc : c ≤ 1000) : (run P (n + 16)).c 1 [.int c, rowD ns] S = .ok (.bool true) S := by
  rw [lot_any n c (rowD ns) S fun xs e => by
    cases e
    rw [List.length_map]
    have := h.len
    omega, lotB_row.mpr h]
theorem shape_ok [F_need_shape P] (n : Nat) {c : Int} {ls : List (List Int)} (S : Draw) (h : Shp c ls) : (run P (n + 24)).c 2 [shpD c ls] S = .ok (shpD c ls) S := by
  have hl := h.len
  have w := whole_any (P := P) (n + 12) (.int c) 1 8 S
  refine call_has F_need_shape.h_need_shape rfl ?_
  refine (ss_if0 (S1 := S) (by simp [run_s, run_e, evStep, ssStep, stStep, evT, evI, evOr, evAnd, evs, evOpt, getV, lift, wipeE, isiD, PyData.isInt, PyData.isBool, PyData.isTuple, PyData.isStr, PyData.isList, cmpB, cmpD, isD, ltD, dpt, PyData.depth, PyData.depthAll, PyData.eqv, PyData.eqvAll, ixD, atI, ixN, itemsOf, seqOf, zipD, enmD, slD, cut_tail, binD, blt_lenT, blt_lenL, blt_tup, bindT, bindTs, shpD])).trans ?_
  refine (ss_if0 (S1 := S) (by simp [run_s, run_e, evStep, ssStep, stStep, evT, evI, evOr, evAnd, evs, evOpt, getV, lift, wipeE, isiD, PyData.isInt, PyData.isBool, PyData.isTuple, PyData.isStr, PyData.isList, cmpB, cmpD, isD, ltD, dpt, PyData.depth, PyData.depthAll, PyData.eqv, PyData.eqvAll, ixD, atI, ixN, itemsOf, seqOf, zipD, enmD, slD, cut_tail, binD, blt_lenT, blt_lenL, blt_tup, bindT, bindTs, shpD, whole_any, wholeD, h.c1, h.c8])).trans ?_
  refine (ss_if0 (S1 := S) (by simp [run_s, run_e, evStep, ssStep, stStep, evT, evI, evOr, evAnd, evs, evOpt, getV, lift, wipeE, isiD, PyData.isInt, PyData.isBool, PyData.isTuple, PyData.isStr, PyData.isList, cmpB, cmpD, isD, ltD, dpt, PyData.depth, PyData.depthAll, PyData.eqv, PyData.eqvAll, ixD, atI, ixN, itemsOf, seqOf, zipD, enmD, slD, cut_tail, binD, blt_lenT, blt_lenL, blt_tup, bindT, bindTs, shpD]; omega)).trans ?_
  refine (ss_if0 (S1 := S) (e_not (b := true) ?_)).trans ?_
  · have k := e_all (P := P) (n := n + 19) (Γ := [some (shpD c ls), none, none, none]) (S := S) (elt := .call 1 [(.idx (.var 0) (.con (.int 0))), (.var 1)]) (it := .idx (.var 0) (.con (.int 1))) (t := .nm 1) (own := [1]) (xs := ls) (f := rowD) (p := fun _ => true) (by simp [run_s, run_e, evStep, ssStep, stStep, evT, evI, evOr, evAnd, evs, evOpt, getV, lift, wipeE, isiD, PyData.isInt, PyData.isBool, PyData.isTuple, PyData.isStr, PyData.isList, cmpB, cmpD, isD, ltD, dpt, PyData.depth, PyData.depthAll, PyData.eqv, PyData.eqvAll, ixD, atI, ixN, itemsOf, seqOf, zipD, enmD, slD, cut_tail, binD, blt_lenT, blt_lenL, blt_tup, bindT, bindTs, shpD]) (by omega) (fun l hm => ⟨_, rfl, by
      simp [run_s, run_e, evStep, ssStep, stStep, evT, evI, evOr, evAnd, evs, evOpt, getV, lift, wipeE, isiD, PyData.isInt, PyData.isBool, PyData.isTuple, PyData.isStr, PyData.isList, cmpB, cmpD, isD, ltD, dpt, PyData.depth, PyData.depthAll, PyData.eqv, PyData.eqvAll, ixD, atI, ixN, itemsOf, seqOf, zipD, enmD, slD, cut_tail, binD, blt_lenT, blt_lenL, blt_tup, bindT, bindTs, shpD, lot_row _ S (h.lot l hm) (show c ≤ 1000 by have := h.c8; omega)]⟩)
    rw [show (ls.all fun _ => true) = true by simp] at k
    exact k
  refine (ss_if0 (S1 := S) (e_not (b := true) ?_)).trans ?_
  · have k := e_all (P := P) (n := n + 19) (Γ := [some (shpD c ls), none, none, none]) (S := S) (elt := .cmp .Lt (.var 2) (.var 3)) (it := .zip (.idx (.var 0) (.con (.int 1))) (.sl (.idx (.var 0) (.con (.int 1))) (some (.con (.int 1))) none)) (t := .tp [(.nm 2), (.nm 3)]) (own := [2, 3]) (xs := ls.zip (ls.drop 1)) (f := fun p => .tuple [rowD p.1, rowD p.2]) (p := fun p => HT.lexLt p.1 p.2)
      (by
        have z := zip_tail_map rowD ls
        simp [run_s, run_e, evStep, ssStep, stStep, evT, evI, evOr, evAnd, evs, evOpt, getV, lift, wipeE, isiD, PyData.isInt, PyData.isBool, PyData.isTuple, PyData.isStr, PyData.isList, cmpB, cmpD, isD, ltD, dpt, PyData.depth, PyData.depthAll, PyData.eqv, PyData.eqvAll, ixD, atI, ixN, itemsOf, seqOf, zipD, enmD, slD, cut_tail, binD, blt_lenT, blt_lenL, blt_tup, bindT, bindTs, shpD] at z ⊢
        exact z) (by rw [List.length_zip]; omega) (fun p hm => ⟨_, rfl, by simp [run_s, run_e, evStep, ssStep, stStep, evT, evI, evOr, evAnd, evs, evOpt, getV, lift, wipeE, isiD, PyData.isInt, PyData.isBool, PyData.isTuple, PyData.isStr, PyData.isList, cmpB, cmpD, isD, ltD, dpt, PyData.depth, PyData.depthAll, PyData.eqv, PyData.eqvAll, ixD, atI, ixN, itemsOf, seqOf, zipD, enmD, slD, cut_tail, binD, blt_lenT, blt_lenL, blt_tup, bindT, bindTs, rowD, intsOf_map]⟩)
    rw [zip_up h.up] at k
    exact k
  exact ss_rt rfl
theorem need_lot_ok [F_need_lot P] (n : Nat) {c : Int} {ls : List (List Int)} {l : List Int} (S : Draw) (h : Shp c ls) (hl : Lot c l) : (run P (n + 30)).c 3 [shpD c ls, rowD l] S = .ok .none S := by
  refine call_hasN (Γ := [some (shpD c ls), some (rowD l)]) F_need_lot.h_need_lot rfl ?_
  refine (ss_if0 (S1 := S) (e_not (b := true) ?_)).trans rfl
  refine e_call (xs := [.int c, rowD l]) (S1 := S) ?_ (lot_row (n + 10) S hl (by have := h.c8; omega))
  simp [run_s, run_e, evStep, ssStep, stStep, evT, evI, evOr, evAnd, evs, evOpt, getV, lift, wipeE, isiD, PyData.isInt, PyData.isBool, PyData.isTuple, PyData.isStr, PyData.isList, cmpB, cmpD, isD, ltD, dpt, PyData.depth, PyData.depthAll, PyData.eqv, PyData.eqvAll, ixD, atI, ixN, itemsOf, seqOf, zipD, enmD, slD, cut_tail, binD, blt_lenT, blt_lenL, blt_tup, bindT, bindTs, shape_ok _ S h]
  simp [run_s, run_e, evStep, ssStep, stStep, evT, evI, evOr, evAnd, evs, evOpt, getV, lift, wipeE, isiD, PyData.isInt, PyData.isBool, PyData.isTuple, PyData.isStr, PyData.isList, cmpB, cmpD, isD, ltD, dpt, PyData.depth, PyData.depthAll, PyData.eqv, PyData.eqvAll, ixD, atI, ixN, itemsOf, seqOf, zipD, enmD, slD, cut_tail, binD, blt_lenT, blt_lenL, blt_tup, bindT, bindTs, shpD]
/-! ### all lots -/
def LF : Nat → Int → List (List Int)
  | 0, _ => []
  | m + 1, k => [k] :: ((LF m (k + 1)).map (k :: ·) ++ LF m (k + 1))
theorem LF_succ (m : Nat) (k : Int) : LF (m + 1) k = [k] :: ((LF m (k + 1)).map (k :: ·) ++ LF m (k + 1)) := rfl
theorem LF_mem : ∀ {m : Nat} {k : Int} {l : List Int}, l ∈ LF m k ↔ l ≠ [] ∧ l.Pairwise (· < ·) ∧ ∀ i ∈ l, k ≤ i ∧ i < k + m
  | 0, k, l => by
    constructor
    · intro h; cases h
    · rintro ⟨h1, _, h3⟩
      obtain ⟨a, r, rfl⟩ := List.exists_cons_of_ne_nil h1
      have := h3 a List.mem_cons_self
      omega
  | m + 1, k, l => by
    unfold LF
    rw [List.mem_cons, List.mem_append, List.mem_map]
    constructor
    · rintro (rfl | ⟨l, hl, rfl⟩ | hl)
      · exact ⟨by simp, by simp, fun i hi => by simp at hi; omega⟩
      · obtain ⟨h1, h2, h3⟩ := LF_mem.mp hl
        refine ⟨by simp, List.pairwise_cons.mpr ⟨fun i hi => ?_, h2⟩, fun i hi => ?_⟩
        · have := h3 i hi
          omega
        · rcases List.mem_cons.mp hi with rfl | hi
          · omega
          · have := h3 i hi
            omega
      · obtain ⟨h1, h2, h3⟩ := LF_mem.mp hl
        exact ⟨h1, h2, fun i hi => by have := h3 i hi; omega⟩
    · rintro ⟨h1, h2, h3⟩
      obtain ⟨a, r, rfl⟩ := List.exists_cons_of_ne_nil h1
      obtain ⟨p1, p2⟩ := List.pairwise_cons.mp h2
      have ha := h3 a List.mem_cons_self
      by_cases e : a = k
      · subst e
        cases r with
        | nil => exact .inl rfl
        | cons b r =>
          refine .inr (.inl ⟨b :: r, LF_mem.mpr ⟨by simp, p2, fun i hi => ?_⟩, rfl⟩)
          have := p1 i hi
          have := h3 i (List.mem_cons_of_mem _ hi)
          omega
      · refine .inr (.inr (LF_mem.mpr ⟨by simp, h2, fun i hi => ?_⟩))
        have := h3 i hi
        rcases List.mem_cons.mp hi with rfl | hi
        · omega
        · have := p1 i hi
          omega
theorem LF_up : ∀ (m : Nat) (k : Int), (LF m k).Pairwise (· < ·)
  | 0, _ => List.Pairwise.nil
  | m + 1, k => by
    have ih := LF_up m (k + 1)
    unfold LF
    refine List.pairwise_cons.mpr ⟨fun l hl => ?_, List.pairwise_append.mpr ⟨?_, ih, fun a ha b hb => ?_⟩⟩
    · rcases List.mem_append.mp hl with hl | hl
      · obtain ⟨r, hr, rfl⟩ := List.mem_map.mp hl
        obtain ⟨h1, _, _⟩ := LF_mem.mp hr
        obtain ⟨a, s, rfl⟩ := List.exists_cons_of_ne_nil h1
        simp [List.cons_lt_cons_iff]
      · obtain ⟨h1, _, h3⟩ := LF_mem.mp hl
        obtain ⟨a, s, rfl⟩ := List.exists_cons_of_ne_nil h1
        have := h3 a List.mem_cons_self
        rw [List.cons_lt_cons_iff]
        left; omega
    · rw [List.pairwise_map]
      exact ih.imp fun h => by rw [List.cons_lt_cons_iff]; exact .inr ⟨rfl, h⟩
    · obtain ⟨r, hr, rfl⟩ := List.mem_map.mp ha
      obtain ⟨h1, _, h3⟩ := LF_mem.mp hb
      obtain ⟨a, s, rfl⟩ := List.exists_cons_of_ne_nil h1
      have := h3 a List.mem_cons_self
      rw [List.cons_lt_cons_iff]
      left; omega
theorem LF_len : ∀ (m : Nat) (k : Int), (LF m k).length + 1 = 2 ^ m
  | 0, _ => rfl
  | m + 1, k => by
    have := LF_len m (k + 1)
    unfold LF
    simp only [List.length_cons, List.length_append, List.length_map]
    omega
theorem LF_lot {c : Int} {l : List Int} (h0 : 0 ≤ c) : l ∈ LF c.toNat 0 ↔ Lot c l := by
  rw [LF_mem]
  constructor
  · rintro ⟨h1, h2, h3⟩
    exact ⟨h1, fun i hi => by have := h3 i hi; omega, h2⟩
  · rintro ⟨h1, h2, h3⟩
    exact ⟨h1, h3, fun i hi => by have := h2 i hi; omega⟩
theorem LF_few {c : Int} (h : c ≤ 8) (k : Int) : (LF c.toNat k).length ≤ 255 := by
  have h1 := LF_len c.toNat k
  have h2 : 2 ^ c.toNat ≤ 2 ^ 8 := Nat.pow_le_pow_right (by decide) (by omega)
  omega
theorem lots_ok [F_lots_of P] (n : Nat) {c : Int} (S : Draw) (h0 : 0 ≤ c) (h8 : c ≤ 8) : (run P (n + 12)).c 7 [.int c] S = .ok (.list ((LF c.toNat 0).map rowD)) S := by
  refine call_has F_lots_of.h_lots_of rfl ?_
  refine (ss_asg (S1 := S) (d := .list []) (by simp [run_s, run_e, evStep, ssStep, stStep, evT, evI, evOr, evAnd, evs, evOpt, getV, lift, wipeE, isiD, PyData.isInt, PyData.isBool, PyData.isTuple, PyData.isStr, PyData.isList, cmpB, cmpD, isD, ltD, dpt, PyData.depth, PyData.depthAll, PyData.eqv, PyData.eqvAll, ixD, atI, ixN, itemsOf, seqOf, zipD, enmD, slD, cut_tail, binD, blt_lenT, blt_lenL, blt_tup, bindT, bindTs])).trans ?_
  have okc : okI (c - 1) = true := decide_eq_true (by omega)
  have okm : okI (-1) = true := by decide
  have key := forL_to (t := .nm 2) (body := fun Γ S => (run P (n + 10)).s Γ S [.asg (.nm 1) (.bin .Add (.bin .Add (.lst [(.tup [(.var 2)])]) (.comp (.bin .Add (.tup [(.var 2)]) (.var 3)) (.nm 3) (.var 1) [(.cmp .Gt (.idx (.var 3) (.con (.int 0))) (.var 2))] [3])) (.var 1))])
    (fun k => ([some (.int c), some (.list ((LF k (c - k)).map rowD)), if k = 0 then none else some (.int (c - k)), none], S)) (rngC (c - 1) (-1) c.toNat) 0 (fun i x hx => by
      unfold rngC at hx
      rw [List.getElem?_map, Option.map_eq_some_iff] at hx
      obtain ⟨j, hj, rfl⟩ := hx
      obtain ⟨hi, hj⟩ := List.getElem?_eq_some_iff.mp hj
      rw [List.getElem_range] at hj
      subst hj
      rw [List.length_range] at hi
      refine ⟨_, rfl, .inl ?_⟩
      have e1 : (c - 1 + (i : Int) * -1) = c - ((0 + i + 1 : Nat) : Int) := by omega
      rw [e1, Nat.zero_add]
      have few := LF_len i (c - i)
      have h28 : 2 ^ i ≤ 2 ^ 8 := Nat.pow_le_pow_right (by decide) (by omega)
      have cell : c - ((i + 1 : Nat) : Int) + 1 = c - i := by omega
      have cmp := e_compF (P := P) (n := n + 6) (Γ := [some (.int c), some (.list ((LF i (c - i)).map rowD)), some (.int (c - ((i + 1 : Nat) : Int))), none]) (S := S) (elt := .bin .Add (.tup [(.var 2)]) (.var 3)) (t := .nm 3) (it := .var 1) (c := .cmp .Gt (.idx (.var 3) (.con (.int 0))) (.var 2)) (own := [3]) (xs := LF i (c - i)) (f := rowD) (g := fun l => rowD ((c - ((i + 1 : Nat) : Int)) :: l)) (p := fun _ => true) (by simp [run_s, run_e, evStep, ssStep, stStep, evT, evI, evOr, evAnd, evs, evOpt, getV, lift, wipeE, isiD, PyData.isInt, PyData.isBool, PyData.isTuple, PyData.isStr, PyData.isList, cmpB, cmpD, isD, ltD, dpt, PyData.depth, PyData.depthAll, PyData.eqv, PyData.eqvAll, ixD, atI, ixN, itemsOf, seqOf, zipD, enmD, slD, cut_tail, binD, blt_lenT, blt_lenL, blt_tup, bindT, bindTs]) (by omega) (fun l hl => by
        obtain ⟨q1, q2, q3⟩ := LF_mem.mp hl
        obtain ⟨a, r, rfl⟩ := List.exists_cons_of_ne_nil q1
        have qa := q3 a List.mem_cons_self
        have lr : r.length + 1 ≤ i := by
          have := asc_len q2 q3
          simpa using this
        refine ⟨_, rfl, ?_, ?_⟩
        · simp [run_s, run_e, evStep, ssStep, stStep, evT, evI, evOr, evAnd, evs, evOpt, getV, lift, wipeE, isiD, PyData.isInt, PyData.isBool, PyData.isTuple, PyData.isStr, PyData.isList, cmpB, cmpD, isD, ltD, dpt, PyData.depth, PyData.depthAll, PyData.eqv, PyData.eqvAll, ixD, atI, ixN, itemsOf, seqOf, zipD, enmD, slD, cut_tail, binD, blt_lenT, blt_lenL, blt_tup, bindT, bindTs, rowD, show c - ((i : Int) + 1) < a by omega]
        · simp [run_s, run_e, evStep, ssStep, stStep, evT, evI, evOr, evAnd, evs, evOpt, getV, lift, wipeE, isiD, PyData.isInt, PyData.isBool, PyData.isTuple, PyData.isStr, PyData.isList, cmpB, cmpD, isD, ltD, dpt, PyData.depth, PyData.depthAll, PyData.eqv, PyData.eqvAll, ixD, atI, ixN, itemsOf, seqOf, zipD, enmD, slD, cut_tail, binD, blt_lenT, blt_lenL, blt_tup, bindT, bindTs, rowD, show 1 + (r.length + 1) ≤ 16777216 by omega])
      rw [List.filter_eq_self.mpr (by simp)] at cmp
      refine (ss_asg (S1 := S) (d := .list ((LF (i + 1) (c - ((i + 1 : Nat) : Int))).map rowD)) ?_).trans ?_
      · refine e_bin (e_bin (x := .list [rowD [c - ((i + 1 : Nat) : Int)]]) (S1 := S) (by simp [run_s, run_e, evStep, ssStep, stStep, evT, evI, evOr, evAnd, evs, evOpt, getV, lift, wipeE, isiD, PyData.isInt, PyData.isBool, PyData.isTuple, PyData.isStr, PyData.isList, cmpB, cmpD, isD, ltD, dpt, PyData.depth, PyData.depthAll, PyData.eqv, PyData.eqvAll, ixD, atI, ixN, itemsOf, seqOf, zipD, enmD, slD, cut_tail, binD, blt_lenT, blt_lenL, blt_tup, bindT, bindTs, rowD]) cmp (d := .list ([rowD [c - ((i + 1 : Nat) : Int)]] ++ (LF i (c - i)).map fun l => rowD ((c - ((i + 1 : Nat) : Int)) :: l))) ?_) (y := .list ((LF i (c - i)).map rowD)) (by simp [run_s, run_e, evStep, ssStep, stStep, evT, evI, evOr, evAnd, evs, evOpt, getV, lift, wipeE, isiD, PyData.isInt, PyData.isBool, PyData.isTuple, PyData.isStr, PyData.isList, cmpB, cmpD, isD, ltD, dpt, PyData.depth, PyData.depthAll, PyData.eqv, PyData.eqvAll, ixD, atI, ixN, itemsOf, seqOf, zipD, enmD, slD, cut_tail, binD, blt_lenT, blt_lenL, blt_tup, bindT, bindTs]) ?_
        · simp only [binD]
          rw [if_pos (by simp; omega)]
        · simp only [binD]
          rw [if_pos (by simp; omega)]
          rw [LF_succ, cell]
          simp [Function.comp]
      · show Out.nx _ _ = _
        simp)
  rw [Nat.zero_add] at key
  have len : (rngC (c - 1) (-1) c.toNat).length = c.toNat := by simp [rngC]
  rw [len] at key
  refine (ss_nx (Γ1 := _) (S1 := S) (st_for (xs := rngC (c - 1) (-1) c.toNat) (S0 := S) ?_ key)).trans ?_
  · have e : (c - 1 - -1 : Int).toNat = c.toNat := by congr 1; omega
    simp [run_s, run_e, evStep, ssStep, stStep, evT, evI, evOr, evAnd, evs, evOpt, getV, lift, wipeE, isiD, PyData.isInt, PyData.isBool, PyData.isTuple, PyData.isStr, PyData.isList, cmpB, cmpD, isD, ltD, dpt, PyData.depth, PyData.depthAll, PyData.eqv, PyData.eqvAll, ixD, atI, ixN, itemsOf, seqOf, zipD, enmD, slD, cut_tail, binD, blt_lenT, blt_lenL, blt_tup, bindT, bindTs, rngD, okc, okm, e]
  · have e : c - ((c.toNat : Nat) : Int) = 0 := by omega
    rw [e]
    exact ss_rt (by simp [run_s, run_e, evStep, ssStep, stStep, evT, evI, evOr, evAnd, evs, evOpt, getV, lift, wipeE, isiD, PyData.isInt, PyData.isBool, PyData.isTuple, PyData.isStr, PyData.isList, cmpB, cmpD, isD, ltD, dpt, PyData.depth, PyData.depthAll, PyData.eqv, PyData.eqvAll, ixD, atI, ixN, itemsOf, seqOf, zipD, enmD, slD, cut_tail, binD, blt_lenT, blt_lenL, blt_tup, bindT, bindTs])
end
end PD
/-! PX3: partings, clashes, papers. -/
namespace PD
open PySem L2
theorem eqv_int (i j : Int) : PyData.eqv (.int i) (.int j) = decide (i = j) := by
  by_cases h : i = j <;> simp [PyData.eqv, h]
theorem in_row (k : Int) (l : List Int) : inD (.int k) (rowD l) = some (decide (k ∈ l)) := by
  simp only [inD, rowD, PyData.depth, Nat.zero_le, true_or, if_true, List.any_map]
  congr 1
  rw [Bool.eq_iff_iff, List.any_eq_true, decide_eq_true_eq]
  simp only [Function.comp, eqv_int, decide_eq_true_eq]
  exact ⟨fun ⟨x, h1, h2⟩ => h2 ▸ h1, fun h => ⟨k, h, rfl⟩⟩
theorem ix_row {rs : List Int} {i : Int} (h0 : 0 ≤ i) (h1 : i < rs.length) : ixD (rowD rs) (.int i) = some (.int (rs.getD i.toNat 0)) := by
  have hi : i.toNat < rs.length := by omega
  simp only [ixD, rowD, atI, ixN, if_pos h0, List.length_map, if_pos h1, Option.bind_some, List.getElem?_map, List.getElem?_eq_getElem hi, Option.map_some, List.getD_eq_getElem?_getD, Option.getD_some]
theorem dep_row (l : List Int) : (rowD l).depth ≤ 100 := by have := row_depth l; omega
def absI (i : Int) : Int := if i < 0 then -i else i
def signs (l : List Int) (k : Int) : List Int := if k ∈ l then [-1, 1] else [0]
def SD (l : List Int) : Nat → List (List Int)
  | 0 => [[]]
  | k + 1 => (SD l k).flatMap fun row => (signs l k).map fun s => row ++ [s]
theorem signs_len (l : List Int) (k : Int) : (signs l k).length ≤ 2 := by unfold signs; split <;> simp
theorem SD_len (l : List Int) : ∀ k, (SD l k).length ≤ 2 ^ k
  | 0 => Nat.le_refl _
  | k + 1 => by
    have h1 := SD_len l k
    have h2 := flat_len (xs := SD l k) (f := fun row => (signs l k).map fun s => row ++ [s]) (k := 2) fun x _ => by rw [List.length_map]; exact signs_len l k
    show ((SD l k).flatMap fun row => (signs l k).map fun s => row ++ [s]).length ≤ _
    omega
theorem SD_row {l : List Int} : ∀ {k : Nat} {r : List Int}, r ∈ SD l k → r.length = k ∧ ∀ j < k, r.getD j 0 ∈ signs l j
  | 0, r, h => by
    have : r = [] := by simpa [SD] using h
    subst this
    exact ⟨rfl, fun j hj => by omega⟩
  | k + 1, r, h => by
    obtain ⟨q, hq, h⟩ := List.mem_flatMap.mp h
    obtain ⟨s, hs, rfl⟩ := List.mem_map.mp h
    obtain ⟨h1, h2⟩ := SD_row hq
    refine ⟨by simp [h1], fun j hj => ?_⟩
    by_cases e : j < k
    · rw [List.getD_eq_getElem?_getD, List.getElem?_append_left (by omega), ← List.getD_eq_getElem?_getD]
      exact h2 j e
    · have : j = k := by omega
      subst this
      rw [List.getD_eq_getElem?_getD, List.getElem?_append_right (by omega)]
      simpa [h1] using hs
theorem SD_mem {l : List Int} : ∀ {k : Nat} {r : List Int}, r.length = k → (∀ j < k, r.getD j 0 ∈ signs l j) → r ∈ SD l k
  | 0, r, h, _ => by
    cases r with
    | nil => simp [SD]
    | cons _ _ => simp at h
  | k + 1, r, h, h2 => by
    have hr : r ≠ [] := by rintro rfl; simp at h
    have e := List.dropLast_concat_getLast hr
    have hl : r.dropLast.length = k := by simp [h]
    rw [← e]
    refine List.mem_flatMap.mpr ⟨r.dropLast, SD_mem hl fun j hj => ?_, List.mem_map.mpr ⟨r.getLast hr, ?_, rfl⟩⟩
    · have := h2 j (by omega)
      rw [← e, List.getD_eq_getElem?_getD, List.getElem?_append_left (by omega), ← List.getD_eq_getElem?_getD] at this
      exact this
    · have := h2 k (by omega)
      rw [← e, List.getD_eq_getElem?_getD, List.getElem?_append_right (by omega)] at this
      simpa [hl] using this
def sumAt (rs l : List Int) : Int := (l.map fun i => rs.getD i.toNat 0).sum
def evenB (ls : List (List Int)) (rs : List Int) (m : Int) : Bool := ls.all fun l => decide (absI (sumAt rs l) ≤ m)
def partO (c : Int) (ls : List (List Int)) (l : List Int) : Option (List Int) := (SD l c.toNat).find? fun r => evenB ls r 1
def clashO (c : Int) (ls : List (List Int)) : Option (List Int) := (LF c.toNat 0).find? fun l => (partO c ls l).isNone
def optD : Option (List Int) → PyData
  | none => .none
  | some r => rowD r
theorem isD_opt (o : Option (List Int)) : cmpD .Is (optD o) .none = some o.isNone := by cases o <;> rfl
theorem isN_opt (o : Option (List Int)) : cmpD .IsNot (optD o) .none = some o.isSome := by cases o <;> rfl
theorem ss_forR {r : Fns} {Γ : Env} {S S0 S1 : Draw} {t : Tg} {it : Ex} {b ss : List Sx} {xs : List PyData} {d : PyData} (hI : evI r Γ S it = .ok xs S0) (h : forL t (fun Γ S => r.s Γ S b) xs Γ S0 = .ret d S1) : ssStep r Γ S (.fr t it b :: ss) = .ret d S1 := ss_ret (by
  show (evI r Γ S it).out _ = _
  rw [hI]; exact h)
section
variable {P : Prg}
def sidesB : List Sx := [.asg (.nm 2) (.comp2 (.bin .Add (.var 4) (.tup [(.var 5)])) (.nm 4) (.var 2) [] (.nm 5) (.ite (.cmp .In (.var 3) (.var 1)) (.tup [(.neg (.con (.int 1))), (.con (.int 1))]) (.tup [(.con (.int 0))])) [] [4, 5] [5])]
theorem signs_ev (n : Nat) (l : List Int) (i : Int) (Γ : Env) (S : Draw) (h3 : getV Γ 3 = some (.int i)) (h1 : getV Γ 1 = some (rowD l)) : evI (run P (n + 5)) Γ S (.ite (.cmp .In (.var 3) (.var 1)) (.tup [(.neg (.con (.int 1))), (.con (.int 1))]) (.tup [(.con (.int 0))])) = .ok ((signs l i).map .int) S := by
  have v3 : (run P (n + 3)).e Γ S (.var 3) = .ok (.int i) S := by show lift (getV Γ 3) S = _; rw [h3]; rfl
  have v1 : (run P (n + 3)).e Γ S (.var 1) = .ok (rowD l) S := by show lift (getV Γ 1) S = _; rw [h1]; rfl
  have cnd := e_cmp (P := P) (op := .In) v3 v1 (in_row i l)
  show ((run P (n + 5)).e Γ S _).bind _ = _
  by_cases hm : i ∈ l
  · rw [decide_eq_true hm] at cnd
    rw [show signs l i = [-1, 1] by simp [signs, hm], e_ite1 cnd]
    simp [run_s, run_e, evStep, ssStep, stStep, evT, evI, evOr, evAnd, evs, evOpt, getV, lift, wipeE, isiD, PyData.isInt, PyData.isBool, PyData.isTuple, PyData.isStr, PyData.isList, cmpB, cmpD, isD, ltD, dpt, PyData.depth, PyData.depthAll, PyData.eqv, PyData.eqvAll, ixD, atI, ixN, itemsOf, seqOf, zipD, enmD, slD, cut_tail, binD, blt_lenT, blt_lenL, blt_tup, bindT, bindTs]
  · rw [decide_eq_false hm] at cnd
    rw [show signs l i = [0] by simp [signs, hm], e_ite0 cnd]
    simp [run_s, run_e, evStep, ssStep, stStep, evT, evI, evOr, evAnd, evs, evOpt, getV, lift, wipeE, isiD, PyData.isInt, PyData.isBool, PyData.isTuple, PyData.isStr, PyData.isList, cmpB, cmpD, isD, ltD, dpt, PyData.depth, PyData.depthAll, PyData.eqv, PyData.eqvAll, ixD, atI, ixN, itemsOf, seqOf, zipD, enmD, slD, cut_tail, binD, blt_lenT, blt_lenL, blt_tup, bindT, bindTs]
theorem SD_map (l : List Int) (i : Nat) : (SD l (i + 1)).map rowD = (SD l i).flatMap fun row => (signs l i).map fun s => rowD (row ++ [s]) := by
  show ((SD l i).flatMap fun row => (signs l i).map fun s => row ++ [s]).map rowD = _
  rw [List.map_flatMap]
  simp only [List.map_map]
  rfl
theorem sides_turn (n : Nat) {c : Int} (l : List Int) (i : Nat) (S : Draw) (h8 : i < 8) : ssStep (run P (n + 8)) [some (.int c), some (rowD l), some (.list ((SD l i).map rowD)), some (.int (i : Int)), none, none] S sidesB = .nx [some (.int c), some (rowD l), some (.list ((SD l (i + 1)).map rowD)), some (.int (i : Int)), none, none] S := by
  have s2 := SD_len l (i + 1)
  have h28 : 2 ^ (i + 1) ≤ 2 ^ 8 := Nat.pow_le_pow_right (by decide) (by omega)
  refine (ss_asg (S1 := S) (d := .list ((SD l (i + 1)).map rowD)) ?_).trans rfl
  rw [SD_map]
  refine e_comp2 (f := rowD) (ys := fun _ => signs l i) (f2 := .int) (g := fun row s => rowD (row ++ [s])) rfl ?_ fun row hrow => ⟨_, rfl, signs_ev (n + 2) l i _ S rfl rfl, fun s hs => ⟨_, rfl, ?_⟩⟩
  · rw [← SD_map, List.length_map]
    omega
  · have hr := (SD_row hrow).1
    have v4 : (run P (n + 6)).e (((wipeE ((wipeE [some (.int c), some (rowD l), some (.list ((SD l i).map rowD)), some (.int (i : Int)), none, none] [4, 5]).set 4 (some (rowD row))) [5])).set 5 (some (.int s))) S (.var 4) = .ok (rowD row) S := rfl
    refine e_bin (y := rowD [s]) v4 (by simp [run_s, run_e, evStep, ssStep, stStep, evT, evI, evOr, evAnd, evs, evOpt, getV, lift, wipeE, isiD, PyData.isInt, PyData.isBool, PyData.isTuple, PyData.isStr, PyData.isList, cmpB, cmpD, isD, ltD, dpt, PyData.depth, PyData.depthAll, PyData.eqv, PyData.eqvAll, ixD, atI, ixN, itemsOf, seqOf, zipD, enmD, slD, cut_tail, binD, blt_lenT, blt_lenL, blt_tup, bindT, bindTs, rowD]) ?_
    simp only [binD, rowD]
    rw [if_pos (by simp; omega)]
    simp
theorem sides_ok [F_sides_of P] (n : Nat) {c : Int} (l : List Int) (S : Draw) (h0 : 0 ≤ c) (h8 : c ≤ 8) : (run P (n + 12)).c 8 [.int c, rowD l] S = .ok (.list ((SD l c.toNat).map rowD)) S := by
  refine call_has F_sides_of.h_sides_of rfl ?_
  refine (ss_asg (S1 := S) (d := .list [rowD []]) (by simp [run_s, run_e, evStep, ssStep, stStep, evT, evI, evOr, evAnd, evs, evOpt, getV, lift, wipeE, isiD, PyData.isInt, PyData.isBool, PyData.isTuple, PyData.isStr, PyData.isList, cmpB, cmpD, isD, ltD, dpt, PyData.depth, PyData.depthAll, PyData.eqv, PyData.eqvAll, ixD, atI, ixN, itemsOf, seqOf, zipD, enmD, slD, cut_tail, binD, blt_lenT, blt_lenL, blt_tup, bindT, bindTs, rowD])).trans ?_
  have okc : okI c = true := decide_eq_true (by omega)
  have key := forL_to (t := .nm 3) (body := fun Γ S => (run P (n + 10)).s Γ S sidesB)
    (fun k => ([some (.int c), some (rowD l), some (.list ((SD l k).map rowD)), if k = 0 then none else some (.int ((k : Int) - 1)), none, none], S)) ((upTo c).map .int) 0 (fun i x hx => by
      rw [List.getElem?_map, Option.map_eq_some_iff] at hx
      obtain ⟨j, hj, rfl⟩ := hx
      unfold upTo at hj
      rw [List.getElem?_map, Option.map_eq_some_iff] at hj
      obtain ⟨q, hq, rfl⟩ := hj
      obtain ⟨hi, hq⟩ := List.getElem?_eq_some_iff.mp hq
      rw [List.getElem_range] at hq
      subst hq
      rw [List.length_range] at hi
      have e : (((i + 1 : Nat) : Int) - 1) = i := by omega
      refine ⟨[some (.int c), some (rowD l), some (.list ((SD l i).map rowD)), some (.int (i : Int)), none, none], by rw [Nat.zero_add]; rfl, .inl ?_⟩
      rw [Nat.zero_add]
      refine (sides_turn (n + 1) l i S (by omega)).trans ?_
      rw [if_neg (Nat.succ_ne_zero i), e])
  rw [Nat.zero_add, List.length_map, upTo_len] at key
  refine (ss_nx (Γ1 := _) (S1 := S) (st_for (xs := (upTo c).map .int) (S0 := S) ?_ key)).trans (ss_rt (by simp [run_s, run_e, evStep, ssStep, stStep, evT, evI, evOr, evAnd, evs, evOpt, getV, lift, wipeE, isiD, PyData.isInt, PyData.isBool, PyData.isTuple, PyData.isStr, PyData.isList, cmpB, cmpD, isD, ltD, dpt, PyData.depth, PyData.depthAll, PyData.eqv, PyData.eqvAll, ixD, atI, ixN, itemsOf, seqOf, zipD, enmD, slD, cut_tail, binD, blt_lenT, blt_lenL, blt_tup, bindT, bindTs]))
  simp [run_s, run_e, evStep, ssStep, stStep, evT, evI, evOr, evAnd, evs, evOpt, getV, lift, wipeE, isiD, PyData.isInt, PyData.isBool, PyData.isTuple, PyData.isStr, PyData.isList, cmpB, cmpD, isD, ltD, dpt, PyData.depth, PyData.depthAll, PyData.eqv, PyData.eqvAll, ixD, atI, ixN, itemsOf, seqOf, zipD, enmD, slD, cut_tail, binD, blt_lenT, blt_lenL, blt_tup, bindT, bindTs, rngD, okc, upTo_rng]
theorem even_ok [F_is_even P] (n : Nat) {c : Int} {ls : List (List Int)} {rs : List Int} (m : Int) (S : Draw) (h : Shp c ls) (hr : rs.length = c.toNat) : (run P (n + 12)).c 9 [shpD c ls, rowD rs, .int m] S = .ok (.bool (evenB ls rs m)) S := by
  refine call_has F_is_even.h_is_even rfl ?_
  refine ss_rt ?_
  refine e_all (f := rowD) (by simp [run_s, run_e, evStep, ssStep, stStep, evT, evI, evOr, evAnd, evs, evOpt, getV, lift, wipeE, isiD, PyData.isInt, PyData.isBool, PyData.isTuple, PyData.isStr, PyData.isList, cmpB, cmpD, isD, ltD, dpt, PyData.depth, PyData.depthAll, PyData.eqv, PyData.eqvAll, ixD, atI, ixN, itemsOf, seqOf, zipD, enmD, slD, cut_tail, binD, blt_lenT, blt_lenL, blt_tup, bindT, bindTs, shpD]) (by have := h.len; omega) fun l hl => ⟨_, rfl, ?_⟩
  have hl' := h.lot l hl
  refine e_cmp (x := .int (absI (sumAt rs l))) (y := .int m) (S1 := S) ?_ rfl rfl
  refine e_blt (x := .int (sumAt rs l)) ?_ rfl
  refine e_sum (f := .int) (p := fun i => rs.getD i.toNat 0) (by simp [run_s, run_e, evStep, ssStep, stStep, evT, evI, evOr, evAnd, evs, evOpt, getV, lift, wipeE, isiD, PyData.isInt, PyData.isBool, PyData.isTuple, PyData.isStr, PyData.isList, cmpB, cmpD, isD, ltD, dpt, PyData.depth, PyData.depthAll, PyData.eqv, PyData.eqvAll, ixD, atI, ixN, itemsOf, seqOf, zipD, enmD, slD, cut_tail, binD, blt_lenT, blt_lenL, blt_tup, bindT, bindTs, rowD]) (by have := h.l8 hl'; omega) fun i hi => ⟨_, rfl, ?_⟩
  have := hl'.low i hi
  exact e_idx (x := rowD rs) (y := .int i) (S1 := S) rfl rfl (ix_row this.1 (by omega))
theorem part_in_ok [F_parting_in P] (n : Nat) {c : Int} {ls : List (List Int)} (l : List Int) (S : Draw) (h : Shp c ls) : (run P (n + 20)).c 10 [shpD c ls, rowD l] S = .ok (optD (partO c ls l)) S := by
  refine call_has F_parting_in.h_parting_in rfl ?_
  have c1 := h.c1
  have c8 := h.c8
  have hI : evI (run P (n + 18)) [some (shpD c ls), some (rowD l), none] S (.call 8 [(.idx (.var 0) (.con (.int 0))), (.var 1)]) = .ok ((SD l c.toNat).map rowD) S := by
    show ((run P (n + 18)).e _ S (.call 8 [(.idx (.var 0) (.con (.int 0))), (.var 1)])).bind _ = _
    rw [e_call (xs := [.int c, rowD l]) (S1 := S) (by simp [run_s, run_e, evStep, ssStep, stStep, evT, evI, evOr, evAnd, evs, evOpt, getV, lift, wipeE, isiD, PyData.isInt, PyData.isBool, PyData.isTuple, PyData.isStr, PyData.isList, cmpB, cmpD, isD, ltD, dpt, PyData.depth, PyData.depthAll, PyData.eqv, PyData.eqvAll, ixD, atI, ixN, itemsOf, seqOf, zipD, enmD, slD, cut_tail, binD, blt_lenT, blt_lenL, blt_tup, bindT, bindTs, shpD]) (sides_ok (n + 5) l S (by omega) c8)]
    rfl
  obtain ⟨k1, k2⟩ := forL_find (t := .nm 2) (body := fun Γ S => (run P (n + 18)).s Γ S [.ife (.call 9 [(.var 0), (.var 2), (.con (.int 1))]) [.ret (.var 2)] []]) (f := rowD) (g := rowD) (p := fun r => evenB ls r 1) (S := S) (fun Γ => ∃ o, Γ = [some (shpD c ls), some (rowD l), o]) (SD l c.toNat) [some (shpD c ls), some (rowD l), none] ⟨none, rfl⟩ (fun r hr Γ ⟨o, e⟩ => by
    subst e
    have q := e_call (P := P) (n := n + 16) (Γ := [some (shpD c ls), some (rowD l), some (rowD r)]) (es := [(.var 0), (.var 2), (.con (.int 1))]) (S := S) (S1 := S) (xs := [shpD c ls, rowD r, .int 1]) rfl (even_ok (n + 4) 1 S h (SD_row hr).1)
    refine ⟨_, rfl, fun hp => ?_, fun hp => ⟨[some (shpD c ls), some (rowD l), some (rowD r)], ?_, _, rfl⟩⟩
    · rw [hp] at q
      exact ss_ifr q rfl
    · rw [hp] at q
      exact (ss_if0 q).trans rfl)
  cases hf : partO c ls l with
  | some r => exact ss_forR hI (k1 r hf)
  | none =>
    obtain ⟨Γ2, k3, o, rfl⟩ := k2 hf
    exact (ss_nx (st_for hI k3)).trans (ss_rt rfl)
theorem parting_ok [F_parting P] (n : Nat) {c : Int} {ls : List (List Int)} {l : List Int} (S : Draw) (h : Shp c ls) (hl : Lot c l) : (run P (n + 40)).c 11 [shpD c ls, rowD l] S = .ok (optD (partO c ls l)) S := by
  refine call_has F_parting.h_parting rfl ?_
  refine (ss_exp (S1 := S) (d := .none) (e_call (xs := [shpD c ls, rowD l]) (S1 := S) rfl (need_lot_ok (n + 7) S h hl))).trans (ss_rt ?_)
  exact e_call (xs := [shpD c ls, rowD l]) (S1 := S) rfl (part_in_ok (n + 17) l S h)
theorem clash_in_ok [F_clash_in P] (n : Nat) {c : Int} {ls : List (List Int)} (S : Draw) (h : Shp c ls) : (run P (n + 26)).c 12 [shpD c ls] S = .ok (optD (clashO c ls)) S := by
  refine call_has F_clash_in.h_clash_in rfl ?_
  have c1 := h.c1
  have c8 := h.c8
  have hI : evI (run P (n + 24)) [some (shpD c ls), none] S (.call 7 [(.idx (.var 0) (.con (.int 0)))]) = .ok ((LF c.toNat 0).map rowD) S := by
    show ((run P (n + 24)).e _ S (.call 7 [(.idx (.var 0) (.con (.int 0)))])).bind _ = _
    rw [e_call (xs := [.int c]) (S1 := S) (by simp [run_s, run_e, evStep, ssStep, stStep, evT, evI, evOr, evAnd, evs, evOpt, getV, lift, wipeE, isiD, PyData.isInt, PyData.isBool, PyData.isTuple, PyData.isStr, PyData.isList, cmpB, cmpD, isD, ltD, dpt, PyData.depth, PyData.depthAll, PyData.eqv, PyData.eqvAll, ixD, atI, ixN, itemsOf, seqOf, zipD, enmD, slD, cut_tail, binD, blt_lenT, blt_lenL, blt_tup, bindT, bindTs, shpD]) (lots_ok (n + 11) S (by omega) c8)]
    rfl
  obtain ⟨k1, k2⟩ := forL_find (t := .nm 1) (body := fun Γ S => (run P (n + 24)).s Γ S [.ife (.cmp .Is (.call 10 [(.var 0), (.var 1)]) (.con .none)) [.ret (.var 1)] []]) (f := rowD) (g := rowD) (p := fun l => (partO c ls l).isNone) (S := S) (fun Γ => ∃ o, Γ = [some (shpD c ls), o]) (LF c.toNat 0) [some (shpD c ls), none] ⟨none, rfl⟩ (fun l hl Γ ⟨o, e⟩ => by
    subst e
    have q := e_cmp (P := P) (n := n + 22) (Γ := [some (shpD c ls), some (rowD l)]) (op := .Is) (a := .call 10 [(.var 0), (.var 1)]) (b := .con .none) (S := S) (S1 := S) (S2 := S) (e_call (xs := [shpD c ls, rowD l]) (S1 := S) rfl (part_in_ok (n + 1) l S h)) rfl (isD_opt _)
    refine ⟨_, rfl, fun hp => ?_, fun hp => ⟨[some (shpD c ls), some (rowD l)], ?_, _, rfl⟩⟩
    · rw [hp] at q
      exact ss_ifr q rfl
    · rw [hp] at q
      exact (ss_if0 q).trans rfl)
  cases hf : clashO c ls with
  | some r => exact ss_forR hI (k1 r hf)
  | none =>
    obtain ⟨Γ2, k3, o, rfl⟩ := k2 hf
    exact (ss_nx (st_for hI k3)).trans (ss_rt rfl)
theorem fair_in_ok [F_is_fair_in P] (n : Nat) {c : Int} {ls : List (List Int)} (S : Draw) (h : Shp c ls) : (run P (n + 30)).c 13 [shpD c ls] S = .ok (.bool (clashO c ls).isNone) S := by
  refine call_has F_is_fair_in.h_is_fair_in rfl (ss_rt ?_)
  exact e_cmp (S1 := S) (e_call (xs := [shpD c ls]) (S1 := S) rfl (clash_in_ok n S h)) rfl (isD_opt _)
theorem fair_ok [F_is_fair P] (n : Nat) {c : Int} {ls : List (List Int)} (S : Draw) (h : Shp c ls) : (run P (n + 34)).c 14 [shpD c ls] S = .ok (.bool (clashO c ls).isNone) S := by
  refine call_has F_is_fair.h_is_fair rfl (ss_rt ?_)
  refine e_call (xs := [shpD c ls]) (S1 := S) ?_ (fair_in_ok (n + 1) S h)
  have q := e_call (P := P) (n := n + 30) (Γ := [some (shpD c ls)]) (S := S) (S1 := S) (es := [(.var 0)]) (xs := [shpD c ls]) rfl (shape_ok (n + 6) S h)
  exact evs_one q
theorem clash_ok [F_clash P] (n : Nat) {c : Int} {ls : List (List Int)} (S : Draw) (h : Shp c ls) : (run P (n + 30)).c 15 [shpD c ls] S = .ok (optD (clashO c ls)) S := by
  refine call_has F_clash.h_clash rfl (ss_rt ?_)
  refine e_call (xs := [shpD c ls]) (S1 := S) ?_ (clash_in_ok (n + 1) S h)
  have q := e_call (P := P) (n := n + 26) (Γ := [some (shpD c ls)]) (S := S) (S1 := S) (es := [(.var 0)]) (xs := [shpD c ls]) rfl (shape_ok (n + 2) S h)
  exact evs_one q
def halfR (c : Int) (l : List Int) : List Int := (upTo c).map fun k => if k ∈ l then 1 else 0
def conD (b : Int) (r : List Int) : PyData := .tuple [.int b, rowD r]
theorem halves_of_ok [F_halves_of P] (n : Nat) {c : Int} {ls : List (List Int)} (l : List Int) (S : Draw) (h : Shp c ls) : (run P (n + 12)).c 16 [shpD c ls, rowD l] S = .ok (conD 2 (halfR c l)) S := by
  have c1 := h.c1
  have c8 := h.c8
  have okc : okI c = true := decide_eq_true (by omega)
  refine call_has F_halves_of.h_halves_of rfl (ss_rt ?_)
  have q := e_blt (P := P) (n := n + 8) (b := .tuple) (d := rowD (halfR c l)) (Γ := [some (shpD c ls), some (rowD l), none]) (S := S) (S1 := S) (e := .comp (.blt .int [(.cmp .In (.var 2) (.var 1))]) (.nm 2) (.rng [(.idx (.var 0) (.con (.int 0)))]) [] [2]) (e_comp (xs := upTo c) (f := .int) (g := fun k => .int (if k ∈ l then 1 else 0)) (by simp [run_s, run_e, evStep, ssStep, stStep, evT, evI, evOr, evAnd, evs, evOpt, getV, lift, wipeE, isiD, PyData.isInt, PyData.isBool, PyData.isTuple, PyData.isStr, PyData.isList, cmpB, cmpD, isD, ltD, dpt, PyData.depth, PyData.depthAll, PyData.eqv, PyData.eqvAll, ixD, atI, ixN, itemsOf, seqOf, zipD, enmD, slD, cut_tail, binD, blt_lenT, blt_lenL, blt_tup, bindT, bindTs, shpD, rngD, okc, upTo_rng]) (by rw [upTo_len]; omega) fun k hk => ⟨_, rfl, e_blt (x := .bool (decide (k ∈ l))) (e_cmp (x := .int k) (y := rowD l) (S1 := S) rfl rfl (in_row _ _)) (by simp [bltD])⟩) (by simp [bltD, halfR, rowD, Function.comp])
  exact e_tup (evs_cons (S1 := S) rfl (evs_one q)) (by simp)
theorem halves_ok [F_halves P] (n : Nat) {c : Int} {ls : List (List Int)} {l : List Int} (S : Draw) (h : Shp c ls) (hl : Lot c l) : (run P (n + 40)).c 17 [shpD c ls, rowD l] S = .ok (conD 2 (halfR c l)) S := by
  refine call_has F_halves.h_halves rfl ?_
  refine (ss_exp (S1 := S) (d := .none) (e_call (xs := [shpD c ls, rowD l]) (S1 := S) rfl (need_lot_ok (n + 7) S h hl))).trans (ss_rt ?_)
  exact e_call (xs := [shpD c ls, rowD l]) (S1 := S) rfl (halves_of_ok (n + 25) l S h)
def paperD (c : Int) (ls : List (List Int)) : PyData :=
  match clashO c ls with
  | some l => .tuple [.str "clash", rowD l]
  | none => .tuple [.str "fair", .tuple ((LF c.toNat 0).map fun l => optD (partO c ls l))]
theorem paper_ok [F_fair_paper P] (n : Nat) {c : Int} {ls : List (List Int)} (S : Draw) (h : Shp c ls) : (run P (n + 40)).c 18 [shpD c ls] S = .ok (paperD c ls) S := by
  have c1 := h.c1
  have c8 := h.c8
  refine call_has F_fair_paper.h_fair_paper rfl ?_
  refine (ss_exp (S1 := S) (d := shpD c ls) (e_call (xs := [shpD c ls]) (S1 := S) rfl (shape_ok (n + 13) S h))).trans ?_
  refine (ss_asg (S1 := S) (d := optD (clashO c ls)) (e_call (xs := [shpD c ls]) (S1 := S) rfl (clash_in_ok (n + 11) S h))).trans ?_
  have t := e_cmp (P := P) (n := n + 37) (Γ := [some (shpD c ls), some (optD (clashO c ls)), none]) (S := S) (S1 := S) (S2 := S) (op := .IsNot) (a := .var 1) (b := .con .none) rfl rfl (isN_opt (clashO c ls))
  unfold paperD
  cases hf : clashO c ls with
  | some l =>
    rw [hf] at t
    refine ss_ifr t ?_
    exact ss_rt (r := run P (n + 37)) (Γ := [some (shpD c ls), some (rowD l), none]) (ss := []) (e := .tup [(.glb "CLASH" (.str "clash")), (.var 1)]) (e_tup (evs_cons (x := .str "clash") (S1 := S) rfl (evs_one (x := rowD l) rfl)) (by simp))
  | none =>
    rw [hf] at t
    refine (ss_if0 t).trans (ss_rt ?_)
    have few := LF_few c8 0
    have q := e_blt (P := P) (n := n + 36) (b := .tuple) (d := .tuple ((LF c.toNat 0).map fun l => optD (partO c ls l))) (Γ := [some (shpD c ls), some (optD none), none]) (S := S) (S1 := S) (e := .comp (.call 10 [(.var 0), (.var 2)]) (.nm 2) (.call 7 [(.idx (.var 0) (.con (.int 0)))]) [] [2])
      (e_comp (xs := LF c.toNat 0) (f := rowD) (g := fun l => optD (partO c ls l)) (by
        show ((run P (n + 35)).e _ S (.call 7 [(.idx (.var 0) (.con (.int 0)))])).bind _ = _
        rw [e_call (xs := [.int c]) (S1 := S) (by simp [run_s, run_e, evStep, ssStep, stStep, evT, evI, evOr, evAnd, evs, evOpt, getV, lift, wipeE, isiD, PyData.isInt, PyData.isBool, PyData.isTuple, PyData.isStr, PyData.isList, cmpB, cmpD, isD, ltD, dpt, PyData.depth, PyData.depthAll, PyData.eqv, PyData.eqvAll, ixD, atI, ixN, itemsOf, seqOf, zipD, enmD, slD, cut_tail, binD, blt_lenT, blt_lenL, blt_tup, bindT, bindTs, shpD]) (lots_ok (n + 22) S (by omega) c8)]
        rfl) (by omega) fun l hl => ⟨_, rfl, e_call (xs := [shpD c ls, rowD l]) (S1 := S) rfl (part_in_ok (n + 14) l S h)⟩) rfl
    exact e_tup (evs_cons (x := .str "fair") (S1 := S) rfl (evs_one q)) (by simp)
end
end PD
/-! PJ: what is worked out with enough fuel. -/
namespace PD
open PySem L2
section
variable (P : Prg) (K : Nat)
def Ev (Γ : Env) (S : Draw) (e : Ex) (x : PyData) (S1 : Draw) : Prop := ∀ m, K ≤ m → (run P m).e Γ S e = .ok x S1
def Av (Γ : Env) (S : Draw) (es : List Ex) (xs : List PyData) (S1 : Draw) : Prop := ∀ m, K ≤ m → evs ((run P m).e Γ) es S = .ok xs S1
def Iv (Γ : Env) (S : Draw) (e : Ex) (xs : List PyData) (S1 : Draw) : Prop := ∀ m, K ≤ m → evI (run P m) Γ S e = .ok xs S1
def Cv (j : Nat) (ds : List PyData) (S : Draw) (x : PyData) (S1 : Draw) : Prop := ∀ m, K ≤ m → (run P m).c j ds S = .ok x S1
def Sv (Γ : Env) (S : Draw) (ss : List Sx) (o : Out) : Prop := ∀ m, K ≤ m → ssStep (run P m) Γ S ss = o
end
section
variable {P : Prg} {K k : Nat} {Γ : Env} {S S1 S2 S3 : Draw}
theorem up_of {p : Nat → Prop} (h : ∀ n, p (n + K)) : ∀ m, K ≤ m → p m := fun m hm => by
  have := h (m - K)
  rwa [Nat.sub_add_cancel hm] at this
theorem Ev.of {e : Ex} {x : PyData} (h : ∀ n, (run P (n + K)).e Γ S e = .ok x S1) : Ev P K Γ S e x S1 := up_of (p := fun m => (run P m).e Γ S e = .ok x S1) h
theorem Av.of {es : List Ex} {xs : List PyData} (h : ∀ n, evs ((run P (n + K)).e Γ) es S = .ok xs S1) : Av P K Γ S es xs S1 := up_of (p := fun m => evs ((run P m).e Γ) es S = .ok xs S1) h
theorem Iv.of {e : Ex} {xs : List PyData} (h : ∀ n, evI (run P (n + K)) Γ S e = .ok xs S1) : Iv P K Γ S e xs S1 := up_of (p := fun m => evI (run P m) Γ S e = .ok xs S1) h
theorem Cv.of {j : Nat} {ds : List PyData} {x : PyData} (h : ∀ n, (run P (n + K)).c j ds S = .ok x S1) : Cv P K j ds S x S1 := up_of (p := fun m => (run P m).c j ds S = .ok x S1) h
theorem Sv.of {ss : List Sx} {o : Out} (h : ∀ n, ssStep (run P (n + K)) Γ S ss = o) : Sv P K Γ S ss o := up_of (p := fun m => ssStep (run P m) Γ S ss = o) h
theorem Cv.at {j : Nat} {ds : List PyData} {x : PyData} (h : Cv P k j ds S x S1) (n : Nat) (hk : k ≤ n := by omega) : (run P n).c j ds S = .ok x S1 := h n hk
theorem Ev.up {e : Ex} {x : PyData} (h : Ev P k Γ S e x S1) (hk : k ≤ K := by omega) : Ev P K Γ S e x S1 := fun m hm => h m (Nat.le_trans hk hm)
theorem Iv.up {e : Ex} {xs : List PyData} (h : Iv P k Γ S e xs S1) (hk : k ≤ K := by omega) : Iv P K Γ S e xs S1 := fun m hm => h m (Nat.le_trans hk hm)
theorem Cv.up {j : Nat} {ds : List PyData} {x : PyData} (h : Cv P k j ds S x S1) (hk : k ≤ K := by omega) : Cv P K j ds S x S1 := fun m hm => h m (Nat.le_trans hk hm)
theorem Sv.up {ss : List Sx} {o : Out} (h : Sv P k Γ S ss o) (hk : k ≤ K := by omega) : Sv P K Γ S ss o := fun m hm => h m (Nat.le_trans hk hm)
theorem step_of {p : Nat → Prop} (h : ∀ m, K ≤ m → p (m + 1)) : ∀ m, K + 1 ≤ m → p m := fun m hm => by
  have := h (m - 1) (by omega)
  rwa [Nat.sub_add_cancel (by omega)] at this
/-! ### expressions -/
theorem Ev.var {i : Nat} {d : PyData} (h : getV Γ i = some d := by rfl) : Ev P (K + 1) Γ S (.var i) d S := step_of (p := fun m => (run P m).e Γ S (.var i) = .ok d S) fun m _ => by
  show lift (getV Γ i) S = _
  rw [h]; rfl
theorem Ev.con {d : PyData} : Ev P (K + 1) Γ S (.con d) d S := step_of (p := fun m => (run P m).e Γ S (.con d) = .ok d S) fun m _ => rfl
theorem Ev.glb {x : Str} {d : PyData} : Ev P (K + 1) Γ S (.glb x d) d S := step_of (p := fun m => (run P m).e Γ S (.glb x d) = .ok d S) fun m _ => rfl
theorem Av.nil : Av P K Γ S [] [] S := fun _ _ => rfl
theorem Av.cons {e : Ex} {r : List Ex} {x : PyData} {xs : List PyData} (h : Ev P K Γ S e x S1) (hr : Av P K Γ S1 r xs S2) : Av P K Γ S (e :: r) (x :: xs) S2 := fun m hm => evs_cons (h m hm) (hr m hm)
theorem Av.one {e : Ex} {x : PyData} (h : Ev P K Γ S e x S1) : Av P K Γ S [e] [x] S1 := .cons h .nil
theorem Ev.tup {es : List Ex} {xs : List PyData} (h : Av P K Γ S es xs S1) (hl : xs.length ≤ 16777216 := by simp) : Ev P (K + 1) Γ S (.tup es) (.tuple xs) S1 := step_of (p := fun m => (run P m).e Γ S (.tup es) = .ok (.tuple xs) S1) fun m hm => e_tup (h m hm) hl
theorem Ev.lst {es : List Ex} {xs : List PyData} (h : Av P K Γ S es xs S1) (hl : xs.length ≤ 16777216 := by simp) : Ev P (K + 1) Γ S (.lst es) (.list xs) S1 := step_of (p := fun m => (run P m).e Γ S (.lst es) = .ok (.list xs) S1) fun m hm => e_lst (h m hm) hl
theorem Ev.bin {op : Operator} {a b : Ex} {x y d : PyData} (ha : Ev P K Γ S a x S1) (hb : Ev P K Γ S1 b y S2) (hc : binD op x y = some d := by rfl) : Ev P (K + 1) Γ S (.bin op a b) d S2 := step_of (p := fun m => (run P m).e Γ S (.bin op a b) = .ok d S2) fun m hm => e_bin (ha m hm) (hb m hm) hc
theorem Ev.neg {a : Ex} {i : Int} (ha : Ev P K Γ S a (.int i) S1) : Ev P (K + 1) Γ S (.neg a) (.int (-i)) S1 := step_of (p := fun m => (run P m).e Γ S (.neg a) = .ok (.int (-i)) S1) fun m hm => by
  show ((run P m).e Γ S a).bind _ = _
  rw [ha m hm]; rfl
theorem Ev.cmp {op : CmpOp} {a b : Ex} {x y : PyData} {k : Bool} (ha : Ev P K Γ S a x S1) (hb : Ev P K Γ S1 b y S2) (hc : cmpD op x y = some k := by rfl) : Ev P (K + 1) Γ S (.cmp op a b) (.bool k) S2 := step_of (p := fun m => (run P m).e Γ S (.cmp op a b) = .ok (.bool k) S2) fun m hm => e_cmp (ha m hm) (hb m hm) hc
theorem Ev.chn1 {op op2 : CmpOp} {a b c : Ex} {x y z : PyData} {k : Bool} (ha : Ev P K Γ S a x S1) (hb : Ev P K Γ S1 b y S2) (hc : cmpD op x y = some true) (hd : Ev P K Γ S2 c z S3) (he : cmpD op2 y z = some k) : Ev P (K + 1) Γ S (.chn op op2 a b c) (.bool k) S3 := step_of (p := fun m => (run P m).e Γ S (.chn op op2 a b c) = .ok (.bool k) S3) fun m hm => by
  show ((run P m).e Γ S a).bind _ = _
  rw [ha m hm, Res.bind_ok, hb m hm, Res.bind_ok, hc, lift_some, Res.bind_ok, if_pos rfl, hd m hm, Res.bind_ok, cmpB, he]; rfl
theorem Ev.chn0 {op op2 : CmpOp} {a b c : Ex} {x y : PyData} (ha : Ev P K Γ S a x S1) (hb : Ev P K Γ S1 b y S2) (hc : cmpD op x y = some false) : Ev P (K + 1) Γ S (.chn op op2 a b c) (.bool false) S2 := step_of (p := fun m => (run P m).e Γ S (.chn op op2 a b c) = .ok (.bool false) S2) fun m hm => by
  show ((run P m).e Γ S a).bind _ = _
  rw [ha m hm, Res.bind_ok, hb m hm, Res.bind_ok, hc, lift_some, Res.bind_ok, if_neg Bool.false_ne_true]
theorem Ev.or1 {a b : Ex} {l : List Ex} (h : Ev P K Γ S a (.bool true) S1) : Ev P (K + 1) Γ S (.or (a :: b :: l)) (.bool true) S1 := step_of (p := fun m => (run P m).e Γ S (.or (a :: b :: l)) = .ok (.bool true) S1) fun m hm => e_or1 (h m hm)
theorem Ev.or0 {a b : Ex} {l : List Ex} {x : PyData} (h : Ev P K Γ S a (.bool false) S1) (hr : Ev P (K + 1) Γ S1 (.or (b :: l)) x S2) : Ev P (K + 1) Γ S (.or (a :: b :: l)) x S2 := step_of (p := fun m => (run P m).e Γ S (.or (a :: b :: l)) = .ok x S2) fun m hm => (e_or0 (h m hm)).trans (hr (m + 1) (by omega))
theorem Ev.orZ {a : Ex} {x : PyData} (h : Ev P K Γ S a x S1) : Ev P (K + 1) Γ S (.or [a]) x S1 := step_of (p := fun m => (run P m).e Γ S (.or [a]) = .ok x S1) fun m hm => h m hm
theorem Ev.or2 {a b : Ex} {k : Bool} (h : Ev P K Γ S a (.bool false) S1) (hr : Ev P K Γ S1 b (.bool k) S2) : Ev P (K + 1) Γ S (.or [a, b]) (.bool k) S2 := .or0 h (.orZ hr)
theorem Ev.and0 {a b : Ex} {l : List Ex} (h : Ev P K Γ S a (.bool false) S1) : Ev P (K + 1) Γ S (.and (a :: b :: l)) (.bool false) S1 := step_of (p := fun m => (run P m).e Γ S (.and (a :: b :: l)) = .ok (.bool false) S1) fun m hm => e_and0 (h m hm)
theorem Ev.and1 {a b : Ex} {l : List Ex} {x : PyData} (h : Ev P K Γ S a (.bool true) S1) (hr : Ev P (K + 1) Γ S1 (.and (b :: l)) x S2) : Ev P (K + 1) Γ S (.and (a :: b :: l)) x S2 := step_of (p := fun m => (run P m).e Γ S (.and (a :: b :: l)) = .ok x S2) fun m hm => (e_and1 (h m hm)).trans (hr (m + 1) (by omega))
theorem Ev.andZ {a : Ex} {x : PyData} (h : Ev P K Γ S a x S1) : Ev P (K + 1) Γ S (.and [a]) x S1 := step_of (p := fun m => (run P m).e Γ S (.and [a]) = .ok x S1) fun m hm => h m hm
/-- two tests that change nothing -/
theorem Ev.andB {a b : Ex} {x y : Bool} (h : Ev P K Γ S a (.bool x) S) (hr : x = true → Ev P K Γ S b (.bool y) S) : Ev P (K + 1) Γ S (.and [a, b]) (.bool (x && y)) S := by
  cases x with
  | true => exact .and1 h (.andZ (hr rfl))
  | false => exact .and0 h
theorem Ev.orB {a b : Ex} {x y : Bool} (h : Ev P K Γ S a (.bool x) S) (hr : x = false → Ev P K Γ S b (.bool y) S) : Ev P (K + 1) Γ S (.or [a, b]) (.bool (x || y)) S := by
  cases x with
  | true => exact .or1 h
  | false => exact .or0 h (.orZ (hr rfl))
theorem Ev.not {a : Ex} {b k : Bool} (h : Ev P K Γ S a (.bool b) S1) (hb : (!b) = k := by rfl) : Ev P (K + 1) Γ S (.not a) (.bool k) S1 := step_of (p := fun m => (run P m).e Γ S (.not a) = .ok (.bool k) S1) fun m hm => hb ▸ e_not (h m hm)
theorem Ev.ite1 {c a b : Ex} {x : PyData} (h : Ev P K Γ S c (.bool true) S1) (ha : Ev P K Γ S1 a x S2) : Ev P (K + 1) Γ S (.ite c a b) x S2 := step_of (p := fun m => (run P m).e Γ S (.ite c a b) = .ok x S2) fun m hm => (e_ite1 (h m hm)).trans (ha m hm)
theorem Ev.ite0 {c a b : Ex} {x : PyData} (h : Ev P K Γ S c (.bool false) S1) (ha : Ev P K Γ S1 b x S2) : Ev P (K + 1) Γ S (.ite c a b) x S2 := step_of (p := fun m => (run P m).e Γ S (.ite c a b) = .ok x S2) fun m hm => (e_ite0 (h m hm)).trans (ha m hm)
theorem Ev.idx {a b : Ex} {x y d : PyData} (ha : Ev P K Γ S a x S1) (hb : Ev P K Γ S1 b y S2) (hc : ixD x y = some d := by rfl) : Ev P (K + 1) Γ S (.idx a b) d S2 := step_of (p := fun m => (run P m).e Γ S (.idx a b) = .ok d S2) fun m hm => e_idx (ha m hm) (hb m hm) hc
theorem Ev.blt {b : Bl} {es : List Ex} {xs : List PyData} {d : PyData} (h : Av P K Γ S es xs S1) (hb : bltD b xs = some d := by rfl) : Ev P (K + 1) Γ S (.blt b es) d S1 := step_of (p := fun m => (run P m).e Γ S (.blt b es) = .ok d S1) fun m hm => by
  show (evs ((run P m).e Γ) es S).bind _ = _
  rw [h m hm, Res.bind_ok, hb]; rfl
theorem Ev.isi {a : Ex} {t : Ty} {x : PyData} {b : Bool} (h : Ev P K Γ S a x S1) (hb : isiD t x = b := by rfl) : Ev P (K + 1) Γ S (.isi a t) (.bool b) S1 := step_of (p := fun m => (run P m).e Γ S (.isi a t) = .ok (.bool b) S1) fun m hm => by
  show ((run P m).e Γ S a).bind _ = _
  rw [h m hm, ← hb]; rfl
theorem Ev.call {j : Nat} {es : List Ex} {xs : List PyData} {d : PyData} (h : Av P K Γ S es xs S1) (hc : Cv P K j xs S1 d S2) : Ev P (K + 1) Γ S (.call j es) d S2 := step_of (p := fun m => (run P m).e Γ S (.call j es) = .ok d S2) fun m hm => e_call (h m hm) (hc m hm)
theorem Ev.sset {a : Ex} {x d : PyData} (h : Ev P K Γ S a x S1) (hd : ssetD x = some d) : Ev P (K + 1) Γ S (.sset a) d S1 := step_of (p := fun m => (run P m).e Γ S (.sset a) = .ok d S1) fun m hm => by
  show ((run P m).e Γ S a).bind _ = _
  rw [h m hm, Res.bind_ok, hd]; rfl
theorem Ev.lrng {es : List Ex} {xs ys : List PyData} (h : Av P K Γ S es xs S1) (hr : rngD xs = some ys) (hl : ys.length ≤ 16777216) (h2 : xs.length ≤ 2 := by simp) : Ev P (K + 1) Γ S (.lrng es) (.list ys) S1 := step_of (p := fun m => (run P m).e Γ S (.lrng es) = .ok (.list ys) S1) fun m hm => by
  show (evs ((run P m).e Γ) es S).bind _ = _
  rw [h m hm, Res.bind_ok, hr]
  exact if_pos ⟨hl, h2⟩
theorem Ev.trng {es : List Ex} {xs ys : List PyData} (h : Av P K Γ S es xs S1) (hr : rngD xs = some ys) (hl : ys.length ≤ 16777216) (h2 : xs.length ≤ 2 := by simp) : Ev P (K + 1) Γ S (.trng es) (.tuple ys) S1 := step_of (p := fun m => (run P m).e Γ S (.trng es) = .ok (.tuple ys) S1) fun m hm => by
  show (evs ((run P m).e Γ) es S).bind _ = _
  rw [h m hm, Res.bind_ok, hr]
  exact if_pos ⟨hl, h2⟩
def Ov (P : Prg) (K : Nat) (Γ : Env) (S : Draw) (o : Option Ex) (l : Option Int) (S1 : Draw) : Prop := ∀ m, K ≤ m → evOpt (run P m) Γ o S = .ok l S1
theorem Ov.none : Ov P K Γ S none none S := fun _ _ => rfl
theorem Ov.some {e : Ex} {i : Int} (h : Ev P K Γ S e (.int i) S1) : Ov P K Γ S (some e) (some i) S1 := fun m hm => by
  show ((run P m).e Γ S e).bind _ = _
  rw [h m hm]; rfl
theorem Ev.sl {a : Ex} {lo hi : Option Ex} {x d : PyData} {l u : Option Int} (ha : Ev P K Γ S a x S1) (hl : Ov P K Γ S1 lo l S2) (hh : Ov P K Γ S2 hi u S3) (hd : slD x l u = .some d := by rfl) : Ev P (K + 1) Γ S (.sl a lo hi) d S3 := step_of (p := fun m => (run P m).e Γ S (.sl a lo hi) = .ok d S3) fun m hm => by
  show ((run P m).e Γ S a).bind _ = _
  rw [ha m hm, Res.bind_ok, hl m hm, Res.bind_ok, hh m hm, Res.bind_ok, hd]; rfl
/-! ### what is walked -/
def valI : Ex → Bool
  | .rng _ => false
  | .zip _ _ => false
  | .enm _ => false
  | _ => true
theorem Iv.val {e : Ex} {x : PyData} {xs : List PyData} (h : Ev P K Γ S e x S1) (hx : itemsOf x = some xs := by rfl) (hv : valI e = true := by rfl) : Iv P K Γ S e xs S1 := fun m hm => by
  have key : evI (run P m) Γ S e = ((run P m).e Γ S e).bind fun x S1 => lift (itemsOf x) S1 := by cases e <;> first | rfl | cases hv
  rw [key, h m hm, Res.bind_ok, hx]; rfl
theorem Iv.rng {es : List Ex} {xs ys : List PyData} (h : Av P K Γ S es xs S1) (hr : rngD xs = some ys) : Iv P K Γ S (.rng es) ys S1 := fun m hm => by
  show (evs ((run P m).e Γ) es S).bind _ = _
  rw [h m hm, Res.bind_ok, hr]; rfl
theorem Iv.up1 {e : Ex} {c : Int} (h : Ev P K Γ S e (.int c) S1) (h0 : c ≤ 1000000) (h1 : 0 ≤ c) : Iv P K Γ S (.rng [e]) ((upTo c).map .int) S1 := .rng (.one h) (by
  have : okI c = true := decide_eq_true (by omega)
  simp only [rngD, this, if_true, upTo_rng])
theorem Iv.zip {a b : Ex} {x y : PyData} {xs : List PyData} (ha : Ev P K Γ S a x S1) (hb : Ev P K Γ S1 b y S2) (hz : zipD x y = some xs) : Iv P K Γ S (.zip a b) xs S2 := fun m hm => by
  show ((run P m).e Γ S a).bind _ = _
  rw [ha m hm, Res.bind_ok, hb m hm, Res.bind_ok, hz]; rfl
theorem Iv.enm {a : Ex} {x : PyData} {xs : List PyData} (ha : Ev P K Γ S a x S1) (hz : enmD x = some xs) : Iv P K Γ S (.enm a) xs S1 := fun m hm => by
  show ((run P m).e Γ S a).bind _ = _
  rw [ha m hm, Res.bind_ok, hz]; rfl
/-! ### comprehensions -/
theorem evComp_mapG {α : Type} {r : Fns} {Γ : Env} {elt it : Ex} {t : Tg} {own : List Nat} {S S1 : Draw} {xs : List α} {f g : α → PyData} (hI : evI r Γ S it = .ok (xs.map f) S1) (hl : xs.length ≤ 16777216) (hb : ∀ x ∈ xs, ∃ Γ', bindT t (f x) (wipeE Γ own) = some Γ' ∧ r.e Γ' S1 elt = .ok (g x) S1) :
    evComp r Γ elt t it [] own S = .ok (xs.map g) S1 := by
  unfold evComp
  rw [hI, Res.bind_ok, cmpL_map (g := g) fun x hx => ?_]
  · exact few_ok' (by rw [List.length_map]; exact hl)
  · obtain ⟨Γ', h1, h2⟩ := hb x hx
    simp only [h1, evTs, Res.bind_ok, if_true, h2]
theorem evComp_filterG {α : Type} {r : Fns} {Γ : Env} {elt it c : Ex} {t : Tg} {own : List Nat} {S S1 : Draw} {xs : List α} {f g : α → PyData} {p : α → Bool} (hI : evI r Γ S it = .ok (xs.map f) S1) (hl : xs.length ≤ 16777216) (hb : ∀ x ∈ xs, ∃ Γ', bindT t (f x) (wipeE Γ own) = some Γ' ∧ r.e Γ' S1 c = .ok (.bool (p x)) S1 ∧ (p x = true → r.e Γ' S1 elt = .ok (g x) S1)) :
    evComp r Γ elt t it [c] own S = .ok ((xs.filter p).map g) S1 := by
  unfold evComp
  rw [hI, Res.bind_ok, cmpL_filter (g := g) (p := p) fun x hx => ?_]
  · exact few_ok' (by rw [List.length_map]; have := List.length_filter_le p xs; omega)
  · obtain ⟨Γ', h1, h2, h3⟩ := hb x hx
    simp only [h1, evTs, evT, h2, toB_ok, Res.bind_ok]
    cases hp : p x with
    | true => simp [h3 hp]
    | false => simp
theorem Ev.comp {α : Type} {elt it : Ex} {t : Tg} {own : List Nat} {xs : List α} (f g : α → PyData) (hI : Iv P K Γ S it (xs.map f) S1) (hl : xs.length ≤ 16777216) (hb : ∀ x ∈ xs, ∃ Γ', bindT t (f x) (wipeE Γ own) = some Γ' ∧ Ev P K Γ' S1 elt (g x) S1) :
    Ev P (K + 1) Γ S (.comp elt t it [] own) (.list (xs.map g)) S1 := step_of (p := fun m => (run P m).e Γ S (.comp elt t it [] own) = .ok (.list (xs.map g)) S1) fun m hm => by
  show (evComp (run P m) Γ elt t it [] own S).bind _ = _
  rw [evComp_mapG (hI m hm) hl fun x hx => let ⟨Γ', h1, h2⟩ := hb x hx; ⟨Γ', h1, h2 m hm⟩]; rfl
theorem Ev.compF {α : Type} {elt it c : Ex} {t : Tg} {own : List Nat} {xs : List α} (f g : α → PyData) (p : α → Bool) (hI : Iv P K Γ S it (xs.map f) S1) (hl : xs.length ≤ 16777216) (hb : ∀ x ∈ xs, ∃ Γ', bindT t (f x) (wipeE Γ own) = some Γ' ∧ Ev P K Γ' S1 c (.bool (p x)) S1 ∧ (p x = true → Ev P K Γ' S1 elt (g x) S1)) :
    Ev P (K + 1) Γ S (.comp elt t it [c] own) (.list ((xs.filter p).map g)) S1 := step_of (p := fun m => (run P m).e Γ S (.comp elt t it [c] own) = .ok (.list ((xs.filter p).map g)) S1) fun m hm => by
  show (evComp (run P m) Γ elt t it [c] own S).bind _ = _
  rw [evComp_filterG (hI m hm) hl fun x hx => let ⟨Γ', h1, h2, h3⟩ := hb x hx; ⟨Γ', h1, h2 m hm, fun z => h3 z m hm⟩]; rfl
theorem Ev.all {α : Type} {elt it : Ex} {t : Tg} {own : List Nat} {xs : List α} (f : α → PyData) (p : α → Bool) (hI : Iv P K Γ S it (xs.map f) S1) (hl : xs.length ≤ 16777216) (hb : ∀ x ∈ xs, ∃ Γ', bindT t (f x) (wipeE Γ own) = some Γ' ∧ Ev P K Γ' S1 elt (.bool (p x)) S1) :
    Ev P (K + 2) Γ S (.blt .all [.comp elt t it [] own]) (.bool (xs.all p)) S1 := .blt (.one (.comp f (fun x => .bool (p x)) hI hl hb)) (bltAll p xs)
theorem Ev.any {α : Type} {elt it : Ex} {t : Tg} {own : List Nat} {xs : List α} (f : α → PyData) (p : α → Bool) (hI : Iv P K Γ S it (xs.map f) S1) (hl : xs.length ≤ 16777216) (hb : ∀ x ∈ xs, ∃ Γ', bindT t (f x) (wipeE Γ own) = some Γ' ∧ Ev P K Γ' S1 elt (.bool (p x)) S1) :
    Ev P (K + 2) Γ S (.blt .any [.comp elt t it [] own]) (.bool (xs.any p)) S1 := .blt (.one (.comp f (fun x => .bool (p x)) hI hl hb)) (by simp [bltD, boolsOf_map', List.any_map])
theorem Ev.sum {α : Type} {elt it : Ex} {t : Tg} {own : List Nat} {xs : List α} (f : α → PyData) (p : α → Int) (hI : Iv P K Γ S it (xs.map f) S1) (hl : xs.length ≤ 16777216) (hb : ∀ x ∈ xs, ∃ Γ', bindT t (f x) (wipeE Γ own) = some Γ' ∧ Ev P K Γ' S1 elt (.int (p x)) S1) :
    Ev P (K + 2) Γ S (.blt .sum [.comp elt t it [] own]) (.int (xs.map p).sum) S1 := .blt (.one (.comp f (fun x => .int (p x)) hI hl hb)) (by have := bltSum (xs.map p); rwa [List.map_map] at this)
/-! ### statements -/
theorem Sv.nil : Sv P K Γ S [] (.nx Γ S) := fun _ _ => rfl
theorem Sv.asg {i : Nat} {e : Ex} {d : PyData} {ss : List Sx} {o : Out} (h : Ev P K Γ S e d S1) (hr : Sv P K (Γ.set i (some d)) S1 ss o) : Sv P K Γ S (.asg (.nm i) e :: ss) o := fun m hm => (ss_asg (h m hm)).trans (hr m hm)
theorem Sv.asgT {t : Tg} {e : Ex} {d : PyData} {Γ1 : Env} {ss : List Sx} {o : Out} (h : Ev P K Γ S e d S1) (hb : bindT t d Γ = some Γ1) (hr : Sv P K Γ1 S1 ss o) : Sv P K Γ S (.asg t e :: ss) o := fun m hm => (ss_nx (by
  show ((run P m).e Γ S e).out _ = _
  rw [h m hm]
  show (match bindT t d Γ with | some Γ' => Out.nx Γ' S1 | none => .bad) = _
  rw [hb])).trans (hr m hm)
theorem Sv.asgO {i : Nat} {e : Ex} {xs : List PyData} {ss : List Sx} {o : Out} (h : Ev P K Γ S e (.list xs) S1) (hr : Sv P K (Γ.set i (some (.list xs))) S1 ss o) : Sv P K Γ S (.asgO i e :: ss) o := fun m hm => (ss_nx (by
  show ((run P m).e Γ S e).out _ = _
  rw [h m hm]; rfl)).trans (hr m hm)
theorem Sv.par {is : List Nat} {es : List Ex} {xs : List PyData} {Γ1 : Env} {ss : List Sx} {o : Out} (h : Av P K Γ S es xs S1) (hs : setAll is xs Γ = some Γ1) (hr : Sv P K Γ1 S1 ss o) : Sv P K Γ S (.par is es :: ss) o := fun m hm => (ss_nx (st_par (h m hm) hs)).trans (hr m hm)
theorem Sv.app {i : Nat} {e : Ex} {xs : List PyData} {y : PyData} {ss : List Sx} {o : Out} (hg : getV Γ i = some (.list xs)) (h : Ev P K Γ S e y S1) (hl : xs.length < 16777216) (hr : Sv P K (Γ.set i (some (.list (xs ++ [y])))) S1 ss o) : Sv P K Γ S (.app i e :: ss) o := fun m hm => (ss_nx (st_app hg (h m hm) hl)).trans (hr m hm)
theorem Sv.aug {i : Nat} {e : Ex} {a b : Int} {ss : List Sx} {o : Out} (hg : getV Γ i = some (.int a)) (h : Ev P K Γ S e (.int b) S1) (hr : Sv P K (Γ.set i (some (.int (a + b)))) S1 ss o) : Sv P K Γ S (.aug i .Add e :: ss) o := fun m hm => (ss_nx (by
  show (match getV Γ i with
    | some x => ((run P m).e Γ S e).out fun y S1 => match Operator.Add, x, y with
      | .Add, .int a, .int b => .nx (Γ.set i (some (.int (a + b)))) S1
      | .Sub, .int a, .int b => .nx (Γ.set i (some (.int (a - b)))) S1
      | _, _, _ => .bad
    | none => .bad) = _
  rw [hg]
  dsimp only
  rw [h m hm]; rfl)).trans (hr m hm)
theorem Sv.ret {e : Ex} {d : PyData} {ss : List Sx} (h : Ev P K Γ S e d S1) : Sv P K Γ S (.ret e :: ss) (.ret d S1) := fun m hm => ss_rt (h m hm)
theorem Sv.exp {e : Ex} {d : PyData} {ss : List Sx} {o : Out} (h : Ev P K Γ S e d S1) (hr : Sv P K Γ S1 ss o) : Sv P K Γ S (.exp e :: ss) o := fun m hm => (ss_exp (h m hm)).trans (hr m hm)
/-- a test that fails, nothing else -/
theorem Sv.if0 {c : Ex} {a ss : List Sx} {o : Out} (h : Ev P (K + 1) Γ S c (.bool false) S1) (hr : Sv P (K + 1) Γ S1 ss o) : Sv P (K + 1) Γ S (.ife c a [] :: ss) o := step_of (p := fun m => ssStep (run P m) Γ S (.ife c a [] :: ss) = o) fun m hm => (ss_if0 (h (m + 1) (by omega))).trans (hr (m + 1) (by omega))
/-- a test that holds, and a return -/
theorem Sv.if1r {c : Ex} {a b ss : List Sx} {d : PyData} (h : Ev P (K + 1) Γ S c (.bool true) S1) (ha : Sv P K Γ S1 a (.ret d S2)) : Sv P (K + 1) Γ S (.ife c a b :: ss) (.ret d S2) := step_of (p := fun m => ssStep (run P m) Γ S (.ife c a b :: ss) = .ret d S2) fun m hm => ss_ifr (h (m + 1) (by omega)) (ha m hm)
theorem Sv.if1 {c : Ex} {a b ss : List Sx} {Γ1 : Env} {o : Out} (h : Ev P (K + 1) Γ S c (.bool true) S1) (ha : Sv P K Γ S1 a (.nx Γ1 S2)) (hr : Sv P (K + 1) Γ1 S2 ss o) : Sv P (K + 1) Γ S (.ife c a b :: ss) o := step_of (p := fun m => ssStep (run P m) Γ S (.ife c a b :: ss) = o) fun m hm => (ss_nx ((st_if (evT_ok (h (m + 1) (by omega)))).trans (ha m hm))).trans (hr (m + 1) (by omega))
theorem Sv.if2 {c : Ex} {a b ss : List Sx} {Γ1 : Env} {o : Out} (h : Ev P (K + 1) Γ S c (.bool false) S1) (ha : Sv P K Γ S1 b (.nx Γ1 S2)) (hr : Sv P (K + 1) Γ1 S2 ss o) : Sv P (K + 1) Γ S (.ife c a b :: ss) o := step_of (p := fun m => ssStep (run P m) Γ S (.ife c a b :: ss) = o) fun m hm => (ss_nx ((st_if (evT_ok (h (m + 1) (by omega)))).trans (ha m hm))).trans (hr (m + 1) (by omega))
theorem Sv.if2r {c : Ex} {a b ss : List Sx} {d : PyData} (h : Ev P (K + 1) Γ S c (.bool false) S1) (ha : Sv P K Γ S1 b (.ret d S2)) : Sv P (K + 1) Γ S (.ife c a b :: ss) (.ret d S2) := step_of (p := fun m => ssStep (run P m) Γ S (.ife c a b :: ss) = .ret d S2) fun m hm => ss_ret ((st_if (evT_ok (h (m + 1) (by omega)))).trans (ha m hm))
/-- a loop -/
def Fv (P : Prg) (K : Nat) (t : Tg) (b : List Sx) (xs : List PyData) (Γ : Env) (S : Draw) (o : Out) : Prop := ∀ m, K + 1 ≤ m → forL t (fun Γ S => (run P m).s Γ S b) xs Γ S = o
theorem Fv.up {t : Tg} {b : List Sx} {xs : List PyData} {o : Out} (h : Fv P k t b xs Γ S o) (hk : k ≤ K := by omega) : Fv P K t b xs Γ S o := fun m hm => h m (by omega)
theorem Sv.fr {t : Tg} {it : Ex} {b ss : List Sx} {xs : List PyData} {Γ1 : Env} {o : Out} (hI : Iv P (K + 1) Γ S it xs S1) (h : Fv P K t b xs Γ S1 (.nx Γ1 S2)) (hr : Sv P (K + 1) Γ1 S2 ss o) : Sv P (K + 1) Γ S (.fr t it b :: ss) o := fun m hm => (ss_nx (st_for (hI m hm) (h m hm))).trans (hr m hm)
theorem Sv.frR {t : Tg} {it : Ex} {b ss : List Sx} {xs : List PyData} {d : PyData} (hI : Iv P (K + 1) Γ S it xs S1) (h : Fv P K t b xs Γ S1 (.ret d S2)) : Sv P (K + 1) Γ S (.fr t it b :: ss) (.ret d S2) := fun m hm => ss_forR (hI m hm) (h m hm)
theorem Fv.nil {t : Tg} {b : List Sx} : Fv P K t b [] Γ S (.nx Γ S) := fun _ _ => rfl
theorem body_at {b : List Sx} {o : Out} (h : Sv P K Γ S b o) : ∀ m, K + 1 ≤ m → (run P m).s Γ S b = o := step_of (p := fun m => (run P m).s Γ S b = o) fun m hm => h m hm
theorem Fv.cons {t : Tg} {b : List Sx} {x : PyData} {xs : List PyData} {Γ' Γ1 : Env} {o : Out} (hb : bindT t x Γ = some Γ') (h : Sv P K Γ' S b (.nx Γ1 S1) ∨ Sv P K Γ' S b (.cnt Γ1 S1)) (hr : Fv P K t b xs Γ1 S1 o) : Fv P K t b (x :: xs) Γ S o := fun m hm => by
  unfold forL
  rw [hb]
  dsimp only
  rcases h with h | h
  · rw [body_at h m hm]; exact hr m hm
  · rw [body_at h m hm]; exact hr m hm
theorem Fv.consR {t : Tg} {b : List Sx} {x : PyData} {xs : List PyData} {Γ' : Env} {d : PyData} (hb : bindT t x Γ = some Γ') (h : Sv P K Γ' S b (.ret d S1)) : Fv P K t b (x :: xs) Γ S (.ret d S1) := fun m hm => by
  unfold forL
  rw [hb]
  dsimp only
  rw [body_at h m hm]
/-- a loop that keeps something -/
theorem Fv.inv {α : Type} {t : Tg} {b : List Sx} {f : α → PyData} (I : List α → List α → Env → Draw → Prop) (hb : ∀ a x r Γ S, I a (x :: r) Γ S → ∃ Γ' Γ1 S1, bindT t (f x) Γ = some Γ' ∧ (Sv P K Γ' S b (.nx Γ1 S1) ∨ Sv P K Γ' S b (.cnt Γ1 S1)) ∧ I (a ++ [x]) r Γ1 S1) :
    ∀ (xs a : List α) (Γ : Env) (S : Draw), I a xs Γ S → ∃ Γ1 S1, Fv P K t b (xs.map f) Γ S (.nx Γ1 S1) ∧ I (a ++ xs) [] Γ1 S1
  | [], a, Γ, S, h => ⟨Γ, S, .nil, by rwa [List.append_nil]⟩
  | x :: r, a, Γ, S, h => by
    obtain ⟨Γ', Γ1, S1, h1, h2, h3⟩ := hb a x r Γ S h
    obtain ⟨Γ2, S2, h4, h5⟩ := Fv.inv I hb r (a ++ [x]) Γ1 S1 h3
    exact ⟨Γ2, S2, .cons h1 h2 h4, by simpa using h5⟩
/-- a loop that looks for the first, and changes nothing -/
theorem Fv.find {α : Type} {t : Tg} {b : List Sx} {f g : α → PyData} {p : α → Bool} (E : Env → Prop) (xs : List α) (Γ : Env) (e : E Γ) (h : ∀ x ∈ xs, ∀ Γ, E Γ → ∃ Γ', bindT t (f x) Γ = some Γ' ∧ (p x = true → Sv P K Γ' S b (.ret (g x) S)) ∧ (p x = false → ∃ Γ2, Sv P K Γ' S b (.nx Γ2 S) ∧ E Γ2)) :
    (∀ x, xs.find? p = some x → Fv P K t b (xs.map f) Γ S (.ret (g x) S)) ∧ (xs.find? p = none → ∃ Γ2, Fv P K t b (xs.map f) Γ S (.nx Γ2 S) ∧ E Γ2) := by
  induction xs generalizing Γ with
  | nil => exact ⟨fun x h => (by cases h), fun _ => ⟨Γ, .nil, e⟩⟩
  | cons x xs ih =>
    obtain ⟨Γ', h1, h2, h3⟩ := h x List.mem_cons_self Γ e
    rw [List.map_cons, List.find?_cons]
    cases hp : p x with
    | true => exact ⟨fun y hy => by cases hy; exact .consR h1 (h2 hp), fun z => by cases z⟩
    | false =>
      obtain ⟨Γ2, h4, h5⟩ := h3 hp
      obtain ⟨i1, i2⟩ := ih Γ2 h5 fun y hy => h y (List.mem_cons_of_mem _ hy)
      exact ⟨fun y hy => .cons h1 (.inl h4) (i1 y hy), fun z => let ⟨Γ3, h6, h7⟩ := i2 z; ⟨Γ3, .cons h1 (.inl h4) h6, h7⟩⟩
/-! ### calls -/
theorem Cv.mk {j np nN : Nat} {b : List Sx} {ds : List PyData} {d : PyData} (h : Has P j np nN b) (hl : ds.length = np := by rfl) (hb : Sv P K (ds.map some ++ List.replicate (nN - ds.length) none) S b (.ret d S1)) : Cv P (K + 2) j ds S d S1 := fun m hm => by
  obtain ⟨n, rfl⟩ : ∃ n, m = n + 2 := ⟨m - 2, by omega⟩
  exact call_has h hl (hb n (by omega))
theorem Cv.mkN {j np nN : Nat} {b : List Sx} {ds : List PyData} {Γ1 : Env} (h : Has P j np nN b) (hl : ds.length = np := by rfl) (hb : Sv P K (ds.map some ++ List.replicate (nN - ds.length) none) S b (.nx Γ1 S1)) : Cv P (K + 2) j ds S .none S1 := fun m hm => by
  obtain ⟨n, rfl⟩ : ∃ n, m = n + 2 := ⟨m - 2, by omega⟩
  exact call_hasN h hl (hb n (by omega))
end
end PD
/-! PJX: errors, worked out with enough fuel. -/
namespace PD
open PySem L2
section
variable (P : Prg) (K : Nat)
/-- an expression raises; arguments do; a call does -/
def Xv (Γ : Env) (S : Draw) (e : Ex) (c : Nat) (d : PyData) (S1 : Draw) : Prop := ∀ m, K ≤ m → (run P m).e Γ S e = .exc c d S1
def Yv (Γ : Env) (S : Draw) (es : List Ex) (c : Nat) (d : PyData) (S1 : Draw) : Prop := ∀ m, K ≤ m → evs ((run P m).e Γ) es S = .exc c d S1
def Kv (j : Nat) (ds : List PyData) (S : Draw) (c : Nat) (d : PyData) (S1 : Draw) : Prop := ∀ m, K ≤ m → (run P m).c j ds S = .exc c d S1
end
section
variable {P : Prg} {K k : Nat} {Γ : Env} {S S1 S2 S3 : Draw} {c : Nat} {d : PyData}
theorem Xv.up {e : Ex} (h : Xv P k Γ S e c d S1) (hk : k ≤ K := by omega) : Xv P K Γ S e c d S1 := fun m hm => h m (Nat.le_trans hk hm)
theorem Kv.up {j : Nat} {ds : List PyData} (h : Kv P k j ds S c d S1) (hk : k ≤ K := by omega) : Kv P K j ds S c d S1 := fun m hm => h m (Nat.le_trans hk hm)
theorem Yv.here {e : Ex} {r : List Ex} (h : Xv P K Γ S e c d S1) : Yv P K Γ S (e :: r) c d S1 := fun m hm => by
  show ((run P m).e Γ S e).bind _ = _
  rw [h m hm]; rfl
theorem Yv.next {e : Ex} {r : List Ex} {x : PyData} (h : Ev P K Γ S e x S1) (hr : Yv P K Γ S1 r c d S2) : Yv P K Γ S (e :: r) c d S2 := fun m hm => by
  show ((run P m).e Γ S e).bind _ = _
  rw [h m hm, Res.bind_ok, hr m hm]; rfl
theorem Xv.call {j : Nat} {es : List Ex} {xs : List PyData} (h : Av P K Γ S es xs S1) (hc : Kv P K j xs S1 c d S2) : Xv P (K + 1) Γ S (.call j es) c d S2 := step_of (p := fun m => (run P m).e Γ S (.call j es) = .exc c d S2) fun m hm => by
  show (evs ((run P m).e Γ) es S).bind _ = _
  rw [h m hm, Res.bind_ok, hc m hm]
theorem Xv.callA {j : Nat} {es : List Ex} (h : Yv P K Γ S es c d S1) : Xv P (K + 1) Γ S (.call j es) c d S1 := step_of (p := fun m => (run P m).e Γ S (.call j es) = .exc c d S1) fun m hm => by
  show (evs ((run P m).e Γ) es S).bind _ = _
  rw [h m hm]; rfl
theorem Xv.lst {es : List Ex} (h : Yv P K Γ S es c d S1) : Xv P (K + 1) Γ S (.lst es) c d S1 := step_of (p := fun m => (run P m).e Γ S (.lst es) = .exc c d S1) fun m hm => by
  show (evs ((run P m).e Γ) es S).bind _ = _
  rw [h m hm]; rfl
theorem Xv.tup {es : List Ex} (h : Yv P K Γ S es c d S1) : Xv P (K + 1) Γ S (.tup es) c d S1 := step_of (p := fun m => (run P m).e Γ S (.tup es) = .exc c d S1) fun m hm => by
  show (evs ((run P m).e Γ) es S).bind _ = _
  rw [h m hm]; rfl
theorem Xv.idx {a b : Ex} (h : Xv P K Γ S a c d S1) : Xv P (K + 1) Γ S (.idx a b) c d S1 := step_of (p := fun m => (run P m).e Γ S (.idx a b) = .exc c d S1) fun m hm => by
  show ((run P m).e Γ S a).bind _ = _
  rw [h m hm]; rfl
/-! ### what is held -/
theorem Ev.exn {i : Nat} {neg b : Bool} {x : PyData} (h : getV Γ i = some x) (hb : (isNon x != neg) = b := by rfl) : Ev P (K + 1) Γ S (.exn i neg) (.bool b) S := step_of (p := fun m => (run P m).e Γ S (.exn i neg) = .ok (.bool b) S) fun m _ => by
  show (lift (getV Γ i) S).bind _ = _
  rw [h, ← hb]; rfl
theorem Ev.exf {i c : Nat} {f : Str} {cs : List Nat} {x : PyData} (h : getV Γ i = some (excD c x)) (hc : cs.contains c = true) : Ev P (K + 1) Γ S (.exf i f cs) x S := step_of (p := fun m => (run P m).e Γ S (.exf i f cs) = .ok x S) fun m _ => by
  show (lift (getV Γ i) S).bind _ = _
  rw [h]
  show (if cs.contains c = true then Res.ok x S else .bad) = _
  rw [if_pos hc]
theorem Ev.exi {i c c' : Nat} {x : PyData} (h : getV Γ i = some (excD c x)) : Ev P (K + 1) Γ S (.exi i c') (.bool (c == c')) S := step_of (p := fun m => (run P m).e Γ S (.exi i c') = .ok (.bool (c == c')) S) fun m _ => by
  show (lift (getV Γ i) S).bind _ = _
  rw [h]; rfl
/-! ### statements -/
theorem ss_exc {r : Fns} {s : Sx} {ss : List Sx} (h : stStep r Γ S s = .exc c d S1) : ssStep r Γ S (s :: ss) = .exc c d S1 := by
  show (stStep r Γ S s).seq _ = _
  rw [h]; rfl
theorem Sv.rse {keep : Bool} {e : Ex} {x : PyData} {ss : List Sx} (h : Ev P K Γ S e x S1) : Sv P K Γ S (.rse c keep e :: ss) (.exc c (if keep then x else .none) S1) := fun m hm => ss_exc (by
  show ((run P m).e Γ S e).out _ = _
  rw [h m hm]; rfl)
theorem Sv.asgX {t : Tg} {e : Ex} {ss : List Sx} (h : Xv P K Γ S e c d S1) : Sv P K Γ S (.asg t e :: ss) (.exc c d S1) := fun m hm => ss_exc (by
  show ((run P m).e Γ S e).out _ = _
  rw [h m hm]; rfl)
theorem Sv.asgOX {i : Nat} {e : Ex} {ss : List Sx} (h : Xv P K Γ S e c d S1) : Sv P K Γ S (.asgO i e :: ss) (.exc c d S1) := fun m hm => ss_exc (by
  show ((run P m).e Γ S e).out _ = _
  rw [h m hm]; rfl)
theorem Sv.retX {e : Ex} {ss : List Sx} (h : Xv P K Γ S e c d S1) : Sv P K Γ S (.ret e :: ss) (.exc c d S1) := fun m hm => ss_exc (by
  show ((run P m).e Γ S e).out _ = _
  rw [h m hm]; rfl)
theorem Sv.expX {e : Ex} {ss : List Sx} (h : Xv P K Γ S e c d S1) : Sv P K Γ S (.exp e :: ss) (.exc c d S1) := fun m hm => ss_exc (by
  show ((run P m).e Γ S e).out _ = _
  rw [h m hm]; rfl)
theorem Sv.parX {is : List Nat} {es : List Ex} {ss : List Sx} (h : Yv P K Γ S es c d S1) : Sv P K Γ S (.par is es :: ss) (.exc c d S1) := fun m hm => ss_exc (by
  show (evs ((run P m).e Γ) es S).out _ = _
  rw [h m hm]; rfl)
theorem Sv.if1X {t : Ex} {a b ss : List Sx} (h : Ev P (K + 1) Γ S t (.bool true) S1) (ha : Sv P K Γ S1 a (.exc c d S2)) : Sv P (K + 1) Γ S (.ife t a b :: ss) (.exc c d S2) := step_of (p := fun m => ssStep (run P m) Γ S (.ife t a b :: ss) = .exc c d S2) fun m hm => ss_exc ((st_if (evT_ok (h (m + 1) (by omega)))).trans (by
  rw [if_pos rfl]
  exact ha m hm))
theorem Sv.if2X {t : Ex} {a b ss : List Sx} (h : Ev P (K + 1) Γ S t (.bool false) S1) (ha : Sv P K Γ S1 b (.exc c d S2)) : Sv P (K + 1) Γ S (.ife t a b :: ss) (.exc c d S2) := step_of (p := fun m => ssStep (run P m) Γ S (.ife t a b :: ss) = .exc c d S2) fun m hm => ss_exc ((st_if (evT_ok (h (m + 1) (by omega)))).trans (by
  rw [if_neg Bool.false_ne_true]
  exact ha m hm))
theorem Sv.ifX {t : Ex} {a b ss : List Sx} (h : Xv P K Γ S t c d S1) : Sv P K Γ S (.ife t a b :: ss) (.exc c d S1) := fun m hm => ss_exc (by
  show (toB ((run P m).e Γ S t) _).out _ = _
  rw [h m hm]; rfl)
/-- try: xs.append(e) -/
theorem Sv.tre0 {j : Nat} {e : Ex} {cs : List Nat} {i m' : Nat} {xs : List PyData} {y : PyData} {ss : List Sx} {o : Out} (hg : getV Γ j = some (.list xs)) (h : Ev P K Γ S e y S1) (hl : xs.length < 16777216) (hr : Sv P K (Γ.set j (some (.list (xs ++ [y])))) S1 ss o) : Sv P K Γ S (.tre j e cs i m' :: ss) o := fun m hm => (ss_nx (by
  show (match appO (run P m) Γ S j e with
    | .exc c d S1 => if cs.contains c then Out.nx ((Γ.set i none).set m' (some (excD c d))) S1 else .bad
    | o => o) = .nx (Γ.set j (some (.list (xs ++ [y])))) S1
  have e1 : appO (run P m) Γ S j e = .nx (Γ.set j (some (.list (xs ++ [y])))) S1 := by
    unfold appO
    rw [hg]
    show ((run P m).e Γ S e).out _ = _
    rw [h m hm]
    show (if xs.length < 16777216 then Out.nx (Γ.set j (some (.list (xs ++ [y])))) S1 else .bad) = _
    rw [if_pos hl]
  rw [e1])).trans (hr m hm)
theorem Sv.treX {j : Nat} {e : Ex} {cs : List Nat} {i m' : Nat} {xs : List PyData} {ss : List Sx} {o : Out} (hg : getV Γ j = some (.list xs)) (h : Xv P K Γ S e c d S1) (hc : cs.contains c = true) (hr : Sv P K ((Γ.set i none).set m' (some (excD c d))) S1 ss o) : Sv P K Γ S (.tre j e cs i m' :: ss) o := fun m hm => (ss_nx (by
  show (match appO (run P m) Γ S j e with
    | .exc c d S1 => if cs.contains c then Out.nx ((Γ.set i none).set m' (some (excD c d))) S1 else .bad
    | o => o) = .nx ((Γ.set i none).set m' (some (excD c d))) S1
  have e1 : appO (run P m) Γ S j e = .exc c d S1 := by
    unfold appO
    rw [hg]
    show ((run P m).e Γ S e).out _ = _
    rw [h m hm]; rfl
  rw [e1]
  exact if_pos hc)).trans (hr m hm)
theorem Fv.consX {t : Tg} {b : List Sx} {x : PyData} {xs : List PyData} {Γ' : Env} (hb : bindT t x Γ = some Γ') (h : Sv P K Γ' S b (.exc c d S1)) : Fv P K t b (x :: xs) Γ S (.exc c d S1) := fun m hm => by
  unfold forL
  rw [hb]
  have e : (run P m).s Γ' S b = .exc c d S1 := step_of (p := fun m => (run P m).s Γ' S b = .exc c d S1) (fun m hm => h m hm) m hm
  dsimp only
  rw [e]
theorem Sv.frX {t : Tg} {it : Ex} {b ss : List Sx} {xs : List PyData} (hI : Iv P (K + 1) Γ S it xs S1) (h : Fv P K t b xs Γ S1 (.exc c d S2)) : Sv P (K + 1) Γ S (.fr t it b :: ss) (.exc c d S2) := fun m hm => ss_exc (by
  show (evI (run P m) Γ S it).out _ = _
  rw [hI m hm]
  exact h m hm)
theorem Kv.mk {j np nN : Nat} {b : List Sx} {ds : List PyData} (h : Has P j np nN b) (hl : ds.length = np := by rfl) (hb : Sv P K (ds.map some ++ List.replicate (nN - ds.length) none) S b (.exc c d S1)) : Kv P (K + 2) j ds S c d S1 := fun m hm => by
  obtain ⟨f, h1, h2, h3, h4⟩ := h
  obtain ⟨m, rfl⟩ : ∃ m', m = m' + 2 := ⟨m - 2, by omega⟩
  show cStep P (run P (m + 1)) j ds S = _
  unfold cStep
  rw [h1]
  dsimp only
  rw [if_pos (by rw [h2]; exact hl), h4]
  dsimp only
  have e : (run P (m + 1)).s (ds.map some ++ List.replicate (f.N.length - ds.length) none) S b = .exc c d S1 := by
    rw [h3]
    exact hb m (by omega)
  rw [e]
end
end PD
/-! PX4: is_parting of any value; right papers are let by. -/
namespace PD
open PySem L2
def okSide (l : List Int) (p : PyData × Nat) : Bool :=
  match p.1 with
  | .int i => (decide (-1 ≤ i) && decide (i ≤ 1)) && ((!decide (i = 0)) == decide ((p.2 : Int) ∈ l))
  | _ => false
def partingB (c : Int) (ls : List (List Int)) (l : List Int) (d : PyData) : Bool :=
  match d with
  | .tuple xs => decide (xs.length = c.toNat) && (xs.zipIdx.all (okSide l) && (match intsOf xs with | some rs => evenB ls rs 1 | none => false))
  | _ => false
theorem okSide_ints {l : List Int} : ∀ {xs : List PyData} {k : Nat}, (xs.zipIdx k).all (okSide l) = true → ∃ rs : List Int, xs = rs.map .int
  | [], _, _ => ⟨[], rfl⟩
  | x :: xs, k, h => by
    simp only [List.zipIdx_cons, List.all_cons, Bool.and_eq_true] at h
    obtain ⟨rs, rfl⟩ := okSide_ints h.2
    cases x <;> first | exact ⟨_ :: rs, rfl⟩ | cases h.1
section
variable {P : Prg}
theorem shape_cv [F_need_shape P] {c : Int} {ls : List (List Int)} (S : Draw) (h : Shp c ls) : Cv P 24 2 [shpD c ls] S (shpD c ls) S := .of fun n => shape_ok n S h
theorem whole_cv [F_is_whole P] (d : PyData) (lo hi : Int) (S : Draw) : Cv P 8 0 [d, .int lo, .int hi] S (.bool (wholeD d lo hi)) S := .of fun n => whole_any n d lo hi S
theorem lot_cv [F_is_lot P] (c : Int) (d : PyData) (S : Draw) (hl : ∀ xs, d = .tuple xs → xs.length ≤ 16777216) : Cv P 16 1 [.int c, d] S (.bool (lotB c d)) S := .of fun n => lot_any n c d S hl
theorem lotr_cv [F_is_lot P] {c : Int} {ns : List Int} (S : Draw) (h : Lot c ns) (hc : c ≤ 1000) : Cv P 16 1 [.int c, rowD ns] S (.bool true) S := .of fun n => lot_row n S h hc
theorem need_lot_cv [F_need_lot P] {c : Int} {ls : List (List Int)} {l : List Int} (S : Draw) (h : Shp c ls) (hl : Lot c l) : Cv P 30 3 [shpD c ls, rowD l] S .none S := .of fun n => need_lot_ok n S h hl
theorem lots_cv [F_lots_of P] {c : Int} (S : Draw) (h0 : 0 ≤ c) (h8 : c ≤ 8) : Cv P 12 7 [.int c] S (.list ((LF c.toNat 0).map rowD)) S := .of fun n => lots_ok n S h0 h8
theorem sides_cv [F_sides_of P] {c : Int} (l : List Int) (S : Draw) (h0 : 0 ≤ c) (h8 : c ≤ 8) : Cv P 12 8 [.int c, rowD l] S (.list ((SD l c.toNat).map rowD)) S := .of fun n => sides_ok n l S h0 h8
theorem even_cv [F_is_even P] {c : Int} {ls : List (List Int)} {rs : List Int} (m : Int) (S : Draw) (h : Shp c ls) (hr : rs.length = c.toNat) : Cv P 12 9 [shpD c ls, rowD rs, .int m] S (.bool (evenB ls rs m)) S := .of fun n => even_ok n m S h hr
theorem part_in_cv [F_parting_in P] {c : Int} {ls : List (List Int)} (l : List Int) (S : Draw) (h : Shp c ls) : Cv P 20 10 [shpD c ls, rowD l] S (optD (partO c ls l)) S := .of fun n => part_in_ok n l S h
theorem parting_cv [F_parting P] {c : Int} {ls : List (List Int)} {l : List Int} (S : Draw) (h : Shp c ls) (hl : Lot c l) : Cv P 40 11 [shpD c ls, rowD l] S (optD (partO c ls l)) S := .of fun n => parting_ok n S h hl
theorem clash_in_cv [F_clash_in P] {c : Int} {ls : List (List Int)} (S : Draw) (h : Shp c ls) : Cv P 26 12 [shpD c ls] S (optD (clashO c ls)) S := .of fun n => clash_in_ok n S h
theorem fair_in_cv [F_is_fair_in P] {c : Int} {ls : List (List Int)} (S : Draw) (h : Shp c ls) : Cv P 30 13 [shpD c ls] S (.bool (clashO c ls).isNone) S := .of fun n => fair_in_ok n S h
theorem fair_cv [F_is_fair P] {c : Int} {ls : List (List Int)} (S : Draw) (h : Shp c ls) : Cv P 34 14 [shpD c ls] S (.bool (clashO c ls).isNone) S := .of fun n => fair_ok n S h
theorem clash_cv [F_clash P] {c : Int} {ls : List (List Int)} (S : Draw) (h : Shp c ls) : Cv P 30 15 [shpD c ls] S (optD (clashO c ls)) S := .of fun n => clash_ok n S h
theorem halves_of_cv [F_halves_of P] {c : Int} {ls : List (List Int)} (l : List Int) (S : Draw) (h : Shp c ls) : Cv P 12 16 [shpD c ls, rowD l] S (conD 2 (halfR c l)) S := .of fun n => halves_of_ok n l S h
theorem halves_cv [F_halves P] {c : Int} {ls : List (List Int)} {l : List Int} (S : Draw) (h : Shp c ls) (hl : Lot c l) : Cv P 40 17 [shpD c ls, rowD l] S (conD 2 (halfR c l)) S := .of fun n => halves_ok n S h hl
theorem paper_cv [F_fair_paper P] {c : Int} {ls : List (List Int)} (S : Draw) (h : Shp c ls) : Cv P 40 18 [shpD c ls] S (paperD c ls) S := .of fun n => paper_ok n S h
theorem ne_int (i j : Int) : cmpD .NotEq (.int i) (.int j) = some (!decide (i = j)) := by simp only [cmpD, dpt, PyData.depth, eqv_int]; rfl
theorem eq_int (i j : Int) : cmpD .Eq (.int i) (.int j) = some (decide (i = j)) := by simp only [cmpD, dpt, PyData.depth, eqv_int]; rfl
theorem eq_bool (a b : Bool) : cmpD .Eq (.bool a) (.bool b) = some (a == b) := by cases a <;> cases b <;> rfl
theorem cin_row (k : Int) (l : List Int) : cmpD .In (.int k) (rowD l) = some (decide (k ∈ l)) := in_row k l
theorem is_part_cv [F_is_parting P] {c : Int} {ls : List (List Int)} (l : List Int) (d : PyData) (S : Draw) (h : Shp c ls) (hd : ∀ xs, d = .tuple xs → xs.length ≤ 16777216) : Cv P 18 19 [shpD c ls, rowD l, d] S (.bool (partingB c ls l d)) S := by
  have c1 := h.c1
  have c8 := h.c8
  refine .mk F_is_parting.h_is_parting rfl ?_
  by_cases ht : ∃ xs, d = .tuple xs
  · obtain ⟨xs, rfl⟩ := ht
    have hx := hd xs rfl
    by_cases hl : (xs.length : Int) = c
    · have hn : xs.length = c.toNat := by omega
      refine .if0 (.or0 (.not (b := true) (.isi .var)) (.orZ (.cmp (x := .int xs.length) (y := .int c) (.blt (.one .var)) (.idx .var .con) (by rw [ne_int, decide_eq_true hl]; rfl)))) ?_
      have q2 : Ev P 15 [some (shpD c ls), some (rowD l), some (.tuple xs), none, none] S (.blt .all [.comp (.and [(.call 0 [(.var 4), (.neg (.con (.int 1))), (.con (.int 1))]), (.cmp .Eq (.cmp .NotEq (.var 4) (.con (.int 0))) (.cmp .In (.var 3) (.var 1)))]) (.tp [(.nm 3), (.nm 4)]) (.enm (.var 2)) [] [3, 4]]) (.bool (xs.zipIdx.all (okSide l))) S := by
        refine .all (fun p => .tuple [.int p.2, p.1]) (okSide l) (.enm .var rfl) (by simpa using hx) fun p hp => ⟨_, rfl, ?_⟩
        obtain ⟨x, k⟩ := p
        have w : Ev P 12 [some (shpD c ls), some (rowD l), some (.tuple xs), some (.int k), some x] S (.call 0 [(.var 4), (.neg (.con (.int 1))), (.con (.int 1))]) (.bool (wholeD x (-1) 1)) S := .call (.cons .var (.cons (.neg .con) (.one .con))) (whole_cv _ _ _ _).up
        cases x with
        | int i => exact Ev.andB w fun hw => .cmp (.cmp .var .con (ne_int i 0)) (.cmp .var .var (cin_row k l)) (eq_bool _ _)
        | _ => exact .and0 w
      cases ha : xs.zipIdx.all (okSide l) with
      | false =>
        rw [ha] at q2
        rw [show partingB c ls l (.tuple xs) = false by simp only [partingB, ha, Bool.false_and, Bool.and_false]]
        exact .if1r (.not q2) (.ret .con)
      | true =>
        rw [ha] at q2
        obtain ⟨rs, rfl⟩ := okSide_ints ha
        rw [show partingB c ls l (.tuple (rs.map .int)) = evenB ls rs 1 by simp only [partingB, ha, Bool.true_and, decide_eq_true hn, intsOf_map]]
        refine .if0 (.not q2) (.ret ?_)
        rw [List.length_map] at hn
        exact .call (xs := [shpD c ls, rowD rs, .int 1]) (.cons .var (.cons .var (.one .con))) (even_cv 1 S h hn).up
    · rw [show partingB c ls l (.tuple xs) = false by simp only [partingB, decide_eq_false (show ¬ xs.length = c.toNat by omega), Bool.false_and]]
      exact .if1r (.or0 (.not (b := true) (.isi .var)) (.orZ (.cmp (x := .int xs.length) (y := .int c) (.blt (.one .var)) (.idx .var .con) (by rw [ne_int, decide_eq_false hl]; rfl)))) (.ret .con)
  · have e : partingB c ls l d = false := by cases d <;> first | rfl | exact absurd ⟨_, rfl⟩ ht
    rw [e]
    have e2 : isiD .tuple d = false := by cases d <;> first | rfl | exact absurd ⟨_, rfl⟩ ht
    exact .if1r (.or1 (.not (b := false) (.isi .var e2))) (.ret .con)
theorem part_is {c : Int} {ls : List (List Int)} {l r : List Int} (h0 : 0 ≤ c) (h : partO c ls l = some r) : partingB c ls l (rowD r) = true := by
  have hm := List.mem_of_find?_eq_some h
  have he := List.find?_some h
  obtain ⟨h1, h2⟩ := SD_row hm
  simp only [partingB, rowD, intsOf_map, List.length_map, decide_eq_true h1, Bool.true_and, Bool.and_eq_true]
  refine ⟨List.all_eq_true.mpr fun p hp => ?_, he⟩
  obtain ⟨x, k⟩ := p
  have hk := List.mem_zipIdx_iff_getElem?.mp hp
  rw [List.getElem?_map, Option.map_eq_some_iff] at hk
  obtain ⟨i, hi, rfl⟩ := hk
  have hk := (List.getElem?_eq_some_iff.mp hi).1
  have hs := h2 k (by omega)
  rw [List.getD_eq_getElem?_getD, hi] at hs
  simp only [Option.getD_some] at hs
  unfold signs at hs
  dsimp only [okSide]
  split at hs
  · rename_i hm
    simp only [List.mem_cons, List.not_mem_nil, or_false] at hs
    rcases hs with rfl | rfl <;> simp [hm]
  · rename_i hm
    simp only [List.mem_cons, List.not_mem_nil, or_false] at hs
    subst hs
    simp [hm]
theorem clash_none {c : Int} {ls : List (List Int)} (h : clashO c ls = none) {l : List Int} (hl : l ∈ LF c.toNat 0) : ∃ r, partO c ls l = some r := by
  have := List.find?_eq_none.mp h l hl
  cases e : partO c ls l with
  | some r => exact ⟨r, rfl⟩
  | none => rw [e] at this; exact absurd rfl this
theorem clash_some {c : Int} {ls : List (List Int)} {l : List Int} (h : clashO c ls = some l) : l ∈ LF c.toNat 0 ∧ partO c ls l = none := by
  refine ⟨List.mem_of_find?_eq_some h, ?_⟩
  have := List.find?_some h
  exact Option.isNone_iff_eq_none.mp this
def wordD (c : Int) (ls : List (List Int)) : PyData := .str (if (clashO c ls).isSome then "clash" else "fair")
theorem check_right [F_check_fair P] {c : Int} {ls : List (List Int)} (S : Draw) (h : Shp c ls) : Cv P 40 20 [shpD c ls, paperD c ls] S (wordD c ls) S := by
  have c1 := h.c1
  have c8 := h.c8
  refine .mk F_check_fair.h_check_fair rfl ?_
  refine .exp (.call (.one .var) (shape_cv S h).up) ?_
  unfold paperD wordD
  cases hf : clashO c ls with
  | some l =>
    obtain ⟨hl, hp⟩ := clash_some hf
    have hl := (LF_lot (by omega)).mp hl
    refine .if0 (.or0 (.not (b := true) (.isi .var)) (.or0 (.cmp (x := .int 2) (y := .int 2) (.blt (.one .var)) .con) (.orZ (.not (b := true) (.isi (x := .str "clash") (.idx .var .con)))))) ?_
    refine .if0 (.cmp (x := .str "clash") (y := .tuple [.str "fair", .str "clash"]) (.idx .var .con) (.tup (.cons .glb (.one .glb))) (by decide +kernel)) ?_
    refine .if1r (.cmp (x := .str "clash") (y := .str "clash") (.idx .var .con) .glb (by decide +kernel)) ?_
    refine .if0 (.or0 (.not (b := true) (.call (xs := [.int c, rowD l]) (.cons (.idx .var .con) (.one (.idx .var .con))) (lotr_cv S hl (by omega)).up)) (.orZ (.cmp (x := optD none) (.call (xs := [shpD c ls, rowD l]) (.cons .var (.one (.idx .var .con))) (hp ▸ (part_in_cv l S h).up)) .con rfl))) ?_
    exact .ret .glb
  | none =>
    refine .if0 (.or0 (.not (b := true) (.isi .var)) (.or0 (.cmp (x := .int 2) (y := .int 2) (.blt (.one .var)) .con) (.orZ (.not (b := true) (.isi (x := .str "fair") (.idx .var .con)))))) ?_
    refine .if0 (.cmp (x := .str "fair") (y := .tuple [.str "fair", .str "clash"]) (.idx .var .con) (.tup (.cons .glb (.one .glb))) (by decide +kernel)) ?_
    refine .if0 (.cmp (x := .str "fair") (y := .str "clash") (.idx .var .con) .glb (by decide +kernel)) ?_
    have few := LF_few c8 0
    refine .asg (.call (xs := [.int c]) (.one (.idx .var .con)) (lots_cv S (by omega) c8).up) ?_
    refine .if0 (.or0 (.not (b := true) (.isi (x := .tuple ((LF c.toNat 0).map fun l => optD (partO c ls l))) (.idx .var .con))) (.orZ (.cmp (x := .int (LF c.toNat 0).length) (y := .int (LF c.toNat 0).length) (.blt (xs := [.tuple ((LF c.toNat 0).map fun l => optD (partO c ls l))]) (.one (.idx .var .con)) (by rw [blt_lenT, List.length_map])) (.blt (xs := [.list ((LF c.toNat 0).map rowD)]) (.one .var) (by rw [blt_lenL, List.length_map])) (by rw [ne_int, decide_eq_true rfl]; rfl)))) ?_
    refine .if0 (.not (b := true) ?_) (.ret .glb)
    have q : Ev P 36 [some (shpD c ls), some (.tuple [.str "fair", .tuple ((LF c.toNat 0).map fun l => optD (partO c ls l))]), some (.list ((LF c.toNat 0).map rowD)), none, none] S (.blt .all [.comp (.call 19 [(.var 0), (.var 3), (.var 4)]) (.tp [(.nm 3), (.nm 4)]) (.zip (.var 2) (.idx (.var 1) (.con (.int 1)))) [] [3, 4]]) (.bool ((LF c.toNat 0).all fun _ => true)) S := by
      refine .all (fun l => .tuple [rowD l, optD (partO c ls l)]) _ (.zip (x := .list ((LF c.toNat 0).map rowD)) (y := .tuple ((LF c.toNat 0).map fun l => optD (partO c ls l))) .var (.idx .var .con) ?_) (by omega) fun l hl => ⟨_, rfl, ?_⟩
      · show some (List.zipWith _ _ _) = _
        rw [List.zipWith_map, List.zipWith_self]
      · obtain ⟨r, hr⟩ := clash_none hf hl
        have e := part_is (by omega) hr
        rw [hr]
        have k := is_part_cv (P := P) l (rowD r) S h (fun xs e => by
          cases e
          rw [List.length_map, (SD_row (List.mem_of_find?_eq_some hr)).1]
          omega)
        rw [e] at k
        exact .call (xs := [shpD c ls, rowD l, rowD r]) (.cons .var (.cons .var (.one .var))) k.up
    rw [show ((LF c.toNat 0).all fun _ => true) = true by simp] at q
    exact q.up
end
end PD
/-! PX8: how far off sums must be. -/
namespace PD
open PySem L2
def farI (ls : List (List Int)) (rs : List Int) : Int := (ls.map fun l => absI (sumAt rs l)).foldl max 0
theorem foldl_max (n : Int) : ∀ (ns : List Int) (m : Int), ns.foldl max n ≤ m ↔ n ≤ m ∧ ∀ i ∈ ns, i ≤ m
  | [], m => by simp
  | a :: r, m => by
    rw [List.foldl_cons, foldl_max (max n a) r m]
    simp only [List.mem_cons, forall_eq_or_imp, Int.max_le]
    exact ⟨fun ⟨⟨h1, h2⟩, h3⟩ => ⟨h1, h2, h3⟩, fun ⟨h1, h2, h3⟩ => ⟨⟨h1, h2⟩, h3⟩⟩
theorem foldl_min (n : Int) : ∀ (ns : List Int) (m : Int), ns.foldl min n ≤ m ↔ n ≤ m ∨ ∃ i ∈ ns, i ≤ m
  | [], m => by simp
  | a :: r, m => by
    rw [List.foldl_cons, foldl_min (min n a) r m]
    have e : min n a ≤ m ↔ n ≤ m ∨ a ≤ m := by
      rw [Int.min_def]
      split <;> constructor <;> intro h <;> first | exact .inl h | exact .inr h | (rcases h with h | h <;> omega) | omega
    rw [e]
    simp only [List.mem_cons, exists_eq_or_imp]
    exact or_assoc
theorem far_even {ls : List (List Int)} {rs : List Int} {m : Int} (h0 : 0 ≤ m) : decide (farI ls rs ≤ m) = evenB ls rs m := by
  rw [Bool.eq_iff_iff, decide_eq_true_eq]
  unfold farI evenB
  rw [foldl_max, List.all_eq_true]
  simp only [List.mem_map, forall_exists_index, and_imp, forall_apply_eq_imp_iff₂, decide_eq_true_eq]
  exact ⟨fun h => h.2, fun h => ⟨h0, h⟩⟩
theorem far_nn (ls : List (List Int)) (rs : List Int) : 0 ≤ farI ls rs := by
  have := (foldl_max 0 (ls.map fun l => absI (sumAt rs l)) (farI ls rs)).mp (Int.le_refl _)
  exact this.1
theorem dep_ints : ∀ ns : List Int, PyData.depthAll (ns.map .int) ≤ 100
  | [] => by simp [PyData.depthAll]
  | n :: r => by
    have := dep_ints r
    simp only [List.map_cons, PyData.depthAll, PyData.depth]
    omega
theorem best_ints (ns : List Int) : bestOk (ns.map .int) = true := by
  unfold bestOk
  simp only [Bool.and_eq_true, List.all_eq_true, decide_eq_true_eq]
  refine ⟨⟨fun x hx y hy => ?_, fun x hx => ?_⟩, dep_ints ns⟩
  · obtain ⟨a, _, rfl⟩ := List.mem_map.mp hx
    obtain ⟨b, _, rfl⟩ := List.mem_map.mp hy
    rfl
  · obtain ⟨a, _, rfl⟩ := List.mem_map.mp hx
    rfl
theorem blt_maxI (n : Int) (ns : List Int) : bltD .max [.list (.int n :: ns.map .int)] = some (.int (ns.foldl max n)) := by
  have := best_ints (n :: ns)
  rw [List.map_cons] at this
  simp only [bltD, this, if_true, PySem.W.maxD_ints]
theorem blt_minI (n : Int) (ns : List Int) : bltD .min [.list (.int n :: ns.map .int)] = some (.int (ns.foldl min n)) := by
  have := best_ints (n :: ns)
  rw [List.map_cons] at this
  simp only [bltD, this, if_true, PySem.W.minD_ints]
def maxL : List Int → Int
  | [] => 0
  | x :: xs => xs.foldl max x
def minL : List Int → Int
  | [] => 0
  | x :: xs => xs.foldl min x
theorem blt_max {ns : List Int} (h : ns ≠ []) : bltD .max [.list (ns.map .int)] = some (.int (maxL ns)) := by
  cases ns with
  | nil => exact absurd rfl h
  | cons n r => exact blt_maxI n r
theorem blt_min {ns : List Int} (h : ns ≠ []) : bltD .min [.list (ns.map .int)] = some (.int (minL ns)) := by
  cases ns with
  | nil => exact absurd rfl h
  | cons n r => exact blt_minI n r
theorem minL_le {ns : List Int} (h : ns ≠ []) (m : Int) : minL ns ≤ m ↔ ∃ i ∈ ns, i ≤ m := by
  cases ns with
  | nil => exact absurd rfl h
  | cons n r => simp only [minL, foldl_min, List.mem_cons, exists_eq_or_imp]
theorem maxL_le {ns : List Int} (h : ns ≠ []) (m : Int) : maxL ns ≤ m ↔ ∀ i ∈ ns, i ≤ m := by
  cases ns with
  | nil => exact absurd rfl h
  | cons n r => simp only [maxL, foldl_max, List.mem_cons, forall_eq_or_imp]
theorem SD_ne (l : List Int) : ∀ k, SD l k ≠ []
  | 0 => by simp [SD]
  | k + 1 => fun e => by
    have h := SD_ne l k
    obtain ⟨r, rs, hr⟩ := List.exists_cons_of_ne_nil h
    have e : ((SD l k).flatMap fun row => (signs l k).map fun s => row ++ [s]) = [] := e
    rw [hr, List.flatMap_cons, List.append_eq_nil_iff] at e
    have := e.1
    unfold signs at this
    split at this <;> cases this
def offI (c : Int) (ls : List (List Int)) (l : List Int) : Int := minL ((SD l c.toNat).map (farI ls))
theorem off_le {c : Int} {ls : List (List Int)} {l : List Int} {m : Int} (h0 : 0 ≤ m) : offI c ls l ≤ m ↔ ((SD l c.toNat).any fun r => evenB ls r m) = true := by
  unfold offI
  rw [minL_le (fun e => SD_ne l c.toNat (List.map_eq_nil_iff.mp e)), List.any_eq_true]
  simp only [List.mem_map]
  constructor
  · rintro ⟨i, ⟨r, hr, rfl⟩, h⟩
    exact ⟨r, hr, by rw [← far_even h0]; exact decide_eq_true h⟩
  · rintro ⟨r, hr, h⟩
    rw [← far_even h0] at h
    exact ⟨_, ⟨r, hr, rfl⟩, of_decide_eq_true h⟩
theorem off_nn (c : Int) (ls : List (List Int)) (l : List Int) : 0 ≤ offI c ls l := by
  have := (minL_le (ns := (SD l c.toNat).map (farI ls)) (fun e => SD_ne l c.toNat (List.map_eq_nil_iff.mp e)) (offI c ls l)).mp (Int.le_refl _)
  obtain ⟨i, hi, h⟩ := this
  obtain ⟨r, _, rfl⟩ := List.mem_map.mp hi
  have := far_nn ls r
  omega
theorem abs_sum : ∀ (ns : List Int) (k : Int), (∀ i ∈ ns, absI i ≤ k) → absI ns.sum ≤ ns.length * k
  | [], k, _ => by simp [absI]
  | n :: r, k, h => by
    have h1 := abs_sum r k fun i hi => h i (List.mem_cons_of_mem _ hi)
    have h2 := h n List.mem_cons_self
    rw [List.sum_cons, List.length_cons]
    have e : ((r.length + 1 : Nat) : Int) * k = r.length * k + k := by rw [Int.natCast_add, Int.add_mul]; omega
    rw [e]
    unfold absI at *
    split at h1 <;> split at h2 <;> split <;> omega
theorem sd_one {l r : List Int} {k : Nat} (h : r ∈ SD l k) (i : Nat) : absI (r.getD i 0) ≤ 1 := by
  obtain ⟨h1, h2⟩ := SD_row h
  by_cases hi : i < k
  · have := h2 i hi
    unfold signs at this
    split at this
    · simp only [List.mem_cons, List.not_mem_nil, or_false] at this
      rcases this with e | e <;> rw [e] <;> decide
    · simp only [List.mem_cons, List.not_mem_nil, or_false] at this
      rw [this]; decide
  · rw [List.getD_eq_getElem?_getD, List.getElem?_eq_none (by omega)]
    decide
theorem far_8 {c : Int} {ls : List (List Int)} (h : Shp c ls) {l r : List Int} {k : Nat} (hr : r ∈ SD l k) : farI ls r ≤ 8 := by
  unfold farI
  rw [foldl_max]
  refine ⟨by decide, fun i hi => ?_⟩
  obtain ⟨q, hq, rfl⟩ := List.mem_map.mp hi
  have := abs_sum (q.map fun i => r.getD i.toNat 0) 1 fun i hi => by
    obtain ⟨j, _, rfl⟩ := List.mem_map.mp hi
    exact sd_one hr _
  rw [List.length_map] at this
  have := h.l8 (h.lot q hq)
  unfold sumAt
  omega
theorem off_8 {c : Int} {ls : List (List Int)} (h : Shp c ls) (l : List Int) : offI c ls l ≤ 8 := by
  rw [off_le (by decide), List.any_eq_true]
  obtain ⟨r, rs, hr⟩ := List.exists_cons_of_ne_nil (SD_ne l c.toNat)
  have hm : r ∈ SD l c.toNat := by rw [hr]; exact List.mem_cons_self
  exact ⟨r, hm, by rw [← far_even (by decide)]; exact decide_eq_true (far_8 h hm)⟩
section
variable {P : Prg} {K : Nat}
theorem whl_to {test : Env → Draw → Res Bool} {body : Env → Draw → Out} {S : Draw} (E : Nat → Env) (D : Nat) (ht : ∀ k, k < D → test (E k) S = .ok true S) (hf : test (E D) S = .ok false S) (hb : ∀ k, k < D → body (E k) S = .nx (E (k + 1)) S) : ∀ (d k N : Nat), k + d = D → d < N → whlL test body N (E k) S = .nx (E D) S
  | 0, k, N, e, hN => by
    obtain ⟨N, rfl⟩ : ∃ n, N = n + 1 := ⟨N - 1, by omega⟩
    have : k = D := by omega
    subst this
    unfold whlL
    rw [hf]
    rfl
  | d + 1, k, N, e, hN => by
    obtain ⟨N, rfl⟩ : ∃ n, N = n + 1 := ⟨N - 1, by omega⟩
    unfold whlL
    rw [ht k (by omega), out_ok, if_pos rfl, hb k (by omega)]
    exact whl_to E D ht hf hb d (k + 1) N (by omega) (by omega)
/-- while c: .., D times -/
theorem Sv.whl {S : Draw} {c : Ex} {b ss : List Sx} {o : Out} (E : Nat → Env) (D : Nat) (hD : D < 1000000) (ht : ∀ k, k < D → Ev P (K + 1) (E k) S c (.bool true) S) (hf : Ev P (K + 1) (E D) S c (.bool false) S) (hb : ∀ k, k < D → Sv P K (E k) S b (.nx (E (k + 1)) S)) (hr : Sv P (K + 1) (E D) S ss o) : Sv P (K + 1) (E 0) S (.whl c b :: ss) o := fun m hm => by
  refine (ss_nx ?_).trans (hr m hm)
  exact whl_to (test := fun Γ S => evT (run P m) Γ S c) (body := fun Γ S => (run P m).s Γ S b) E D (fun k hk => evT_ok (ht k hk m hm)) (evT_ok (hf m hm)) (fun k hk => body_at (hb k hk) m hm) D 0 1000000 (by omega) hD
theorem off_in_cv [F_off_in P] {c : Int} {ls : List (List Int)} (l : List Int) (S : Draw) (h : Shp c ls) : Cv P 20 28 [shpD c ls, rowD l] S (.int (offI c ls l)) S := by
  have c1 := h.c1
  have c8 := h.c8
  have sl := SD_len l c.toNat
  have p8 : 2 ^ c.toNat ≤ 2 ^ 8 := Nat.pow_le_pow_right (by decide) (by omega)
  have o0 := off_nn c ls l
  have o8 := off_8 h l
  refine .mk F_off_in.h_off_in rfl (.asgT (d := .tuple [.int 0, .list ((SD l c.toNat).map rowD)]) (.tup (.cons .con (.one (.call (xs := [.int c, rowD l]) (.cons (.idx .var .con) (.one .var)) (sides_cv l S (by omega) c8).up)))) rfl ?_)
  have tst : ∀ k : Nat, Ev P 18 [some (shpD c ls), some (rowD l), some (.int (k : Int)), some (.list ((SD l c.toNat).map rowD)), none] S (.not (.blt .any [(.comp (.call 9 [(.var 0), (.var 4), (.var 2)]) (.nm 4) (.var 3) [] [4])])) (.bool (!decide (offI c ls l ≤ k))) S := fun k => by
    refine .not (.any (xs := SD l c.toNat) rowD (fun r => evenB ls r k) (.val .var) (by omega) fun r hr => ⟨_, rfl, .call (.cons .var (.cons .var (.one .var))) (even_cv k S h (SD_row hr).1).up⟩) ?_
    congr 1
    rw [Bool.eq_iff_iff, decide_eq_true_eq, off_le (by omega)]
  have e : ((offI c ls l).toNat : Int) = offI c ls l := by omega
  refine Sv.whl (K := 17) (fun k => [some (shpD c ls), some (rowD l), some (.int (k : Int)), some (.list ((SD l c.toNat).map rowD)), none]) (offI c ls l).toNat (by omega) (fun k hk => ?_) ?_ (fun k hk => .aug (a := k) (b := 1) rfl .con .nil) (.ret (.var (by show some _ = _; rw [e])))
  · have := tst k
    rwa [decide_eq_false (by omega)] at this
  · have := tst (offI c ls l).toNat
    rwa [decide_eq_true (by omega)] at this
theorem off_at_cv [F_off_at P] {c : Int} {ls : List (List Int)} {l : List Int} (S : Draw) (h : Shp c ls) (hl : Lot c l) : Cv P 34 29 [shpD c ls, rowD l] S (.int (offI c ls l)) S :=
  .mk F_off_at.h_off_at rfl (.exp (.call (.cons .var (.one .var)) (need_lot_cv S h hl).up) (.ret (.call (.cons .var (.one .var)) (off_in_cv l S h).up)))
theorem LF_ne {c : Int} (h : 1 ≤ c) : LF c.toNat 0 ≠ [] := fun e => by
  have lp := LF_len c.toNat 0
  rw [e] at lp
  have : 2 ^ 1 ≤ 2 ^ c.toNat := Nat.pow_le_pow_right (by decide) (by omega)
  simp at lp
  omega
def offL (c : Int) (ls : List (List Int)) : Int := maxL ((LF c.toNat 0).map (offI c ls))
theorem off_cv [F_off P] {c : Int} {ls : List (List Int)} (S : Draw) (h : Shp c ls) : Cv P 30 30 [shpD c ls] S (.int (offL c ls)) S := by
  have c1 := h.c1
  have c8 := h.c8
  have few := LF_few c8 0
  refine .mk F_off.h_off rfl (.exp (.call (.one .var) (shape_cv S h).up) (.ret (.blt (.one (.comp (xs := LF c.toNat 0) rowD (fun l => .int (offI c ls l)) (.val (.call (xs := [.int c]) (.one (.idx .var .con)) (lots_cv S (by omega) c8).up)) (by omega) fun l hl => ⟨_, rfl, .call (.cons .var (.one .var)) (off_in_cv l S h).up⟩)) ?_)))
  have := blt_max (ns := (LF c.toNat 0).map (offI c ls)) fun e => LF_ne c1 (List.map_eq_nil_iff.mp e)
  rw [List.map_map] at this
  exact this
end
end PD
/-! PT1: words and figures. -/
namespace PD
open PySem L2
def digB (c : Nat) : Bool := decide (48 ≤ c ∧ c ≤ 57)
def digs : Str := "0123456789"
theorem dig_in (c : Nat) : inD (.str ⟨#[c]⟩) (.str digs) = some (digB c) := by
  show some (!(Builtin.Str.occurrences digs ⟨#[c]⟩ 0 digs.length 1).isEmpty) = some (digB c)
  by_cases h : 48 ≤ c ∧ c ≤ 57
  · obtain ⟨k, rfl⟩ : ∃ k : Fin 10, c = 48 + k.val := ⟨⟨c - 48, by omega⟩, by simp; omega⟩
    revert k
    decide +kernel
  · have e : Builtin.Str.occurrences digs ⟨#[c]⟩ 0 digs.length 1 = [] := by
      refine PySem.W.occ_nil_of_no _ _ 1 fun i hi => ?_
      have hi : i + 1 ≤ 10 := hi
      have key : ∀ k : Fin 10, digs.cps.extract k.val (k.val + 1) = #[48 + k.val] := by decide +kernel
      have e1 := key ⟨i, by omega⟩
      show (digs.cps.extract i (i + 1) == #[c]) = false
      rw [show digs.cps.extract i (i + 1) = #[48 + i] from e1]
      have ne : 48 + i ≠ c := by omega
      simp [ne]
    rw [e]
    unfold digB
    rw [decide_eq_false h]
    rfl
def optI : Option Int → PyData
  | none => .none
  | some i => .int i
/-- what a word writes -/
def intW (w : Str) : Option Int := if (decide (1 ≤ w.length ∧ w.length ≤ 31) && w.cps.toList.all digB) = true then
  (if Str.ofString (toString ((PySem.NumText.digitsVal w.cps.toList : Nat) : Int)) = w then some ((PySem.NumText.digitsVal w.cps.toList : Nat) : Int) else none) else none
theorem fold_lt : ∀ (cs : List Nat) (acc : Nat), (cs.all digB) = true → cs.foldl (fun acc c => acc * 10 + (c - 48)) acc < (acc + 1) * 10 ^ cs.length
  | [], acc, _ => by simp
  | c :: cs, acc, h => by
    rw [List.all_cons, Bool.and_eq_true] at h
    have h2 := of_decide_eq_true (show decide (48 ≤ c ∧ c ≤ 57) = true from h.1)
    have ih := fold_lt cs (acc * 10 + (c - 48)) h.2
    rw [List.foldl_cons, List.length_cons, Nat.pow_succ]
    refine Nat.lt_of_lt_of_le ih ?_
    have : acc * 10 + (c - 48) + 1 ≤ (acc + 1) * 10 := by omega
    calc (acc * 10 + (c - 48) + 1) * 10 ^ cs.length ≤ ((acc + 1) * 10) * 10 ^ cs.length := Nat.mul_le_mul_right _ this
      _ = (acc + 1) * (10 ^ cs.length * 10) := by rw [Nat.mul_assoc, Nat.mul_comm 10]
theorem val_lt (cs : List Nat) (h : (cs.all digB) = true) : PySem.NumText.digitsVal cs < 10 ^ cs.length := by
  have := fold_lt cs 0 h
  simpa [PySem.NumText.digitsVal] using this
end PD
/-! PT2: integer_of of any word. -/
namespace PD
open PySem L2
section
variable {P : Prg}
theorem log_lt {n : Nat} (h : n < 10 ^ 31) : n.log2 < 1920 := by
  by_cases z : n = 0
  · subst z; decide
  · rw [Nat.log2_lt z]
    exact Nat.lt_of_lt_of_le h (Nat.le_trans (by decide : 10 ^ 31 ≤ 2 ^ 110) (Nat.pow_le_pow_right (by decide) (by decide)))
theorem int_cv [F_integer_of P] (w : Str) (hw : w.length ≤ 16777216) (S : Draw) : Cv P 16 51 [.str w] S (optI (intW w)) S := by
  refine (Cv.mk (K := 14) F_integer_of.h_integer_of rfl ?_)
  show Sv P 14 [some (.str w), none] S b_integer_of _
  have hlen : Ev P 10 [some (.str w), none] S (.chn .LtE .LtE (.con (.int 1)) (.blt .len [.var 0]) (.glb "MOST_FIGURES" (.int 31))) (.bool (decide (1 ≤ w.length ∧ w.length ≤ 31))) S := by
    have hL : bltD .len [.str w] = some (.int w.length) := if_pos hw
    have e2 : Ev P 9 [some (.str w), none] S (.blt .len [.var 0]) (.int w.length) S := .blt (K := 8) (.one .var) hL
    by_cases h1 : 1 ≤ w.length
    · refine Ev.chn1 (K := 9) .con e2 ?_ .glb ?_
      · show some (decide ((1 : Int) ≤ (w.length : Int))) = some true
        rw [decide_eq_true (by omega)]
      · show some (decide ((w.length : Int) ≤ 31)) = some (decide (1 ≤ w.length ∧ w.length ≤ 31))
        rw [Option.some.injEq, decide_eq_decide]
        omega
    · rw [decide_eq_false (fun z => h1 z.1)]
      refine Ev.chn0 (K := 9) .con e2 ?_
      show some (decide ((1 : Int) ≤ (w.length : Int))) = some false
      rw [decide_eq_false (by omega)]
  have hall : Ev P 10 [some (.str w), none] S (.blt .all [.comp (.cmp .In (.var 1) (.glb "DIGITS" (.str "0123456789"))) (.nm 1) (.var 0) [] [1]]) (.bool (w.cps.toList.all digB)) S :=
    Ev.all (K := 8) (fun c => .str ⟨#[c]⟩) digB (.val .var rfl) (by simpa [Str.length] using hw) fun c hc => ⟨[some (.str w), some (.str ⟨#[c]⟩)], rfl, Ev.cmp (K := 7) (x := .str ⟨#[c]⟩) (y := .str "0123456789") .var .glb (show cmpD .In _ _ = _ from dig_in c)⟩
  have hcond := Ev.orB (K := 11) (.not hlen rfl) (fun _ => Ev.not hall rfl)
  generalize hL : decide (1 ≤ w.length ∧ w.length ≤ 31) = L at hlen hcond
  generalize hA : w.cps.toList.all digB = A at hall hcond
  have ei : intW w = if (L && A) = true then (if Str.ofString (toString ((PySem.NumText.digitsVal w.cps.toList : Nat) : Int)) = w then some ((PySem.NumText.digitsVal w.cps.toList : Nat) : Int) else none) else none := by
    unfold intW
    rw [hL, hA]
  rw [ei]
  cases L with
  | false => exact .if1r (K := 13) hcond.up (.ret (Ev.con (K := 12)))
  | true =>
    cases A with
    | false => exact .if1r (K := 13) hcond.up (.ret (Ev.con (K := 12)))
    | true =>
      have hl := of_decide_eq_true hL
      refine .if0 (K := 13) hcond.up (.ret ?_)
      have hd : PySem.NumText.AllDigits w.cps.toList := fun c hc => of_decide_eq_true (List.all_eq_true.mp hA c hc)
      have ln : w.cps.toList.length = w.length := by simp [Str.length]
      have hi : bltD .int [.str w] = some (.int ((PySem.NumText.digitsVal w.cps.toList : Nat) : Int)) := by
        show (if w.length ≤ 640 then (PySem.intText? w).map PyData.int else none) = _
        rw [if_pos (by omega), PySem.intText_digits hd (fun z => by rw [z] at ln; simp at ln; omega) (by omega)]
        rfl
      have hv := val_lt _ hA
      rw [ln] at hv
      have hv2 : PySem.NumText.digitsVal w.cps.toList < 10 ^ 31 := Nat.lt_of_lt_of_le hv (Nat.pow_le_pow_right (by decide) hl.2)
      generalize PySem.NumText.digitsVal w.cps.toList = n at hi hv2
      have hs : bltD .str [.int (n : Int)] = some (.str (toString (n : Int))) := if_pos (log_lt hv2)
      have e1 : Ev P 9 [some (.str w), none] S (.blt .int [.var 0]) (.int (n : Int)) S := .blt (K := 8) (.one .var) hi
      have e2 : Ev P 11 [some (.str w), none] S (.cmp .Eq (.blt .str [.blt .int [.var 0]]) (.var 0)) (.bool (decide (Str.ofString (toString (n : Int)) = w))) S := by
        refine .cmp (K := 10) (.blt (K := 9) (.one e1) hs) .var ?_
        show some (Str.ofString (toString (n : Int)) == w) = some (decide _)
        rw [Option.some.injEq]
        by_cases z : Str.ofString (toString (n : Int)) = w
        · rw [decide_eq_true z, beq_iff_eq]
          exact z
        · rw [decide_eq_false z]
          exact beq_eq_false_iff_ne.mpr z
      by_cases e : Str.ofString (toString (n : Int)) = w
      · rw [decide_eq_true e] at e2
        simp only [Bool.and_self, if_true, if_pos e]
        exact (Ev.ite1 (K := 11) e2 e1.up).up
      · rw [decide_eq_false e] at e2
        simp only [Bool.and_self, if_true, if_neg e]
        exact (Ev.ite0 (K := 11) e2 (.con (K := 10))).up
end
end PD
/-! PT3: the words of a text. -/
namespace PD
open PySem L2
theorem spl_len (S : List Nat) : ∀ (l : List Nat) (k : Nat) (acc p : List Nat), p ∈ TL.spl S k acc l → p.length ≤ acc.length + l.length
  | [], k, acc, p, h => by
    rw [TL.spl_nil, List.mem_singleton] at h
    rw [h]
    simp
  | c :: r, 0, acc, p, h => by
    have h : p ∈ (if TL.pre S (c :: r) = true then acc :: TL.spl S (S.length - 1) [] r else TL.spl S 0 (acc ++ [c]) r) := h
    split at h
    · rcases List.mem_cons.mp h with rfl | h
      · simp
      · have := spl_len S r _ _ _ h
        simp at this ⊢
        omega
    · have := spl_len S r _ _ _ h
      simp at this ⊢
      omega
  | c :: r, k + 1, acc, p, h => by
    have h : p ∈ TL.spl S k acc r := h
    have := spl_len S r _ _ _ h
    simp at this ⊢
    omega
theorem spl_count (S : List Nat) : ∀ (l : List Nat) (k : Nat) (acc : List Nat), (TL.spl S k acc l).length ≤ l.length + 1
  | [], k, acc => by rw [TL.spl_nil]; simp
  | c :: r, 0, acc => by
    show (if TL.pre S (c :: r) = true then acc :: TL.spl S (S.length - 1) [] r else TL.spl S 0 (acc ++ [c]) r).length ≤ _
    split
    · have := spl_count S r (S.length - 1) []
      simp
      omega
    · have := spl_count S r 0 (acc ++ [c])
      simp
      omega
  | c :: r, k + 1, acc => by
    have := spl_count S r k acc
    show (TL.spl S k acc r).length ≤ _
    simp
    omega
section
variable {x y : Str}
theorem split_len (hy : TL.tl y ≠ []) (hk : ¬ Builtin.Str.strKind x < Builtin.Str.strKind y) {p : Str} (h : p ∈ Txt.split x y) : p.length ≤ x.length := by
  have e := TL.split_spl x y hy hk
  have m : TL.tl p ∈ (Txt.split x y).map TL.tl := List.mem_map_of_mem h
  rw [e] at m
  have := spl_len _ _ _ _ _ m
  rw [TL.len_tl p, TL.len_tl x]
  simpa using this
theorem split_count (hy : TL.tl y ≠ []) (hk : ¬ Builtin.Str.strKind x < Builtin.Str.strKind y) : (Txt.split x y).length ≤ x.length + 1 := by
  have e := congrArg List.length (TL.split_spl x y hy hk)
  rw [List.length_map] at e
  rw [e, TL.len_tl x]
  exact spl_count _ _ _ _
end
end PD
/-! PT4: rows of words. -/
namespace PD
open PySem L2
section
variable {P : Prg} {K : Nat} {Γ : Env} {S S1 S2 : Draw}
theorem Ev.meth {m : Mt} {a b : Ex} {x y d : PyData} (ha : Ev P K Γ S a x S1) (hs : x.isStr = true) (hb : Ev P K Γ S1 b y S2) (hd : methD m x y = some d) : Ev P (K + 1) Γ S (.meth m a b) d S2 := step_of (p := fun n => (run P n).e Γ S (.meth m a b) = .ok d S2) fun n hn => by
  show ((run P n).e Γ S a).bind _ = _
  rw [ha n hn, Res.bind_ok, if_pos hs, hb n hn, Res.bind_ok, hd]; rfl
theorem split_D {a b : Str} (hb : (b.length == 0) = false) (ha : a.length + 2 ≤ 16777216) : methD .split (.str a) (.str b) = some (.list ((Txt.split a b).map .str)) := if_pos ⟨hb, ha⟩
/-- the row that a text writes -/
def rowW (r : Str) : PyData := .tuple ((Txt.split r " ").map fun w => optI (intW w))
theorem sp_ne : TL.tl (" " : Str) ≠ [] := by decide +kernel
theorem nl_ne : TL.tl ("\n" : Str) ≠ [] := by decide +kernel
theorem row_cv [F_row_of P] (r : Str) (hr : r.length + 2 ≤ 16777216) (S : Draw) : Cv P 24 56 [.str r] S (rowW r) S := by
  refine (Cv.mk (K := 22) F_row_of.h_row_of rfl ?_)
  show Sv P 22 [some (.str r), none] S b_row_of _
  have hk : ¬ Builtin.Str.strKind r < Builtin.Str.strKind (" " : Str) := TL.kind_ok (by decide +kernel)
  have hI : Iv P 20 [some (.str r), none] S (.meth .split (.var 0) (.glb "BLANK" (.str " "))) ((Txt.split r " ").map .str) S :=
    .val (Ev.meth (K := 19) .var rfl .glb (split_D (by decide +kernel) hr)) rfl
  have hc := Ev.comp (P := P) (K := 20) (Γ := [some (.str r), none]) (elt := .call 51 [.var 1]) (t := .nm 1) (own := [1]) PyData.str (fun w => optI (intW w)) hI (by have := split_count (x := r) sp_ne hk; omega) fun w hw => ⟨[some (.str r), some (.str w)], rfl, (Ev.call (K := 19) (.one .var) (int_cv w (by have := split_len sp_ne hk hw; omega) S).up).up⟩
  exact .ret (.blt (.one hc) rfl)
end
end PD
/-! PT5: figures, rows that are lots, comparisons of rows. -/
namespace PD
open PySem L2
theorem lexAt_shift (e r : Nat → Bool) (z : Bool) : ∀ (k i : Nat), Ob.lexAt (fun j => e (j + 1)) (fun j => r (j + 1)) z i k = Ob.lexAt e r z (i + 1) k
  | 0, _ => rfl
  | k + 1, i => by
    rw [Ob.lexAt_succ, Ob.lexAt_succ, lexAt_shift e r z k (i + 1)]
theorem leT_cons (x y : Int) (xs ys : List Int) : leT (x :: xs) (y :: ys) = if x = y then leT xs ys else decide (x ≤ y) := by
  unfold leT
  rw [List.length_cons, List.length_cons, show min (xs.length + 1) (ys.length + 1) = min xs.length ys.length + 1 by omega, Ob.lexAt_succ]
  simp only [List.getD_cons_zero, decide_eq_true_eq]
  by_cases h : x = y
  · rw [if_pos h, if_pos h, show decide (xs.length + 1 ≤ ys.length + 1) = decide (xs.length ≤ ys.length) from decide_eq_decide.mpr (by omega)]
    exact (lexAt_shift (fun j => decide ((x :: xs).getD j 0 = (y :: ys).getD j 0)) (fun j => decide ((x :: xs).getD j 0 ≤ (y :: ys).getD j 0)) _ _ 0).symm
  · rw [if_neg h, if_neg h]
theorem leT_lt : ∀ (a b : List Int), leT a b = !HT.lexLt b a
  | [], [] => rfl
  | [], _ :: _ => rfl
  | _ :: _, [] => rfl
  | x :: xs, y :: ys => by
    rw [leT_cons, HT.lexLt_cons, leT_lt xs ys]
    by_cases h : x = y
    · rw [if_pos h, if_pos h.symm]
    · rw [if_neg h, if_neg (Ne.symm h)]
      by_cases h2 : x ≤ y
      · rw [decide_eq_true h2, decide_eq_false (by omega)]; rfl
      · rw [decide_eq_false h2, decide_eq_true (by omega)]; rfl
theorem le_rows (a b : List Int) : cmpD .LtE (rowD a) (rowD b) = some (!HT.lexLt b a) := by
  simp only [cmpD, ltD, rowD, intsOf_map, leT_lt]
theorem lt_rows (a b : List Int) : cmpD .Lt (rowD a) (rowD b) = some (HT.lexLt a b) := by
  simp only [cmpD, ltD, rowD, intsOf_map]
theorem ne_nil (xs : List PyData) : cmpD .NotEq (.list xs) (.list []) = some (!xs.isEmpty) := by cases xs <;> rfl
theorem eq_nil (xs : List PyData) : cmpD .Eq (.list xs) (.list []) = some xs.isEmpty := by cases xs <;> rfl
theorem at_last {α : Type} (xs : List α) (y : α) : atI (xs ++ [y]) (-1) = some y := by
  unfold atI
  have e : ixN (xs ++ [y]).length (-1) = some xs.length := by
    unfold ixN
    rw [List.length_append, List.length_singleton]
    split
    · omega
    · split
      · congr 1; omega
      · omega
  rw [e]
  simp
theorem at_last2 {α : Type} (xs : List α) (x y : α) : atI (xs ++ [x] ++ [y]) (-2) = some x := by
  unfold atI
  have e : ixN (xs ++ [x] ++ [y]).length (-2) = some xs.length := by
    unfold ixN
    rw [List.length_append, List.length_append, List.length_singleton, List.length_singleton]
    split
    · omega
    · split
      · congr 1; omega
      · omega
  rw [e]
  simp
section
variable {P : Prg} {K : Nat} {Γ : Env} {S : Draw}
theorem Ev.chnI {a b c : Ex} {x y z : Int} (ha : Ev P K Γ S a (.int x) S) (hb : Ev P K Γ S b (.int y) S) (hc : Ev P K Γ S c (.int z) S) : Ev P (K + 1) Γ S (.chn .LtE .LtE a b c) (.bool (decide (x ≤ y ∧ y ≤ z))) S := by
  by_cases h : x ≤ y
  · refine .chn1 ha hb (by show some (decide (x ≤ y)) = _; rw [decide_eq_true h]) hc ?_
    show some (decide (y ≤ z)) = _
    rw [Option.some.injEq, decide_eq_decide]
    omega
  · rw [decide_eq_false (fun e => h e.1)]
    exact .chn0 ha hb (by show some (decide (x ≤ y)) = _; rw [decide_eq_false h])
theorem Ev.or3 {a b c : Ex} {x y z : Bool} (ha : Ev P K Γ S a (.bool x) S) (hb : x = false → Ev P K Γ S b (.bool y) S) (hc : x = false → y = false → Ev P K Γ S c (.bool z) S) : Ev P (K + 1) Γ S (.or [a, b, c]) (.bool (x || y || z)) S := by
  cases x with
  | true => exact .or1 ha
  | false =>
    cases y with
    | true => exact .or0 ha (.or1 (hb rfl))
    | false => exact .or0 ha (.or0 (hb rfl) (.orZ (hc rfl rfl)))
end
/-! ### figures -/
def dg (i : Int) : Str := ⟨#[48 + i.toNat]⟩
def num (i : Int) : Str := Str.ofString (toString i)
theorem ten {P : Int → Prop} (h : ∀ k : Fin 10, P k.val) {i : Int} (h0 : 0 ≤ i) (h9 : i ≤ 9) : P i := by
  have := h ⟨i.toNat, by omega⟩
  simpa [Int.toNat_of_nonneg h0] using this
theorem num_dig {i : Int} (h0 : 0 ≤ i) (h9 : i ≤ 9) : num i = dg i := ten (P := fun i => num i = dg i) (by decide +kernel) h0 h9
theorem intW_lo {w : Str} {i : Int} (h : intW w = some i) : 0 ≤ i ∧ num i = w := by
  unfold intW at h
  split at h
  · split at h
    · rename_i e
      cases h
      exact ⟨by omega, e⟩
    · cases h
  · cases h
theorem intW_dg {w : Str} {i : Int} (h : intW w = some i) (h9 : i ≤ 9) : w = dg i := by
  obtain ⟨h0, h1⟩ := intW_lo h
  rw [← h1, num_dig h0 h9]
theorem dg_intW {i : Int} (h0 : 0 ≤ i) (h9 : i ≤ 9) : intW (dg i) = some i := ten (P := fun i => intW (dg i) = some i) (by decide +kernel) h0 h9
theorem dg_int {i : Int} (h0 : 0 ≤ i) (h9 : i ≤ 9) : bltD .int [.str (dg i)] = some (.int i) := by
  have e : PySem.intText? (dg i) = some i := ten (P := fun i => PySem.intText? (dg i) = some i) (by decide +kernel) h0 h9
  show (if (dg i).length ≤ 640 then (PySem.intText? (dg i)).map PyData.int else none) = _
  rw [if_pos (show (dg i).length ≤ 640 from (by decide : 1 ≤ 640)), e]; rfl
/-- the figure within bounds that a word writes -/
def figL (w : Str) (lo hi : Int) : List Int :=
  match intW w with
  | some i => if lo ≤ i ∧ i ≤ hi then [i] else []
  | none => []
theorem figL_one {w : Str} {lo hi i : Int} (h : intW w = some i) (h1 : lo ≤ i) (h2 : i ≤ hi) : figL w lo hi = [i] := by
  unfold figL
  rw [h]
  exact if_pos ⟨h1, h2⟩
theorem figL_cases (w : Str) (lo hi : Int) : (figL w lo hi = [] ∧ ∀ i, intW w = some i → ¬ (lo ≤ i ∧ i ≤ hi)) ∨ ∃ i, figL w lo hi = [i] ∧ intW w = some i ∧ lo ≤ i ∧ i ≤ hi := by
  unfold figL
  cases h : intW w with
  | none => exact .inl ⟨rfl, fun i e => by cases e⟩
  | some i =>
    by_cases hb : lo ≤ i ∧ i ≤ hi
    · exact .inr ⟨i, if_pos hb, rfl, hb.1, hb.2⟩
    · exact .inl ⟨if_neg hb, fun j e => by cases e; exact hb⟩
theorem str_one {w : Str} (h : w.length = 1) : ∃ c, w = ⟨#[c]⟩ := by
  obtain ⟨⟨l⟩⟩ := w
  have h : l.length = 1 := h
  match l, h with
  | [c], _ => exact ⟨c, rfl⟩
theorem intW_one {c : Nat} (h : digB c = false) : intW ⟨#[c]⟩ = none := by
  unfold intW
  rw [if_neg]
  simp [h]
/-! ### rows that are lots -/
def lotI (c : Int) (r : Str) : Option (List Int) := if lotB c (rowW r) = true then intsOf ((Txt.split r " ").map fun w => optI (intW w)) else none
theorem lotI_some {c : Int} {r : Str} {ns : List Int} (h : lotI c r = some ns) : rowW r = rowD ns ∧ lotB c (rowW r) = true := by
  unfold lotI at h
  split at h
  · rename_i e
    refine ⟨?_, e⟩
    unfold rowW rowD
    rw [intsOf_some h]
  · cases h
theorem lotI_none {c : Int} {r : Str} (h : lotI c r = none) : lotB c (rowW r) = false := by
  unfold lotI at h
  split at h
  · rename_i e
    unfold rowW lotB at e
    simp only [Bool.and_eq_true] at e
    rw [h] at e
    exact absurd e.2 Bool.false_ne_true
  · rename_i e
    exact Bool.eq_false_iff.mpr e
theorem lotB_iff {c : Int} {ns : List Int} : lotB c (rowD ns) = true ↔ Lot c ns := by
  unfold lotB rowD
  simp only [Bool.and_eq_true, intsOf_map]
  constructor
  · rintro ⟨⟨h1, h2⟩, h3⟩
    refine ⟨fun z => (by subst z; cases h1), fun i hi => ?_, ascB_iff.mp h3⟩
    have := List.all_eq_true.mp h2 (.int i) (List.mem_map_of_mem hi)
    simpa [wholeD] using this
  · intro h
    refine ⟨⟨?_, ?_⟩, ascB_iff.mpr h.up⟩
    · have := h.ne
      cases ns with
      | nil => exact absurd rfl this
      | cons => rfl
    · rw [List.all_eq_true]
      intro x hx
      obtain ⟨i, hi, rfl⟩ := List.mem_map.mp hx
      have := h.low i hi
      simp [wholeD, this.1]
      omega
end PD
/-! PSM: showing values. -/
namespace PD
open PySem L2
structure Sm (w D : Nat) (d : PyData) : Prop where
  s : sml d = true
  w : wt d ≤ w
  d : d.depth ≤ D
theorem Sm.mono {w w' D D' : Nat} {d : PyData} (h : Sm w D d) (hw : w ≤ w') (hD : D ≤ D') : Sm w' D' d := ⟨h.s, Nat.le_trans h.w hw, Nat.le_trans h.d hD⟩
theorem Sm.none : Sm 22 1 .none := ⟨rfl, by decide, by decide⟩
theorem Sm.bool (b : Bool) : Sm 22 1 (.bool b) := ⟨rfl, by simp [wt], by simp [PyData.depth]⟩
theorem Sm.int {i : Int} (h : i.natAbs < 10 ^ 20) : Sm 22 1 (.int i) := ⟨decide_eq_true h, by simp [wt], by simp [PyData.depth]⟩
theorem sm_all {w D : Nat} : ∀ {xs : List PyData}, (∀ x ∈ xs, Sm w D x) → smlAll xs = true ∧ wtAll xs ≤ xs.length * (w + 2) ∧ PyData.depthAll xs ≤ D
  | [], _ => ⟨rfl, by simp [wtAll], by simp [PyData.depthAll]⟩
  | x :: xs, h => by
    obtain ⟨h1, h2, h3⟩ := sm_all fun y hy => h y (List.mem_cons_of_mem _ hy)
    obtain ⟨k1, k2, k3⟩ := h x List.mem_cons_self
    refine ⟨by simp [smlAll, h1, k1], ?_, by simp only [PyData.depthAll]; omega⟩
    simp only [wtAll, List.length_cons, Nat.add_mul]
    omega
theorem Sm.tuple {w D : Nat} {xs : List PyData} (h : ∀ x ∈ xs, Sm w D x) : Sm (3 + xs.length * (w + 2)) (D + 1) (.tuple xs) := by
  obtain ⟨h1, h2, h3⟩ := sm_all h
  exact ⟨by simp [sml, h1], by simp only [wt]; omega, by simp only [PyData.depth]; omega⟩
theorem Sm.list {w D : Nat} {xs : List PyData} (h : ∀ x ∈ xs, Sm w D x) : Sm (3 + xs.length * (w + 2)) (D + 1) (.list xs) := by
  obtain ⟨h1, h2, h3⟩ := sm_all h
  exact ⟨by simp [sml, h1], by simp only [wt]; omega, by simp only [PyData.depth]; omega⟩
theorem Sm.pair {w D : Nat} {x y : PyData} (h1 : Sm w D x) (h2 : Sm w D y) : Sm (3 + 2 * (w + 2)) (D + 1) (.tuple [x, y]) := Sm.tuple (xs := [x, y]) fun z hz => by
  simp only [List.mem_cons, List.not_mem_nil, or_false] at hz
  rcases hz with rfl | rfl <;> assumption
theorem Sm.two {w D : Nat} {x y : PyData} (h1 : Sm w D x) (h2 : Sm w D y) : Sm (3 + 2 * (w + 2)) (D + 1) (.list [x, y]) := Sm.list (xs := [x, y]) fun z hz => by
  simp only [List.mem_cons, List.not_mem_nil, or_false] at hz
  rcases hz with rfl | rfl <;> assumption
theorem Sm.row {n : Nat} {l : List Int} (h : ∀ i ∈ l, i.natAbs < 10 ^ 20) (hn : l.length ≤ n) : Sm (3 + n * 24) 2 (rowD l) := by
  have := Sm.tuple (w := 22) (D := 1) (xs := l.map .int) fun x hx => by
    obtain ⟨i, hi, rfl⟩ := List.mem_map.mp hx
    exact .int (h i hi)
  rw [List.length_map] at this
  exact this.mono (by have := Nat.mul_le_mul_right 24 hn; omega) (by decide)
theorem Sm.repr {w D : Nat} {d : PyData} (h : Sm w D d) (hw : w ≤ 16777216 := by omega) (hD : D ≤ 100 := by omega) : bltD .repr [d] = some (.str d.shown) := blt_repr h.s (Nat.le_trans h.w hw) (Nat.le_trans h.d hD)
theorem ne_str (s : Str) : cmpD .NotEq (.str s) (.str s) = some false := by
  have : PyData.eqv (.str s) (.str s) = true := by
    show (s == s) = true
    exact beq_self_eq_true s
  simp only [cmpD, dpt, PyData.depth, this]; rfl
theorem eq_str (s : Str) : cmpD .Eq (.str s) (.str s) = some true := by
  have : PyData.eqv (.str s) (.str s) = true := by
    show (s == s) = true
    exact beq_self_eq_true s
  simp only [cmpD, dpt, PyData.depth, this]; rfl
mutual
theorem eqv_self : ∀ {d : PyData}, sml d = true → PyData.eqv d d = true
  | .none, _ => rfl
  | .bool b, _ => by cases b <;> rfl
  | .int i, _ => by rw [eqv_int]; simp
  | .str s, _ => beq_self_eq_true s
  | .list xs, h => by simp only [PyData.eqv]; exact eqvAll_self h
  | .tuple xs, h => by simp only [PyData.eqv]; exact eqvAll_self h
  | .dict _, h => by cases h
theorem eqvAll_self : ∀ {xs : List PyData}, smlAll xs = true → PyData.eqvAll xs xs = true
  | [], _ => rfl
  | x :: xs, h => by
    simp only [smlAll, Bool.and_eq_true] at h
    simp only [PyData.eqvAll, eqv_self h.1, eqvAll_self h.2, Bool.and_self]
end
/-- a thing is not unlike itself -/
theorem ne_self {w D : Nat} {d : PyData} (h : Sm w D d) (hD : D ≤ 100 := by omega) : cmpD .NotEq d d = some false := by
  have : dpt d d = true := by
    have := h.d
    unfold dpt
    rw [Bool.or_eq_true]
    exact .inl (decide_eq_true (by omega))
  simp only [cmpD, this, if_true, eqv_self h.s]; rfl
theorem eq_self' {w D : Nat} {d : PyData} (h : Sm w D d) (hD : D ≤ 100 := by omega) : cmpD .Eq d d = some true := by
  have : dpt d d = true := by
    have := h.d
    unfold dpt
    rw [Bool.or_eq_true]
    exact .inl (decide_eq_true (by omega))
  simp only [cmpD, this, if_true, eqv_self h.s]
theorem ne_bool (a b : Bool) : cmpD .NotEq (.bool a) (.bool b) = some (a != b) := by cases a <;> cases b <;> rfl
theorem Sm.lot {c : Int} {l : List Int} (h : Lot c l) (h8 : c ≤ 8) : Sm 195 2 (rowD l) := (Sm.row (n := 8) (fun i hi => by have := h.low i hi; omega) (by have := h.len; omega)).mono (by omega) (by omega)
theorem Sm.shp {c : Int} {ls : List (List Int)} (c0 : 0 ≤ c) (c8 : c ≤ 8) (hl : ls.length ≤ 8) (h : ∀ l ∈ ls, Lot c l) : Sm 4000 4 (shpD c ls) := by
  have h1 : Sm 1600 3 (.tuple (ls.map rowD)) := (Sm.tuple (w := 195) (D := 2) (xs := ls.map rowD) fun x hx => by
    obtain ⟨l, hl, rfl⟩ := List.mem_map.mp hx
    exact Sm.lot (h l hl) c8).mono (by rw [List.length_map]; omega) (by decide)
  exact (Sm.pair ((Sm.int (i := c) (by omega)).mono (w' := 1600) (D' := 3) (by decide) (by decide)) h1).mono (by decide) (by decide)
end PD
/-! PFD: the laws' own functions, in the small language (printed by cat.py). -/
namespace PD
open PySem L2
class F_law_nextD (P : Prg) : Prop where
  hn : ∃ f, P.fs[60]? = some f ∧ f.np = 2 ∧ f.body = none
  hz : P.nxt = zRun zD 4
def b_law_of : List Sx := [.ret (.idx (.var 1) (.call 60 [(.var 0), (.blt .len [(.var 1)])]))]
class F_law_of (P : Prg) : Prop extends F_law_nextD P where
  h_law_of : Has P 61 2 2 b_law_of
def b_law_lot : List Sx := [.asg (.nm 2) (.blt .tuple [(.comp (.var 3) (.nm 3) (.rng [(.var 1)]) [(.cmp .Eq (.call 60 [(.var 0), (.con (.int 2))]) (.con (.int 0)))] [3])]), .ret (.ite (.cmp .NotEq (.var 2) (.tup [])) (.var 2) (.tup [(.call 60 [(.var 0), (.var 1)])]))]
class F_law_lot (P : Prg) : Prop extends F_law_nextD P where
  h_law_lot : Has P 62 2 4 b_law_lot
def b_law_shape : List Sx := [.par [3, 4] [(.bin .Add (.con (.int 1)) (.call 60 [(.var 0), (.var 1)])), (.lst [])], .fr (.nm 5) (.rng [(.call 60 [(.var 0), (.bin .Add (.var 2) (.con (.int 1)))])]) [.asg (.nm 6) (.call 62 [(.var 0), (.var 3)]), .asg (.nm 4) (.bin .Add (.var 4) (.bin .Mult (.lst [(.var 6)]) (.blt .int [(.cmp .NotIn (.var 6) (.var 4))])))], .ret (.tup [(.var 3), (.blt .tuple [(.blt .sorted [(.var 4)])])])]
class F_law_shape (P : Prg) : Prop extends F_law_nextD P, F_law_lot P where
  h_law_shape : Has P 63 3 7 b_law_shape
end PD
/-! PXD: what the laws k88 to k97 draw. -/
namespace PD
open PySem L2
section
variable {P : Prg} {K k : Nat} {Γ : Env} {S S0 S1 : Draw}
def Live (S : Draw) : Prop := S.cells ≠ []
theorem nextD_cv [F_law_nextD P] {t : Int} (hf : Live S) (h0 : 0 < t) (h1 : t < 1073741824) : ∃ i S', Cv P 1 60 [hndD, .int t] S (.int i) S' ∧ 0 ≤ i ∧ i < t ∧ Live S' := by
  obtain ⟨i, S', e, k1, k2, k3⟩ := drawD hf h0 h1
  refine ⟨i, S', .of fun n => ?_, k1, k2, by unfold Live; rw [k3]; exact hf⟩
  obtain ⟨f, h2, h3, h4⟩ := F_law_nextD.hn (P := P)
  show cStep P (run P n) 60 [hndD, .int t] S = _
  unfold cStep
  rw [h2]
  dsimp only
  rw [if_pos (by rw [h3]; rfl), h4]
  dsimp only
  rw [F_law_nextD.hz, e]
/-- one of some -/
theorem ofD_any {α : Type} [F_law_of P] {xs : List α} {f : α → PyData} {d : PyData} (hf : Live S) (h0 : xs ≠ []) (h1 : xs.length < 1073741824) (hl : bltD .len [d] = some (.int xs.length)) (hx : ∀ (i : Nat) x, xs[i]? = some x → ixD d (.int i) = some (f x)) : ∃ x S', x ∈ xs ∧ Cv P 6 61 [hndD, d] S (f x) S' ∧ Live S' := by
  have hp : 0 < xs.length := List.length_pos_iff.mpr h0
  obtain ⟨i, S', h2, h3, h4, h5⟩ := nextD_cv (P := P) (t := xs.length) hf (by omega) (by omega)
  have hi : i.toNat < xs.length := by omega
  refine ⟨xs[i.toNat], S', List.getElem_mem hi, .mk F_law_of.h_law_of rfl (.ret (.idx .var (.call (xs := [hndD, .int xs.length]) (.cons .var (.one (.blt (.one .var) hl))) h2.up) ?_)), h5⟩
  have := hx i.toNat _ (List.getElem?_eq_getElem hi)
  rwa [show ((i.toNat : Nat) : Int) = i by omega] at this
theorem ixL {α : Type} (f : α → PyData) (xs : List α) (i : Nat) (x : α) (h : xs[i]? = some x) : ixD (.list (xs.map f)) (.int i) = some (f x) := by
  have hi := (List.getElem?_eq_some_iff.mp h).1
  simp only [ixD, atI, ixN, if_pos (Int.natCast_nonneg i), List.length_map, if_pos (show (i : Int) < xs.length by omega), Option.bind_some, Int.toNat_natCast, List.getElem?_map, h, Option.map_some]
theorem ofD_list {α : Type} [F_law_of P] {xs : List α} (f : α → PyData) (hf : Live S) (h0 : xs ≠ []) (h1 : xs.length < 1073741824) : ∃ x S', x ∈ xs ∧ Cv P 6 61 [hndD, .list (xs.map f)] S (f x) S' ∧ Live S' :=
  ofD_any hf h0 h1 (by rw [blt_lenL, List.length_map]) (ixL f xs)
theorem cmpLD_sub {body : Nat → PyData → Draw → Res (List PyData)} (hb : ∀ (x : Int) (S : Draw), Live S → ∃ (b : Bool) (S' : Draw), (∀ m, K ≤ m → body m (.int x) S = .ok (if b then [.int x] else []) S') ∧ Live S') : ∀ (xs : List Int) (S : Draw), Live S → ∃ (ys : List Int) (S' : Draw), (∀ m, K ≤ m → cmpL (body m) (xs.map .int) S = .ok (ys.map .int) S') ∧ ys.Sublist xs ∧ Live S'
  | [], S, h => ⟨[], S, fun _ _ => rfl, .slnil, h⟩
  | x :: xs, S, h => by
    obtain ⟨b, S1, e, q⟩ := hb x S h
    obtain ⟨ys, S', e2, sb, k4⟩ := cmpLD_sub hb xs S1 q
    cases b with
    | true => exact ⟨x :: ys, S', fun m hm => by rw [List.map_cons]; unfold cmpL; rw [e m hm, Res.bind_ok, e2 m hm]; rfl, sb.cons₂ x, k4⟩
    | false => exact ⟨ys, S', fun m hm => by rw [List.map_cons]; unfold cmpL; rw [e m hm, Res.bind_ok, e2 m hm]; rfl, sb.cons x, k4⟩
/-- [x for x in .. if draw] -/
theorem compD_sub {elt it c : Ex} {t : Tg} {own : List Nat} {xs : List Int} (hI : Iv P K Γ S it (xs.map .int) S0) (hl : xs.length ≤ 16777216) (h0 : Live S0)
    (hb : ∀ (x : Int) (S : Draw), Live S → ∃ (b : Bool) (S' : Draw) (Γ' : Env), bindT t (.int x) (wipeE Γ own) = some Γ' ∧ Ev P K Γ' S c (.bool b) S' ∧ Ev P K Γ' S' elt (.int x) S' ∧ Live S') :
    ∃ (ys : List Int) (S' : Draw), Ev P (K + 1) Γ S (.comp elt t it [c] own) (.list (ys.map .int)) S' ∧ ys.Sublist xs ∧ Live S' := by
  obtain ⟨ys, S', e, sb, q⟩ := cmpLD_sub (K := K) (body := fun m x S => match bindT t x (wipeE Γ own) with
    | some Γ' => (evTs (run P m) Γ' [c] S).bind fun b S1 => if b then ((run P m).e Γ' S1 elt).bind fun y S2 => .ok [y] S2 else .ok [] S1
    | none => .bad) (fun x S h => by
      obtain ⟨b, S', Γ', k1, k2, k3, k4⟩ := hb x S h
      refine ⟨b, S', fun m hm => ?_, k4⟩
      simp only [k1, evTs, evT, k2 m hm, toB_ok, Res.bind_ok]
      cases b <;> simp [k3 m hm]) xs S0 h0
  refine ⟨ys, S', step_of (p := fun m => (run P m).e Γ S (.comp elt t it [c] own) = .ok (.list (ys.map .int)) S') fun m hm => ?_, sb, q⟩
  show (evComp (run P m) Γ elt t it [c] own S).bind _ = _
  unfold evComp
  rw [hI m hm, Res.bind_ok]
  refine (congrArg (fun z => Res.bind (few (noexc z)) fun ys S1 => Res.ok (PyData.list ys) S1) (e m hm)).trans ?_
  rw [few_ok' (by rw [List.length_map]; have := sb.length_le; omega)]
  rfl
theorem ne_nilT (xs : List PyData) : cmpD .NotEq (.tuple xs) (.tuple []) = some (!xs.isEmpty) := by cases xs <;> rfl
theorem lotD_cv [F_law_lot P] {c : Int} (hf : Live S) (c1 : 1 ≤ c) (c8 : c ≤ 8) : ∃ l S', Cv P 13 62 [hndD, .int c] S (rowD l) S' ∧ Lot c l ∧ Live S' := by
  obtain ⟨ys, S1, comp, sb, k1⟩ := compD_sub (P := P) (K := 8) (Γ := [some hndD, some (.int c), none, none]) (S := S) (S0 := S) (elt := .var 3) (it := .rng [(.var 1)]) (t := .nm 3) (own := [3]) (c := .cmp .Eq (.call 60 [(.var 0), (.con (.int 2))]) (.con (.int 0))) (xs := upTo c) (.up1 .var (by omega) (by omega)) (by rw [upTo_len]; omega) hf (fun x S h => by
    obtain ⟨i, S1, e, k1, k2, k3⟩ := nextD_cv (P := P) (t := 2) h (by decide) (by decide)
    exact ⟨decide (i = 0), S1, _, rfl, .cmp (.call (.cons .var (.one .con)) e.up) .con (eq_int i 0), .var, k3⟩)
  have len : ys.length ≤ 8 := by
    have := sb.length_le
    rw [upTo_len] at this
    omega
  cases ys with
  | cons a r =>
    refine ⟨a :: r, S1, .mk F_law_lot.h_law_lot rfl (.asg (.blt (.one comp.up) (blt_tup _)) (.ret (.ite1 (.cmp .var (.tup .nil) (ne_nilT _)) .var))), ⟨by simp, fun i hi => ?_, (upTo_pw c).sublist sb⟩, k1⟩
    have := upTo_mem.mp (sb.subset hi)
    omega
  | nil =>
    obtain ⟨i, S2, e, k2, k3, k4⟩ := nextD_cv (P := P) (t := c) k1 (by omega) (by omega)
    exact ⟨[i], S2, .mk F_law_lot.h_law_lot rfl (.asg (.blt (.one comp.up) (blt_tup _)) (.ret (.ite0 (.cmp .var (.tup .nil) (ne_nilT _)) (.tup (.one (.call (.cons .var (.one .var)) e.up)))))), ⟨by simp, fun j hj => by simp at hj; omega, by simp⟩, k4⟩
theorem shapeD_cv [F_law_shape P] {m s : Int} (hf : Live S) (m1 : 1 ≤ m) (m8 : m ≤ 8) (s0 : 0 ≤ s) (s8 : s ≤ 8) : ∃ c ls S', Cv P 26 63 [hndD, .int m, .int s] S (shpD c ls) S' ∧ Shp c ls ∧ c ≤ m ∧ (ls.length : Int) ≤ s ∧ Live S' := by
  obtain ⟨i, S1, e1, i0, i1, f1⟩ := nextD_cv (P := P) (t := m) hf (by omega) (by omega)
  obtain ⟨q, S3, e3, q0, q1, f3⟩ := nextD_cv (P := P) (t := s + 1) f1 (by omega) (by omega)
  obtain ⟨Γ2, S4, lp, f4, ls, o, o2, hl, hd, hn, rfl, _⟩ := Fv.inv (P := P) (K := 20) (t := .nm 5) (b := [.asg (.nm 6) (.call 62 [(.var 0), (.var 3)]), .asg (.nm 4) (.bin .Add (.var 4) (.bin .Mult (.lst [(.var 6)]) (.blt .int [(.cmp .NotIn (.var 6) (.var 4))])))]) (f := .int)
    (fun a r Γ S => Live S ∧ ∃ (ls : List (List Int)) (o o2 : Option PyData), (∀ l ∈ ls, Lot (1 + i) l) ∧ ls.Nodup ∧ ls.length ≤ a.length ∧ Γ = [some hndD, some (.int m), some (.int s), some (.int (1 + i)), some (.list (ls.map rowD)), o, o2] ∧ a.length + r.length ≤ 8) (fun a x r Γ S ⟨hF, ls, o, o2, hl, hd, hn, hΓ, hb⟩ => by
      subst hΓ
      rw [List.length_cons] at hb
      have ext : ∀ l : List Int, Lot (1 + i) l → ∀ y ∈ ls ++ [l], Lot (1 + i) y := fun l h y hy => by
        rcases List.mem_append.mp hy with hy | hy
        · exact hl y hy
        · simp at hy; exact hy ▸ h
      obtain ⟨l, S', e, h, F⟩ := lotD_cv (P := P) (c := 1 + i) hF (by omega) (by omega)
      have ir := in_rows l ls
      have ni : cmpD .NotIn (rowD l) (.list (ls.map rowD)) = some (!decide (l ∈ ls)) := by
        show (inD _ _).map (!·) = _
        rw [ir]; rfl
      have big : ls.length ≤ 16777216 := by omega
      have big1 : ls.length + 1 ≤ 16777216 := by omega
      by_cases hm : l ∈ ls
      · refine ⟨_, _, S', rfl, .inl (.asg (.call (.cons .var (.one .var)) e.up) (.asg (d := .list (ls.map rowD)) (.bin (y := .list []) .var (.bin (x := .list [rowD l]) (y := .int 0) (.lst (.one .var)) (.blt (.one (.cmp .var .var ni)) (by simp [bltD, hm])) ?_) ?_) .nil)), F, ls, some (.int x), some (rowD l), hl, hd, by simp; omega, rfl, by simp; omega⟩
        · simp [binD]
        · simp [binD, big]
      · refine ⟨_, _, S', rfl, .inl (.asg (.call (.cons .var (.one .var)) e.up) (.asg (d := .list ((ls ++ [l]).map rowD)) (.bin (y := .list [rowD l]) .var (.bin (x := .list [rowD l]) (y := .int 1) (.lst (.one .var)) (.blt (.one (.cmp .var .var ni)) (by simp [bltD, hm])) ?_) ?_) .nil)), F, ls ++ [l], some (.int x), some (rowD l), ext l h, ?_, by simp; omega, rfl, by simp; omega⟩
        · simp [binD]
        · simp [binD, big1]
        · rw [List.nodup_append]
          exact ⟨hd, by simp, fun y hy z hz => by simp at hz; rintro rfl; exact hm (hz ▸ hy)⟩) (upTo q) [] [some hndD, some (.int m), some (.int s), some (.int (1 + i)), some (.list []), none, none] S3 ⟨f3, [], none, none, by simp, by simp, by simp, rfl, by rw [upTo_len]; simp; omega⟩
  rw [List.nil_append, upTo_len] at hn
  have perm := List.mergeSort_perm ls leB
  have sr := sort_rows (ls := ls) (fun l h => (hl l h).ne) (by omega)
  refine ⟨1 + i, ls.mergeSort leB, S4, .mk F_law_shape.h_law_shape rfl (.par (xs := [.int (1 + i), .list []]) (.cons (.bin .con (.call (.cons .var (.one .var)) e1.up)) (.one (.lst .nil))) rfl (.fr (.up1 (.call (.cons .var (.one (.bin .var .con))) e3.up) (by omega) q0) lp.up (.ret (.tup (.cons .var (.one (.blt (.one (.blt (.one .var) sr)) (blt_tup _)))))))), ⟨by omega, by omega, by rw [perm.length_eq]; omega, fun l h => hl l (perm.mem_iff.mp h), up_rows (List.pairwise_mergeSort le_trans_row le_total_row _) (perm.nodup_iff.mpr hd)⟩, by omega, by rw [perm.length_eq]; omega, f4⟩
end
end PD
namespace K89
open PySem PySem.Spec PyProof.Rows PD L2
def top (i : Nat) : Stmt := PySem.Challenge.pw_sumsshown_k89_whole_any_text.main.body.getD i (.Pass ⟨0, 0, 0, 0⟩)
def f64 : List Sx := [.ife (.or [(.cmp .NotEq (.blt .len [(.var 0)]) (.con (.int 1))), (.cmp .NotIn (.var 0) (.con (.str "0123456789"))), (.not (.chn .LtE .LtE (.var 1) (.blt .int [(.var 0)]) (.var 2)))]) [.ret (.lst [])] [], .ret (.lst [(.blt .int [(.var 0)])])]
def f65 : List Sx := [.asg (.nm 2) (.lst []), .fr (.nm 3) (.meth .split (.var 0) (.con (.str " "))) [.asg (.nm 4) (.call 64 [(.var 3), (.con (.int 0)), (.bin .Sub (.var 1) (.con (.int 1)))]), .ife (.or [(.cmp .Eq (.var 4) (.lst [])), (.and [(.cmp .NotEq (.var 2) (.lst [])), (.cmp .LtE (.idx (.var 4) (.con (.int 0))) (.idx (.var 2) (.neg (.con (.int 1)))))])]) [.ret (.lst [])] [], .asg (.nm 2) (.bin .Add (.var 2) (.var 4))], .ret (.lst [(.blt .tuple [(.var 2)])])]
def f66 : List Sx := [.par [1, 2] [(.meth .split (.var 0) (.con (.str "\n"))), (.lst [])], .asg (.nm 3) (.call 64 [(.idx (.var 1) (.con (.int 0))), (.con (.int 1)), (.con (.int 8))]), .ife (.cmp .Eq (.var 3) (.lst [])) [.ret (.con (.int 1))] [], .fr (.tp [(.nm 4), (.nm 5)]) (.enm (.sl (.var 1) (some (.con (.int 1))) none)) [.asg (.nm 6) (.call 65 [(.var 5), (.idx (.var 3) (.con (.int 0)))]), .ife (.or [(.cmp .Eq (.var 4) (.con (.int 8))), (.cmp .Eq (.var 6) (.lst [])), (.and [(.cmp .NotEq (.var 2) (.lst [])), (.cmp .LtE (.idx (.var 6) (.con (.int 0))) (.idx (.var 2) (.neg (.con (.int 1)))))])]) [.ret (.bin .Add (.var 4) (.con (.int 2)))] [], .asg (.nm 2) (.bin .Add (.var 2) (.var 6))], .ret (.lst [(.tup [(.idx (.var 3) (.con (.int 0))), (.blt .tuple [(.var 2)])])])]
def f67 : List Sx := [.par [1, 2] [(.lst []), (.call 66 [(.var 0)])], .fr (.nm 3) (.rng [(.con (.int 2))]) [.asg (.nm 4) (.con .none), .tre 1 (.lst [(.call 57 [(.var 0)])]) [3] 5 4, .ife (.exn 4 true) [.app 1 (.exf 4 "line" [3])] []], .ret (.cmp .Eq (.blt .repr [(.var 1)]) (.blt .repr [(.lst [(.var 2), (.var 2)])]))]
def f68 : List Sx := [.par [2, 3] [(.call 60 [(.var 0), (.bin .Add (.blt .len [(.var 1)]) (.con (.int 1)))]), (.call 60 [(.var 0), (.con (.int 9))])], .ife (.cmp .Lt (.var 3) (.con (.int 4))) [.ret (.bin .Add (.bin .Add (.sl (.var 1) none (some (.var 2))) (.call 61 [(.var 0), (.con (.str "0123456789 -\nx"))])) (.sl (.var 1) (some (.bin .Add (.var 2) (.bin .FloorDiv (.var 3) (.con (.int 2))))) none))] [], .asg (.nm 4) (.meth .split (.var 1) (.con (.str "\n"))), .par [5, 6] [(.call 60 [(.var 0), (.blt .len [(.var 4)])]), (.call 60 [(.var 0), (.blt .len [(.var 4)])])], .ife (.cmp .Eq (.var 3) (.con (.int 4))) [.ret (.meth .join (.con (.str "\n")) (.bin .Add (.sl (.var 4) none (some (.var 5))) (.sl (.var 4) (some (.bin .Add (.var 5) (.con (.int 1)))) none)))] [], .ife (.cmp .Eq (.var 3) (.con (.int 5))) [.ret (.meth .join (.con (.str "\n")) (.bin .Add (.bin .Add (.sl (.var 4) none (some (.var 5))) (.lst [(.idx (.var 4) (.var 6))])) (.sl (.var 4) (some (.var 5)) none)))] [], .asg (.nm 7) (.meth .split (.idx (.var 4) (.var 5)) (.con (.str " "))), .asg (.nm 8) (.call 60 [(.var 0), (.blt .len [(.var 7)])]), .asg (.nm 9) (.call 61 [(.var 0), (.lst [(.con (.str "")), (.con (.str "0")), (.con (.str "1")), (.con (.str "7")), (.con (.str "8")), (.con (.str "9")), (.con (.str "00")), (.con (.str "01")), (.con (.str "10")), (.con (.str "-1")), (.con (.str "x"))])]), .asg (.nm 7) (.bin .Add (.bin .Add (.sl (.var 7) none (some (.var 8))) (.ite (.cmp .Gt (.var 3) (.con (.int 6))) (.lst [(.var 9)]) (.lst []))) (.sl (.var 7) (some (.bin .Add (.var 8) (.blt .int [(.cmp .Lt (.var 3) (.con (.int 8)))]))) none)), .ret (.meth .join (.con (.str "\n")) (.bin .Add (.bin .Add (.sl (.var 4) none (some (.var 5))) (.lst [(.meth .join (.con (.str " ")) (.var 7))])) (.sl (.var 4) (some (.bin .Add (.var 5) (.con (.int 1)))) none)))]
def f69 : List Sx := [.asgO 0 (.lst [(.con (.str "")), (.con (.str " ")), (.con (.str "\n")), (.con (.str "1")), (.con (.str "0")), (.con (.str "9")), (.con (.str "8")), (.con (.str "01")), (.con (.str "1 ")), (.con (.str " 1")), (.con (.str "1 1")), (.con (.str "x")), (.con (.str "-1")), (.con (.str "1\n")), (.con (.str "1\n0")), (.con (.str "1\n1"))]), .asgO 0 (.cat (.var 0) (.lst [(.con (.str "2\n0 1")), (.con (.str "2\n1 0")), (.con (.str "2\n0 0")), (.con (.str "2\n0  1")), (.con (.str "2\n0 1 ")), (.con (.str "2\n 0")), (.con (.str "2\n0\n0")), (.con (.str "2\n0\n0 1"))])), .asgO 0 (.cat (.var 0) (.lst [(.con (.str "2\n0 1\n0")), (.con (.str "2\n0\n1\n")), (.con (.str "2\n0\n\n1")), (.con (.str "2\n0\nx")), (.con (.str "2\nx\ny")), (.con (.str "3\n0 2\n1")), (.con (.str "3\n0 2\n0 1 2"))])), .asg (.nm 1) (.bin .Add (.lst [(.con (.str "8"))]) (.comp (.blt .str [(.var 3)]) (.nm 3) (.rng [(.con (.int 8))]) [] [3])), .asg (.nm 2) (.lst [(.con (.str "8")), (.con (.str "0")), (.con (.str "0 1")), (.con (.str "0 2")), (.con (.str "0 3")), (.con (.str "0 4")), (.con (.str "0 5")), (.con (.str "0 6")), (.con (.str "0 7")), (.con (.str "1"))]), .asgO 0 (.cat (.var 0) (.lst [(.meth .join (.con (.str "\n")) (.var 1)), (.meth .join (.con (.str "\n")) (.bin .Add (.var 1) (.lst [(.con (.str "7"))]))), (.meth .join (.con (.str "\n")) (.var 2))])), .app 0 (.meth .join (.con (.str "\n")) (.sl (.var 2) none (some (.con (.int 9))))), .ret (.bin .Add (.var 0) (.lst [(.meth .join (.con (.str "\n")) (.bin .Add (.sl (.var 2) none (some (.con (.int 9)))) (.lst [(.con (.str "x"))]))), (.meth .join (.con (.str "\n")) (.bin .Add (.bin .Add (.sl (.var 2) none (some (.con (.int 5)))) (.lst [(.con (.str "x"))])) (.sl (.var 2) (some (.con (.int 6))) none)))]))]
def dup : FDef := ⟨"is_whole", 3, ["thing", "least", "most"], [.nrm, .nrm, .nrm], (some b_is_whole)⟩
def fs : List FDef := [
  ⟨"is_whole", 3, ["thing", "least", "most"], [.nrm, .nrm, .nrm], (some b_is_whole)⟩,
  ⟨"is_lot", 2, ["cells", "thing", "cell", "one", "other"], [.nrm, .nrm, .nrm, .nrm, .nrm], (some b_is_lot)⟩,
  dup,
  dup,
  dup,
  dup,
  dup,
  dup,
  dup,
  dup,
  dup,
  dup,
  dup,
  dup,
  dup,
  dup,
  dup,
  dup,
  dup,
  dup,
  dup,
  dup,
  dup,
  dup,
  dup,
  dup,
  dup,
  dup,
  dup,
  dup,
  dup,
  dup,
  dup,
  dup,
  dup,
  dup,
  dup,
  dup,
  dup,
  dup,
  dup,
  dup,
  dup,
  dup,
  dup,
  dup,
  dup,
  dup,
  dup,
  dup,
  dup,
  ⟨"integer_of", 1, ["word", "sign"], [.nrm, .nrm], (some b_integer_of)⟩,
  dup,
  dup,
  dup,
  dup,
  ⟨"row_of", 1, ["text", "word"], [.nrm, .nrm], (some b_row_of)⟩,
  ⟨"read_shape", 1, ["string", "rows", "cells", "lots", "number", "row"], [.nrm, .nrm, .nrm, .own, .nrm, .nrm], (some b_read_shape)⟩,
  dup,
  dup,
  ⟨"_law_next", 2, ["_law_m", "_law_total", "_law_found", "_law_cell"], [.hnd, .nrm, .nrm, .nrm], none⟩,
  ⟨"_law_of", 2, ["_law_m", "_law_some"], [.hnd, .nrm], (some b_law_of)⟩,
  ⟨"_law_lot", 2, ["_law_m", "_law_total", "_law_found", "_law_k"], [.hnd, .nrm, .nrm, .nrm], (some b_law_lot)⟩,
  ⟨"_law_shape", 3, ["_law_m", "_law_most_so", "_law_sums_so", "_law_total", "_law_lots", "_law_k", "_law_one"], [.hnd, .nrm, .nrm, .nrm, .nrm, .nrm, .nrm], (some b_law_shape)⟩,
  ⟨"_law_figure", 3, ["_law_word", "_law_low", "_law_high"], [.nrm, .nrm, .nrm], (some f64)⟩,
  ⟨"_law_lot_read", 2, ["_law_row", "_law_total", "_law_found", "_law_word", "_law_some"], [.nrm, .nrm, .nrm, .nrm, .nrm], (some f65)⟩,
  ⟨"_law_due", 1, ["_law_text", "_law_rows", "_law_lots", "_law_total", "_law_number", "_law_row", "_law_one"], [.nrm, .nrm, .nrm, .nrm, .nrm, .nrm, .nrm], (some f66)⟩,
  ⟨"_law_right", 1, ["_law_text", "_law_heard", "_law_due_here", "_law_lap", "_law_caught", "e"], [.nrm, .own, .nrm, .nrm, .exv, .nrm], (some f67)⟩,
  ⟨"_law_bent", 2, ["_law_m", "_law_text", "_law_spot", "_law_way", "_law_rows", "_law_near", "_law_far", "_law_words", "_law_k", "_law_odd"], [.hnd, .nrm, .nrm, .nrm, .nrm, .nrm, .nrm, .nrm, .nrm, .nrm], (some f68)⟩,
  ⟨"_law_hands", 0, ["_law_found", "_law_many_so", "_law_rows", "_law_k"], [.own, .nrm, .nrm, .nrm], (some f69)⟩]
def lawN : List Str := ["_law_script", "_law_m", "_law_lap", "_law_one", "_law_text", "_law_k", "_law_lot_here"]
def lawK : List Kd := [.scr, .hnd, .nrm, .nrm, .nrm, .nrm, .nrm]
def lawB : List Sx := [.fr (.nm 2) (.rng [(.bin .Add (.con (.int 5)) (.blt .min [(.blt .len [(.var 0)]), (.con (.int 9))]))]) [.asg (.nm 3) (.call 63 [(.var 1), (.con (.int 8)), (.con (.int 8))]), .asg (.nm 4) (.meth .join (.con (.str "\n")) (.bin .Add (.lst [(.blt .str [(.idx (.var 3) (.con (.int 0)))])]) (.comp (.meth .join (.con (.str " ")) (.comp (.blt .str [(.var 5)]) (.nm 5) (.var 6) [] [5])) (.nm 6) (.idx (.var 3) (.con (.int 1))) [] [6]))), .fr (.nm 5) (.rng [(.con (.int 5))]) [.ife (.not (.call 67 [(.var 4)])) [.ret (.con (.bool false))] [], .asg (.nm 4) (.call 68 [(.var 1), (.var 4)])]], .ret (.cmp .Eq (.comp (.con (.int 1)) (.nm 4) (.call 69 []) [(.not (.call 67 [(.var 4)]))] [4]) (.lst []))]
def gc : List (Str × PyData) := [("MOST_CELLS", (.int 8)), ("MOST_SUMS", (.int 8)), ("LINE_END", (.str "\n")), ("BLANK", (.str " ")), ("DIGITS", (.str "0123456789")), ("MOST_FIGURES", (.int 31))]
def ex : List (Nat × Str × Option Str) := [(3, "BadText", some "line")]
def prg : Prg := ⟨fs, zRun zD 4, ex, []⟩
theorem ok0 : (chk prg gc 24).s ⟨["thing", "least", "most"], [.nrm, .nrm, .nrm], defScope (top 5), defScope (top 5), true⟩ b_is_whole (defBody (top 5)) = true := by decide +kernel
theorem ok1 : (chk prg gc 24).s ⟨["cells", "thing", "cell", "one", "other"], [.nrm, .nrm, .nrm, .nrm, .nrm], defScope (top 6), defScope (top 6), true⟩ b_is_lot (defBody (top 6)) = true := by decide +kernel
theorem ok51 : (chk prg gc 24).s ⟨["word", "sign"], [.nrm, .nrm], defScope (top 12), defScope (top 12), true⟩ b_integer_of (defBody (top 12)) = true := by decide +kernel
theorem ok56 : (chk prg gc 24).s ⟨["text", "word"], [.nrm, .nrm], defScope (top 13), defScope (top 13), true⟩ b_row_of (defBody (top 13)) = true := by decide +kernel
theorem ok57 : (chk prg gc 24).s ⟨["string", "rows", "cells", "lots", "number", "row"], [.nrm, .nrm, .nrm, .own, .nrm, .nrm], defScope (top 14), defScope (top 14), true⟩ b_read_shape (defBody (top 14)) = true := by decide +kernel
theorem ok61 : (chk prg gc 24).s ⟨["_law_m", "_law_some"], [.hnd, .nrm], defScope (top 18), defScope (top 18), true⟩ b_law_of (defBody (top 18)) = true := by decide +kernel
theorem ok62 : (chk prg gc 24).s ⟨["_law_m", "_law_total", "_law_found", "_law_k"], [.hnd, .nrm, .nrm, .nrm], defScope (top 19), defScope (top 19), true⟩ b_law_lot (defBody (top 19)) = true := by decide +kernel
theorem ok63 : (chk prg gc 24).s ⟨["_law_m", "_law_most_so", "_law_sums_so", "_law_total", "_law_lots", "_law_k", "_law_one"], [.hnd, .nrm, .nrm, .nrm, .nrm, .nrm, .nrm], defScope (top 20), defScope (top 20), true⟩ b_law_shape (defBody (top 20)) = true := by decide +kernel
theorem ok64 : (chk prg gc 24).s ⟨["_law_word", "_law_low", "_law_high"], [.nrm, .nrm, .nrm], defScope (top 21), defScope (top 21), true⟩ f64 (defBody (top 21)) = true := by decide +kernel
theorem ok65 : (chk prg gc 24).s ⟨["_law_row", "_law_total", "_law_found", "_law_word", "_law_some"], [.nrm, .nrm, .nrm, .nrm, .nrm], defScope (top 22), defScope (top 22), true⟩ f65 (defBody (top 22)) = true := by decide +kernel
theorem ok66 : (chk prg gc 24).s ⟨["_law_text", "_law_rows", "_law_lots", "_law_total", "_law_number", "_law_row", "_law_one"], [.nrm, .nrm, .nrm, .nrm, .nrm, .nrm, .nrm], defScope (top 23), defScope (top 23), true⟩ f66 (defBody (top 23)) = true := by decide +kernel
theorem ok67 : (chk prg gc 24).s ⟨["_law_text", "_law_heard", "_law_due_here", "_law_lap", "_law_caught", "e"], [.nrm, .own, .nrm, .nrm, .exv, .nrm], defScope (top 24), defScope (top 24), true⟩ f67 (defBody (top 24)) = true := by decide +kernel
theorem ok68 : (chk prg gc 24).s ⟨["_law_m", "_law_text", "_law_spot", "_law_way", "_law_rows", "_law_near", "_law_far", "_law_words", "_law_k", "_law_odd"], [.hnd, .nrm, .nrm, .nrm, .nrm, .nrm, .nrm, .nrm, .nrm, .nrm], defScope (top 25), defScope (top 25), true⟩ f68 (defBody (top 25)) = true := by decide +kernel
theorem ok69 : (chk prg gc 24).s ⟨["_law_found", "_law_many_so", "_law_rows", "_law_k"], [.own, .nrm, .nrm, .nrm], defScope (top 26), defScope (top 26), true⟩ f69 (defBody (top 26)) = true := by decide +kernel
theorem okL : (chk prg gc 24).s ⟨lawN, lawK, defScope (top 27), defScope (top 27), true⟩ lawB (defBody (top 27)).tail = true := by decide +kernel
instance : F_law_nextD prg := ⟨⟨_, rfl, rfl, rfl⟩, rfl⟩
instance : F_is_whole prg := { h_is_whole := ⟨_, rfl, rfl, rfl, rfl⟩ }
instance : F_is_lot prg := { h_is_lot := ⟨_, rfl, rfl, rfl, rfl⟩ }
instance : F_integer_of prg := { h_integer_of := ⟨_, rfl, rfl, rfl, rfl⟩ }
instance : F_row_of prg := { h_row_of := ⟨_, rfl, rfl, rfl, rfl⟩ }
instance : F_read_shape prg := { h_read_shape := ⟨_, rfl, rfl, rfl, rfl⟩ }
instance : F_law_of prg := { h_law_of := ⟨_, rfl, rfl, rfl, rfl⟩ }
instance : F_law_lot prg := { h_law_lot := ⟨_, rfl, rfl, rfl, rfl⟩ }
instance : F_law_shape prg := { h_law_shape := ⟨_, rfl, rfl, rfl, rfl⟩ }
end K89
namespace K89
open PySem PySem.Spec PyProof.Rows PD L2
section
variable {prog : Program} {w : World} {K : PySem.W.Frag} {mg : Str → Option Value} {base : Heap}
abbrev sNext : Stmt := top 17
theorem scN : FnScope ["_law_m", "_law_total", "_law_found", "_law_cell"] ["_law_m", "_law_total"] (defScope sNext) := ⟨rfl, rfl, rfl, by decide +kernel, rfl, by decide +kernel, by decide +kernel⟩
theorem next_body {fa : Addr} (z1 : mg "int" = none) (z2 : mg "len" = none) (cd : Value) (A : Around) (fr : List PySem.Env) (s : Shared) (H : Hp) (E : XK) (n : Nat) (pm : Addr) (room : Room n (A.deeper (envOfC "_law_next" (defScope sNext) s.heap.objs.size fa cd))) :
    PSs (cxOf CX0 prog w K mg base ["_law_m", "_law_total", "_law_found", "_law_cell"] "_law_next" (defScope sNext) fa cd A fr s H E) (defBody sNext) (zS layD pm H zD) := by
  have hu : (A.deeper (envOfC "_law_next" (defScope sNext) s.heap.objs.size fa cd)).units + 200 < cLine := by have := room.un; omega
  have hm : HNm (cxOf CX0 prog w K mg base ["_law_m", "_law_total", "_law_found", "_law_cell"] "_law_next" (defScope sNext) fa cd A fr s H E) "_law_m" := ⟨rfl, .inl rfl, by decide +kernel, by decide +kernel⟩
  have g0 := fun (p1 p2 p3 p4 p5 : Pos) (k k2 : Nat) => zn_ix (X := cxOf CX0 prog w K mg base ["_law_m", "_law_total", "_law_found", "_law_cell"] "_law_next" (defScope sNext) fa cd A fr s H E) (pm := pm) (H0 := H) (pos := p3) (zl_g (p1 := p1) (p2 := p2) (pos := p4) (k := k) layD_ok hm hu) (zn_con (i := 0) (k := k2) (pos := p5)) (fun _ _ => rfl)
  have nd : (["_law_m", "_law_total", "_law_found", "_law_cell"] : List Str).Nodup := by decide +kernel
  have vr := fun (p : Pos) => zn_var (X := cxOf CX0 prog w K mg base ["_law_m", "_law_total", "_law_found", "_law_cell"] "_law_next" (defScope sNext) fa cd A fr s H E) (L := layD) (pm := pm) (H0 := H) (pos := p) (i := 1) (x := "_law_total") rfl (.inl rfl) (by decide +kernel) (by decide +kernel)
  have vf := fun (p : Pos) => zn_var (X := cxOf CX0 prog w K mg base ["_law_m", "_law_total", "_law_found", "_law_cell"] "_law_next" (defScope sNext) fa cd A fr s H E) (L := layD) (pm := pm) (H0 := H) (pos := p) (i := 2) (x := "_law_found") rfl (.inl rfl) (by decide +kernel) (by decide +kernel)
  have vc := fun (p : Pos) => zn_var (X := cxOf CX0 prog w K mg base ["_law_m", "_law_total", "_law_found", "_law_cell"] "_law_next" (defScope sNext) fa cd A fr s H E) (L := layD) (pm := pm) (H0 := H) (pos := p) (i := 3) (x := "_law_cell") rfl (.inl rfl) (by decide +kernel) (by decide +kernel)
  refine zs_cons (f := zDa) (g := zD2) (zs_a layD_ok hm hu (zn_op (zn_a layD_ok hm hu) zn_con) rfl) ?_
  refine zs_cons (f := zDb) (g := zD3) (zs_while (passes_of rfl) (zt_and (zt_ne hu (zl_g layD_ok hm hu)) (zt_eq (g0 ..))) (zs_cons (zs_pop layD_ok hm hu (zl_g layD_ok hm hu)) zs_nil) (fun _ S => S.great.length + 1)) ?_
  refine zs_cons (f := zDc) (g := zD4) (zs_if (zt_ne hu (zl_g layD_ok hm hu)) (zs_cons (zs_both rfl (by decide) nd rfl (.inl rfl) (.inl rfl) (zl_g layD_ok hm hu) zn_con (zn_op (zn_int rfl z1 (g0 ..) rfl) (vr _)) (zn_op (zn_int rfl z1 (g0 ..) rfl) (vr _)) (fun _ => rfl) rfl rfl rfl rfl) (zs_cons (zs_ret (vf _)) zs_nil)) zs_nil) ?_
  refine zs_cons (f := zDd) (g := zD5) (zs_set (by decide) nd rfl (.inl rfl) (.inl rfl) (zn_ix (zl_c (L := layD) hm hu) (zn_op (zn_int rfl z1 (zn_a layD_ok hm hu) rfl) (zn_len rfl z2 (zl_c (L := layD) hm hu) rfl)) (fun _ _ => rfl)) rfl) ?_
  refine zs_cons (f := zDe) (g := zD6) (zs_b layD_ok hm hu rfl (zn_op (zn_int rfl z1 (zn_op (zn_op (zn_op (zn_b layD_ok hm hu rfl) zn_con) (zn_op (zn_int rfl z1 (vc _) rfl) zn_con)) (zn_op zn_con (zn_a layD_ok hm hu))) rfl) zn_con) rfl) ?_
  exact zs_cons (f := zDf) (g := YN) (zs_ret (zn_op (zn_op (zn_op (zn_int rfl z1 (zn_op (zn_op (zn_b layD_ok hm hu rfl) zn_con) (zn_a layD_ok hm hu)) rfl) zn_con) zn_con) (vr _))) zs_nil

/-! ### the maker -/
abbrev sStart : Stmt := top 16
abbrev nSt : List Str := ["_law_script", "_law_cells", "_law_cell"]
theorem scS : FnScope nSt ["_law_script"] (defScope sStart) := ⟨rfl, rfl, rfl, by decide +kernel, rfl, by decide +kernel, by decide +kernel⟩
def isBig (n : Int) : Bool := decide ((10 : Int) ^ 18 ≤ n)
def initD (ns : List Int) : Draw := ⟨ns ++ [29], ns.filter isBig, 0, (ns.length : Int) + 1⟩
theorem take_filter {ns : List Int} {i : Nat} {n : Int} (h : ns[i]? = some n) : (ns.take (i + 1)).filter isBig = (ns.take i).filter isBig ++ (if isBig n then [n] else []) := by
  have hi := (List.getElem?_eq_some_iff.mp h).1
  rw [List.take_add_one, h, List.filter_append]
  cases e : isBig n <;> simp [e]
theorem start_ok {fa : Addr} {fd : FuncData} (F : Fun K "_law_start" "_law_start" sStart fa fd) (z1 : mg "list" = none) (z2 : mg "len" = none) (n : Nat) : FnG prog w K mg base CX0 (n + 1) fa fd ["_law_script"] (spStart layD.m K initD) := by
  refine fnG_of F scS (fun xs H Q E ⟨a, ns, e, _⟩ => by rw [e]; rfl) fun cd A fr s H xs Q E room gd want => ?_
  obtain ⟨a, ns, rfl, len, sq, hQ⟩ := want
  have nd : nSt.Nodup := by decide +kernel
  have sc := scS
  refine ⟨_, pss_cons (ps_set (i := 1) nd rfl (.inl rfl) (pe_op op_cat (pe_callTy call_list_of rfl z1 (by decide +kernel) (pa_cons (pe_var (i := 0) rfl (.inl rfl) (by decide +kernel) (by decide +kernel)) pa_nil rfl) (by decide) (by decide) rfl rfl) (pe_lst (pa_cons pe_int pa_nil rfl))) rfl (.inl rfl))
    (pss_cons (ps_ret (pe_disp (pps_cons pe_str (pe_var (i := 1) rfl (.inl rfl) (by decide +kernel) (by decide +kernel)) (pps_cons pe_str
      (pe_lc (own := [("_law_cell", 2)]) rfl nd (pi_seq (pe_var (i := 0) rfl (.inl rfl) (by decide +kernel) (by decide +kernel))) (show BlkOk nSt (defScope sStart) _ [("_law_cell", 2)] from blkOk_by (by decide +kernel)) (fun s H C cl fp => pg_name nd (i := 2) rfl (.inl rfl) (.inr rfl)) (fun s H C cl fp => pts_one (pt_cmpR op_ge (pe_var (i := 2) rfl (.inl rfl) (by decide +kernel) (by decide +kernel)) (pe_op op_pow pe_int pe_int) rfl)) (fun s H C cl fp => pe_var (i := 2) rfl (.inl rfl) (by decide +kernel) (by decide +kernel)) (fun _ => rfl))
      (pps_cons pe_str pe_int (pps_cons pe_str (pe_callB call_len_seq rfl z2 (by decide +kernel) (pa_cons (pe_var (i := 1) rfl (.inl rfl) (by decide +kernel) (by decide +kernel)) pa_nil rfl) (by decide) (by decide) rfl rfl) pps_nil)))) rfl rfl (by simp) (by decide))) pss_nil), ?_⟩
  refine ⟨.ref a, rfl, a, ns.map V.int, rfl, .inl sq, fun l hl => ⟨by show 1 ≤ sizeLine; decide, fun l2 hl2 => ?_⟩⟩
  have sq1 : SqL K (upd H l (.lst (ns.map V.int))) a (ns.map V.int) := sqL_mono (fun b o e => by rw [upd_ne (ne_of_none e hl)]; exact e) sq
  have n12 : l ≠ l2 := ne_of_none (upd_same (H := H) (a := l) (o := .lst (ns.map V.int))) hl2
  refine ⟨l, l2, ns.map V.int, [.int 29], rfl, rfl, by rw [upd_ne n12]; exact upd_same, upd_same, by rw [List.length_map, sizeLine_eq]; simp; omega, fun p hp => ?_⟩
  generalize hH3 : upd (upd (upd H l (HO.lst (List.map V.int ns))) l2 (HO.lst [V.int 29])) p (HO.lst (List.map V.int ns ++ [V.int 29])) = H3
  have up3 : ∀ b o, H b = some o → H3 b = some o := fun b o e => by
    have e1 : upd H l (.lst (ns.map V.int)) b = some o := by rw [upd_ne (ne_of_none e hl)]; exact e
    have e2 : upd (upd H l (.lst (ns.map V.int))) l2 (.lst [V.int 29]) b = some o := by rw [upd_ne (ne_of_none e1 hl2)]; exact e1
    rw [← hH3, upd_ne (ne_of_none e2 hp)]
    exact e2
  have hp3 : H3 p = some (.lst (ns.map V.int ++ [V.int 29])) := by rw [← hH3]; exact upd_same
  have down3 : ∀ b, H3 b = none → H b = none := fun b e => by
    cases q : H b with
    | none => rfl
    | some o => rw [up3 b o q] at e; cases e
  have hpH : H p = none := by
    cases q : H p with
    | none => rfl
    | some o =>
      have e1 : upd H l (.lst (ns.map V.int)) p = some o := by rw [upd_ne (ne_of_none q hl)]; exact q
      rw [upd_ne (ne_of_none e1 hl2), e1] at hp
      cases hp
  intro d hd
  have ndp : p ≠ d := ne_of_none hp3 hd
  have up4 : ∀ b o, H3 b = some o → upd H3 d (.dK []) b = some o := fun b o e => by rw [upd_ne (ne_of_none e hd)]; exact e
  have sq4 : SqL K (upd H3 d (.dK [])) a (ns.map V.int) := sqL_mono (fun b o e => up4 b o (up3 b o e)) sq
  refine ⟨.ref p, rfl, .ref a, rfl, .inl ⟨a, ns.map V.int, rfl, sq4, fun D hD => ?_⟩⟩
  have up5 : ∀ b o, upd H3 d (.dK []) b = some o → b ≠ D := fun b o e => ne_of_none e hD
  refine lc_list (K := K) (a := a) (xs := ns.map V.int) (Pv := fun i Hi => (∀ b o, upd H3 d (.dK []) b = some o → Hi b = some o) ∧ Hi D = some (.lst (((ns.take i).filter isBig).map V.int))) ⟨fun b o e => by rw [upd_ne (up5 b o e)]; exact e, upd_same⟩ (fun i Hi _ q => sqL_mono q.1 sq4) (fun i x Hi hx q => ?_) (fun Hi q => ?_)
  · rw [List.getElem?_map, Option.map_eq_some_iff] at hx
    obtain ⟨c, hc, rfl⟩ := hx
    refine ⟨rfl, .int c, rfl, _, _, rfl, rfl, ⟨by decide, by decide, by decide⟩, c, (10 : Int) ^ (18 : Int).toNat, rfl, rfl, _, rfl, ?_⟩
    have hb : decide ((10 : Int) ^ (18 : Int).toNat ≤ c) = isBig c := rfl
    rw [hb]
    have tf := take_filter hc
    cases e : isBig c with
    | true =>
      rw [e] at tf
      dsimp only
      rw [if_pos rfl]
      refine ⟨.int c, rfl, _, q.2, ?_, fun b o z => ?_, ?_⟩
      · rw [List.length_map, sizeLine_eq]
        have h1 := List.length_filter_le isBig (ns.take i)
        have h2 := List.length_take_le' i ns
        omega
      · rw [upd_ne (up5 b o z)]; exact q.1 b o z
      · rw [upd_same, tf]; simp
    | false =>
      rw [e] at tf
      dsimp only
      rw [if_neg Bool.false_ne_true]
      exact ⟨q.1, by rw [tf]; simpa using q.2⟩
  · obtain ⟨k5, e5⟩ := q
    rw [List.length_map, List.take_length] at e5
    have e6 : Hi p = some (.lst (ns.map V.int ++ [V.int 29])) := k5 p _ (up4 p _ hp3)
    have e7 : Hi d = some (.dK []) := k5 d _ upd_same
    have nDp : p ≠ D := up5 p _ (up4 p _ hp3)
    have nDd : d ≠ D := up5 d _ upd_same
    refine ⟨.ref p, rfl, p, _, rfl, .inl (.of e6), e7, [(.inr "cells", .ref p), (.inr "great", .ref D), (.inr "turn", .int 0), (.inr "sum", .int ((ns.length : Int) + 1))], ?_, by simp, ?_⟩
    · rw [show ((List.map V.int ns ++ [V.int 29]).length : Int) = (ns.length : Int) + 1 by simp]
      rfl
    · have c1 : ¬ ("cells" : Str) = "great" := by decide +kernel
      have c2 : ¬ ("cells" : Str) = "turn" := by decide +kernel
      have c3 : ¬ ("cells" : Str) = "sum" := by decide +kernel
      have c4 : ¬ ("great" : Str) = "turn" := by decide +kernel
      have c5 : ¬ ("great" : Str) = "sum" := by decide +kernel
      have c6 : ¬ ("turn" : Str) = "sum" := by decide +kernel
      have em : mergeK [] ([(.inr "cells", .ref p), (.inr "great", .ref D), (.inr "turn", .int 0), (.inr "sum", .int ((ns.length : Int) + 1))] : List (Key × V)) = layD.dct (initD ns) p D := by
        simp [mergeK, putK, Lay.dct, layD, initD, c1, c2, c3, c4, c5, c6]
      rw [em]
      have stt : upd Hi d (.dK (layD.dct (initD ns) p D)) d = some (.dK (layD.dct (initD ns) p D)) := upd_same
      refine hQ d _ (fun b o e => ?_) ⟨p, D, nDp, stt, by rw [upd_ne ndp, e6]; simp [initD], by rw [upd_ne nDd.symm]; exact e5⟩ fun b m => ?_
      · rw [upd_ne (ne_of_none (up3 b o e) hd)]
        exact k5 b o (up4 b o (up3 b o e))
      · rcases m with rfl | ⟨kvs, k, h1, h2⟩
        · exact down3 _ hd
        · rw [stt] at h1
          cases h1
          rcases layD.m.refs _ _ _ _ _ h2 with rfl | rfl
          · exact hpH
          · refine down3 _ ?_
            rw [upd_ne nDd.symm] at hD
            exact hD
end
end K89
namespace K89
open PySem PySem.Spec PyProof.Rows PD L2
structure AtAll (prog : Program) (K : PySem.W.Frag) : Prop where
  a0 : FAt K "is_whole" (top 5)
  a1 : FAt K "is_lot" (top 6)
  a51 : FAt K "integer_of" (top 12)
  a56 : FAt K "row_of" (top 13)
  a57 : FAt K "read_shape" (top 14)
  a60 : FAt K "_law_next" (top 17)
  a61 : FAt K "_law_of" (top 18)
  a62 : FAt K "_law_lot" (top 19)
  a63 : FAt K "_law_shape" (top 20)
  a64 : FAt K "_law_figure" (top 21)
  a65 : FAt K "_law_lot_read" (top 22)
  a66 : FAt K "_law_due" (top 23)
  a67 : FAt K "_law_right" (top 24)
  a68 : FAt K "_law_bent" (top 25)
  a69 : FAt K "_law_hands" (top 26)
  aS : FAt K "_law_start" (top 16)
  aL : FAt K "law" (top 27)
  c_MOST_CELLS : CAt K "MOST_CELLS" (.int 8)
  c_MOST_SUMS : CAt K "MOST_SUMS" (.int 8)
  c_LINE_END : CAt K "LINE_END" (.str "\n")
  c_BLANK : CAt K "BLANK" (.str " ")
  c_DIGITS : CAt K "DIGITS" (.str "0123456789")
  c_MOST_FIGURES : CAt K "MOST_FIGURES" (.int 31)
  e3 : EAt prog K "BadText" (some "line")
  s3_3 : SAt K "BadText" "BadText" true
  b_len : PySem.W.nsIn K mainGlobals "len" = some none
  b_abs : PySem.W.nsIn K mainGlobals "abs" = some none
  b_min : PySem.W.nsIn K mainGlobals "min" = some none
  b_max : PySem.W.nsIn K mainGlobals "max" = some none
  b_sum : PySem.W.nsIn K mainGlobals "sum" = some none
  b_all : PySem.W.nsIn K mainGlobals "all" = some none
  b_any : PySem.W.nsIn K mainGlobals "any" = some none
  b_int : PySem.W.nsIn K mainGlobals "int" = some none
  b_str : PySem.W.nsIn K mainGlobals "str" = some none
  b_list : PySem.W.nsIn K mainGlobals "list" = some none
  b_tuple : PySem.W.nsIn K mainGlobals "tuple" = some none
  b_sorted : PySem.W.nsIn K mainGlobals "sorted" = some none
  b_repr : PySem.W.nsIn K mainGlobals "repr" = some none
  b_range : PySem.W.nsIn K mainGlobals "range" = some none
  b_zip : PySem.W.nsIn K mainGlobals "zip" = some none
  b_enumerate : PySem.W.nsIn K mainGlobals "enumerate" = some none
  b_isinstance : PySem.W.nsIn K mainGlobals "isinstance" = some none
  b_bool : PySem.W.nsIn K mainGlobals "bool" = some none
  b_set : PySem.W.nsIn K mainGlobals "set" = some none
  b_super : PySem.W.nsIn K mainGlobals "super" = some none
section
variable {prog : Program} {w : World} {K : PySem.W.Frag} {mg : Str → Option Value} {base h : Heap}
theorem in0 (T : AtAll prog K) (j : Nat) : ∃ st ps, FnIn prg gc PD.layD.m prog w K mg base j ⟨"is_whole", 3, ["thing", "least", "most"], [.nrm, .nrm, .nrm], (some b_is_whole)⟩ st ps :=
  ⟨top 5, ["thing", "least", "most"], T.a0, ⟨rfl, rfl, rfl, by decide +kernel, rfl, by decide +kernel, by decide +kernel⟩, rfl, fun _ _ _ _ _ _ us hl => match us, hl with | [_, _, _], _ => rfl, fun b e => ⟨by decide, 24, by cases e; exact ok0⟩, (fun e => nomatch e)⟩
theorem in1 (T : AtAll prog K) (j : Nat) : ∃ st ps, FnIn prg gc PD.layD.m prog w K mg base j ⟨"is_lot", 2, ["cells", "thing", "cell", "one", "other"], [.nrm, .nrm, .nrm, .nrm, .nrm], (some b_is_lot)⟩ st ps :=
  ⟨top 6, ["cells", "thing"], T.a1, ⟨rfl, rfl, rfl, by decide +kernel, rfl, by decide +kernel, by decide +kernel⟩, rfl, fun _ _ _ _ _ _ us hl => match us, hl with | [_, _], _ => rfl, fun b e => ⟨by decide, 24, by cases e; exact ok1⟩, (fun e => nomatch e)⟩
theorem in51 (T : AtAll prog K) (j : Nat) : ∃ st ps, FnIn prg gc PD.layD.m prog w K mg base j ⟨"integer_of", 1, ["word", "sign"], [.nrm, .nrm], (some b_integer_of)⟩ st ps :=
  ⟨top 12, ["word"], T.a51, ⟨rfl, rfl, rfl, by decide +kernel, rfl, by decide +kernel, by decide +kernel⟩, rfl, fun _ _ _ _ _ _ us hl => match us, hl with | [_], _ => rfl, fun b e => ⟨by decide, 24, by cases e; exact ok51⟩, (fun e => nomatch e)⟩
theorem in56 (T : AtAll prog K) (j : Nat) : ∃ st ps, FnIn prg gc PD.layD.m prog w K mg base j ⟨"row_of", 1, ["text", "word"], [.nrm, .nrm], (some b_row_of)⟩ st ps :=
  ⟨top 13, ["text"], T.a56, ⟨rfl, rfl, rfl, by decide +kernel, rfl, by decide +kernel, by decide +kernel⟩, rfl, fun _ _ _ _ _ _ us hl => match us, hl with | [_], _ => rfl, fun b e => ⟨by decide, 24, by cases e; exact ok56⟩, (fun e => nomatch e)⟩
theorem in57 (T : AtAll prog K) (j : Nat) : ∃ st ps, FnIn prg gc PD.layD.m prog w K mg base j ⟨"read_shape", 1, ["string", "rows", "cells", "lots", "number", "row"], [.nrm, .nrm, .nrm, .own, .nrm, .nrm], (some b_read_shape)⟩ st ps :=
  ⟨top 14, ["string"], T.a57, ⟨rfl, rfl, rfl, by decide +kernel, rfl, by decide +kernel, by decide +kernel⟩, rfl, fun _ _ _ _ _ _ us hl => match us, hl with | [_], _ => rfl, fun b e => ⟨by decide, 24, by cases e; exact ok57⟩, (fun e => nomatch e)⟩
theorem in60 (T : AtAll prog K) (X : K.In h) (G : h.Ns mainGlobals mg) : ∃ st ps, FnIn prg gc PD.layD.m prog w K mg base 60 ⟨"_law_next", 2, ["_law_m", "_law_total", "_law_found", "_law_cell"], [.hnd, .nrm, .nrm, .nrm], none⟩ st ps :=
  ⟨top 17, ["_law_m", "_law_total"], T.a60, ⟨rfl, rfl, rfl, by decide +kernel, rfl, by decide +kernel, by decide +kernel⟩, rfl, fun _ _ _ _ _ _ us hl => match us, hl with | [_, _], _ => rfl, (fun b e => nomatch e), fun _ ea T' fa fd F n => draw_fn rfl rfl rfl F ⟨rfl, rfl, rfl, by decide +kernel, rfl, by decide +kernel, by decide +kernel⟩ rfl (by decide) rfl (fun cd A fr s H E n pm room => next_body (PySem.W.mg_none_of X G T.b_int) (PySem.W.mg_none_of X G T.b_len) cd A fr s H E n pm room) n⟩
theorem in61 (T : AtAll prog K) (j : Nat) : ∃ st ps, FnIn prg gc PD.layD.m prog w K mg base j ⟨"_law_of", 2, ["_law_m", "_law_some"], [.hnd, .nrm], (some b_law_of)⟩ st ps :=
  ⟨top 18, ["_law_m", "_law_some"], T.a61, ⟨rfl, rfl, rfl, by decide +kernel, rfl, by decide +kernel, by decide +kernel⟩, rfl, fun _ _ _ _ _ _ us hl => match us, hl with | [_, _], _ => rfl, fun b e => ⟨by decide, 24, by cases e; exact ok61⟩, (fun e => nomatch e)⟩
theorem in62 (T : AtAll prog K) (j : Nat) : ∃ st ps, FnIn prg gc PD.layD.m prog w K mg base j ⟨"_law_lot", 2, ["_law_m", "_law_total", "_law_found", "_law_k"], [.hnd, .nrm, .nrm, .nrm], (some b_law_lot)⟩ st ps :=
  ⟨top 19, ["_law_m", "_law_total"], T.a62, ⟨rfl, rfl, rfl, by decide +kernel, rfl, by decide +kernel, by decide +kernel⟩, rfl, fun _ _ _ _ _ _ us hl => match us, hl with | [_, _], _ => rfl, fun b e => ⟨by decide, 24, by cases e; exact ok62⟩, (fun e => nomatch e)⟩
theorem in63 (T : AtAll prog K) (j : Nat) : ∃ st ps, FnIn prg gc PD.layD.m prog w K mg base j ⟨"_law_shape", 3, ["_law_m", "_law_most_so", "_law_sums_so", "_law_total", "_law_lots", "_law_k", "_law_one"], [.hnd, .nrm, .nrm, .nrm, .nrm, .nrm, .nrm], (some b_law_shape)⟩ st ps :=
  ⟨top 20, ["_law_m", "_law_most_so", "_law_sums_so"], T.a63, ⟨rfl, rfl, rfl, by decide +kernel, rfl, by decide +kernel, by decide +kernel⟩, rfl, fun _ _ _ _ _ _ us hl => match us, hl with | [_, _, _], _ => rfl, fun b e => ⟨by decide, 24, by cases e; exact ok63⟩, (fun e => nomatch e)⟩
theorem in64 (T : AtAll prog K) (j : Nat) : ∃ st ps, FnIn prg gc PD.layD.m prog w K mg base j ⟨"_law_figure", 3, ["_law_word", "_law_low", "_law_high"], [.nrm, .nrm, .nrm], (some f64)⟩ st ps :=
  ⟨top 21, ["_law_word", "_law_low", "_law_high"], T.a64, ⟨rfl, rfl, rfl, by decide +kernel, rfl, by decide +kernel, by decide +kernel⟩, rfl, fun _ _ _ _ _ _ us hl => match us, hl with | [_, _, _], _ => rfl, fun b e => ⟨by decide, 24, by cases e; exact ok64⟩, (fun e => nomatch e)⟩
theorem in65 (T : AtAll prog K) (j : Nat) : ∃ st ps, FnIn prg gc PD.layD.m prog w K mg base j ⟨"_law_lot_read", 2, ["_law_row", "_law_total", "_law_found", "_law_word", "_law_some"], [.nrm, .nrm, .nrm, .nrm, .nrm], (some f65)⟩ st ps :=
  ⟨top 22, ["_law_row", "_law_total"], T.a65, ⟨rfl, rfl, rfl, by decide +kernel, rfl, by decide +kernel, by decide +kernel⟩, rfl, fun _ _ _ _ _ _ us hl => match us, hl with | [_, _], _ => rfl, fun b e => ⟨by decide, 24, by cases e; exact ok65⟩, (fun e => nomatch e)⟩
theorem in66 (T : AtAll prog K) (j : Nat) : ∃ st ps, FnIn prg gc PD.layD.m prog w K mg base j ⟨"_law_due", 1, ["_law_text", "_law_rows", "_law_lots", "_law_total", "_law_number", "_law_row", "_law_one"], [.nrm, .nrm, .nrm, .nrm, .nrm, .nrm, .nrm], (some f66)⟩ st ps :=
  ⟨top 23, ["_law_text"], T.a66, ⟨rfl, rfl, rfl, by decide +kernel, rfl, by decide +kernel, by decide +kernel⟩, rfl, fun _ _ _ _ _ _ us hl => match us, hl with | [_], _ => rfl, fun b e => ⟨by decide, 24, by cases e; exact ok66⟩, (fun e => nomatch e)⟩
theorem in67 (T : AtAll prog K) (j : Nat) : ∃ st ps, FnIn prg gc PD.layD.m prog w K mg base j ⟨"_law_right", 1, ["_law_text", "_law_heard", "_law_due_here", "_law_lap", "_law_caught", "e"], [.nrm, .own, .nrm, .nrm, .exv, .nrm], (some f67)⟩ st ps :=
  ⟨top 24, ["_law_text"], T.a67, ⟨rfl, rfl, rfl, by decide +kernel, rfl, by decide +kernel, by decide +kernel⟩, rfl, fun _ _ _ _ _ _ us hl => match us, hl with | [_], _ => rfl, fun b e => ⟨by decide, 24, by cases e; exact ok67⟩, (fun e => nomatch e)⟩
theorem in68 (T : AtAll prog K) (j : Nat) : ∃ st ps, FnIn prg gc PD.layD.m prog w K mg base j ⟨"_law_bent", 2, ["_law_m", "_law_text", "_law_spot", "_law_way", "_law_rows", "_law_near", "_law_far", "_law_words", "_law_k", "_law_odd"], [.hnd, .nrm, .nrm, .nrm, .nrm, .nrm, .nrm, .nrm, .nrm, .nrm], (some f68)⟩ st ps :=
  ⟨top 25, ["_law_m", "_law_text"], T.a68, ⟨rfl, rfl, rfl, by decide +kernel, rfl, by decide +kernel, by decide +kernel⟩, rfl, fun _ _ _ _ _ _ us hl => match us, hl with | [_, _], _ => rfl, fun b e => ⟨by decide, 24, by cases e; exact ok68⟩, (fun e => nomatch e)⟩
theorem in69 (T : AtAll prog K) (j : Nat) : ∃ st ps, FnIn prg gc PD.layD.m prog w K mg base j ⟨"_law_hands", 0, ["_law_found", "_law_many_so", "_law_rows", "_law_k"], [.own, .nrm, .nrm, .nrm], (some f69)⟩ st ps :=
  ⟨top 26, [], T.a69, ⟨rfl, rfl, rfl, by decide +kernel, rfl, by decide +kernel, by decide +kernel⟩, rfl, fun _ _ _ _ _ _ us hl => match us, hl with | [], _ => rfl, fun b e => ⟨by decide, 24, by cases e; exact ok69⟩, (fun e => nomatch e)⟩
theorem fns_in (T : AtAll prog K) (X : K.In h) (G : h.Ns mainGlobals mg) (j : Nat) (f : FDef) (e : prg.fs[j]? = some f) : ∃ st ps, FnIn prg gc PD.layD.m prog w K mg base j f st ps := by
  have key : AllF (fun j f => ∃ st ps, FnIn prg gc PD.layD.m prog w K mg base j f st ps) 0 fs := ⟨in0 T 0, in1 T 1, in0 T 2, in0 T 3, in0 T 4, in0 T 5, in0 T 6, in0 T 7, in0 T 8, in0 T 9, in0 T 10, in0 T 11, in0 T 12, in0 T 13, in0 T 14, in0 T 15, in0 T 16, in0 T 17, in0 T 18, in0 T 19, in0 T 20, in0 T 21, in0 T 22, in0 T 23, in0 T 24, in0 T 25, in0 T 26, in0 T 27, in0 T 28, in0 T 29, in0 T 30, in0 T 31, in0 T 32, in0 T 33, in0 T 34, in0 T 35, in0 T 36, in0 T 37, in0 T 38, in0 T 39, in0 T 40, in0 T 41, in0 T 42, in0 T 43, in0 T 44, in0 T 45, in0 T 46, in0 T 47, in0 T 48, in0 T 49, in0 T 50, in51 T 51, in0 T 52, in0 T 53, in0 T 54, in0 T 55, in56 T 56, in57 T 57, in0 T 58, in0 T 59, in60 T X G, in61 T 61, in62 T 62, in63 T 63, in64 T 64, in65 T 65, in66 T 66, in67 T 67, in68 T 68, in69 T 69, trivial⟩
  have := key.get j f e
  rwa [Nat.zero_add] at this
theorem consts_in (T : AtAll prog K) : ∀ x d, gc.lookup x = some d → CAt K x d := by
  intro x d e
  unfold gc at e
  rw [List.lookup_cons] at e
  split at e
  · rename_i q
    cases eq_of_beq q
    cases e
    exact T.c_MOST_CELLS
  rw [List.lookup_cons] at e
  split at e
  · rename_i q
    cases eq_of_beq q
    cases e
    exact T.c_MOST_SUMS
  rw [List.lookup_cons] at e
  split at e
  · rename_i q
    cases eq_of_beq q
    cases e
    exact T.c_LINE_END
  rw [List.lookup_cons] at e
  split at e
  · rename_i q
    cases eq_of_beq q
    cases e
    exact T.c_BLANK
  rw [List.lookup_cons] at e
  split at e
  · rename_i q
    cases eq_of_beq q
    cases e
    exact T.c_DIGITS
  rw [List.lookup_cons] at e
  split at e
  · rename_i q
    cases eq_of_beq q
    cases e
    exact T.c_MOST_FIGURES
  cases e
theorem exs_in (T : AtAll prog K) : ∀ (c : Nat) (y : Str) (fld : Option Str), prg.ex.lookup c = some (y, fld) → EAt prog K y fld := by
  intro c y fld e
  have e : ex.lookup c = _ := e
  unfold ex at e
  rw [List.lookup_cons] at e
  split at e
  · cases e
    exact T.e3
  cases e
theorem sub_in (T : AtAll prog K) : ∀ (c c' : Nat) (z z' : Str × Option Str), prg.ex.lookup c = some z → prg.ex.lookup c' = some z' → SAt K z.1 z'.1 (c == c') := by
  intro c c' z z' e e'
  have e : ex.lookup c = _ := e
  have e' : ex.lookup c' = _ := e'
  unfold ex at e e'
  rw [List.lookup_cons] at e
  split at e
  · rename_i q
    cases eq_of_beq q
    cases e
    rw [List.lookup_cons] at e'
    split at e'
    · rename_i q'
      cases eq_of_beq q'
      cases e'
      exact T.s3_3
    cases e'
  cases e
theorem blt_in (T : AtAll prog K) : ∀ x ∈ bltNames, PySem.W.nsIn K mainGlobals x = some none := by
  intro x hx
  simp only [bltNames, List.mem_cons, List.not_mem_nil, or_false] at hx
  rcases hx with rfl | rfl | rfl | rfl | rfl | rfl | rfl | rfl | rfl | rfl | rfl | rfl | rfl | rfl | rfl | rfl | rfl | rfl | rfl | rfl
  · exact T.b_len
  · exact T.b_abs
  · exact T.b_min
  · exact T.b_max
  · exact T.b_sum
  · exact T.b_all
  · exact T.b_any
  · exact T.b_int
  · exact T.b_str
  · exact T.b_list
  · exact T.b_tuple
  · exact T.b_sorted
  · exact T.b_repr
  · exact T.b_range
  · exact T.b_zip
  · exact T.b_enumerate
  · exact T.b_isinstance
  · exact T.b_bool
  · exact T.b_set
  · exact T.b_super
theorem law_all (T : AtAll prog K) (X : K.In h) (G : h.Ns mainGlobals mg) {fa : Addr} (hfa : mg "law" = some (.ref fa)) (n : Nat) (go : ∀ ns : List Int, ns.length ≤ 63 → ∃ S', (run prg (n + 1)).s (lawEnv lawN ns) (initD ns) lawB = .ret (.bool true) S') :
    ∃ fd : FuncData, (∀ (s : Shared) (u : Value), BindsTo s fd ⟨[u], []⟩ [("_law_script", u)]) ∧ ∀ base : Heap, K.In base → base.Ns mainGlobals mg → FnG prog w K mg base (L2.CX prog w) (n + 2) fa fd ["_law_script"] (spLaw K [] 63) := by
  obtain ⟨f, fd, a, F⟩ := T.aL
  have e := hfa.symm.trans (PySem.W.mg_of X G a)
  cases e
  have F' := F
  obtain ⟨oc, od, kV, doc, pm, an, cd, ct, osl, rfl, at_, code⟩ := F.ex
  refine ⟨PySem.W.fnOf "law" "law" (defArgs (top 27)) (defBody (top 27)) (defScope (top 27)) .none kV doc pm an cd ct, fun s u => .of_eq rfl, fun base _ _ => ?_⟩
  obtain ⟨w', hT⟩ := wld_of (M := PD.layD.m) (prog := prog) (w := w) (base := base) X G (blt_in T) (consts_in T) (fns_in T X G) (exs_in T) (sub_in T) []
  rw [← hT]
  obtain ⟨fS, fdS, aS, FS⟩ := T.aS
  have bdS : Binds K fdS ["_law_script"] [] := FS.binds fun _ _ _ _ _ _ us hl => match us, hl with | [_], _ => rfl
  exact law_fn w' F' ⟨rfl, rfl, rfl, by decide +kernel, rfl, by decide +kernel, by decide +kernel⟩ rfl rfl rfl (by decide) (ys := "_law_start") (by decide +kernel) (start_ok FS (PySem.W.mg_none_of X G T.b_list) (PySem.W.mg_none_of X G T.b_len) n) (PySem.W.mg_of X G aS) FS.kp bdS okL go
end
end K89
namespace K89
open PySem PD L2
theorem h64 : Has prg 64 3 3 f64 := ⟨_, rfl, rfl, rfl, rfl⟩
theorem h65 : Has prg 65 2 5 f65 := ⟨_, rfl, rfl, rfl, rfl⟩
theorem fig_cv (w : Str) (hw : w.length ≤ 16777216) {lo hi : Int} (h0 : 0 ≤ lo) (h9 : hi ≤ 9) (S : Draw) : Cv prg 16 64 [.str w, .int lo, .int hi] S (.list ((figL w lo hi).map .int)) S := by
  refine Cv.mk (K := 14) h64 rfl ?_
  show Sv prg 14 [some (.str w), some (.int lo), some (.int hi)] S f64 _
  have hL : bltD .len [.str w] = some (.int w.length) := if_pos hw
  have eL : Ev prg 10 [some (.str w), some (.int lo), some (.int hi)] S (.cmp .NotEq (.blt .len [.var 0]) (.con (.int 1))) (.bool (!decide (w.length = 1))) S := .cmp (K := 9) (.blt (K := 8) (.one .var) hL) .con (by
    show some (!PyData.eqv (.int (w.length : Int)) (.int 1)) = _
    rw [eqv_int, show decide ((w.length : Int) = 1) = decide (w.length = 1) from decide_eq_decide.mpr (by omega)])
  by_cases hl : w.length = 1
  · rw [decide_eq_true hl] at eL
    obtain ⟨c, rfl⟩ := str_one hl
    have eN : Ev prg 10 [some (.str ⟨#[c]⟩), some (.int lo), some (.int hi)] S (.cmp .NotIn (.var 0) (.con (.str "0123456789"))) (.bool (!digB c)) S := .cmp (K := 9) .var .con (by
      show (inD (.str ⟨#[c]⟩) (.str digs)).map (!·) = _
      rw [dig_in]; rfl)
    cases hd : digB c with
    | false =>
      rw [hd] at eN
      have e : figL ⟨#[c]⟩ lo hi = [] := by unfold figL; rw [intW_one hd]
      rw [e]
      exact .if1r (K := 13) (Ev.or0 (K := 13) eL.up (.or1 eN.up)) (.ret (.lst .nil))
    | true =>
      rw [hd] at eN
      have hc := of_decide_eq_true (show decide (48 ≤ c ∧ c ≤ 57) = true from hd)
      obtain ⟨i, hi0, hi9, rfl⟩ : ∃ i : Int, 0 ≤ i ∧ i ≤ 9 ∧ c = 48 + i.toNat := ⟨(c - 48 : Nat), by omega, by omega, by omega⟩
      have eI : Ev prg 9 [some (.str ⟨#[48 + i.toNat]⟩), some (.int lo), some (.int hi)] S (.blt .int [.var 0]) (.int i) S := .blt (K := 8) (.one .var) (dg_int hi0 hi9)
      have eC := Ev.chnI (K := 9) (Ev.var (P := prg) (Γ := [some (.str ⟨#[48 + i.toNat]⟩), some (.int lo), some (.int hi)]) (S := S) (i := 1) (K := 8)) eI (Ev.var (i := 2) (K := 8))
      have hw2 : intW ⟨#[48 + i.toNat]⟩ = some i := dg_intW hi0 hi9
      by_cases hb : lo ≤ i ∧ i ≤ hi
      · rw [decide_eq_true hb] at eC
        rw [figL_one hw2 hb.1 hb.2]
        exact .if0 (K := 13) (Ev.or0 (K := 13) eL.up (.or0 eN.up (.orZ (.not (K := 12) eC.up)))) (.ret (.lst (K := 13) (.one eI.up)))
      · rw [decide_eq_false hb] at eC
        have e : figL ⟨#[48 + i.toNat]⟩ lo hi = [] := by
          unfold figL
          rw [hw2]
          exact if_neg hb
        rw [e]
        exact .if1r (K := 13) (Ev.or0 (K := 13) eL.up (.or0 eN.up (.orZ (.not (K := 12) eC.up)))) (.ret (.lst .nil))
  · rw [decide_eq_false hl] at eL
    have e : figL w lo hi = [] := by
      rcases figL_cases w lo hi with ⟨e, _⟩ | ⟨i, _, h2, h3, h4⟩
      · exact e
      · have := intW_dg h2 (by omega)
        rw [this] at hl
        exact absurd rfl hl
    rw [e]
    exact .if1r (K := 13) (Ev.or1 (K := 13) eL.up) (.ret (.lst .nil))
/-! ### a row -/
def lrB : List Sx := [.asg (.nm 4) (.call 64 [(.var 3), (.con (.int 0)), (.bin .Sub (.var 1) (.con (.int 1)))]), .ife (.or [(.cmp .Eq (.var 4) (.lst [])), (.and [(.cmp .NotEq (.var 2) (.lst [])), (.cmp .LtE (.idx (.var 4) (.con (.int 0))) (.idx (.var 2) (.neg (.con (.int 1)))))])]) [.ret (.lst [])] [], .asg (.nm 2) (.bin .Add (.var 2) (.var 4))]
def badL (acc : List Int) (i : Int) : Bool :=
  match acc.getLast? with
  | some l => decide (i ≤ l)
  | none => false
theorem lr_turn (w : Str) (hw : w.length ≤ 16777216) (acc : List Int) (ha : acc.length + 1 ≤ 16777216) (r : PyData) {c : Int} (c8 : c ≤ 8) (v4 : Option PyData) (S : Draw) :
    (figL w 0 (c - 1) = [] → Sv prg 24 [some r, some (.int c), some (.list (acc.map .int)), some (.str w), v4] S lrB (.ret (.list []) S)) ∧
    (∀ i, figL w 0 (c - 1) = [i] → (badL acc i = true → Sv prg 24 [some r, some (.int c), some (.list (acc.map .int)), some (.str w), v4] S lrB (.ret (.list []) S)) ∧
      (badL acc i = false → Sv prg 24 [some r, some (.int c), some (.list (acc.map .int)), some (.str w), v4] S lrB (.nx [some r, some (.int c), some (.list ((acc ++ [i]).map .int)), some (.str w), some (.list [.int i])] S))) := by
  have e4 : Ev prg 24 [some r, some (.int c), some (.list (acc.map .int)), some (.str w), v4] S (.call 64 [(.var 3), (.con (.int 0)), (.bin .Sub (.var 1) (.con (.int 1)))]) (.list ((figL w 0 (c - 1)).map .int)) S :=
    .call (K := 23) (.cons .var (.cons .con (.one (.bin (K := 22) .var .con)))) (fig_cv w hw (by decide) (by omega) S).up
  refine ⟨fun h => ?_, fun i h => ?_⟩
  · rw [h] at e4
    exact .asg e4 (.if1r (K := 23) (Ev.or1 (K := 23) (.cmp (K := 22) .var (.lst .nil) (eq_nil _))) (.ret (.lst .nil)))
  · rw [h] at e4
    have q1 : Ev prg 22 [some r, some (.int c), some (.list (acc.map .int)), some (.str w), some (.list [.int i])] S (.cmp .Eq (.var 4) (.lst [])) (.bool false) S := .cmp (K := 21) .var (.lst .nil) (eq_nil _)
    have q2 : Ev prg 23 [some r, some (.int c), some (.list (acc.map .int)), some (.str w), some (.list [.int i])] S (.and [(.cmp .NotEq (.var 2) (.lst [])), (.cmp .LtE (.idx (.var 4) (.con (.int 0))) (.idx (.var 2) (.neg (.con (.int 1)))))]) (.bool (badL acc i)) S := by
      rcases List.eq_nil_or_concat acc with rfl | ⟨a', l, rfl⟩
      · exact .and0 (K := 22) (.cmp (K := 21) .var (.lst .nil) (ne_nil _))
      · have e : badL (a' ++ [l]) i = decide (i ≤ l) := by simp [badL]
        rw [List.concat_eq_append, e]
        refine .and1 (K := 22) (.cmp (K := 21) .var (.lst .nil) ((ne_nil _).trans (by simp))) (.andZ (.cmp (K := 21) (x := .int i) (y := .int l) (.idx (K := 20) .var .con) (.idx (K := 20) .var (.neg .con) ?_) rfl))
        show atI ((a' ++ [l]).map PyData.int) (-1) = _
        rw [List.map_append]
        exact at_last _ _
    refine ⟨fun hb => ?_, fun hb => ?_⟩
    · rw [hb] at q2
      exact .asg e4 (.if1r (K := 23) (Ev.or0 (K := 23) q1.up (.orZ q2)).up (.ret (.lst .nil)))
    · rw [hb] at q2
      refine .asg e4 (.if0 (K := 23) (Ev.or0 (K := 23) q1.up (.orZ q2)).up (.asg (d := .list ((acc ++ [i]).map .int)) (.bin (K := 23) .var .var ?_) .nil))
      show (if (acc.map PyData.int).length + 1 ≤ 16777216 then some (PyData.list (acc.map PyData.int ++ [.int i])) else none) = _
      rw [if_pos (by rw [List.length_map]; exact ha), List.map_append]; rfl
theorem bad_lt {acc : List Int} {i : Int} (hp : acc.Pairwise (· < ·)) : badL acc i = false ↔ (acc ++ [i]).Pairwise (· < ·) := by
  rcases List.eq_nil_or_concat acc with rfl | ⟨a', l, rfl⟩
  · simp [badL]
  · rw [List.concat_eq_append] at hp ⊢
    have e : badL (a' ++ [l]) i = decide (i ≤ l) := by simp [badL]
    rw [e, decide_eq_false_iff_not, List.pairwise_append]
    constructor
    · intro h
      refine ⟨hp, by simp, fun a ha b hb => ?_⟩
      simp only [List.mem_singleton] at hb
      subst hb
      rcases List.mem_append.mp ha with ha | ha
      · have := (List.pairwise_append.mp hp).2.2 a ha l (by simp)
        omega
      · simp only [List.mem_singleton] at ha
        omega
    · intro h
      have := h.2.2 l (by simp) i (by simp)
      omega
theorem optI_inj {o : Option Int} {i : Int} (h : optI o = .int i) : o = some i := by
  cases o with
  | none => cases h
  | some j => cases h; rfl
theorem lr_fv (r : PyData) {c : Int} (c8 : c ≤ 8) (S : Draw) : ∀ (ws : List Str) (acc : List Int) (v3 v4 : Option PyData), (∀ w ∈ ws, w.length ≤ 16777216) → acc.length + ws.length ≤ 16777216 → acc.Pairwise (· < ·) →
    (∀ ns : List Int, ws.map (fun w => optI (intW w)) = ns.map .int → (∀ i ∈ ns, 0 ≤ i ∧ i ≤ c - 1) → (acc ++ ns).Pairwise (· < ·) → ∃ a b, Fv prg 24 (.nm 3) lrB (ws.map .str) [some r, some (.int c), some (.list (acc.map .int)), v3, v4] S (.nx [some r, some (.int c), some (.list ((acc ++ ns).map .int)), a, b] S)) ∧
    ((¬ ∃ ns : List Int, ws.map (fun w => optI (intW w)) = ns.map .int ∧ (∀ i ∈ ns, 0 ≤ i ∧ i ≤ c - 1) ∧ (acc ++ ns).Pairwise (· < ·)) → Fv prg 24 (.nm 3) lrB (ws.map .str) [some r, some (.int c), some (.list (acc.map .int)), v3, v4] S (.ret (.list []) S))
  | [], acc, v3, v4, _, _, hp => by
    refine ⟨fun ns h _ _ => ?_, fun h => ?_⟩
    · cases ns with
      | nil => rw [List.append_nil]; exact ⟨v3, v4, .nil⟩
      | cons => cases h
    · exact absurd ⟨[], rfl, by simp, by simpa using hp⟩ h
  | w :: ws, acc, v3, v4, hw, hl, hp => by
    rw [List.length_cons] at hl
    obtain ⟨t1, t2⟩ := lr_turn w (hw w List.mem_cons_self) acc (by omega) r c8 v4 S
    rcases figL_cases w 0 (c - 1) with ⟨hf, hn⟩ | ⟨i, hf, hi, i0, i1⟩
    · refine ⟨fun ns h hb _ => ?_, fun _ => .consR rfl (t1 hf)⟩
      cases ns with
      | nil => cases h
      | cons i ns =>
        injection h with h1 h2
        exact absurd (hb i List.mem_cons_self) (hn i (optI_inj h1))
    · obtain ⟨t3, t4⟩ := t2 i hf
      cases hb : badL acc i with
      | true =>
        refine ⟨fun ns h _ hpw => ?_, fun _ => .consR rfl (t3 hb)⟩
        cases ns with
        | nil => cases h
        | cons j ns =>
          injection h with h1 h2
          have := optI_inj h1
          rw [hi] at this
          cases this
          have : (acc ++ [i]).Pairwise (· < ·) := hpw.sublist (by
            rw [show acc ++ i :: ns = (acc ++ [i]) ++ ns by simp]
            exact List.sublist_append_left _ _)
          rw [(bad_lt hp).mpr this] at hb
          cases hb
      | false =>
        have hp2 := (bad_lt hp).mp hb
        obtain ⟨j1, j2⟩ := lr_fv r c8 S ws (acc ++ [i]) (some (.str w)) (some (.list [.int i])) (fun x hx => hw x (List.mem_cons_of_mem _ hx)) (by rw [List.length_append, List.length_singleton]; omega) hp2
        refine ⟨fun ns h hbn hpw => ?_, fun h => .cons rfl (.inl (t4 hb)) (j2 fun ⟨ns, k1, k2, k3⟩ => h ⟨i :: ns, ?_, ?_, ?_⟩)⟩
        · cases ns with
          | nil => cases h
          | cons j ns =>
            injection h with h1 h2
            have := optI_inj h1
            rw [hi] at this
            cases this
            obtain ⟨a, b, h5⟩ := j1 ns h2 (fun x hx => hbn x (List.mem_cons_of_mem _ hx)) (by simpa using hpw)
            exact ⟨a, b, .cons rfl (.inl (t4 hb)) (by simpa using h5)⟩
        · simp only [List.map_cons, k1, hi]; rfl
        · intro x hx
          rcases List.mem_cons.mp hx with rfl | hx
          · exact ⟨i0, i1⟩
          · exact k2 x hx
        · simpa using k3
theorem spl_ne (S : List Nat) : ∀ (l : List Nat) (k : Nat) (acc : List Nat), TL.spl S k acc l ≠ []
  | [], k, acc => by rw [TL.spl_nil]; simp
  | c :: r, 0, acc => by
    show (if TL.pre S (c :: r) = true then acc :: TL.spl S (S.length - 1) [] r else TL.spl S 0 (acc ++ [c]) r) ≠ []
    split
    · simp
    · exact spl_ne S r _ _
  | c :: r, k + 1, acc => spl_ne S r k acc
theorem split_ne {x y : Str} (hy : TL.tl y ≠ []) (hk : ¬ Builtin.Str.strKind x < Builtin.Str.strKind y) : Txt.split x y ≠ [] := fun e => by
  have h := TL.split_spl x y hy hk
  rw [e] at h
  exact spl_ne _ _ _ _ h.symm
theorem sp_k (r : Str) : ¬ Builtin.Str.strKind r < Builtin.Str.strKind (" " : Str) := TL.kind_ok (by decide +kernel)
theorem nl_k (r : Str) : ¬ Builtin.Str.strKind r < Builtin.Str.strKind ("\n" : Str) := TL.kind_ok (by decide +kernel)
def optL (o : Option (List Int)) : List PyData :=
  match o with
  | some ns => [rowD ns]
  | none => []
theorem lotr_cv (r : Str) (hr : r.length + 2 ≤ 16777216) {c : Int} (c8 : c ≤ 8) (S : Draw) : Cv prg 30 65 [.str r, .int c] S (.list (optL (lotI c r))) S := by
  refine Cv.mk (K := 28) h65 rfl ?_
  show Sv prg 28 [some (.str r), some (.int c), none, none, none] S f65 _
  refine .asg (i := 2) (.lst .nil) ?_
  have hI : Iv prg 26 [some (.str r), some (.int c), some (.list []), none, none] S (.meth .split (.var 0) (.con (.str " "))) ((Txt.split r " ").map .str) S :=
    .val (Ev.meth (K := 25) .var rfl .con (split_D (by decide +kernel) hr)) rfl
  obtain ⟨j1, j2⟩ := lr_fv (.str r) c8 S (Txt.split r " ") [] none none (fun w hw => by have := split_len sp_ne (sp_k r) hw; omega) (by have := split_count (x := r) sp_ne (sp_k r); simp; omega) .nil
  cases h : lotI c r with
  | some ns =>
    obtain ⟨h1, h2⟩ := lotI_some h
    rw [h1] at h2
    have hL := lotB_iff.mp h2
    have e : (Txt.split r " ").map (fun w => optI (intW w)) = ns.map .int := by
      unfold rowW rowD at h1
      injection h1
    obtain ⟨a, b, h3⟩ := j1 ns e hL.low (by simpa using hL.up)
    have h3 : Fv prg 24 (.nm 3) lrB ((Txt.split r " ").map .str) [some (.str r), some (.int c), some (.list []), none, none] S (.nx [some (.str r), some (.int c), some (.list (ns.map .int)), a, b] S) := h3
    exact .fr (K := 27) hI.up h3.up (.ret (.lst (K := 27) (xs := [rowD ns]) (.one (.blt (K := 26) (.one .var) (blt_tup _))) (by simp)))
  | none =>
    have h1 := lotI_none h
    refine .frR (K := 27) hI.up (Fv.up (j2 fun ⟨ns, k1, k2, k3⟩ => ?_))
    have hne : ns ≠ [] := by
      rintro rfl
      exact split_ne sp_ne (sp_k r) (List.map_eq_nil_iff.mp k1)
    have h2 : lotB c (rowW r) = true := by
      unfold rowW
      rw [k1]
      exact lotB_iff.mpr ⟨hne, k2, by simpa using k3⟩
    rw [h1] at h2
    cases h2
end K89
namespace K89
open PySem PD L2
theorem h66 : Has prg 66 1 7 f66 := ⟨_, rfl, rfl, rfl, rfl⟩
theorem h67 : Has prg 67 1 6 f67 := ⟨_, rfl, rfl, rfl, rfl⟩
def lastB (acc : List (List Int)) (ns : List Int) : Bool :=
  match acc.getLast? with
  | some l => !HT.lexLt l ns
  | none => false
def dueR (c : Int) : Nat → List (List Int) → List Str → Except Nat (List (List Int))
  | _, acc, [] => .ok acc
  | k, acc, r :: rs => match lotI c r with
    | none => .error (k + 2)
    | some ns => if (decide (k = 8) || lastB acc ns) = true then .error (k + 2) else dueR c (k + 1) (acc ++ [ns]) rs
theorem dueR_ok {c : Int} : ∀ (rs : List Str) (k : Nat) (acc : List (List Int)), (∀ l ∈ acc, Lot c l) → acc.length = k → k ≤ 8 → (∀ ls, dueR c k acc rs = .ok ls → (∀ l ∈ ls, Lot c l) ∧ ls.length ≤ 8) ∧ (∀ n, dueR c k acc rs = .error n → n ≤ 10)
  | [], k, acc, h1, h2, h3 => ⟨fun ls e => by cases e; exact ⟨h1, by omega⟩, fun n e => by cases e⟩
  | r :: rs, k, acc, h1, h2, h3 => by
    unfold dueR
    cases h : lotI c r with
    | none => exact ⟨fun ls e => (by cases e), fun n e => by cases e; omega⟩
    | some ns =>
      dsimp only
      split
      · exact ⟨fun ls e => (by cases e), fun n e => by cases e; omega⟩
      · rename_i hb
        rw [Bool.not_eq_true, Bool.or_eq_false_iff, decide_eq_false_iff_not] at hb
        obtain ⟨k1, k2⟩ := lotI_some h
        rw [k1] at k2
        exact dueR_ok rs (k + 1) (acc ++ [ns]) (fun l hl => by
          rcases List.mem_append.mp hl with hl | hl
          · exact h1 l hl
          · rw [List.mem_singleton.mp hl]; exact lotB_iff.mp k2) (by simp [h2]) (by omega)
def enmL (rs : List Str) (k : Nat) : List PyData := (rs.zipIdx k).map fun p => .tuple [.int p.2, .str p.1]
theorem enm_cons (r : Str) (rs : List Str) (k : Nat) : enmL (r :: rs) k = .tuple [.int (k : Int), .str r] :: enmL rs (k + 1) := rfl
theorem enm_D (rs : List Str) : enmD (.list (rs.map .str)) = some (enmL rs 0) := by
  show some (((rs.map PyData.str).zipIdx).map fun p => PyData.tuple [.int p.2, p.1]) = some ((rs.zipIdx 0).map fun p => .tuple [.int p.2, .str p.1])
  rw [List.zipIdx_map, List.map_map]
  rfl
def duB : List Sx := [.asg (.nm 6) (.call 65 [(.var 5), (.idx (.var 3) (.con (.int 0)))]), .ife (.or [(.cmp .Eq (.var 4) (.con (.int 8))), (.cmp .Eq (.var 6) (.lst [])), (.and [(.cmp .NotEq (.var 2) (.lst [])), (.cmp .LtE (.idx (.var 6) (.con (.int 0))) (.idx (.var 2) (.neg (.con (.int 1)))))])]) [.ret (.bin .Add (.var 4) (.con (.int 2)))] [], .asg (.nm 2) (.bin .Add (.var 2) (.var 6))]
theorem eq_int (i j : Int) : cmpD .Eq (.int i) (.int j) = some (decide (i = j)) := by
  show (if dpt (.int i) (.int j) = true then some (PyData.eqv (.int i) (.int j)) else none) = _
  rw [eqv_int]; rfl
theorem du_fv (t R : PyData) {c : Int} (c8 : c ≤ 8) (S : Draw) : ∀ (rs : List Str) (k : Nat) (acc : List (List Int)) (v4 v5 v6 : Option PyData), (∀ r ∈ rs, r.length + 2 ≤ 16777216) → acc.length = k → k ≤ 8 →
    (∀ n, dueR c k acc rs = .error n → Fv prg 40 (.tp [(.nm 4), (.nm 5)]) duB (enmL rs k) [some t, some R, some (.list (acc.map rowD)), some (.list [.int c]), v4, v5, v6] S (.ret (.int n) S)) ∧
    (∀ ls, dueR c k acc rs = .ok ls → ∃ a b d, Fv prg 40 (.tp [(.nm 4), (.nm 5)]) duB (enmL rs k) [some t, some R, some (.list (acc.map rowD)), some (.list [.int c]), v4, v5, v6] S (.nx [some t, some R, some (.list (ls.map rowD)), some (.list [.int c]), a, b, d] S))
  | [], k, acc, v4, v5, v6, _, _, _ => ⟨fun n e => (by cases e), fun ls e => by cases e; exact ⟨v4, v5, v6, .nil⟩⟩
  | r :: rs, k, acc, v4, v5, v6, hr, hk, h8 => by
    have hb : bindT (.tp [(.nm 4), (.nm 5)]) (.tuple [.int (k : Int), .str r]) [some t, some R, some (.list (acc.map rowD)), some (.list [.int c]), v4, v5, v6] = some [some t, some R, some (.list (acc.map rowD)), some (.list [.int c]), some (.int k), some (.str r), v6] := rfl
    have e6 : Ev prg 40 [some t, some R, some (.list (acc.map rowD)), some (.list [.int c]), some (.int k), some (.str r), v6] S (.call 65 [(.var 5), (.idx (.var 3) (.con (.int 0)))]) (.list (optL (lotI c r))) S :=
      .call (K := 39) (.cons .var (.one (.idx (K := 38) .var .con))) (lotr_cv r (hr r List.mem_cons_self) c8 S).up
    rw [enm_cons]
    have q1 : ∀ o, Ev prg 38 [some t, some R, some (.list (acc.map rowD)), some (.list [.int c]), some (.int k), some (.str r), some (.list (optL o))] S (.cmp .Eq (.var 4) (.con (.int 8))) (.bool (decide (k = 8))) S := fun o => .cmp (K := 37) .var .con (by
      rw [eq_int, show decide ((k : Int) = 8) = decide (k = 8) from decide_eq_decide.mpr (by omega)])
    have q2 : ∀ o, Ev prg 38 [some t, some R, some (.list (acc.map rowD)), some (.list [.int c]), some (.int k), some (.str r), some (.list (optL o))] S (.cmp .Eq (.var 6) (.lst [])) (.bool (optL o).isEmpty) S := fun o => .cmp (K := 37) .var (.lst .nil) (eq_nil _)
    have q4 : ∀ o, Ev prg 39 [some t, some R, some (.list (acc.map rowD)), some (.list [.int c]), some (.int k), some (.str r), some (.list (optL o))] S (.bin .Add (.var 4) (.con (.int 2))) (.int ((k + 2 : Nat) : Int)) S := fun o => .bin (K := 38) .var .con rfl
    unfold dueR
    cases h : lotI c r with
    | none =>
      rw [h] at e6
      refine ⟨fun n e => ?_, fun ls e => by cases e⟩
      cases e
      refine .consR hb (.asg e6 (.if1r (K := 39) (d := .int ((k + 2 : Nat) : Int)) ?_ (.ret (q4 none))))
      exact Ev.or3 (K := 39) (z := false) (q1 none).up (fun _ => (q2 none).up) (fun _ z => by cases z) |> fun x => by
        have e : (decide (k = 8) || (optL none).isEmpty || false) = true := by simp [optL]
        rwa [e] at x
    | some ns =>
      rw [h] at e6
      have q3 : Ev prg 39 [some t, some R, some (.list (acc.map rowD)), some (.list [.int c]), some (.int k), some (.str r), some (.list (optL (some ns)))] S (.and [(.cmp .NotEq (.var 2) (.lst [])), (.cmp .LtE (.idx (.var 6) (.con (.int 0))) (.idx (.var 2) (.neg (.con (.int 1)))))]) (.bool (lastB acc ns)) S := by
        rcases List.eq_nil_or_concat acc with rfl | ⟨a', l, rfl⟩
        · exact .and0 (K := 38) (.cmp (K := 37) .var (.lst .nil) (ne_nil _))
        · have e : lastB (a' ++ [l]) ns = !HT.lexLt l ns := by simp [lastB]
          rw [List.concat_eq_append, e]
          refine .and1 (K := 38) (.cmp (K := 37) .var (.lst .nil) ((ne_nil _).trans (by simp))) (.andZ (.cmp (K := 37) (x := rowD ns) (y := rowD l) (.idx (K := 36) .var .con) (.idx (K := 36) .var (.neg .con) ?_) (le_rows _ _)))
          show atI ((a' ++ [l]).map rowD) (-1) = _
          rw [List.map_append]
          exact at_last _ _
      have qc := Ev.or3 (K := 39) (q1 (some ns)).up (fun _ => (q2 (some ns)).up) (fun _ _ => q3)
      have e : (decide (k = 8) || (optL (some ns)).isEmpty || lastB acc ns) = (decide (k = 8) || lastB acc ns) := by simp [optL]
      rw [e] at qc
      dsimp only
      cases hc : (decide (k = 8) || lastB acc ns) with
      | true =>
        rw [hc] at qc
        rw [if_pos rfl]
        refine ⟨fun n e => ?_, fun ls e => by cases e⟩
        cases e
        exact .consR hb (.asg e6 (.if1r (K := 39) qc (.ret (q4 (some ns)))))
      | false =>
        rw [hc] at qc
        rw [if_neg Bool.false_ne_true]
        rw [Bool.or_eq_false_iff, decide_eq_false_iff_not] at hc
        have hbody : Sv prg 40 [some t, some R, some (.list (acc.map rowD)), some (.list [.int c]), some (.int k), some (.str r), v6] S duB (.nx [some t, some R, some (.list ((acc ++ [ns]).map rowD)), some (.list [.int c]), some (.int k), some (.str r), some (.list (optL (some ns)))] S) := by
          refine .asg e6 (.if0 (K := 39) qc (.asg (d := .list ((acc ++ [ns]).map rowD)) (.bin (K := 39) .var .var ?_) .nil))
          show (if (acc.map rowD).length + 1 ≤ 16777216 then some (PyData.list (acc.map rowD ++ [rowD ns])) else none) = _
          rw [if_pos (by rw [List.length_map]; omega), List.map_append]; rfl
        obtain ⟨j1, j2⟩ := du_fv t R c8 S rs (k + 1) (acc ++ [ns]) (some (.int k)) (some (.str r)) (some (.list (optL (some ns)))) (fun x hx => hr x (List.mem_cons_of_mem _ hx)) (by simp [hk]) (by omega)
        refine ⟨fun n e => .cons hb (.inl hbody) (j1 n e), fun ls e => ?_⟩
        obtain ⟨a, b, d, h5⟩ := j2 ls e
        exact ⟨a, b, d, .cons hb (.inl hbody) h5⟩
theorem ix_last (xs : List PyData) (y : PyData) : ixD (.list (xs ++ [y])) (.int (-1)) = some y := at_last xs y
theorem ix_last2 (xs : List PyData) (x y : PyData) : ixD (.list (xs ++ [x] ++ [y])) (.int (-2)) = some x := at_last2 xs x y
def rdB : List Sx := [.app 3 (.call 56 [(.var 5)]), .ife (.or [(.cmp .GtE (.var 4) (.glb "MOST_SUMS" (.int 8))), (.not (.call 1 [(.var 2), (.idx (.var 3) (.neg (.con (.int 1))))])), (.and [(.cmp .Gt (.var 4) (.con (.int 0))), (.not (.cmp .Lt (.idx (.var 3) (.neg (.con (.int 2)))) (.idx (.var 3) (.neg (.con (.int 1))))))])]) [.rse 3 true (.bin .Add (.var 4) (.con (.int 2)))] []]
theorem rd_fv (t R : PyData) {c : Int} (S : Draw) : ∀ (rs : List Str) (k : Nat) (acc : List (List Int)) (v4 v5 : Option PyData), (∀ r ∈ rs, r.length + 2 ≤ 16777216) → acc.length = k → k ≤ 8 →
    (∀ n : Nat, dueR c k acc rs = .error n → Fv prg 40 (.tp [(.nm 4), (.nm 5)]) rdB (enmL rs k) [some t, some R, some (.int c), some (.list (acc.map rowD)), v4, v5] S (.exc 3 (.int n) S)) ∧
    (∀ ls, dueR c k acc rs = .ok ls → ∃ a b, Fv prg 40 (.tp [(.nm 4), (.nm 5)]) rdB (enmL rs k) [some t, some R, some (.int c), some (.list (acc.map rowD)), v4, v5] S (.nx [some t, some R, some (.int c), some (.list (ls.map rowD)), a, b] S))
  | [], k, acc, v4, v5, _, _, _ => ⟨fun n e => (by cases e), fun ls e => by cases e; exact ⟨v4, v5, .nil⟩⟩
  | r :: rs, k, acc, v4, v5, hr, hk, h8 => by
    have hb : bindT (.tp [(.nm 4), (.nm 5)]) (.tuple [.int (k : Int), .str r]) [some t, some R, some (.int c), some (.list (acc.map rowD)), v4, v5] = some [some t, some R, some (.int c), some (.list (acc.map rowD)), some (.int k), some (.str r)] := rfl
    have e6 : Ev prg 40 [some t, some R, some (.int c), some (.list (acc.map rowD)), some (.int k), some (.str r)] S (.call 56 [(.var 5)]) (rowW r) S :=
      .call (K := 39) (.one .var) (row_cv r (hr r List.mem_cons_self) S).up
    have hl : (acc.map rowD).length < 16777216 := by rw [List.length_map]; omega
    rw [enm_cons]
    have q1 : Ev prg 38 [some t, some R, some (.int c), some (.list (acc.map rowD ++ [rowW r])), some (.int k), some (.str r)] S (.cmp .GtE (.var 4) (.glb "MOST_SUMS" (.int 8))) (.bool (decide (k = 8))) S := .cmp (K := 37) .var .glb (by
      show some (decide ((8 : Int) ≤ (k : Int))) = _
      rw [show decide ((8 : Int) ≤ (k : Int)) = decide (k = 8) from decide_eq_decide.mpr (by omega)])
    have q2 : Ev prg 38 [some t, some R, some (.int c), some (.list (acc.map rowD ++ [rowW r])), some (.int k), some (.str r)] S (.not (.call 1 [(.var 2), (.idx (.var 3) (.neg (.con (.int 1))))])) (.bool (!lotB c (rowW r))) S :=
      .not (K := 37) (.call (K := 36) (.cons .var (.one (.idx (K := 35) .var (.neg .con) (ix_last _ _)))) (lot_cv c (rowW r) S fun xs e => by
        unfold rowW at e
        injection e with e
        have := split_count (x := r) sp_ne (sp_k r)
        have := hr r List.mem_cons_self
        rw [← e, List.length_map]
        omega).up)
    have q4 : Ev prg 39 [some t, some R, some (.int c), some (.list (acc.map rowD ++ [rowW r])), some (.int k), some (.str r)] S (.bin .Add (.var 4) (.con (.int 2))) (.int ((k + 2 : Nat) : Int)) S := .bin (K := 38) .var .con rfl
    unfold dueR
    cases h : lotI c r with
    | none =>
      rw [lotI_none h] at q2
      refine ⟨fun n e => ?_, fun ls e => by cases e⟩
      cases e
      refine .consX hb (.app rfl e6 hl (.if1X (K := 39) ?_ (.rse q4)))
      exact Ev.or3 (K := 39) (z := false) q1.up (fun _ => q2.up) (fun _ z => by cases z) |> fun x => by
        have e : (decide (k = 8) || !false || false) = true := by simp
        rwa [e] at x
    | some ns =>
      obtain ⟨w1, w2⟩ := lotI_some h
      rw [w2] at q2
      rw [w1] at q1 q2 q4 e6
      have q3 : Ev prg 39 [some t, some R, some (.int c), some (.list (acc.map rowD ++ [rowD ns])), some (.int k), some (.str r)] S (.and [(.cmp .Gt (.var 4) (.con (.int 0))), (.not (.cmp .Lt (.idx (.var 3) (.neg (.con (.int 2)))) (.idx (.var 3) (.neg (.con (.int 1))))))]) (.bool (lastB acc ns)) S := by
        rcases List.eq_nil_or_concat acc with rfl | ⟨a', l, rfl⟩
        · have k0 : k = 0 := hk.symm
          subst k0
          exact .and0 (K := 38) (.cmp (K := 37) .var .con rfl)
        · have e : lastB (a' ++ [l]) ns = !HT.lexLt l ns := by simp [lastB]
          rw [List.concat_eq_append] at hk ⊢
          rw [e]
          have kp : 0 < k := by rw [← hk, List.length_append, List.length_singleton]; omega
          have em : (a' ++ [l]).map rowD ++ [rowD ns] = a'.map rowD ++ [rowD l] ++ [rowD ns] := by rw [List.map_append]; rfl
          rw [em]
          refine .and1 (K := 38) (.cmp (K := 37) .var .con ?_) (.andZ (.not (K := 37) (.cmp (K := 36) (.idx (K := 35) .var (.neg .con) (ix_last2 _ _ _)) (.idx (K := 35) .var (.neg .con) (ix_last _ _)) (lt_rows _ _))))
          show some (decide ((0 : Int) < (k : Int))) = _
          rw [decide_eq_true (by omega)]
      have qc := Ev.or3 (K := 39) q1.up (fun _ => q2.up) (fun _ _ => q3)
      have e : (decide (k = 8) || !true || lastB acc ns) = (decide (k = 8) || lastB acc ns) := by simp
      rw [e] at qc
      dsimp only
      cases hc : (decide (k = 8) || lastB acc ns) with
      | true =>
        rw [hc] at qc
        rw [if_pos rfl]
        refine ⟨fun n e => ?_, fun ls e => by cases e⟩
        cases e
        exact .consX hb (.app rfl e6 hl (.if1X (K := 39) qc (.rse q4)))
      | false =>
        rw [hc] at qc
        rw [if_neg Bool.false_ne_true]
        rw [Bool.or_eq_false_iff, decide_eq_false_iff_not] at hc
        have hbody : Sv prg 40 [some t, some R, some (.int c), some (.list (acc.map rowD)), some (.int k), some (.str r)] S rdB (.nx [some t, some R, some (.int c), some (.list ((acc ++ [ns]).map rowD)), some (.int k), some (.str r)] S) := by
          rw [List.map_append]
          exact .app rfl e6 hl (.if0 (K := 39) qc .nil)
        obtain ⟨j1, j2⟩ := rd_fv t R S rs (k + 1) (acc ++ [ns]) (some (.int k)) (some (.str r)) (fun x hx => hr x (List.mem_cons_of_mem _ hx)) (by simp [hk]) (by omega)
        refine ⟨fun n e => .cons hb (.inl hbody) (j1 n e), fun ls e => ?_⟩
        obtain ⟨a, b, h5⟩ := j2 ls e
        exact ⟨a, b, .cons hb (.inl hbody) h5⟩
/-! ### a text -/
def dueT (t : Str) : Except Nat (Int × List (List Int)) :=
  match Txt.split t "\n" with
  | [] => .error 1
  | r :: rs => match figL r 1 8 with
    | [c] => match dueR c 0 [] rs with
      | .ok ls => .ok (c, ls)
      | .error n => .error n
    | _ => .error 1
def dueD (t : Str) : PyData :=
  match dueT t with
  | .ok p => .list [shpD p.1 p.2]
  | .error n => .int n
theorem cut1 (xs : List PyData) : slD (.list xs) (some 1) none = some (.list (xs.drop 1)) := by
  show some (PyData.list (cutD xs (some 1) none)) = _
  rw [cut_tail]
theorem ix0 (x : PyData) (xs : List PyData) : ixD (.list (x :: xs)) (.int 0) = some x := by
  show atI (x :: xs) 0 = _
  unfold atI ixN
  rw [if_pos (by decide), if_pos (by simp)]
  rfl
theorem cut1s (r : Str) (rs : List Str) : slD (.list ((r :: rs).map .str)) (some 1) none = some (.list (rs.map .str)) := (cut1 _).trans rfl
theorem due_cv (t : Str) (ht : t.length + 2 ≤ 16777216) (S : Draw) : Cv prg 60 66 [.str t] S (dueD t) S := by
  refine Cv.mk (K := 58) h66 rfl ?_
  show Sv prg 58 [some (.str t), none, none, none, none, none, none] S f66 _
  refine .par (xs := [.list ((Txt.split t "\n").map .str), .list []]) (.cons (Ev.meth (K := 57) .var rfl .con (split_D (by decide +kernel) ht)) (.one (.lst .nil))) rfl ?_
  show Sv prg 58 [some (.str t), some (.list ((Txt.split t "\n").map .str)), some (.list []), none, none, none, none] S _ _
  have hne := split_ne nl_ne (nl_k t)
  have hlen : ∀ r ∈ Txt.split t "\n", r.length ≤ t.length := fun r hr => split_len nl_ne (nl_k t) hr
  unfold dueD dueT
  generalize Txt.split t "\n" = rows at hne hlen
  cases rows with
  | nil => exact absurd rfl hne
  | cons r rs =>
    dsimp only
    have hr := hlen r List.mem_cons_self
    have e3 : Ev prg 58 [some (.str t), some (.list ((r :: rs).map .str)), some (.list []), none, none, none, none] S (.call 64 [(.idx (.var 1) (.con (.int 0))), (.con (.int 1)), (.con (.int 8))]) (.list ((figL r 1 8).map .int)) S :=
      .call (K := 57) (.cons (.idx (K := 56) (d := .str r) .var .con (ix0 _ _)) (.cons .con (.one .con))) (fig_cv r (by omega) (by decide) (by decide) S).up
    rcases figL_cases r 1 8 with ⟨hf, _⟩ | ⟨c, hf, hi, c1, c8⟩
    · rw [hf] at e3
      rw [hf]
      exact .asg e3 (.if1r (K := 57) (.cmp (K := 57) .var (.lst .nil) (eq_nil _)) (.ret .con))
    · rw [hf] at e3
      rw [hf]
      dsimp only
      have q : Ev prg 58 [some (.str t), some (.list ((r :: rs).map .str)), some (.list []), some (.list [.int c]), none, none, none] S (.cmp .Eq (.var 3) (.lst [])) (.bool false) S := .cmp (K := 57) .var (.lst .nil) (eq_nil _)
      have hI : Iv prg 58 [some (.str t), some (.list ((r :: rs).map .str)), some (.list []), some (.list [.int c]), none, none, none] S (.enm (.sl (.var 1) (some (.con (.int 1))) none)) (enmL rs 0) S :=
        .enm (.sl (K := 57) .var (.some .con) .none (cut1s r rs)) (enm_D rs)
      obtain ⟨j1, j2⟩ := du_fv (.str t) (.list ((r :: rs).map .str)) c8 S rs 0 [] none none none (fun x hx => by have := hlen x (List.mem_cons_of_mem _ hx); omega) rfl (by decide)
      cases hd : dueR c 0 [] rs with
      | error n => exact .asg e3 (.if0 (K := 57) q (.frR (K := 57) hI (j1 n hd).up))
      | ok ls =>
        obtain ⟨a, b, d, h5⟩ := j2 ls hd
        refine .asg e3 (.if0 (K := 57) q (.fr (K := 57) hI h5.up (.ret ?_)))
        exact .lst (K := 57) (xs := [shpD c ls]) (.one (.tup (K := 56) (xs := [.int c, .tuple (ls.map rowD)]) (.cons (.idx (K := 55) .var .con) (.one (.blt (K := 55) (.one .var) (blt_tup _)))) (by simp))) (by simp)
theorem read_cv (t : Str) (ht : t.length + 2 ≤ 16777216) (S : Draw) : (∀ n, dueT t = .error n → Kv prg 60 57 [.str t] S 3 (.int n) S) ∧ (∀ p, dueT t = .ok p → Cv prg 60 57 [.str t] S (shpD p.1 p.2) S) := by
  have hne := split_ne nl_ne (nl_k t)
  have hlen : ∀ r ∈ Txt.split t "\n", r.length ≤ t.length := fun r hr => split_len nl_ne (nl_k t) hr
  have key : ∀ o, Sv prg 58 [some (.str t), some (.list ((Txt.split t "\n").map .str)), none, none, none, none] S (b_read_shape.drop 2) o → Sv prg 58 [some (.str t), none, none, none, none, none] S b_read_shape o := fun o h =>
    .if0 (K := 57) (.not (K := 57) (.isi (K := 56) .var rfl)) (.asg (i := 1) (Ev.meth (K := 57) .var rfl .glb (split_D (by decide +kernel) ht)) h)
  unfold dueT
  generalize Txt.split t "\n" = rows at hne hlen key
  cases rows with
  | nil => exact absurd rfl hne
  | cons r rs =>
    dsimp only
    have hr := hlen r List.mem_cons_self
    have e3 : Ev prg 58 [some (.str t), some (.list ((r :: rs).map .str)), none, none, none, none] S (.call 51 [(.idx (.var 1) (.con (.int 0)))]) (optI (intW r)) S :=
      .call (K := 57) (.one (.idx (K := 56) (d := .str r) .var .con (ix0 _ _))) (int_cv r (by omega) S).up
    have q : Ev prg 58 [some (.str t), some (.list ((r :: rs).map .str)), some (optI (intW r)), some (.list []), none, none] S (.not (.call 0 [(.var 2), (.con (.int 1)), (.glb "MOST_CELLS" (.int 8))])) (.bool (!wholeD (optI (intW r)) 1 8)) S :=
      .not (K := 57) (.call (K := 56) (.cons .var (.cons .con (.one .glb))) (whole_cv _ _ _ _).up)
    have key2 : ∀ o, Sv prg 58 [some (.str t), some (.list ((r :: rs).map .str)), some (optI (intW r)), some (.list []), none, none] S (b_read_shape.drop 3) o → Sv prg 58 [some (.str t), none, none, none, none, none] S b_read_shape o := fun o h => key o (.par (xs := [optI (intW r), .list []]) (.cons e3 (.one (.lst .nil))) rfl h)
    rcases figL_cases r 1 8 with ⟨hf, hn⟩ | ⟨c, hf, hi, c1, c8⟩
    · rw [hf]
      have hw : wholeD (optI (intW r)) 1 8 = false := by
        cases h : intW r with
        | none => rfl
        | some i =>
          have := hn i h
          simp only [optI, wholeD]
          rw [Bool.eq_false_iff]
          intro z
          rw [Bool.and_eq_true, decide_eq_true_eq, decide_eq_true_eq] at z
          exact this z
      rw [hw] at q
      refine ⟨fun n e => ?_, fun p e => by cases e⟩
      cases e
      exact Kv.mk (K := 58) F_read_shape.h_read_shape rfl (key2 _ (.if1X (K := 57) q (.rse (Ev.con (K := 56)))))
    · rw [hf]
      have hw : wholeD (optI (intW r)) 1 8 = true := by
        rw [hi]
        simp only [optI, wholeD]
        rw [decide_eq_true c1, decide_eq_true c8]; rfl
      rw [hw] at q
      rw [hi] at q key2
      dsimp only
      have hI : Iv prg 58 [some (.str t), some (.list ((r :: rs).map .str)), some (.int c), some (.list []), none, none] S (.enm (.sl (.var 1) (some (.con (.int 1))) none)) (enmL rs 0) S :=
        .enm (.sl (K := 57) .var (.some .con) .none (cut1s r rs)) (enm_D rs)
      obtain ⟨j1, j2⟩ := rd_fv (.str t) (.list ((r :: rs).map .str)) (c := c) S rs 0 [] none none (fun x hx => by have := hlen x (List.mem_cons_of_mem _ hx); omega) rfl (by decide)
      cases hd : dueR c 0 [] rs with
      | error m =>
        refine ⟨fun n e => ?_, fun p e => by cases e⟩
        cases e
        exact Kv.mk (K := 58) F_read_shape.h_read_shape rfl (key2 _ (.if0 (K := 57) q (.frX (K := 57) hI (j1 m hd).up)))
      | ok ls =>
        refine ⟨fun n e => (by cases e), fun p e => ?_⟩
        cases e
        obtain ⟨a, b, h5⟩ := j2 ls hd
        refine Cv.mk (K := 58) F_read_shape.h_read_shape rfl (key2 _ (.if0 (K := 57) q (.fr (K := 57) hI h5.up (.ret ?_))))
        exact .tup (K := 57) (xs := [.int c, .tuple (ls.map rowD)]) (.cons .var (.one (.blt (K := 56) (.one .var) (blt_tup _)))) (by simp)
theorem due_small (t : Str) : (∀ n, dueT t = .error n → n ≤ 10) ∧ (∀ p, dueT t = .ok p → 1 ≤ p.1 ∧ p.1 ≤ 8 ∧ p.2.length ≤ 8 ∧ ∀ l ∈ p.2, Lot p.1 l) := by
  unfold dueT
  cases Txt.split t "\n" with
  | nil => exact ⟨fun n e => by cases e; decide, fun p e => by cases e⟩
  | cons r rs =>
    dsimp only
    rcases figL_cases r 1 8 with ⟨hf, hn⟩ | ⟨c, hf, hi, c1, c8⟩
    · rw [hf]
      exact ⟨fun n e => by cases e; decide, fun p e => by cases e⟩
    · rw [hf]
      dsimp only
      obtain ⟨j1, j2⟩ := dueR_ok (c := c) rs 0 [] (by simp) rfl (by decide)
      cases hd : dueR c 0 [] rs with
      | error m => exact ⟨fun n e => by cases e; exact j2 _ hd, fun p e => by cases e⟩
      | ok ls => exact ⟨fun n e => (by cases e), fun p e => by cases e; exact ⟨c1, c8, (j1 ls hd).2, (j1 ls hd).1⟩⟩
theorem due_sm (t : Str) : Sm 5000 6 (dueD t) := by
  obtain ⟨h1, h2⟩ := due_small t
  unfold dueD
  cases h : dueT t with
  | error n => exact (Sm.int (by have := h1 n h; omega)).mono (by decide) (by decide)
  | ok p =>
    obtain ⟨a, b, c, d⟩ := h2 p h
    exact (Sm.list (w := 4000) (D := 4) (xs := [shpD p.1 p.2]) fun x hx => by
      rw [List.mem_singleton.mp hx]
      exact Sm.shp (by omega) b c d).mono (by simp) (by decide)
def riB : List Sx := [.asg (.nm 4) (.con .none), .tre 1 (.lst [(.call 57 [(.var 0)])]) [3] 5 4, .ife (.exn 4 true) [.app 1 (.exf 4 "line" [3])] []]
theorem ri_turn (t : Str) (ht : t.length + 2 ≤ 16777216) (xs : List PyData) (hx : xs.length ≤ 2) (D i : PyData) (v4 v5 : Option PyData) (S : Draw) : ∃ a b, Sv prg 70 [some (.str t), some (.list xs), some D, some i, v4, v5] S riB (.nx [some (.str t), some (.list (xs ++ [dueD t])), some D, some i, a, b] S) := by
  obtain ⟨r1, r2⟩ := read_cv t ht S
  unfold dueD
  cases h : dueT t with
  | error n =>
    refine ⟨some (excD 3 (.int n)), none, .asg (i := 4) .con (.treX (c := 3) (d := .int n) (xs := xs) rfl (.lst (K := 69) (.here (.call (K := 68) (.one .var) (r1 n h).up))) rfl (.if1 (K := 69) (Γ1 := [some (.str t), some (.list (xs ++ [.int n])), some D, some i, some (excD 3 (.int n)), none]) (.exn (K := 69) rfl) (.app (xs := xs) rfl (.exf (K := 68) (c := 3) rfl rfl) (by omega) .nil) .nil))⟩
  | ok p =>
    refine ⟨some .none, v5, .asg (i := 4) .con (.tre0 (xs := xs) (y := .list [shpD p.1 p.2]) rfl (.lst (K := 69) (.one (.call (K := 68) (.one .var) (r2 p h).up)) (by simp)) (by omega) (.if0 (K := 69) (.exn (K := 69) rfl) .nil))⟩
theorem right_cv (t : Str) (ht : t.length + 2 ≤ 16777216) (S : Draw) : Cv prg 80 67 [.str t] S (.bool true) S := by
  refine Cv.mk (K := 78) h67 rfl ?_
  show Sv prg 78 [some (.str t), none, none, none, none, none] S f67 _
  refine .par (xs := [.list [], dueD t]) (.cons (.lst .nil) (.one (.call (K := 77) (.one .var) (due_cv t ht S).up))) rfl ?_
  show Sv prg 78 [some (.str t), some (.list []), some (dueD t), none, none, none] S _ _
  obtain ⟨a, b, t1⟩ := ri_turn t ht [] (by simp) (dueD t) (.int 0) none none S
  obtain ⟨a', b', t2⟩ := ri_turn t ht [dueD t] (by simp) (dueD t) (.int 1) a b S
  refine .fr (K := 77) (xs := [.int 0, .int 1]) (.rng (.one .con) rfl) (.cons (t := .nm 3) rfl (.inl (Sv.up t1)) (.cons (t := .nm 3) rfl (.inl (Sv.up t2)) .nil)) (.ret ?_)
  have sm := (Sm.two (due_sm t) (due_sm t)).repr
  exact .cmp (K := 77) (.blt (K := 76) (.one .var) sm) (.blt (K := 76) (.one (.lst (K := 75) (.cons .var (.one .var)))) sm) (eq_str _)
end K89
namespace K89
open PySem PD L2
/-! ### rows put together -/
def wL : List Str → Nat
  | [] => 0
  | x :: r => x.length + 1 + wL r
theorem wL_sub {xs ys : List Str} (h : xs.Sublist ys) : wL xs ≤ wL ys := by
  induction h with
  | slnil => exact Nat.le_refl _
  | cons a h ih => simp only [wL]; omega
  | cons_cons a h ih => simp only [wL]; omega
theorem wL_app : ∀ (xs ys : List Str), wL (xs ++ ys) = wL xs + wL ys
  | [], ys => by simp [wL]
  | x :: xs, ys => by simp only [List.cons_append, wL, wL_app xs ys]; omega
theorem wL_eq : ∀ (xs : List Str), (xs.map (·.length)).sum + xs.length = wL xs
  | [] => rfl
  | x :: xs => by
    have := wL_eq xs
    simp only [List.map_cons, List.sum_cons, List.length_cons, wL]; omega
theorem wL_len (xs : List Str) : xs.length ≤ wL xs := by rw [← wL_eq]; omega
theorem wL_mem {x : Str} {xs : List Str} (h : x ∈ xs) : x.length + 1 ≤ wL xs := by
  have := wL_sub (List.singleton_sublist.mpr h)
  simpa [wL] using this
theorem joinLen_w {y : Str} (hy : y.length = 1) (xs : List Str) : joinLen y xs = wL xs := by
  unfold joinLen
  rw [hy, Nat.mul_one, wL_eq]
theorem join_len {y : Str} (hy : y.length = 1) (xs : List Str) : (Txt.join y xs).length ≤ wL xs := by
  rw [TL.join_eq]
  refine Nat.le_trans (StrLaws.join_length_le _ _) ?_
  rw [hy, Nat.mul_one, wL_eq]
  exact Nat.le_refl _
def wN : List (List Nat) → Nat
  | [] => 0
  | x :: r => x.length + 1 + wN r
theorem wN_map (xs : List Str) : wN (xs.map TL.tl) = wL xs := by
  induction xs with
  | nil => rfl
  | cons x xs ih => simp only [List.map_cons, wN, wL, ih, TL.len_tl x]
theorem spl_w (S : List Nat) : ∀ (l : List Nat) (k : Nat) (acc : List Nat), wN (TL.spl S k acc l) ≤ acc.length + l.length + 1
  | [], k, acc => by rw [TL.spl_nil]; simp [wN]
  | c :: r, 0, acc => by
    show wN (if TL.pre S (c :: r) = true then acc :: TL.spl S (S.length - 1) [] r else TL.spl S 0 (acc ++ [c]) r) ≤ _
    split
    · have := spl_w S r (S.length - 1) []
      simp only [wN, List.length_cons, List.length_nil] at this ⊢
      omega
    · have := spl_w S r 0 (acc ++ [c])
      simp only [List.length_append, List.length_cons, List.length_nil] at this ⊢
      omega
  | c :: r, k + 1, acc => by
    have := spl_w S r k acc
    show wN (TL.spl S k acc r) ≤ _
    simp only [List.length_cons]
    omega
theorem split_w {x y : Str} (hy : TL.tl y ≠ []) (hk : ¬ Builtin.Str.strKind x < Builtin.Str.strKind y) : wL (Txt.split x y) ≤ x.length + 1 := by
  rw [← wN_map, TL.split_spl x y hy hk, TL.len_tl x]
  have := spl_w (TL.tl y) (TL.tl x) 0 []
  simpa using this
def cutL (xs : List Str) (lo hi : Option Int) : List Str := (xs.drop (HT.sIx xs.length 0 lo)).take (HT.sIx xs.length xs.length hi - HT.sIx xs.length 0 lo)
theorem cutL_sub (xs : List Str) (lo hi : Option Int) : (cutL xs lo hi).Sublist xs := (List.take_sublist _ _).trans (List.drop_sublist _ _)
theorem cutL_D (xs : List Str) (lo hi : Option Int) : slD (.list (xs.map .str)) lo hi = some (.list ((cutL xs lo hi).map .str)) := by
  show some (PyData.list (cutD (xs.map .str) lo hi)) = _
  unfold cutD cutL
  rw [List.length_map, List.map_take, List.map_drop]
theorem cutL_w (xs : List Str) (lo hi : Option Int) : wL (cutL xs lo hi) ≤ wL xs := wL_sub (cutL_sub xs lo hi)
theorem strsOf_mapS (l : List Str) : strsOf (l.map .str) = some l := by
  induction l with
  | nil => rfl
  | cons x r ih => simp [strsOf, ih]
theorem join_D {y : Str} (hy : y.length = 1) (xs : List Str) (h : wL xs ≤ 16777216) : methD .join (.str y) (.list (xs.map .str)) = some (.str (Txt.join y xs)) := by
  simp only [methD, strsOf_mapS, joinLen_w hy, if_pos h]
theorem add_L {xs ys : List Str} (h : wL xs + wL ys ≤ 16777216) : binD .Add (.list (xs.map .str)) (.list (ys.map .str)) = some (.list ((xs ++ ys).map .str)) := by
  have h1 := wL_len xs
  have h2 := wL_len ys
  simp only [binD, List.length_map]
  rw [if_pos (by omega), List.map_append]
theorem nl1 : ("\n" : Str).length = 1 := by decide +kernel
theorem sp1 : (" " : Str).length = 1 := by decide +kernel
theorem ixLs {xs : List Str} {i : Int} (h0 : 0 ≤ i) (h1 : i < xs.length) : ∃ x ∈ xs, ixD (.list (xs.map .str)) (.int i) = some (.str x) := by
  have hi : i.toNat < xs.length := by omega
  refine ⟨xs[i.toNat], List.getElem_mem hi, ?_⟩
  have := ixL PyData.str xs i.toNat _ (List.getElem?_eq_getElem hi)
  rwa [show ((i.toNat : Nat) : Int) = i by omega] at this
def oddW : List Str := ["", "0", "1", "7", "8", "9", "00", "01", "10", "-1", "x"]
theorem h68 : Has prg 68 2 10 f68 := ⟨_, rfl, rfl, rfl, rfl⟩
theorem h69 : Has prg 69 0 4 f69 := ⟨_, rfl, rfl, rfl, rfl⟩
theorem cutS_D {t : Str} (h : t.length ≤ 16777216) (lo hi : Option Int) : slD (.str t) lo hi = some (.str (cutS t lo hi)) := if_pos h
theorem bent_cv {t : Str} (ht : t.length ≤ 100000) {S : Draw} (hS : Live S) : ∃ t' S', Cv prg 40 68 [hndD, .str t] S (.str t') S' ∧ t'.length ≤ 4 * t.length + 8 ∧ Live S' := by
  obtain ⟨sp, S1, e1, sp0, sp1', f1⟩ := nextD_cv (P := prg) (t := t.length + 1) hS (by omega) (by omega)
  obtain ⟨w, S2, e2, w0, w1, f2⟩ := nextD_cv (P := prg) (t := 9) f1 (by omega) (by omega)
  have hL : bltD .len [.str t] = some (.int t.length) := if_pos (by omega)
  have hpar : ∀ o, Sv prg 38 [some hndD, some (.str t), some (.int sp), some (.int w), none, none, none, none, none, none] S2 (f68.drop 1) o → Sv prg 38 [some hndD, some (.str t), none, none, none, none, none, none, none, none] S f68 o := fun o h =>
    .par (xs := [.int sp, .int w]) (.cons (.call (K := 37) (xs := [hndD, .int (t.length + 1)]) (.cons .var (.one (.bin (K := 36) (.blt (K := 35) (.one .var) hL) .con))) e1.up) (.one (.call (K := 37) (.cons .var (.one .con)) e2.up))) rfl h
  by_cases hw : w < 4
  · let z : Str := "0123456789 -\nx"
    obtain ⟨c, S3, hc, e3, f3⟩ := ofD_any (P := prg) (S := S2) (xs := z.cps.toList) (f := fun c => .str ⟨#[c]⟩) (d := .str z) f2 (by decide +kernel) (by decide +kernel) (by show (if z.length ≤ 16777216 then some (PyData.int z.length) else none) = _; rw [if_pos (by decide +kernel)]; rfl) (fun i x h => by
      have hi := (List.getElem?_eq_some_iff.mp h).1
      have hz : z.length ≤ 16777216 := by decide +kernel
      simp only [ixD, if_pos hz, atI, ixN, if_pos (Int.natCast_nonneg i), if_pos (show (i : Int) < z.cps.toList.length by omega), Option.bind_some, Int.toNat_natCast, h, Option.map_some])
    have l1 := cutS_length t none (some sp)
    have l2 := cutS_length t (some (sp + w / 2)) none
    have lc : (⟨#[c]⟩ : Str).length = 1 := rfl
    refine ⟨cutS t none (some sp) ++ ⟨#[c]⟩ ++ cutS t (some (sp + w / 2)) none, S3, Cv.mk (K := 38) h68 rfl (hpar _ ?_), ?_, f3⟩
    · refine .if1r (K := 37) (.cmp (K := 37) .var .con (by show some (decide (w < 4)) = some true; rw [decide_eq_true hw])) (.ret (.bin (K := 36) (x := .str (cutS t none (some sp) ++ ⟨#[c]⟩)) (.bin (K := 35) (.sl (K := 34) .var .none (.some .var) (cutS_D (by omega) _ _)) (.call (K := 34) (.cons .var (.one .con)) e3.up) ?_) (.sl (K := 35) (l := some (sp + w / 2)) .var (.some (.bin (K := 34) .var (.bin (K := 33) .var .con))) .none (cutS_D (by omega) _ _)) ?_))
      · exact if_pos (by rw [lc]; omega)
      · exact if_pos (by rw [Str.length_append, lc]; omega)
    · rw [Str.length_append, Str.length_append, lc]; omega
  have hwF : cmpD .Lt (.int w) (.int 4) = some false := by show some (decide (w < 4)) = _; rw [decide_eq_false hw]
  have hne := split_ne nl_ne (nl_k t)
  have hsw := split_w (x := t) nl_ne (nl_k t)
  have hsp := split_D (a := t) (b := "\n") (by decide +kernel) (by omega)
  have key : ∀ o, Sv prg 38 [some hndD, some (.str t), some (.int sp), some (.int w), some (.list ((Txt.split t "\n").map .str)), none, none, none, none, none] S2 (f68.drop 3) o → Sv prg 38 [some hndD, some (.str t), none, none, none, none, none, none, none, none] S f68 o := fun o h =>
    hpar o (.if0 (K := 37) (.cmp (K := 37) .var .con hwF) (.asg (i := 4) (Ev.meth (K := 37) .var rfl .con hsp) h))
  generalize Txt.split t "\n" = rows at hne hsw key
  have hrl := wL_len rows
  have hrp : 0 < rows.length := List.length_pos_iff.mpr hne
  obtain ⟨nr, S3, e3, nr0, nr1, f3⟩ := nextD_cv (P := prg) (t := rows.length) f2 (by omega) (by omega)
  obtain ⟨fr, S4, e4, fr0, fr1, f4⟩ := nextD_cv (P := prg) (t := rows.length) f3 (by omega) (by omega)
  have hRL : bltD .len [.list (rows.map .str)] = some (.int rows.length) := by rw [blt_lenL, List.length_map]
  have key2 : ∀ o, Sv prg 38 [some hndD, some (.str t), some (.int sp), some (.int w), some (.list (rows.map .str)), some (.int nr), some (.int fr), none, none, none] S4 (f68.drop 4) o → Sv prg 38 [some hndD, some (.str t), none, none, none, none, none, none, none, none] S f68 o := fun o h =>
    key o (.par (xs := [.int nr, .int fr]) (.cons (.call (K := 37) (xs := [hndD, .int rows.length]) (.cons .var (.one (.blt (K := 36) (.one .var) hRL))) e3.up) (.one (.call (K := 37) (xs := [hndD, .int rows.length]) (.cons .var (.one (.blt (K := 36) (.one .var) hRL))) e4.up))) rfl h)
  have c1 := cutL_w rows none (some nr)
  have c2 := cutL_w rows (some (nr + 1)) none
  have c3 := cutL_w rows (some nr) none
  by_cases h4 : w = 4
  · have w1 : wL (cutL rows none (some nr) ++ cutL rows (some (nr + 1)) none) ≤ 2 * t.length + 2 := by rw [wL_app]; omega
    refine ⟨Txt.join "\n" (cutL rows none (some nr) ++ cutL rows (some (nr + 1)) none), S4, Cv.mk (K := 38) h68 rfl (key2 _ ?_), ?_, f4⟩
    · exact .if1r (K := 37) (.cmp (K := 37) .var .con (by rw [eq_int, decide_eq_true h4])) (.ret (Ev.meth (K := 36) .con rfl (.bin (K := 35) (.sl (K := 34) .var .none (.some .var) (cutL_D _ _ _)) (.sl (K := 34) .var (.some (.bin (K := 33) .var .con)) .none (cutL_D _ _ _)) (add_L (by omega))) (join_D nl1 _ (by omega))))
    · have := join_len nl1 (cutL rows none (some nr) ++ cutL rows (some (nr + 1)) none); omega
  have h4F : cmpD .Eq (.int w) (.int 4) = some false := by rw [eq_int, decide_eq_false h4]
  by_cases h5 : w = 5
  · obtain ⟨x, hx, ex⟩ := ixLs (xs := rows) fr0 fr1
    have hxl := wL_mem hx
    have hone : wL [x] = x.length + 1 := by simp [wL]
    have w1 : wL (cutL rows none (some nr) ++ [x] ++ cutL rows (some nr) none) ≤ 3 * t.length + 3 := by rw [wL_app, wL_app]; omega
    have w2 : wL (cutL rows none (some nr) ++ [x]) ≤ 2 * t.length + 2 := by rw [wL_app]; omega
    refine ⟨Txt.join "\n" (cutL rows none (some nr) ++ [x] ++ cutL rows (some nr) none), S4, Cv.mk (K := 38) h68 rfl (key2 _ ?_), ?_, f4⟩
    · exact .if0 (K := 37) (.cmp (K := 37) .var .con h4F) (.if1r (K := 37) (.cmp (K := 37) .var .con (by rw [eq_int, decide_eq_true h5])) (.ret (Ev.meth (K := 36) .con rfl (.bin (K := 35) (.bin (K := 34) (y := .list ([x].map .str)) (.sl (K := 33) .var .none (.some .var) (cutL_D _ _ _)) (.lst (K := 33) (.one (.idx (K := 32) .var .var ex))) (add_L (by omega))) (.sl (K := 34) .var (.some .var) .none (cutL_D _ _ _)) (add_L (by omega))) (join_D nl1 _ (by omega)))))
    · have := join_len nl1 (cutL rows none (some nr) ++ [x] ++ cutL rows (some nr) none); omega
  have h5F : cmpD .Eq (.int w) (.int 5) = some false := by rw [eq_int, decide_eq_false h5]
  obtain ⟨row, hrow, erow⟩ := ixLs (xs := rows) nr0 nr1
  have hrw := wL_mem hrow
  have hne2 := split_ne sp_ne (sp_k row)
  have hsw2 := split_w (x := row) sp_ne (sp_k row)
  have hsp2 := split_D (a := row) (b := " ") (by decide +kernel) (by omega)
  have key3 : ∀ o, Sv prg 38 [some hndD, some (.str t), some (.int sp), some (.int w), some (.list (rows.map .str)), some (.int nr), some (.int fr), some (.list ((Txt.split row " ").map .str)), none, none] S4 (f68.drop 7) o → Sv prg 38 [some hndD, some (.str t), none, none, none, none, none, none, none, none] S f68 o := fun o h =>
    key2 o (.if0 (K := 37) (.cmp (K := 37) .var .con h4F) (.if0 (K := 37) (.cmp (K := 37) .var .con h5F) (.asg (i := 7) (Ev.meth (K := 37) (.idx (K := 36) .var .var erow) rfl .con hsp2) h)))
  generalize Txt.split row " " = words at hne2 hsw2 key3
  have hwl := wL_len words
  have hwp : 0 < words.length := List.length_pos_iff.mpr hne2
  obtain ⟨k, S5, e5, k0, k1, f5⟩ := nextD_cv (P := prg) (t := words.length) f4 (by omega) (by omega)
  obtain ⟨o, S6, ho, e6, f6⟩ := ofD_list (P := prg) (xs := oddW) PyData.str f5 (by decide) (by decide)
  have hol : o.length ≤ 2 := (by decide +kernel : ∀ o ∈ oddW, o.length ≤ 2) o ho
  have hWL : bltD .len [.list (words.map .str)] = some (.int words.length) := by rw [blt_lenL, List.length_map]
  let mid : List Str := if w > 6 then [o] else []
  have hmid : wL mid ≤ 3 := by
    show wL (if w > 6 then [o] else []) ≤ 3
    split
    · simp only [wL]; omega
    · simp [wL]
  let words2 : List Str := cutL words none (some k) ++ mid ++ cutL words (some (k + if w < 8 then 1 else 0)) none
  have d1 := cutL_w words none (some k)
  have d2 := cutL_w words (some (k + if w < 8 then 1 else 0)) none
  have hw2 : wL words2 ≤ 2 * row.length + 5 := by
    show wL (cutL words none (some k) ++ mid ++ cutL words (some (k + if w < 8 then 1 else 0)) none) ≤ _
    rw [wL_app, wL_app]; omega
  have eM : Ev prg 36 [some hndD, some (.str t), some (.int sp), some (.int w), some (.list (rows.map .str)), some (.int nr), some (.int fr), some (.list (words.map .str)), some (.int k), some (.str o)] S6 (.ite (.cmp .Gt (.var 3) (.con (.int 6))) (.lst [(.var 9)]) (.lst [])) (.list (mid.map .str)) S6 := by
    have cg : cmpD .Gt (.int w) (.int 6) = some (decide (6 < w)) := rfl
    by_cases h6 : w > 6
    · have : mid = [o] := if_pos h6
      rw [this]
      exact .ite1 (K := 35) (.cmp (K := 34) .var .con (by rw [cg, decide_eq_true h6])) (.lst (K := 34) (.one .var))
    · have : mid = [] := if_neg h6
      rw [this]
      exact .ite0 (K := 35) (.cmp (K := 34) .var .con (by rw [cg, decide_eq_false h6])) (.lst (K := 34) .nil)
  have eB : Ev prg 34 [some hndD, some (.str t), some (.int sp), some (.int w), some (.list (rows.map .str)), some (.int nr), some (.int fr), some (.list (words.map .str)), some (.int k), some (.str o)] S6 (.bin .Add (.var 8) (.blt .int [(.cmp .Lt (.var 3) (.con (.int 8)))])) (.int (k + if w < 8 then 1 else 0)) S6 := by
    refine .bin (K := 33) (y := .int (if w < 8 then 1 else 0)) .var (.blt (K := 32) (.one (.cmp (K := 31) (k := decide (w < 8)) .var .con rfl)) ?_)
    by_cases h8 : w < 8
    · simp [bltD, h8]
    · simp [bltD, h8]
  have eW : Ev prg 38 [some hndD, some (.str t), some (.int sp), some (.int w), some (.list (rows.map .str)), some (.int nr), some (.int fr), some (.list (words.map .str)), some (.int k), some (.str o)] S6 (.bin .Add (.bin .Add (.sl (.var 7) none (some (.var 8))) (.ite (.cmp .Gt (.var 3) (.con (.int 6))) (.lst [(.var 9)]) (.lst []))) (.sl (.var 7) (some (.bin .Add (.var 8) (.blt .int [(.cmp .Lt (.var 3) (.con (.int 8)))]))) none)) (.list (words2.map .str)) S6 :=
    .bin (K := 37) (.bin (K := 36) (.sl (K := 35) .var .none (.some .var) (cutL_D _ _ _)) eM (add_L (by omega))) (.sl (K := 36) .var (.some eB.up) .none (cutL_D _ _ _)) (add_L (by rw [wL_app]; omega))
  have hj := join_len sp1 words2
  have hone : wL [Txt.join " " words2] = (Txt.join " " words2).length + 1 := by simp [wL]
  have w1 : wL (cutL rows none (some nr) ++ [Txt.join " " words2]) ≤ t.length + 1 + (2 * row.length + 6) := by rw [wL_app]; omega
  have w2 : wL (cutL rows none (some nr) ++ [Txt.join " " words2] ++ cutL rows (some (nr + 1)) none) ≤ 4 * t.length + 8 := by rw [wL_app]; omega
  refine ⟨Txt.join "\n" (cutL rows none (some nr) ++ [Txt.join " " words2] ++ cutL rows (some (nr + 1)) none), S6, Cv.mk (K := 38) h68 rfl (key3 _ ?_), ?_, f6⟩
  · refine .asg (.call (K := 37) (xs := [hndD, .int words.length]) (.cons .var (.one (.blt (K := 36) (.one .var) hWL))) e5.up) (.asg (.call (K := 37) (.cons .var (.one (.lst (K := 36) (xs := oddW.map .str) ?_ (by decide)))) e6.up) (.asg (i := 7) eW (.ret (Ev.meth (K := 37) .con rfl (.bin (K := 36) (.bin (K := 35) (y := .list ([Txt.join " " words2].map .str)) (.sl (K := 34) .var .none (.some .var) (cutL_D _ _ _)) (.lst (K := 34) (.one (Ev.meth (K := 33) .con rfl .var (join_D sp1 _ (by omega))))) (add_L (by omega))) (.sl (K := 35) .var (.some (.bin (K := 34) .var .con)) .none (cutL_D _ _ _)) (add_L (by omega))) (join_D nl1 _ (by omega))))))
    exact .cons .con (.cons .con (.cons .con (.cons .con (.cons .con (.cons .con (.cons .con (.cons .con (.cons .con (.cons .con (.one .con))))))))))
  · have := join_len nl1 (cutL rows none (some nr) ++ [Txt.join " " words2] ++ cutL rows (some (nr + 1)) none); omega
end K89
namespace K89
open PySem PD L2
def handsS : List String := "" :: " " :: "\n" :: "1" :: "0" :: "9" :: "8" :: "01" :: "1 " :: " 1" :: "1 1" :: "x" :: "-1" :: "1\n" :: "1\n0" :: "1\n1" :: "2\n0 1" :: "2\n1 0" :: "2\n0 0" :: "2\n0  1" :: "2\n0 1 " :: "2\n 0" :: "2\n0\n0" :: "2\n0\n0 1" :: "2\n0 1\n0" :: "2\n0\n1\n" :: "2\n0\n\n1" :: "2\n0\nx" :: "2\nx\ny" :: "3\n0 2\n1" :: "3\n0 2\n0 1 2" :: "8\n0\n1\n2\n3\n4\n5\n6\n7" :: "8\n0\n1\n2\n3\n4\n5\n6\n7\n7" :: "8\n0\n0 1\n0 2\n0 3\n0 4\n0 5\n0 6\n0 7\n1" :: "8\n0\n0 1\n0 2\n0 3\n0 4\n0 5\n0 6\n0 7" :: "8\n0\n0 1\n0 2\n0 3\n0 4\n0 5\n0 6\n0 7\nx" :: "8\n0\n0 1\n0 2\n0 3\nx\n0 5\n0 6\n0 7\n1" :: []
def handsL : List Str := handsS.map Str.ofString
theorem hands_cv (S : Draw) : Cv prg 20 69 [] S (.list (handsL.map .str)) S := .of fun n => by kernel_rfl
theorem hands_len : ∀ t ∈ handsL, t.length ≤ 100 := by decide +kernel
/-! ### the text of a drawn shape -/
theorem num_len {i : Int} (h0 : 0 ≤ i) (h9 : i ≤ 9) : (num i).length = 1 := by rw [num_dig h0 h9]; rfl
theorem blt_num {i : Int} (h0 : 0 ≤ i) (h9 : i ≤ 9) : bltD .str [.int i] = some (.str (num i)) := by
  have : i.natAbs.log2 < 1920 := ten (P := fun i => i.natAbs.log2 < 1920) (by decide +kernel) h0 h9
  simp only [bltD, if_pos this]
  rfl
theorem wL_le {α : Type} (g : α → Str) (k : Nat) : ∀ (l : List α), (∀ x ∈ l, (g x).length ≤ k) → wL (l.map g) ≤ l.length * (k + 1)
  | [], _ => by simp [wL]
  | x :: r, h => by
    have h1 := wL_le g k r fun y hy => h y (List.mem_cons_of_mem _ hy)
    have h2 := h x List.mem_cons_self
    simp only [List.map_cons, List.length_cons, wL]
    rw [Nat.add_mul]
    omega
def rowT (ns : List Int) : Str := Txt.join " " (ns.map num)
theorem rowT_w {c : Int} {ns : List Int} (h : Lot c ns) (hc : c ≤ 8) : wL (ns.map num) ≤ 16 := by
  have h1 := wL_le num 1 ns fun x hx => Nat.le_of_eq (num_len (h.low x hx).1 (by have := (h.low x hx).2; omega))
  have h2 := h.len
  omega
def rowsT (c : Int) (ls : List (List Int)) : List Str := [num c] ++ ls.map rowT
theorem rowsT_w {c : Int} {ls : List (List Int)} (h : Shp c ls) : wL (rowsT c ls) ≤ 150 := by
  have c1 := h.c1
  have c8 := h.c8
  have hl := h.len
  have h1 := wL_le rowT 16 ls fun x hx => Nat.le_trans (join_len sp1 _) (rowT_w (h.lot x hx) c8)
  have h2 : wL [num c] = 2 := by simp only [wL]; rw [num_len (by omega) (by omega)]
  unfold rowsT
  rw [wL_app]
  omega
def lapB : List Sx := [.ife (.not (.call 67 [(.var 4)])) [.ret (.con (.bool false))] [], .asg (.nm 4) (.call 68 [(.var 1), (.var 4)])]
theorem text_ev (sc : PyData) {c : Int} {ls : List (List Int)} (h : Shp c ls) (a b : Option PyData) (v5 v6 : Option PyData) (S : Draw) : Ev prg 30 [some sc, some hndD, a, some (shpD c ls), b, v5, v6] S (.meth .join (.con (.str "\n")) (.bin .Add (.lst [(.blt .str [(.idx (.var 3) (.con (.int 0)))])]) (.comp (.meth .join (.con (.str " ")) (.comp (.blt .str [(.var 5)]) (.nm 5) (.var 6) [] [5])) (.nm 6) (.idx (.var 3) (.con (.int 1))) [] [6]))) (.str (Txt.join "\n" (rowsT c ls))) S := by
  have c1 := h.c1
  have c8 := h.c8
  have hl := h.len
  have hw := rowsT_w h
  have e1 : Ev prg 28 [some sc, some hndD, a, some (shpD c ls), b, v5, v6] S (.lst [(.blt .str [(.idx (.var 3) (.con (.int 0)))])]) (.list ([num c].map .str)) S := .lst (K := 27) (.one (.blt (K := 26) (.one (.idx (K := 25) (d := .int c) .var .con rfl)) (blt_num (by omega) (by omega))))
  have e2 : Ev prg 28 [some sc, some hndD, a, some (shpD c ls), b, v5, v6] S (.comp (.meth .join (.con (.str " ")) (.comp (.blt .str [(.var 5)]) (.nm 5) (.var 6) [] [5])) (.nm 6) (.idx (.var 3) (.con (.int 1))) [] [6]) (.list (ls.map fun l => .str (rowT l))) S := by
    refine Ev.comp (K := 27) (xs := ls) rowD (fun l => .str (rowT l)) (.val (.idx (K := 26) (d := .tuple (ls.map rowD)) .var .con rfl) rfl) (by omega) fun l hl' => ⟨_, rfl, ?_⟩
    have hlot := h.lot l hl'
    have h8 := h.l8 hlot
    have e3 := Ev.comp (P := prg) (K := 25) (Γ := [some sc, some hndD, a, some (shpD c ls), b, v5, some (rowD l)]) (S := S) (S1 := S) (xs := l) (it := .var 6) (t := .nm 5) (own := [5]) (elt := .blt .str [(.var 5)]) PyData.int (fun i => .str (num i)) (.val .var rfl) (by omega) fun i hi => ⟨_, rfl, .blt (K := 24) (.one .var) (blt_num (hlot.low i hi).1 (by have := (hlot.low i hi).2; omega))⟩
    have e4 : (l.map fun i => PyData.str (num i)) = (l.map num).map .str := by rw [List.map_map]; rfl
    rw [e4] at e3
    exact Ev.meth (K := 26) .con rfl e3 (join_D sp1 _ (by have := rowT_w hlot c8; omega))
  have e4 : (ls.map fun l => PyData.str (rowT l)) = (ls.map rowT).map .str := by rw [List.map_map]; rfl
  rw [e4] at e2
  have hw' : wL [num c] + wL (ls.map rowT) ≤ 150 := by rw [← wL_app]; exact hw
  exact Ev.meth (K := 29) .con rfl (.bin (K := 28) e1 e2 (add_L (by omega))) (join_D nl1 _ (by show wL (rowsT c ls) ≤ _; omega))
theorem laps_fv (sc a d : PyData) : ∀ (xs : List PyData) (k : Nat) (t : Str) (v5 v6 : Option PyData) (S : Draw), k + xs.length = 5 → t.length + 8 ≤ 256 * 4 ^ k → Live S → ∃ t' v5' S', Fv prg 85 (.nm 5) lapB xs [some sc, some hndD, some a, some d, some (.str t), v5, v6] S (.nx [some sc, some hndD, some a, some d, some (.str t'), v5', v6] S') ∧ Live S'
  | [], k, t, v5, v6, S, _, _, hS => ⟨t, v5, S, .nil, hS⟩
  | x :: xs, k, t, v5, v6, S, hk, ht, hS => by
    rw [List.length_cons] at hk
    have h4 : (4 : Nat) ^ k ≤ 4 ^ 4 := Nat.pow_le_pow_right (by decide) (by omega)
    have h4' : 256 * 4 ^ k ≤ 65536 := Nat.mul_le_mul_left 256 h4
    obtain ⟨t', S', e, hl, hS'⟩ := bent_cv (t := t) (by omega) hS
    obtain ⟨t2, v5', S2, h2, hS2⟩ := laps_fv sc a d xs (k + 1) t' (some x) v6 S' (by omega) (by rw [Nat.pow_succ]; omega) hS'
    refine ⟨t2, v5', S2, .cons (t := .nm 5) rfl (.inl ?_) h2, hS2⟩
    exact .if0 (K := 84) (.not (K := 84) (.call (K := 83) (.one .var) (right_cv t (by omega) S).up)) (.asg (i := 4) (.call (K := 84) (.cons .var (.one .var)) e.up) .nil)
def outB : List Sx := [.asg (.nm 3) (.call 63 [(.var 1), (.con (.int 8)), (.con (.int 8))]), .asg (.nm 4) (.meth .join (.con (.str "\n")) (.bin .Add (.lst [(.blt .str [(.idx (.var 3) (.con (.int 0)))])]) (.comp (.meth .join (.con (.str " ")) (.comp (.blt .str [(.var 5)]) (.nm 5) (.var 6) [] [5])) (.nm 6) (.idx (.var 3) (.con (.int 1))) [] [6]))), .fr (.nm 5) (.rng [(.con (.int 5))]) lapB]
theorem out_fv (sc : PyData) : ∀ (xs : List PyData) (a b c d e : Option PyData) (S : Draw), Live S → ∃ a' b' c' d' e' S', Fv prg 90 (.nm 2) outB xs [some sc, some hndD, a, b, c, d, e] S (.nx [some sc, some hndD, a', b', c', d', e'] S') ∧ Live S'
  | [], a, b, c, d, e, S, hS => ⟨a, b, c, d, e, S, .nil, hS⟩
  | x :: xs, a, b, c, d, e, S, hS => by
    obtain ⟨n, ls, S1, e1, hs, _, _, f1⟩ := shapeD_cv (P := prg) (m := 8) (s := 8) hS (by decide) (by decide) (by decide) (by decide)
    have hlen := Nat.le_trans (join_len nl1 (rowsT n ls)) (rowsT_w hs)
    obtain ⟨t', v5', S2, h2, f2⟩ := laps_fv sc x (shpD n ls) [.int 0, .int 1, .int 2, .int 3, .int 4] 0 (Txt.join "\n" (rowsT n ls)) d e S1 rfl (by omega) f1
    obtain ⟨a', b', c', d', e', S3, h3, f3⟩ := out_fv sc xs (some x) (some (shpD n ls)) (some (.str t')) v5' e S2 f2
    refine ⟨a', b', c', d', e', S3, .cons (t := .nm 2) rfl (.inl ?_) h3, f3⟩
    exact .asg (i := 3) (.call (K := 89) (.cons .var (.cons .con (.one .con))) e1.up) (.asg (i := 4) (text_ev sc hs _ _ _ _ _).up (.fr (K := 89) (xs := [.int 0, .int 1, .int 2, .int 3, .int 4]) (.rng (.one .con) rfl) h2.up .nil))
def depth := 150
theorem go : ∀ ns : List Int, ns.length ≤ 63 → ∃ S', (run prg (depth + 1)).s (lawEnv lawN ns) (initD ns) lawB = .ret (.bool true) S' := by
  intro ns hn
  have hS : Live (initD ns) := by simp [Live, initD]
  obtain ⟨a, b, c, d, e, S', h, f⟩ := out_fv (.list (ns.map .int)) ((PD.upTo (5 + min (ns.length : Int) 9)).map .int) none none none none none (initD ns) hS
  have hmin : bltD .min [.int ns.length, .int 9] = some (.int (min (ns.length : Int) 9)) := by
    show some (PyData.int (if (9 : Int) < ns.length then 9 else ns.length)) = _
    congr 2
    split <;> omega
  have q : Ev prg 100 [some (.list (ns.map .int)), some hndD, a, b, c, d, e] S' (.comp (.con (.int 1)) (.nm 4) (.call 69 []) [(.not (.call 67 [(.var 4)]))] [4]) (.list []) S' := by
    have := Ev.compF (P := prg) (K := 99) (Γ := [some (.list (ns.map .int)), some hndD, a, b, c, d, e]) (S := S') (S1 := S') (elt := .con (.int 1)) (it := .call 69 []) (t := .nm 4) (own := [4]) (c := .not (.call 67 [(.var 4)])) (xs := handsL) PyData.str (fun _ => .int 1) (fun _ => false) (.val (.call (K := 98) .nil (hands_cv S').up) rfl) (by decide +kernel) fun t ht => ⟨_, rfl, .not (K := 98) (.call (K := 97) (.one .var) (right_cv t (by have := hands_len t ht; omega) S').up), fun z => by cases z⟩
    rwa [show (handsL.filter fun _ => false) = [] by simp] at this
  refine ⟨S', ?_⟩
  have main : Sv prg 110 (lawEnv lawN ns) (initD ns) lawB (.ret (.bool true) S') := by
    show Sv prg 110 [some (.list (ns.map .int)), some hndD, none, none, none, none, none] (initD ns) lawB _
    refine .fr (K := 109) (.up1 (.bin (K := 109) (.con) (.blt (K := 108) (.cons (.blt (K := 107) (.one .var) (by rw [blt_lenL, List.length_map])) (.one .con)) hmin)) (by omega) (by omega)) h.up (.ret (.cmp (K := 109) q.up (.lst .nil)))
  exact main 150 (by decide)
end K89
open PySem PySem.W PyProof.Rows
set_option maxRecDepth 100000 in
set_option maxHeartbeats 0 in
theorem PySem.Challenge.cw_sumsshown_k89_whole_any_text_holds : PySem.Challenge.rw_sumsshown_k89_whole_any_text.Holds := by
  w_on; o_law; k_head; (case hw => w_witness2)
  k_fill
  refine PD.walk_pd (l := PySem.Challenge.rw_sumsshown_k89_whole_any_text) (n := 63) (k := K89.depth + 2) (x := "_law_script") (sp := fun w => PD.spLaw _ [] 63) rfl (by decide) rfl ⟨rfl, by decide +kernel, by decide +kernel⟩ (fun w h Y => PySem.W.kIn_of Y) ?F (fun w H a ns hl _ hS _ => ⟨a, ns, rfl, hS, hl, PD.tabs_nil, fun _ => rfl⟩)
  case F =>
    intro w mg fa h KX G hmg
    refine K89.law_all ?T KX G hmg K89.depth K89.go
    case T =>
      constructor
      · refine' PD.fAt_mk ?a ?l ?c ?k; (case a => k_is); (case l => k_is); (case c => k_is); (case k => k_is)
      · refine' PD.fAt_mk ?a ?l ?c ?k; (case a => k_is); (case l => k_is); (case c => k_is); (case k => k_is)
      · refine' PD.fAt_mk ?a ?l ?c ?k; (case a => k_is); (case l => k_is); (case c => k_is); (case k => k_is)
      · refine' PD.fAt_mk ?a ?l ?c ?k; (case a => k_is); (case l => k_is); (case c => k_is); (case k => k_is)
      · refine' PD.fAt_mk ?a ?l ?c ?k; (case a => k_is); (case l => k_is); (case c => k_is); (case k => k_is)
      · refine' PD.fAt_mk ?a ?l ?c ?k; (case a => k_is); (case l => k_is); (case c => k_is); (case k => k_is)
      · refine' PD.fAt_mk ?a ?l ?c ?k; (case a => k_is); (case l => k_is); (case c => k_is); (case k => k_is)
      · refine' PD.fAt_mk ?a ?l ?c ?k; (case a => k_is); (case l => k_is); (case c => k_is); (case k => k_is)
      · refine' PD.fAt_mk ?a ?l ?c ?k; (case a => k_is); (case l => k_is); (case c => k_is); (case k => k_is)
      · refine' PD.fAt_mk ?a ?l ?c ?k; (case a => k_is); (case l => k_is); (case c => k_is); (case k => k_is)
      · refine' PD.fAt_mk ?a ?l ?c ?k; (case a => k_is); (case l => k_is); (case c => k_is); (case k => k_is)
      · refine' PD.fAt_mk ?a ?l ?c ?k; (case a => k_is); (case l => k_is); (case c => k_is); (case k => k_is)
      · refine' PD.fAt_mk ?a ?l ?c ?k; (case a => k_is); (case l => k_is); (case c => k_is); (case k => k_is)
      · refine' PD.fAt_mk ?a ?l ?c ?k; (case a => k_is); (case l => k_is); (case c => k_is); (case k => k_is)
      · refine' PD.fAt_mk ?a ?l ?c ?k; (case a => k_is); (case l => k_is); (case c => k_is); (case k => k_is)
      · refine' PD.fAt_mk ?a ?l ?c ?k; (case a => k_is); (case l => k_is); (case c => k_is); (case k => k_is)
      · refine' PD.fAt_mk ?a ?l ?c ?k; (case a => k_is); (case l => k_is); (case c => k_is); (case k => k_is)
      · refine' PD.cAt_int ?a; (case a => k_is)
      · refine' PD.cAt_int ?a; (case a => k_is)
      · refine' PD.cAt_str ?a; (case a => k_is)
      · refine' PD.cAt_str ?a; (case a => k_is)
      · refine' PD.cAt_str ?a; (case a => k_is)
      · refine' PD.cAt_int ?a; (case a => k_is)
      · refine' PD.eAt_mk (B := "ValueError") ?at0 PySem.F.excBase_ValueError PySem.W.kxs_ValueError PySem.F.store_ValueError ?init ?fn ?codeO ?cell ?clsd ?I ?fl ?fM ?tp ?hd ?c1 ?c2 ?c3 ?c4 ?c5 ?c6 ?c7 ?c8 ?c9 ?d1 ?d2 ?d3 ?d4 ?d5 ?d6 ?d7 ?d8 ?d9 ?x1 ?x2 ?x3
        (case at0 => k_is); (case init => k_is); (case fn => k_is); (case codeO => k_is); (case cell => k_is); (case clsd => k_is)
        case I => exact ⟨rfl, rfl, rfl, rfl, rfl, rfl, by decide +kernel, rfl, rfl, by decide, by decide, by decide, fun _ _ _ _ _ _ _ _ _ => rfl, .fld rfl⟩
        (case fl => rfl); (case fM => decide +kernel); (case tp => decide +kernel); (case hd => rfl)
        all_goals first | k_is | kernel_rfl
      · refine' PD.sAt_mk ?a ?b ?c; (case a => k_is); (case b => k_is); (case c => first | k_is | kernel_rfl)
      all_goals k_is
