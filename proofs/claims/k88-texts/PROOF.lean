import PyProof.Rows.All
import Wide.All
import OpenK.AllK
import Wide.FinOn
import HandS.ForMost
import HandS.Walk
import HandS.Zip
import HandS.Deep
import HandS.TupAny
import HandS.TupLe
import HandS.Flow
import HandS.TupMul
import KE.DataEq
import KE.DataMinMax
import KE.SortData
import KE.DataIsa
import PyProof.ReprRoads
import HandS.RaiseMore
import KE.GoesNew
import HandS.Style
import HandS.Conv
import HandS.Text
import HandS.Ends
import HandS.Dict
import HandS.Small
import PyProof.StrLawsRepr
import PySem.Challenge.RW_sumsshown_k88_whole_texts_there_and_back
set_option Elab.async false
set_option linter.all false
set_option maxRecDepth 100000
/-! P1: a layer of plain data over HandS: results, the draws, the part of the heap that is seen, steps. -/
namespace PD
open PySem L2

/-- nothing of the module is data here -/
abbrev K0 : PySem.W.Frag := []
/-- the state of the draws of a law -/
structure Draw where
  cells : List Int
  great : List Int
  a : Int
  b : Int

/-- a result: a value, an error (its class by number, what it keeps), or stuck -/
inductive Res (α : Type) where
  | ok (x : α) (S : Draw)
  | exc (c : Nat) (d : PyData) (S : Draw)
  | bad

def Res.bind {α β : Type} : Res α → (α → Draw → Res β) → Res β
  | .ok x S, f => f x S
  | .exc c d S, _ => .exc c d S
  | .bad, _ => .bad

def Res.Post {α : Type} (P : α → Draw → Prop) (E : Nat → PyData → Draw → Prop) : Res α → Prop
  | .ok x S => P x S
  | .exc c d S => E c d S
  | .bad => False

theorem Res.Post.mono {α : Type} {P P' : α → Draw → Prop} {E E' : Nat → PyData → Draw → Prop} {r : Res α} (h : r.Post P E) (hp : ∀ x S, P x S → P' x S) (he : ∀ c d S, E c d S → E' c d S) : r.Post P' E' := by
  cases r with
  | ok x S => exact hp _ _ h
  | exc c d S => exact he _ _ _ h
  | bad => exact h

@[simp] theorem Res.bind_ok {α β : Type} (x : α) (S : Draw) (f : α → Draw → Res β) : (Res.ok x S).bind f = f x S := rfl
@[simp] theorem Res.bind_exc {α β : Type} (c : Nat) (d : PyData) (S : Draw) (f : α → Draw → Res β) : (Res.exc c d S : Res α).bind f = .exc c d S := rfl
@[simp] theorem Res.bind_bad {α β : Type} (f : α → Draw → Res β) : (Res.bad : Res α).bind f = .bad := rfl

/-- how the draws' state lies in a dict: the two lists' places, the rest -/
structure Mch where
  lay : Draw → Addr → Addr → List (Key × V)
  refs : ∀ S pc pg k a, (k, V.ref a) ∈ lay S pc pg → a = pc ∨ a = pg
  hc : ∀ S pc pg, ∃ k, (k, V.ref pc) ∈ lay S pc pg
  hg : ∀ S pc pg, ∃ k, (k, V.ref pg) ∈ lay S pc pg

def Mst (H : Hp) (pm a : Addr) : Prop := a = pm ∨ ∃ kvs k, H pm = some (.dK kvs) ∧ (k, V.ref a) ∈ kvs

def StAt (M : Mch) (H : Hp) (pm : Addr) (S : Draw) : Prop :=
  ∃ pc pg, pc ≠ pg ∧ H pm = some (.dK (M.lay S pc pg)) ∧ H pc = some (.lst (S.cells.map V.int)) ∧ H pg = some (.lst (S.great.map V.int))

inductive Kd where
  | nrm | own | hnd | scr
  deriving DecidableEq

/-- what a frame's judgements hang on -/
structure Cfg where
  M : Mch
  /-- the module's own objects (a script may be one) -/
  K : PySem.W.Frag

  pm : Addr
  /-- not of this frame's making -/
  Z : Addr → Prop
  kd : List Kd
  XQ : Nat → PyData → Draw → Hp → Hp → Prop

/-- W: what is seen of the heap H; the draws' state lies apart -/
structure Vw (C : Cfg) (W H : Hp) (S : Draw) : Prop where
  sub : ∀ a o, W a = some o → H a = some o
  hid : ∀ a, Mst H C.pm a → W a = none
  st : StAt C.M H C.pm S

structure Stp (pm : Addr) (H W H' W' : Hp) : Prop where
  w : ∀ a o, W a = some o → W' a = some o
  k : ∀ a o, H a = some o → ¬ Mst H pm a → H' a = some o ∧ ¬ Mst H' pm a
  t : ∀ a o, H a = some o → ∃ o', H' a = some o'
  f : ∀ a o, W' a = some o → W a = none → H a = none

theorem Stp.refl (pm : Addr) (H W : Hp) : Stp pm H W H W :=
  ⟨fun _ _ h => h, fun _ _ h n => ⟨h, n⟩, fun _ o h => ⟨o, h⟩, fun a o h n => by rw [n] at h; cases h⟩
theorem Stp.trans {pm : Addr} {H W H1 W1 H2 W2 : Hp} (a : Stp pm H W H1 W1) (b : Stp pm H1 W1 H2 W2) : Stp pm H W H2 W2 where
  w := fun c o h => b.w c o (a.w c o h)
  k := fun c o h n => let ⟨h1, n1⟩ := a.k c o h n; b.k c o h1 n1
  t := fun c o h => let ⟨o1, h1⟩ := a.t c o h; b.t c o1 h1
  f := fun c o h n => by
    cases e : W1 c with
    | some u => exact a.f c u e n
    | none =>
      have h1 := b.f c o h e
      cases e2 : H c with
      | none => rfl
      | some u =>
        obtain ⟨o', h2⟩ := a.t c u e2
        rw [h1] at h2
        cases h2
/-- what was hidden is shown: a thing that was not there at the beginning -/
theorem Stp.see {pm : Addr} {H W H' W' : Hp} (s : Stp pm H W H' W') {p : Addr} {o : HO} (hn : H p = none) (hw : W' p = none) : Stp pm H W H' (upd W' p o) where
  w := fun c u h => by
    have h1 := s.w c u h
    rw [upd_ne (fun e => by rw [e, hw] at h1; cases h1)]
    exact h1
  k := s.k
  t := s.t
  f := fun c u h n => by
    by_cases e : c = p
    · rw [e]; exact hn
    · rw [upd_ne e] at h
      exact s.f c u h n

theorem Mst.mem {M : Mch} {H : Hp} {pm a : Addr} {S : Draw} (st : StAt M H pm S) (m : Mst H pm a) : ∃ o, H a = some o := by
  obtain ⟨pc, pg, _, h1, h2, h3⟩ := st
  rcases m with rfl | ⟨kvs, k, e, hm⟩
  · exact ⟨_, h1⟩
  · rw [h1] at e
    cases e
    rcases M.refs _ _ _ _ _ hm with rfl | rfl
    · exact ⟨_, h2⟩
    · exact ⟨_, h3⟩
theorem Vw.new_ne {C : Cfg} {W H : Hp} {S : Draw} (v : Vw C W H S) {q : Addr} (hq : H q = none) : ¬ Mst H C.pm q := fun m => by
  obtain ⟨o, e⟩ := Mst.mem v.st m
  rw [hq] at e
  cases e
theorem Vw.pm_ne {C : Cfg} {W H : Hp} {S : Draw} (v : Vw C W H S) {q : Addr} (hq : H q = none) : C.pm ≠ q := fun e => v.new_ne hq (.inl e.symm)
theorem Vw.wnone {C : Cfg} {W H : Hp} {S : Draw} (v : Vw C W H S) {q : Addr} (hq : H q = none) : W q = none := by
  cases e : W q with
  | none => rfl
  | some o => have := v.sub q o e; rw [hq] at this; cases this
theorem mst_upd {H : Hp} {pm q a : Addr} {o : HO} (h : pm ≠ q) : Mst (upd H q o) pm a ↔ Mst H pm a := by
  unfold Mst
  rw [upd_ne h]
theorem StAt.upd {M : Mch} {H : Hp} {pm : Addr} {S : Draw} (st : StAt M H pm S) {q : Addr} {o : HO} (hq : ¬ Mst H pm q) : StAt M (upd H q o) pm S := by
  obtain ⟨pc, pg, ne, h1, h2, h3⟩ := st
  have n0 : pm ≠ q := fun e => hq (.inl e.symm)
  have n1 : pc ≠ q := fun e => by
    obtain ⟨k, hk⟩ := M.hc S pc pg
    exact hq (e ▸ .inr ⟨_, k, h1, hk⟩)
  have n2 : pg ≠ q := fun e => by
    obtain ⟨k, hk⟩ := M.hg S pc pg
    exact hq (e ▸ .inr ⟨_, k, h1, hk⟩)
  exact ⟨pc, pg, ne, by rw [upd_ne n0]; exact h1, by rw [upd_ne n1]; exact h2, by rw [upd_ne n2]; exact h3⟩

/-- a new thing, seen -/
theorem Vw.new {C : Cfg} {W H : Hp} {S : Draw} (v : Vw C W H S) {q : Addr} {o : HO} (hq : H q = none) : Vw C (upd W q o) (upd H q o) S where
  sub := fun a u h => by
    by_cases e : a = q
    · subst e; rw [upd_same] at h ⊢; exact h
    · rw [upd_ne e] at h ⊢; exact v.sub a u h
  hid := fun a m => by
    have m' := (mst_upd (v.pm_ne hq)).mp m
    rw [upd_ne (fun e => v.new_ne hq (by rw [← e]; exact m'))]
    exact v.hid a m'
  st := v.st.upd (v.new_ne hq)
/-- .. hidden -/
theorem Vw.newH {C : Cfg} {W H : Hp} {S : Draw} (v : Vw C W H S) {q : Addr} {o : HO} (hq : H q = none) : Vw C W (upd H q o) S where
  sub := fun a u h => by
    have h1 := v.sub a u h
    rw [upd_ne (ne_of_none h1 hq)]
    exact h1
  hid := fun a m => v.hid a ((mst_upd (v.pm_ne hq)).mp m)
  st := v.st.upd (v.new_ne hq)
/-- a hidden thing is written -/
theorem Vw.put {C : Cfg} {W H : Hp} {S : Draw} (v : Vw C W H S) {q : Addr} {o : HO} (hw : W q = none) (hm : ¬ Mst H C.pm q) : Vw C W (upd H q o) S where
  sub := fun a u h => by
    have h1 := v.sub a u h
    rw [upd_ne (fun e => by rw [e, hw] at h; cases h)]
    exact h1
  hid := fun a m => v.hid a ((mst_upd (fun e => hm (.inl e.symm))).mp m)
  st := v.st.upd hm
/-- a hidden thing is shown -/
theorem Vw.see {C : Cfg} {W H : Hp} {S : Draw} (v : Vw C W H S) {q : Addr} {o : HO} (hq : H q = some o) (hm : ¬ Mst H C.pm q) : Vw C (upd W q o) H S where
  sub := fun a u h => by
    by_cases e : a = q
    · subst e; rw [upd_same] at h; rw [← h]; exact hq
    · rw [upd_ne e] at h; exact v.sub a u h
  hid := fun a m => by
    rw [upd_ne (fun e => hm (by rw [← e]; exact m))]
    exact v.hid a m
  st := v.st
theorem Stp.new {C : Cfg} {W H : Hp} {S : Draw} (v : Vw C W H S) {q : Addr} {o : HO} (hq : H q = none) : Stp C.pm H W (upd H q o) (upd W q o) where
  w := fun a u h => by rw [upd_ne (ne_of_none h (v.wnone hq))]; exact h
  k := fun a u h n => ⟨by rw [upd_ne (ne_of_none h hq)]; exact h, fun m => n ((mst_upd (v.pm_ne hq)).mp m)⟩
  t := fun a u h => ⟨u, by rw [upd_ne (ne_of_none h hq)]; exact h⟩
  f := fun a u h n => by
    by_cases e : a = q
    · rw [e]; exact hq
    · rw [upd_ne e, n] at h; cases h
theorem Stp.newH {C : Cfg} {W H : Hp} {S : Draw} (v : Vw C W H S) {q : Addr} {o : HO} (hq : H q = none) : Stp C.pm H W (upd H q o) W where
  w := fun a u h => h
  k := fun a u h n => ⟨by rw [upd_ne (ne_of_none h hq)]; exact h, fun m => n ((mst_upd (v.pm_ne hq)).mp m)⟩
  t := fun a u h => ⟨u, by rw [upd_ne (ne_of_none h hq)]; exact h⟩
  f := fun a u h n => by rw [n] at h; cases h
/-- a hidden thing that was not there at the beginning is written -/
theorem Stp.put {C : Cfg} {W H W' H' : Hp} (s : Stp C.pm H W H' W') {q : Addr} {o : HO} (hn : H q = none) (hm : ¬ Mst H' C.pm q) : Stp C.pm H W (upd H' q o) W' where
  w := s.w
  k := fun a u h n => by
    obtain ⟨h1, n1⟩ := s.k a u h n
    exact ⟨by rw [upd_ne (ne_of_none h hn)]; exact h1, fun m => n1 ((mst_upd (fun e => hm (.inl e.symm))).mp m)⟩
  t := fun a u h => by
    obtain ⟨o', h1⟩ := s.t a u h
    exact ⟨o', by rw [upd_ne (ne_of_none h hn)]; exact h1⟩
  f := s.f

/-! ### data in the seen part -/
theorem rd_mono {W W' : Hp} (h : ∀ a o, W a = some o → W' a = some o) {a : Addr} {u : HO} (r : Rd W a u) : Rd W' a u := by
  rcases r with r | ⟨o, r⟩
  · exact .inl (h _ _ r)
  · exact .inr ⟨o, h _ _ r⟩
theorem sqL_mono {K : PySem.W.Frag} {W W' : Hp} (h : ∀ a o, W a = some o → W' a = some o) {a : Addr} {xs : List V} (r : SqL K W a xs) : SqL K W' a xs := by
  rcases r with r | r
  · exact .inl (rd_mono h r)
  · exact .inr r
theorem sqT_mono {K : PySem.W.Frag} {W W' : Hp} (h : ∀ a o, W a = some o → W' a = some o) {a : Addr} {xs : List V} (r : SqT K W a xs) : SqT K W' a xs := by
  rcases r with r | r
  · exact .inl (rd_mono h r)
  · exact .inr r
mutual
theorem dp_mono {K : PySem.W.Frag} {W W' : Hp} (h : ∀ a o, W a = some o → W' a = some o) : ∀ {v : V} {d : PyData}, Dp K W v d → Dp K W' v d
  | _, _, .non => .non
  | _, _, .bl b => .bl b
  | _, _, .int i => .int i
  | _, _, .str x => .str x
  | _, _, .lst a b => .lst (sqL_mono h a) (dpAll_mono h b)
  | _, _, .tup a b => .tup (sqT_mono h a) (dpAll_mono h b)
theorem dpAll_mono {K : PySem.W.Frag} {W W' : Hp} (h : ∀ a o, W a = some o → W' a = some o) : ∀ {vs : List V} {ds : List PyData}, DpAll K W vs ds → DpAll K W' vs ds
  | _, _, .nil => .nil
  | _, _, .cons a b => .cons (dp_mono h a) (dpAll_mono h b)
end
theorem dpAll_len {K : PySem.W.Frag} {W : Hp} : ∀ {vs : List V} {ds : List PyData}, DpAll K W vs ds → vs.length = ds.length
  | _, _, .nil => rfl
  | _, _, .cons _ b => by rw [List.length_cons, List.length_cons, dpAll_len b]
theorem dpAll_get {K : PySem.W.Frag} {W : Hp} : ∀ {vs : List V} {ds : List PyData} {i : Nat} {d : PyData}, DpAll K W vs ds → ds[i]? = some d → ∃ v, vs[i]? = some v ∧ Dp K W v d
  | _, _, _, _, .nil, e => by simp at e
  | _, _, 0, _, .cons a _, e => by simp at e; subst e; exact ⟨_, rfl, a⟩
  | _, _, i + 1, d, .cons _ b, e => by
    obtain ⟨v, h1, h2⟩ := dpAll_get (i := i) (d := d) b (by simpa using e)
    exact ⟨v, by simpa using h1, h2⟩
theorem dpAll_getV {K : PySem.W.Frag} {W : Hp} {vs : List V} {ds : List PyData} {i : Nat} {v : V} (h : DpAll K W vs ds) (e : vs[i]? = some v) : ∃ d, ds[i]? = some d ∧ Dp K W v d := by
  have hl := dpAll_len h
  have hi : i < ds.length := by rw [← hl]; exact (List.getElem?_eq_some_iff.mp e).1
  obtain ⟨v', h1, h2⟩ := dpAll_get h (List.getElem?_eq_getElem hi)
  rw [e] at h1
  cases h1
  exact ⟨_, List.getElem?_eq_getElem hi, h2⟩
theorem dpAll_append {K : PySem.W.Frag} {W : Hp} : ∀ {vs us : List V} {ds es : List PyData}, DpAll K W vs ds → DpAll K W us es → DpAll K W (vs ++ us) (ds ++ es)
  | _, _, _, _, .nil, h => h
  | _, _, _, _, .cons a b, h => .cons a (dpAll_append b h)
theorem dpAll_take {K : PySem.W.Frag} {W : Hp} : ∀ {vs : List V} {ds : List PyData} (n : Nat), DpAll K W vs ds → DpAll K W (vs.take n) (ds.take n)
  | _, _, 0, _ => by simpa using DpAll.nil
  | _, _, n + 1, .nil => by simpa using DpAll.nil
  | _, _, n + 1, .cons a b => by simpa using DpAll.cons a (dpAll_take n b)
theorem dpAll_drop {K : PySem.W.Frag} {W : Hp} : ∀ {vs : List V} {ds : List PyData} (n : Nat), DpAll K W vs ds → DpAll K W (vs.drop n) (ds.drop n)
  | _, _, 0, h => by simpa using h
  | _, _, n + 1, .nil => by simpa using DpAll.nil
  | _, _, n + 1, .cons a b => by simpa using dpAll_drop n b
theorem dpAll_set {K : PySem.W.Frag} {W : Hp} {v : V} {d : PyData} (h : Dp K W v d) : ∀ {vs : List V} {ds : List PyData} (n : Nat), DpAll K W vs ds → DpAll K W (vs.set n v) (ds.set n d)
  | _, _, _, .nil => by simpa using DpAll.nil
  | _, _, 0, .cons a b => by simpa using DpAll.cons h b
  | _, _, n + 1, .cons a b => by simpa using DpAll.cons a (dpAll_set h n b)

/-- a list that is read: seen, a hidden one of ours, or the module's -/
inductive Rdl (C : Cfg) (H W : Hp) (p : Addr) (vs : List V) : Prop where
  | see (h : SqL K0 W p vs) : Rdl C H W p vs
  | own (h : H p = some (.lst vs)) (m : ¬ Mst H C.pm p) : Rdl C H W p vs
  | mod (h : SqL C.K (fun _ => none) p vs) : Rdl C H W p vs
theorem sq0 {K : PySem.W.Frag} {H : Hp} {a : Addr} {xs : List V} (h : SqL K0 H a xs) : SqL K H a xs := by
  rcases h with h | ⟨o, its, n, hk, _⟩
  · exact .inl h
  · cases hk
theorem sqT0 {K : PySem.W.Frag} {H : Hp} {a : Addr} {xs : List V} (h : SqT K0 H a xs) : SqT K H a xs := by
  rcases h with h | ⟨o, its, n, hk, _⟩
  · exact .inl h
  · cases hk
theorem rd0 {H : Hp} {a : Addr} {xs : List V} (h : SqL K0 H a xs) : Rd H a (.lst xs) := by
  rcases h with h | ⟨o, its, n, hk, _⟩
  · exact h
  · cases hk
mutual
theorem dp0 {K : PySem.W.Frag} {W : Hp} : ∀ {v : V} {d : PyData}, Dp K0 W v d → Dp K W v d
  | _, _, .non => .non
  | _, _, .bl b => .bl b
  | _, _, .int i => .int i
  | _, _, .str x => .str x
  | _, _, .lst a b => .lst (sq0 a) (dpAll0 b)
  | _, _, .tup a b => .tup (sqT0 a) (dpAll0 b)
theorem dpAll0 {K : PySem.W.Frag} {W : Hp} : ∀ {vs : List V} {ds : List PyData}, DpAll K0 W vs ds → DpAll K W vs ds
  | _, _, .nil => .nil
  | _, _, .cons a b => .cons (dp0 a) (dpAll0 b)
end
theorem ints_dpAll {K : PySem.W.Frag} {W : Hp} (ns : List Int) : DpAll K W (ns.map V.int) (ns.map .int) := by
  induction ns with
  | nil => exact .nil
  | cons n r ih => exact .cons (.int n) ih
theorem Rdl.sq {C : Cfg} {H W : Hp} {S : Draw} {p : Addr} {vs : List V} (r : Rdl C H W p vs) (v : Vw C W H S) : SqL C.K H p vs := by
  cases r with
  | see h => exact sq0 (sqL_mono v.sub h)
  | own h m => exact .of h
  | mod h => exact sqL_mono (fun _ _ e => by cases e) h
theorem Rdl.stp {C : Cfg} {H W H' W' : Hp} {p : Addr} {vs : List V} (r : Rdl C H W p vs) (s : Stp C.pm H W H' W') : Rdl C H' W' p vs := by
  cases r with
  | see h => exact .see (sqL_mono s.w h)
  | own h m => exact .own (s.k p _ h m).1 (s.k p _ h m).2
  | mod h => exact .mod h

/-- a value that is read: data that are seen, a hidden list of ours, or the script -/
inductive Rdt (C : Cfg) (H W : Hp) : V → PyData → Prop where
  | see {v : V} {d : PyData} (h : Dp K0 W v d) : Rdt C H W v d
  | own {p : Addr} {vs : List V} {ds : List PyData} (h : H p = some (.lst vs)) (m : ¬ Mst H C.pm p) (a : DpAll K0 W vs ds) : Rdt C H W (.ref p) (.list ds)
  | mod {p : Addr} {ns : List Int} (h : SqL C.K (fun _ => none) p (ns.map V.int)) : Rdt C H W (.ref p) (.list (ns.map .int))
theorem Rdt.dp {C : Cfg} {H W : Hp} {S : Draw} {v : V} {d : PyData} (r : Rdt C H W v d) (w : Vw C W H S) : Dp C.K H v d := by
  cases r with
  | see h => exact dp0 (dp_mono w.sub h)
  | own h m a => exact .lst (.of h) (dpAll0 (dpAll_mono w.sub a))
  | mod h => exact .lst (sqL_mono (fun _ _ e => by cases e) h) (ints_dpAll _)
theorem Rdt.stp {C : Cfg} {H W H' W' : Hp} {v : V} {d : PyData} (r : Rdt C H W v d) (s : Stp C.pm H W H' W') : Rdt C H' W' v d := by
  cases r with
  | see h => exact .see (dp_mono s.w h)
  | own h m a => exact .own (s.k _ _ h m).1 (s.k _ _ h m).2 (dpAll_mono s.w a)
  | mod h => exact .mod h
theorem Rdt.list {C : Cfg} {H W : Hp} {v : V} {ds : List PyData} (r : Rdt C H W v (.list ds)) : ∃ p vs, v = .ref p ∧ Rdl C H W p vs ∧ DpAll K0 W vs ds := by
  cases r with
  | see h => cases h with | lst a b => exact ⟨_, _, rfl, .see a, b⟩
  | own h m a => exact ⟨_, _, rfl, .own h m, a⟩
  | mod h => exact ⟨_, _, rfl, .mod h, ints_dpAll _⟩
theorem Rdt.tuple {C : Cfg} {H W : Hp} {v : V} {ds : List PyData} (r : Rdt C H W v (.tuple ds)) : ∃ p vs, v = .ref p ∧ SqT K0 W p vs ∧ DpAll K0 W vs ds := by
  cases r with
  | see h => cases h with | tup a b => exact ⟨_, _, rfl, a, b⟩
theorem Rdt.int {C : Cfg} {H W : Hp} {v : V} {i : Int} (r : Rdt C H W v (.int i)) : v = .int i := by
  cases r with
  | see h => cases h; rfl
theorem Rdt.bool {C : Cfg} {H W : Hp} {v : V} {i : Bool} (r : Rdt C H W v (.bool i)) : v = .bl i := by
  cases r with
  | see h => cases h; rfl
theorem Rdt.str {C : Cfg} {H W : Hp} {v : V} {i : Str} (r : Rdt C H W v (.str i)) : v = .str i := by
  cases r with
  | see h => cases h; rfl
theorem Rdt.none {C : Cfg} {H W : Hp} {v : V} (r : Rdt C H W v .none) : v = .non := by
  cases r with
  | see h => cases h; rfl

/-! ### the frame's names -/
abbrev Env := List (Option PyData)
def hndD : PyData := .dict []
def Slot (C : Cfg) (H W : Hp) : Kd → V → PyData → Prop
  | .nrm, v, d => Dp K0 W v d
  | .own, v, d => ∃ p vs ds, v = .ref p ∧ d = .list ds ∧ H p = some (.lst vs) ∧ W p = none ∧ ¬ Mst H C.pm p ∧ ¬ C.Z p ∧ DpAll K0 W vs ds
  | .hnd, v, d => v = .ref C.pm ∧ d = hndD
  | .scr, v, d => Dp K0 W v d ∨ ∃ (p : Addr) (ns : List Int), v = .ref p ∧ d = .list (ns.map .int) ∧ SqL C.K (fun _ => none) p (ns.map V.int)
def Cfg.kdOf (C : Cfg) (i : Nat) : Kd := C.kd.getD i .nrm
structure EnvOk (C : Cfg) (Γ : Env) (σ : L2.St) (H W : Hp) : Prop where
  len : Γ.length = σ.length
  at_ : ∀ (i : Nat) (d : PyData), Γ[i]? = some (some d) → ∃ v, σ[i]? = some (some v) ∧ Slot C H W (C.kdOf i) v d
  sep : ∀ (i j : Nat) (p : Addr) (d e : PyData), i ≠ j → C.kdOf i = .own → C.kdOf j = .own → Γ[i]? = some (some d) → Γ[j]? = some (some e) → σ[i]? = some (some (V.ref p)) → σ[j]? ≠ some (some (V.ref p))
  zd : ∀ a, C.Z a → ∃ o, H a = some o
theorem Slot.stp {C : Cfg} {H W H' W' : Hp} {k : Kd} {v : V} {d : PyData} (s : Slot C H W k v d) (t : Stp C.pm H W H' W') : Slot C H' W' k v d := by
  cases k with
  | nrm => exact dp_mono t.w s
  | own =>
    obtain ⟨p, vs, ds, e1, e2, h, hw, hm, hz, a⟩ := s
    obtain ⟨h', m'⟩ := t.k p _ h hm
    refine ⟨p, vs, ds, e1, e2, h', ?_, m', hz, dpAll_mono t.w a⟩
    cases e : W' p with
    | none => rfl
    | some o => have := t.f p o e hw; rw [h] at this; cases this
  | hnd => exact s
  | scr => exact s.imp (dp_mono t.w) id
theorem EnvOk.stp {C : Cfg} {Γ : Env} {σ : L2.St} {H W H' W' : Hp} (e : EnvOk C Γ σ H W) (t : Stp C.pm H W H' W') : EnvOk C Γ σ H' W' :=
  ⟨e.len, fun i d h => let ⟨v, h1, h2⟩ := e.at_ i d h; ⟨v, h1, h2.stp t⟩, e.sep, fun a h => let ⟨o, h1⟩ := e.zd a h; t.t a o h1⟩

/-! ### the readings -/
abbrev Fn (α : Type) := Env → Draw → Res α
section
variable (C : Cfg)
def tG {α β : Type} (R : Hp → Hp → β → α → Prop) (f : Fn α) : L2.St → Hp → (β → Hp → Prop) → Prop := fun σ H Q =>
  ∃ Γ W S, EnvOk C Γ σ H W ∧ Vw C W H S ∧ (f Γ S).Post (fun d S' => ∀ v H' W', Stp C.pm H W H' W' → Vw C W' H' S' → R H' W' v d → Q v H')
    (fun c d S' => ∀ H' W', Stp C.pm H W H' W' → Vw C W' H' S' → C.XQ c d S' H' W')
/-- a value that is seen -/
def tE (f : Fn PyData) : TE := tG C (fun _ W v d => Dp K0 W v d) f
/-- a value that is read -/
def tR (f : Fn PyData) : TE := tG C (fun H W v d => Rdt C H W v d) f
/-- a test -/
def tT (f : Fn Bool) : TT := tG C (fun _ _ b c => b = c) f
/-- arguments -/
def tAs (f : Fn (List PyData)) : TA := tG C (fun _ W vs ds => DpAll K0 W vs ds) f
/-- a new list that is hidden -/
def tF (f : Fn (List PyData)) : TE := fun σ H Q =>
  ∃ Γ W S, EnvOk C Γ σ H W ∧ Vw C W H S ∧ (f Γ S).Post (fun ds S' => ∀ p vs H' W', Stp C.pm H W H' W' → Vw C W' H' S' → H p = none → H' p = some (.lst vs) → W' p = none → ¬ Mst H' C.pm p → DpAll K0 W' vs ds → Q (.ref p) H')
    (fun c d S' => ∀ H' W', Stp C.pm H W H' W' → Vw C W' H' S' → C.XQ c d S' H' W')
end
/-- one after another -/
theorem tG_then {C : Cfg} {α β γ : Type} {R : Hp → Hp → β → α → Prop} {f : Fn α} {Γ : Env} {σ : L2.St} {H W : Hp} {S : Draw} {k : α → Draw → Res γ} {P : γ → Draw → Prop} {Q : β → Hp → Prop} {E : Nat → PyData → Draw → Prop}
    (he : EnvOk C Γ σ H W) (hv : Vw C W H S) (h : ((f Γ S).bind k).Post P E)
    (hx : ∀ c d S', E c d S' → ∀ H' W', Stp C.pm H W H' W' → Vw C W' H' S' → C.XQ c d S' H' W')
    (next : ∀ x S1 v H1 W1, Stp C.pm H W H1 W1 → Vw C W1 H1 S1 → EnvOk C Γ σ H1 W1 → R H1 W1 v x → (k x S1).Post P E → Q v H1) : tG C R f σ H Q := by
  refine ⟨Γ, W, S, he, hv, ?_⟩
  cases e : f Γ S with
  | ok x S1 =>
    rw [e] at h
    exact fun v H1 W1 s1 v1 r => next x S1 v H1 W1 s1 v1 (he.stp s1) r h
  | exc c d S1 =>
    rw [e] at h
    exact hx c d S1 h
  | bad =>
    rw [e] at h
    exact h.elim
/-- an error's wish, further on -/
theorem xq_stp {C : Cfg} {H W H1 W1 : Hp} {E : Nat → PyData → Draw → Prop} (hx : ∀ c d S', E c d S' → ∀ H' W', Stp C.pm H W H' W' → Vw C W' H' S' → C.XQ c d S' H' W') (s : Stp C.pm H W H1 W1) :
    ∀ c d S', E c d S' → ∀ H' W', Stp C.pm H1 W1 H' W' → Vw C W' H' S' → C.XQ c d S' H' W' := fun c d S' h H' W' t v => hx c d S' h H' W' (s.trans t) v
theorem PE.imp {X : Cx} {e : Expr} {t t' : TE} (h : PE X e t) (i : ∀ σ H Q, t' σ H Q → t σ H Q) : PE X e t' := ⟨fun pins s σ H Q I q => h.run pins s σ H Q I (i σ H Q q)⟩
theorem PT.imp {X : Cx} {e : Expr} {t t' : TT} (h : PT X e t) (i : ∀ σ H Q, t' σ H Q → t σ H Q) : PT X e t' := ⟨fun pins s σ H Q I q => h.run pins s σ H Q I (i σ H Q q)⟩
theorem PA.imp {X : Cx} {e : List Expr} {t t' : TA} (h : PA X e t) (i : ∀ σ H Q, t' σ H Q → t σ H Q) : PA X e t' := ⟨fun pos pins s σ H Q I q => h.run pos pins s σ H Q I (i σ H Q q)⟩
theorem PS.imp {X : Cx} {e : Stmt} {t t' : TS} (h : PS X e t) (i : ∀ D σ H, t' D σ H → t D σ H) : PS X e t' := ⟨fun pins s σ H D I q => h.run pins s σ H D I (i D σ H q)⟩
theorem PSs.imp {X : Cx} {e : List Stmt} {t t' : TS} (h : PSs X e t) (i : ∀ D σ H, t' D σ H → t D σ H) : PSs X e t' := ⟨fun pins s σ H D I q => h.run pins s σ H D I (i D σ H q)⟩
/-- a seen value is read -/
theorem pe_rd {X : Cx} {C : Cfg} {e : Expr} {f : Fn PyData} (h : PE X e (tE C f)) : PE X e (tR C f) := PE.imp h fun σ H Q ⟨Γ, W, S, he, hv, p⟩ => ⟨Γ, W, S, he, hv, p.mono (fun d S' q v H' W' s v' r => q v H' W' s v' (.see r)) fun _ _ _ q => q⟩
/-- a new hidden list is shown -/
theorem tF_show {C : Cfg} {f : Fn (List PyData)} {σ : L2.St} {H : Hp} {Q : VK} (h : tE C (fun Γ S => (f Γ S).bind fun ds S' => .ok (.list ds) S') σ H Q) : tF C f σ H Q := by
  obtain ⟨Γ, W, S, he, hv, p⟩ := h
  refine ⟨Γ, W, S, he, hv, ?_⟩
  dsimp only at p
  cases e : f Γ S with
  | ok ds S' =>
    rw [e] at p
    intro q vs H' W' s v hn hl hw hm a
    refine p (.ref q) H' (upd W' q (.lst vs)) (s.see hn hw) (v.see hl hm) (.lst (.of upd_same) (dpAll_mono (fun b o hb => ?_) a))
    rw [upd_ne (fun z => by rw [z, hw] at hb; cases hb)]
    exact hb
  | exc c d S' =>
    rw [e] at p
    exact p
  | bad =>
    rw [e] at p
    exact p
theorem pe_show {X : Cx} {C : Cfg} {e : Expr} {f : Fn (List PyData)} (h : PE X e (tF C f)) : PE X e (tE C fun Γ S => (f Γ S).bind fun ds S' => .ok (.list ds) S') := PE.imp h fun _ _ _ q => tF_show q
end PD
/-! P2: operators over plain data. -/
namespace PD
open PySem L2

mutual
theorem dp_plain {K : PySem.W.Frag} {W : Hp} : ∀ {v : V} {d : PyData}, Dp K W v d → d.plain = true
  | _, _, .non => rfl
  | _, _, .bl b => rfl
  | _, _, .int i => rfl
  | _, _, .str x => rfl
  | _, _, .lst a b => by rw [PyData.plain]; exact dpAll_plain b
  | _, _, .tup a b => by rw [PyData.plain]; exact dpAll_plain b
theorem dpAll_plain {K : PySem.W.Frag} {W : Hp} : ∀ {vs : List V} {ds : List PyData}, DpAll K W vs ds → PyData.plainAll ds = true
  | _, _, .nil => rfl
  | _, _, .cons a b => by rw [PyData.plainAll, dp_plain a, dpAll_plain b]; rfl
end
section
variable {C : Cfg} {H W : Hp} {S : Draw} {X : Cx} {Q : VK}
theorem Vw.sqT {K : PySem.W.Frag} (v : Vw C W H S) {p : Addr} {vs : List V} (h : SqT K0 W p vs) : SqT K H p vs := sqT0 (sqT_mono v.sub h)

/-- what is wanted behind a step that leaves the draws -/
abbrev Go (C : Cfg) (H W : Hp) (S : Draw) (d : PyData) (Q : VK) : Prop := ∀ v H' W', Stp C.pm H W H' W' → Vw C W' H' S → Dp K0 W' v d → Q v H'
theorem go_same {d : PyData} {v : V} (hv : Vw C W H S) (q : Go C H W S d Q) (h : Dp K0 W v d) : Q v H := q v H W (Stp.refl _ _ _) hv h
theorem go_tup {ds : List PyData} {vs : List V} (hv : Vw C W H S) (q : Go C H W S (.tuple ds) Q) (h : DpAll K0 W vs ds) : ∀ p, H p = none → Q (.ref p) (upd H p (.tup vs)) := fun p hp =>
  q (.ref p) _ (upd W p (.tup vs)) (Stp.new hv hp) (hv.new hp) (.tup (.of upd_same) (dpAll_mono (Stp.new (C := C) hv hp).w h))
theorem go_lst {ds : List PyData} {vs : List V} (hv : Vw C W H S) (q : Go C H W S (.list ds) Q) (h : DpAll K0 W vs ds) : ∀ p, H p = none → Q (.ref p) (upd H p (.lst vs)) := fun p hp =>
  q (.ref p) _ (upd W p (.lst vs)) (Stp.new hv hp) (hv.new hp) (.lst (.of upd_same) (dpAll_mono (Stp.new (C := C) hv hp).w h))
theorem dpAll_nil_iff {vs : List V} {ds : List PyData} (h : DpAll K0 W vs ds) : vs = [] ↔ ds = [] := by
  cases h with
  | nil => simp
  | cons a b => simp

/-- two lists put together, read in any way -/
theorem op_catR : OpR X (binaryOp .Add) (fun x y H Q => ∃ l b xs zs, x = .ref l ∧ y = .ref b ∧ Rd H l (.lst xs) ∧ Rd H b (.lst zs) ∧ xs.length + zs.length ≤ sizeLine ∧ ∀ p, H p = none → Q (.ref p) (upd H p (.lst (xs ++ zs)))) := by
  intro pins s σ H x y v u Q I rx ry h
  obtain ⟨l, b, xs, zs, rfl, rfl, hH, hB, hz, q⟩ := h
  cases rx
  cases ry
  obtain ⟨z, its, n, r, e⟩ := hH.ok I.hok
  obtain ⟨z2, its2, n2, r2, e2⟩ := hB.ok I.hok
  have hl := r.length
  have hl2 := r2.length
  refine PySem.P.add_list e e2 ?_ (by rw [List.size_toArray, List.size_toArray]; omega)
  have ea : its.toArray ++ its2.toArray = (its ++ its2).toArray := by simp
  rw [ea]
  exact ⟨.ref _, _, I.lnew (t' := s.toks) (r.append r2) (by rw [List.length_append]; omega), rfl, q _ I.fresh⟩

/-- a list so many times, read in any way -/
theorem op_repR : OpR X (binaryOp .Mult) (fun x y H Q => ∃ l k xs, x = .ref l ∧ y = .int k ∧ Rd H l (.lst xs) ∧ 0 ≤ k ∧ k ≤ 16777216 ∧ xs.length * k.toNat ≤ sizeLine ∧ ∀ p, H p = none → Q (.ref p) (upd H p (.lst (List.replicate k.toNat xs).flatten))) := by
  intro pins s σ H x y v u Q I rx ry h
  obtain ⟨l, k, xs, rfl, rfl, hH, k1, k2, size, q⟩ := h
  obtain ⟨t, rfl⟩ := ry
  cases rx
  obtain ⟨_, its, n, rv, e⟩ := hH.ok I.hok
  have len := rv.length
  have s1 : its.toArray.size * k.toNat ≤ sizeLine := by rw [List.size_toArray, ← len]; exact size
  have s2 : (sizeLine : Nat) ≤ (2 ^ 63 - 1) / 8 := by decide
  have s3 : ¬ (!Builtin.List.listFitsIndex k) = true := by rw [fitsIndex_both (by omega) (by omega)]; exact Bool.false_ne_true
  have s4 : ¬ Builtin.List.listTooLong (its.toArray.size * k.toNat) = true := by rw [notLongL s1]; exact Bool.false_ne_true
  have rep : ∀ m : Nat, List.foldl (fun x1 x2 => x1 ++ x2) #[] (List.replicate m its.toArray) = (List.replicate m its).flatten.toArray := fun m => by have z := foldl_rep its m []; rwa [List.nil_append] at z
  have all : List.foldl (fun x1 x2 => x1 ++ x2) #[] (List.replicate (if its.toArray.isEmpty = true then 0 else k.toNat) its.toArray) = (List.replicate k.toNat its).flatten.toArray := by
    rw [rep]
    cases its with
    | cons a r' => rw [if_neg (by simp)]
    | nil => simp
  refine wpAny_binaryOp_repeat_ref (T := "list") (U := "int") (by decide) ⟨_, e, rfl⟩ (fun s' => typeIs_int s' k t) noFill_list_mul F.fills_int_mul F.slot_int_rmul repeat_list F.slot_int_index.lookup (call_meets F.slot_int_rmul (typeIs_int s k t) F.entry_int_rmul (F.args_int_rmul_2 _ _) (int___rmul___int_list k t l its.toArray n) ⟨e, rfl, ⟨_, e, rfl⟩, call_meets F.slot_list_mul ⟨_, e, rfl⟩ F.entry_list_mul (F.args_list_mul_2 _ _) (AutoListH.list___mul___list_int_3 l its.toArray n k t s3 (by omega) s4) ⟨e, ?_⟩⟩)
  rw [all]; exact ⟨.ref _, _, I.lnew (t' := s.toks) (rv.rep k.toNat) (by rw [PyProof.Rows.lm_len_rep_flat, Nat.mul_comm]; exact size), rfl, q _ I.fresh⟩
theorem dpAll_rep {K : PySem.W.Frag} {W : Hp} {vs : List V} {ds : List PyData} (h : DpAll K W vs ds) : ∀ n : Nat, DpAll K W (List.replicate n vs).flatten (List.replicate n ds).flatten
  | 0 => .nil
  | n + 1 => by
    rw [List.replicate_succ, List.replicate_succ, List.flatten_cons, List.flatten_cons]
    exact dpAll_append h (dpAll_rep h n)

/-! ### operators -/
def intsOf : List PyData → Option (List Int)
  | [] => some []
  | .int i :: r => (intsOf r).map (i :: ·)
  | _ :: _ => none
theorem intsOf_map (ns : List Int) : intsOf (ns.map .int) = some ns := by
  induction ns with
  | nil => rfl
  | cons n r ih => simp [intsOf, ih]
theorem intsOf_some {ds : List PyData} {ns : List Int} (h : intsOf ds = some ns) : ds = ns.map .int := by
  induction ds generalizing ns with
  | nil => cases h; rfl
  | cons d r ih =>
    cases d <;> simp [intsOf] at h
    obtain ⟨ms, h1, rfl⟩ := h
    rw [ih h1]; rfl
theorem dpAll_ints : ∀ {ns : List Int} {vs : List V}, DpAll K0 W vs (ns.map .int) → vs = ns.map V.int
  | [], _, .nil => rfl
  | n :: r, _, .cons a b => by cases a; rw [dpAll_ints b]; rfl

def binD (op : Operator) (x y : PyData) : Option PyData :=
  match op, x, y with
  | .Add, .int i, .int j => some (.int (i + j))
  | .Add, .tuple a, .tuple b => if a.length + b.length ≤ 16777216 then some (.tuple (a ++ b)) else none
  | .Add, .list a, .list b => if a.length + b.length ≤ 16777216 then some (.list (a ++ b)) else none
  | .Add, .str a, .str b => if a.length + b.length ≤ 16777216 then some (.str (a ++ b)) else none
  | .Sub, .int i, .int j => some (.int (i - j))
  | .Mult, .int i, .int j => if (-(2 ^ 64) < i ∧ i < 2 ^ 64) ∨ (-(2 ^ 64) < j ∧ j < 2 ^ 64) then some (.int (i * j)) else none
  | .FloorDiv, .int i, .int j => if 0 < j ∧ j < 1073741824 then some (.int (i / j)) else none
  | .Mod, .int i, .int j => if 0 < j then some (.int (i % j)) else none
  | .Pow, .int i, .int j => if 0 ≤ j ∧ j ≤ 1000000 ∧ i.natAbs < 2 ^ 64 then some (.int (i ^ j.toNat)) else none
  | .Mult, .list a, .int k => if 0 ≤ k ∧ k ≤ 16777216 ∧ a.length * k.toNat ≤ 16777216 then some (.list (List.replicate k.toNat a).flatten) else none
  | .Mult, .tuple a, .int k => if 2 ≤ k ∧ k ≤ 1000 ∧ a.length ≤ 1000 ∧ a.isEmpty = false then some (.tuple (List.replicate k.toNat a).flatten) else none
  | _, _, _ => none
def rD (C : Cfg) (f : PyData → PyData → Option PyData) : R2 := fun x y H Q => ∃ W S dx dy d, Vw C W H S ∧ Rdt C H W x dx ∧ Rdt C H W y dy ∧ f dx dy = some d ∧ Go C H W S d Q
/-- .. over seen ones -/
def rDs (C : Cfg) (f : PyData → PyData → Option PyData) : R2 := fun x y H Q => ∃ W S dx dy d, Vw C W H S ∧ Dp K0 W x dx ∧ Dp K0 W y dy ∧ f dx dy = some d ∧ Go C H W S d Q
theorem szl {n : Nat} (h : n ≤ 16777216) : n ≤ sizeLine := by rw [sizeLine_eq]; exact h
theorem op_binD {op : Operator} : OpR X (binaryOp op) (rDs C (binD op)) := by
  intro pins s σ H x y v u Q I rx ry h
  obtain ⟨W, S, dx, dy, d, hv, gx, gy, hf, q⟩ := h
  have hx : Rdt C H W x dx := .see gx
  have hy : Rdt C H W y dy := .see gy
  unfold binD at hf
  split at hf
  · cases hf
    obtain rfl := hx.int
    obtain rfl := hy.int
    exact op_add pins s σ H _ _ v u Q I rx ry ⟨_, _, rfl, rfl, go_same hv q (.int _)⟩
  · split at hf
    · rename_i a b hz
      cases hf
      obtain ⟨p, vs, rfl, h1, a1⟩ := hx.tuple
      obtain ⟨p', vs', rfl, h2, a2⟩ := hy.tuple
      have l1 := dpAll_len a1
      have l2 := dpAll_len a2
      refine op_catA pins s σ H _ _ v u Q I rx ry ⟨p, p', vs, vs', rfl, rfl, hv.sqT h1, hv.sqT h2, szl (by omega), fun e => ?_, fun _ e => ?_, fun _ _ => go_tup hv q (dpAll_append a1 a2)⟩
      · have e' := (dpAll_nil_iff a1).mp e
        subst e'
        exact go_same hv q (.tup h2 a2)
      · have e' := (dpAll_nil_iff a2).mp e
        subst e'
        refine go_same hv q ?_
        rw [List.append_nil]
        exact .tup h1 a1
    · cases hf
  · split at hf
    · rename_i a b hz
      cases hf
      cases gx with
      | lst h1 a1 =>
        cases gy with
        | lst h2 a2 =>
          have l1 := dpAll_len a1
          have l2 := dpAll_len a2
          exact op_catR pins s σ H _ _ v u Q I rx ry ⟨_, _, _, _, rfl, rfl, rd0 (sqL_mono hv.sub h1), rd0 (sqL_mono hv.sub h2), szl (by omega), go_lst hv q (dpAll_append a1 a2)⟩
    · cases hf
  · split at hf
    · rename_i a b hz
      cases hf
      obtain rfl := hx.str
      obtain rfl := hy.str
      exact op_add_str pins s σ H _ _ v u Q I rx ry ⟨_, _, rfl, rfl, szl hz, go_same hv q (.str _)⟩
    · cases hf
  · cases hf
    obtain rfl := hx.int
    obtain rfl := hy.int
    exact op_sub pins s σ H _ _ v u Q I rx ry ⟨_, _, rfl, rfl, go_same hv q (.int _)⟩
  · split at hf
    · rename_i hc
      cases hf
      obtain rfl := hx.int
      obtain rfl := hy.int
      exact op_mul pins s σ H _ _ v u Q I rx ry ⟨_, _, rfl, rfl, hc, go_same hv q (.int _)⟩
    · cases hf
  · split at hf
    · rename_i hc
      cases hf
      obtain rfl := hx.int
      obtain rfl := hy.int
      exact op_fdiv pins s σ H _ _ v u Q I rx ry ⟨_, _, rfl, rfl, hc, go_same hv q (.int _)⟩
    · cases hf
  · split at hf
    · rename_i hc
      cases hf
      obtain rfl := hx.int
      obtain rfl := hy.int
      exact op_mod pins s σ H _ _ v u Q I rx ry ⟨_, _, rfl, rfl, hc, go_same hv q (.int _)⟩
    · cases hf
  · split at hf
    · rename_i hc
      cases hf
      obtain rfl := hx.int
      obtain rfl := hy.int
      exact op_pow pins s σ H _ _ v u Q I rx ry ⟨_, _, rfl, rfl, hc, go_same hv q (.int _)⟩
    · cases hf
  · split at hf
    · rename_i hc
      cases hf
      obtain rfl := hy.int
      cases gx with
      | lst h1 a1 =>
        have l1 := dpAll_len a1
        exact op_repR pins s σ H _ _ v u Q I rx ry ⟨_, _, _, rfl, rfl, rd0 (sqL_mono hv.sub h1), hc.1, hc.2.1, szl (by rw [l1]; exact hc.2.2), go_lst hv q (dpAll_rep a1 _)⟩
    · cases hf
  · split at hf
    · rename_i hc
      cases hf
      obtain rfl := hy.int
      obtain ⟨p, vs, rfl, h1, a1⟩ := hx.tuple
      have l1 := dpAll_len a1
      refine op_repT pins s σ H _ _ v u Q I rx ry ⟨p, _, vs, rfl, rfl, hv.sqT h1, fun e => ?_, hc.1, hc.2.1, by rw [l1]; exact hc.2.2.1, go_tup hv q (dpAll_rep a1 _)⟩
      have e' := (dpAll_nil_iff a1).mp e
      subst e'
      exact absurd hc.2.2.2 (by simp)
    · cases hf
  · cases hf

/-! ### comparisons -/
def dpt (x y : PyData) : Bool := decide (y.depth ≤ 100) || decide (x.depth ≤ 100)
def ltD (f : Int → Int → Bool) (g : List Int → List Int → Option Bool) (x y : PyData) : Option Bool :=
  match x, y with
  | .int i, .int j => some (f i j)
  | .tuple a, .tuple b => match intsOf a, intsOf b with
    | some ns, some ms => g ns ms
    | _, _ => none
  | _, _ => none
def isD (x y : PyData) : Option Bool :=
  match y, x with
  | .none, .none => some true
  | .none, _ => some false
  | .bool b, .bool a => some (decide (a = b))
  | _, _ => none
def inD (x y : PyData) : Option Bool :=
  match y with
  | .list ys => if x.depth ≤ 100 ∨ PyData.depthAll ys ≤ 100 then some (ys.any fun z => PyData.eqv z x) else none
  | .tuple ys => if x.depth ≤ 100 ∨ PyData.depthAll ys ≤ 100 then some (ys.any fun z => PyData.eqv z x) else none
  | .str j => match x with
    | .str i => some (!(Builtin.Str.occurrences j i 0 j.length 1).isEmpty)
    | _ => none
  | _ => none
def cmpD (op : CmpOp) (x y : PyData) : Option Bool :=
  match op with
  | .Eq => if dpt x y then some (PyData.eqv x y) else none
  | .NotEq => if dpt x y then some (!PyData.eqv x y) else none
  | .Lt => ltD (fun i j => decide (i < j)) (fun a b => some (HT.lexLt a b)) x y
  | .LtE => ltD (fun i j => decide (i ≤ j)) (fun _ _ => none) x y
  | .Gt => ltD (fun i j => decide (j < i)) (fun _ _ => none) x y
  | .GtE => ltD (fun i j => decide (j ≤ i)) (fun _ _ => none) x y
  | .Is => isD x y
  | .IsNot => (isD x y).map (!·)
  | .In => inD x y
  | .NotIn => (inD x y).map (!·)
def cmpB (op : CmpOp) (x y : PyData) : Option PyData := (cmpD op x y).map .bool
theorem dpt_min {x y : PyData} (h : dpt x y = true) {n : Nat} (hu : n + 200 < cLine) : n + min x.depth y.depth < cLine := by
  unfold dpt at h
  rw [Bool.or_eq_true, decide_eq_true_eq, decide_eq_true_eq] at h
  omega
theorem isD_none {K : PySem.W.Frag} {x : PyData} {v : V} (h : Dp K W v x) : isD x .none = some (decide (v = .non)) := by
  cases h <;> simp [isD]
theorem op_cmpD {op : CmpOp} (hK : X.K = C.K) (hu : X.A.units + 200 < cLine) : OpR X (compareOp op) (rD C (cmpB op)) := by
  intro pins s σ H x y v u Q I rx ry h
  obtain ⟨W, S, dx, dy, d, hv, hx, hy, hf, q⟩ := h
  unfold cmpB at hf
  rw [Option.map_eq_some_iff] at hf
  obtain ⟨b, hf, rfl⟩ := hf
  have fin : ∀ (k : Bool), k = b → EP X pins σ Q (.bool k) s := fun k e => by
    subst e
    exact ⟨.bl k, H, I, rfl, go_same hv q (.bl k)⟩
  have wx : Dp X.K H x dx := by rw [hK]; exact hx.dp hv
  have wy : Dp X.K H y dy := by rw [hK]; exact hy.dp hv
  obtain ⟨as, r1⟩ := Dp.reads I dx x v wx rx
  obtain ⟨bs, r2⟩ := Dp.reads I dy y u wy ry
  cases op with
  | Eq =>
    simp only [cmpD] at hf
    split at hf
    · rename_i hd
      exact SeqAt.eq_plain r1 r2 (dp_plain wx) (dp_plain wy) (dpt_min hd hu) (fin _ (Option.some.inj hf))
    · cases hf
  | NotEq =>
    simp only [cmpD] at hf
    split at hf
    · rename_i hd
      exact SeqAt.ne_plain r1 r2 (dp_plain wx) (dp_plain wy) (dpt_min hd hu) (fin _ (Option.some.inj hf))
    · cases hf
  | Lt =>
    simp only [cmpD, ltD] at hf
    split at hf
    · obtain rfl := hx.int
      obtain rfl := hy.int
      cases hf
      exact op_lt pins s σ H _ _ v u Q I rx ry ⟨_, _, rfl, rfl, go_same hv q (.bl _)⟩
    · split at hf
      · rename_i a b' ns ms h1 h2
        cases hf
        obtain ⟨p, vs, rfl, h3, a1⟩ := hx.tuple
        obtain ⟨p', vs', rfl, h4, a2⟩ := hy.tuple
        rw [intsOf_some h1] at a1
        rw [intsOf_some h2] at a2
        obtain rfl := dpAll_ints a1
        obtain rfl := dpAll_ints a2
        exact op_ltT (by omega) pins s σ H _ _ v u Q I rx ry ⟨p, p', ns, ms, rfl, rfl, hv.sqT h3, hv.sqT h4, go_same hv q (.bl _)⟩
      · cases hf
    · cases hf
  | LtE =>
    simp only [cmpD, ltD] at hf
    split at hf
    · obtain rfl := hx.int
      obtain rfl := hy.int
      cases hf
      exact op_le pins s σ H _ _ v u Q I rx ry ⟨_, _, rfl, rfl, go_same hv q (.bl _)⟩
    · split at hf <;> cases hf
    · cases hf
  | Gt =>
    simp only [cmpD, ltD] at hf
    split at hf
    · obtain rfl := hx.int
      obtain rfl := hy.int
      cases hf
      exact op_gt pins s σ H _ _ v u Q I rx ry ⟨_, _, rfl, rfl, go_same hv q (.bl _)⟩
    · split at hf <;> cases hf
    · cases hf
  | GtE =>
    simp only [cmpD, ltD] at hf
    split at hf
    · obtain rfl := hx.int
      obtain rfl := hy.int
      cases hf
      exact op_ge pins s σ H _ _ v u Q I rx ry ⟨_, _, rfl, rfl, go_same hv q (.bl _)⟩
    · split at hf <;> cases hf
    · cases hf
  | Is =>
    simp only [cmpD] at hf
    cases dy with
    | none =>
      obtain rfl := hy.none
      have e : isD dx .none = some (decide (x = .non)) := isD_none (hx.dp hv)
      rw [e] at hf
      cases hf
      exact op_isN pins s σ H _ _ v u Q I rx ry ⟨rfl, go_same hv q (.bl _)⟩
    | bool c =>
      cases dx <;> simp [isD] at hf
      subst hf
      obtain rfl := hx.bool
      obtain rfl := hy.bool
      exact op_is_bl pins s σ H _ _ v u Q I rx ry ⟨_, _, rfl, rfl, go_same hv q (.bl _)⟩
    | _ => cases dx <;> simp [isD] at hf
  | IsNot =>
    simp only [cmpD] at hf
    cases dy with
    | none =>
      obtain rfl := hy.none
      have e : isD dx .none = some (decide (x = .non)) := isD_none (hx.dp hv)
      rw [e] at hf
      cases hf
      exact op_notN pins s σ H _ _ v u Q I rx ry ⟨rfl, go_same hv q (.bl _)⟩
    | bool c =>
      cases dx <;> simp [isD] at hf
      obtain rfl := hx.bool
      obtain rfl := hy.bool
      refine op_isnot_bl pins s σ H _ _ v u Q I rx ry ⟨_, _, rfl, rfl, ?_⟩
      rw [hf, Bool.not_not]
      exact go_same hv q (.bl _)
    | _ => cases dx <;> simp [isD] at hf
  | In =>
    simp only [cmpD, inD] at hf
    cases dy with
    | list ys =>
      simp only at hf
      split at hf
      · rename_i hd
        exact SeqAt.in_list_data r2 r1 (by have := dp_plain wy; rw [PyData.plain] at this; exact this) (dp_plain wx) (by omega) (fin _ (Option.some.inj hf))
      · cases hf
    | tuple ys =>
      simp only at hf
      split at hf
      · rename_i hd
        exact SeqAt.in_tuple_data r2 r1 (by have := dp_plain wy; rw [PyData.plain] at this; exact this) (dp_plain wx) (by omega) (fin _ (Option.some.inj hf))
      · cases hf
    | str j =>
      cases dx <;> simp only at hf <;> cases hf
      obtain rfl := hx.str
      obtain rfl := hy.str
      exact op_in_str pins s σ H _ _ v u Q I rx ry ⟨_, _, rfl, rfl, go_same hv q (.bl _)⟩
    | _ => cases hf
  | NotIn =>
    simp only [cmpD, inD] at hf
    cases dy with
    | list ys =>
      simp only at hf
      split at hf
      · rename_i hd
        exact SeqAt.notIn_list_data r2 r1 (by have := dp_plain wy; rw [PyData.plain] at this; exact this) (dp_plain wx) (by omega) (fin _ (Option.some.inj hf))
      · cases hf
    | tuple ys =>
      simp only at hf
      split at hf
      · rename_i hd
        exact SeqAt.notIn_tuple_data r2 r1 (by have := dp_plain wy; rw [PyData.plain] at this; exact this) (dp_plain wx) (by omega) (fin _ (Option.some.inj hf))
      · cases hf
    | str j =>
      cases dx <;> simp only at hf <;> cases hf
      obtain rfl := hx.str
      obtain rfl := hy.str
      exact op_notin_str pins s σ H _ _ v u Q I rx ry ⟨_, _, rfl, rfl, go_same hv q (.bl _)⟩
    | _ => cases hf

/-! ### places -/
def ixD (x y : PyData) : Option PyData :=
  match x, y with
  | .list xs, .int i => atI xs i
  | .tuple xs, .int i => atI xs i
  | .str z, .int i => if z.length ≤ 16777216 then (atI z.cps.toList i).map fun c => .str ⟨#[c]⟩ else none
  | _, _ => none
theorem atI_dp {vs : List V} {ds : List PyData} (a : DpAll K0 W vs ds) {i : Int} {d : PyData} (h : atI ds i = some d) : ∃ v, atI vs i = some v ∧ Dp K0 W v d := by
  unfold atI at h ⊢
  rw [dpAll_len a]
  cases e : ixN ds.length i with
  | none => rw [e] at h; cases h
  | some j =>
    rw [e] at h
    exact dpAll_get a h
theorem ix_D (hK : X.K = C.K) : IxR X (rD C ixD) := by
  intro value slice pins s σ H x y v u Q I rx ry h hs
  obtain ⟨W, S, dx, dy, d, hv, hx, hy, hf, q⟩ := h
  unfold ixD at hf
  split at hf
  · obtain ⟨p, vs, rfl, h1, a1⟩ := hx.list
    obtain rfl := hy.int
    obtain ⟨w, e, hd⟩ := atI_dp a1 hf
    exact ix_list value slice pins s σ H _ _ v u Q I rx ry ⟨p, vs, _, w, rfl, rfl, by rw [hK]; exact h1.sq hv, e, go_same hv q hd⟩ hs
  · obtain ⟨p, vs, rfl, h1, a1⟩ := hx.tuple
    obtain rfl := hy.int
    obtain ⟨w, e, hd⟩ := atI_dp a1 hf
    exact ix_tup value slice pins s σ H _ _ v u Q I rx ry ⟨p, vs, _, w, rfl, rfl, hv.sqT h1, e, go_same hv q hd⟩ hs
  · split at hf
    · rename_i hz
      obtain rfl := hx.str
      obtain rfl := hy.int
      rw [Option.map_eq_some_iff] at hf
      obtain ⟨c, e, rfl⟩ := hf
      exact ix_str value slice pins s σ H _ _ v u Q I rx ry ⟨_, _, c, rfl, rfl, szl hz, e, go_same hv q (.str _)⟩ hs
    · cases hf
  · cases hf

/-! ### slices -/
def cutD (xs : List PyData) (lo hi : Option Int) : List PyData := (xs.drop (HT.sIx xs.length 0 lo)).take (HT.sIx xs.length xs.length hi - HT.sIx xs.length 0 lo)
def slD (x : PyData) (lo hi : Option Int) : Option PyData :=
  match x with
  | .list xs => some (.list (cutD xs lo hi))
  | .tuple xs => some (.tuple (cutD xs lo hi))
  | _ => none
theorem cut_dp {vs : List V} {ds : List PyData} (a : DpAll K0 W vs ds) (lo hi : Option Int) : DpAll K0 W (cutV vs lo hi) (cutD ds lo hi) := by
  unfold cutV cutD
  rw [dpAll_len a]
  exact dpAll_take _ (dpAll_drop _ a)
theorem cutD_whole {xs : List PyData} {lo hi : Option Int} (h : HT.sIx xs.length 0 lo = 0 ∧ HT.sIx xs.length xs.length hi = xs.length) : cutD xs lo hi = xs := by
  unfold cutD
  rw [h.1, h.2]
  simp
def rSlD (C : Cfg) : V → Option Int → Option Int → Hp → VK → Prop := fun x lo hi H Q => ∃ W S dx d, Vw C W H S ∧ Rdt C H W x dx ∧ slD dx lo hi = some d ∧ Go C H W S d Q
theorem sl_D (hK : X.K = C.K) : SlR X (rSlD C) := by
  intro pins s σ H x v vl vu lo hi sl Q I rx hs pl pu h
  obtain ⟨W, S, dx, d, hv, hx, hf, q⟩ := h
  unfold slD at hf
  split at hf
  · cases hf
    obtain ⟨p, vs, rfl, h1, a1⟩ := hx.list
    exact sl_list pins s σ H _ v vl vu lo hi sl Q I rx hs pl pu ⟨p, vs, rfl, by rw [hK]; exact h1.sq hv, go_lst hv q (cut_dp a1 lo hi)⟩
  · cases hf
    obtain ⟨p, vs, rfl, h1, a1⟩ := hx.tuple
    have hl := dpAll_len a1
    refine sl_tupA pins s σ H _ v vl vu lo hi sl Q I rx hs pl pu ⟨p, vs, rfl, hv.sqT h1, fun e => ?_, fun _ => go_tup hv q (cut_dp a1 lo hi)⟩
    rw [hl] at e
    rw [cutD_whole e] at q
    exact go_same hv q (.tup h1 a1)
  · cases hf
end
end PD
/-! P3: built-ins over plain data. -/
namespace PD
open PySem L2

inductive RdtAll (C : Cfg) (H W : Hp) : List V → List PyData → Prop where
  | nil : RdtAll C H W [] []
  | cons {v : V} {d : PyData} {vs : List V} {ds : List PyData} : Rdt C H W v d → RdtAll C H W vs ds → RdtAll C H W (v :: vs) (d :: ds)
theorem RdtAll.stp {C : Cfg} {H W H' W' : Hp} (s : Stp C.pm H W H' W') : ∀ {vs : List V} {ds : List PyData}, RdtAll C H W vs ds → RdtAll C H' W' vs ds
  | _, _, .nil => .nil
  | _, _, .cons a b => .cons (a.stp s) (b.stp s)

def boolsOf : List PyData → Option (List Bool)
  | [] => some []
  | .bool i :: r => (boolsOf r).map (i :: ·)
  | _ :: _ => none
theorem boolsOf_map (ns : List Bool) : boolsOf (ns.map .bool) = some ns := by
  induction ns with
  | nil => rfl
  | cons n r ih => simp [boolsOf, ih]
theorem boolsOf_some {ds : List PyData} {ns : List Bool} (h : boolsOf ds = some ns) : ds = ns.map .bool := by
  induction ds generalizing ns with
  | nil => cases h; rfl
  | cons d r ih =>
    cases d <;> simp [boolsOf] at h
    obtain ⟨ms, h1, rfl⟩ := h
    rw [ih h1]; rfl
theorem dpAll_bools {W : Hp} : ∀ {ns : List Bool} {vs : List V}, DpAll K0 W vs (ns.map .bool) → vs = ns.map V.bl
  | [], _, .nil => rfl
  | n :: r, _, .cons a b => by cases a; rw [dpAll_bools b]; rfl
theorem bools_dpAll {K : PySem.W.Frag} {W : Hp} (ns : List Bool) : DpAll K W (ns.map V.bl) (ns.map .bool) := by
  induction ns with
  | nil => exact .nil
  | cons n r ih => exact .cons (.bl n) ih

def isTupC : PyData → Bool
  | .tuple (_ :: _) => true
  | _ => false
def isPlainC : PyData → Bool
  | .none => false
  | .tuple _ => false
  | _ => true
/-- what sorted takes -/
def sortOk (ds : List PyData) : Bool :=
  (ds.all fun d => ds.all fun e => PySem.W.alike d e) && (ds.all isTupC || ds.all isPlainC) && decide (ds.length ≤ 16777216) && ds.all fun d => decide (d.depth ≤ 100)
def sortD (ds : List PyData) : List PyData := ds.mergeSort (PySem.W.dataLe false id)
def bestOk (ds : List PyData) : Bool :=
  (ds.all fun d => ds.all fun e => PySem.W.alike d e) && (ds.all fun d => match d with | .none => false | _ => true) && decide (PyData.depthAll ds ≤ 100)

inductive Bl where
  | len | abs | min | max | sum | all | any | int | str | list | tuple | sorted | repr
  deriving DecidableEq
def Bl.nm : Bl → Str
  | .len => "len" | .abs => "abs" | .min => "min" | .max => "max" | .sum => "sum" | .all => "all" | .any => "any" | .int => "int" | .str => "str" | .list => "list" | .tuple => "tuple" | .sorted => "sorted" | .repr => "repr"
def Bl.ty : Bl → Bool
  | .int => true | .str => true | .list => true | .tuple => true | _ => false
def Bl.id : Bl → String
  | .len => "len" | .abs => "abs" | .min => "min" | .max => "max" | .sum => "sum" | .all => "all" | .any => "any" | .int => "int" | .str => "str" | .list => "list" | .tuple => "tuple" | .sorted => "sorted" | .repr => "repr"
def Bl.val (b : Bl) : Value := if b.ty then .type b.id else .builtin b.id

def lenD : PyData → Option PyData
  | .list xs => some (.int xs.length)
  | .tuple xs => some (.int xs.length)
  | .str z => if z.length ≤ 16777216 then some (.int z.length) else none
  | _ => none
def bltD (b : Bl) (ds : List PyData) : Option PyData :=
  match b, ds with
  | .len, [x] => lenD x
  | .abs, [.int i] => some (.int (if i < 0 then -i else i))
  | .min, [.int i, .int j] => some (.int (if j < i then j else i))
  | .max, [.int i, .int j] => some (.int (if j > i then j else i))
  | .min, [.list (x :: xs)] => if bestOk (x :: xs) then some (PySem.W.minD x xs) else none
  | .max, [.list (x :: xs)] => if bestOk (x :: xs) then some (PySem.W.maxD x xs) else none
  | .sum, [.list xs] => (intsOf xs).map fun ns => .int ns.sum
  | .all, [.list xs] => (boolsOf xs).map fun ns => .bool (ns.all id)
  | .any, [.list xs] => (boolsOf xs).map fun ns => .bool (ns.any id)
  | .int, [.int i] => some (.int i)
  | .int, [.bool b] => some (.int (if b then 1 else 0))
  | .int, [.str z] => if z.length ≤ 640 then (PySem.intText? z).map .int else none
  | .str, [.int i] => if i.natAbs.log2 < 1920 then some (.str (toString i)) else none
  | .list, [.list xs] => some (.list xs)
  | .list, [.tuple xs] => some (.list xs)
  | .tuple, [.list xs] => some (.tuple xs)
  | .tuple, [.tuple xs] => some (.tuple xs)
  | .sorted, [.list xs] => if sortOk xs then some (.list (sortD xs)) else none
  | .repr, [x] => if x.showable && decide (x.shown.length ≤ 16777216) && decide (x.depth ≤ 100) then some (.str x.shown) else none
  | _, _ => none
def rB (C : Cfg) (b : Bl) : List V → Hp → VK → Prop := fun vs H Q => ∃ W S ds d, Vw C W H S ∧ RdtAll C H W vs ds ∧ bltD b ds = some d ∧ Go C H W S d Q

mutual
theorem dp_nodict {K : PySem.W.Frag} {W : Hp} : ∀ {v : V} {d : PyData}, Dp K W v d → d.hasDict = false
  | _, _, .non => rfl
  | _, _, .bl b => rfl
  | _, _, .int i => rfl
  | _, _, .str x => rfl
  | _, _, .lst a b => by rw [PyData.hasDict]; exact dpAll_nodict b
  | _, _, .tup a b => by rw [PyData.hasDict]; exact dpAll_nodict b
theorem dpAll_nodict {K : PySem.W.Frag} {W : Hp} : ∀ {vs : List V} {ds : List PyData}, DpAll K W vs ds → PyData.hasDictAll ds = false
  | _, _, .nil => rfl
  | _, _, .cons a b => by rw [PyData.hasDictAll, dp_nodict a, dpAll_nodict b]; rfl
end

section
variable {C : Cfg} {X : Cx}
theorem each_dp {W H : Hp} {pins : List (Addr × Obj)} {σ : L2.St} {s : Shared} {S : Draw} (I : Inv X pins σ H s) (hv : Vw C W H S) : ∀ {vs : List V} {ds : List PyData} {us : List Value}, DpAll K0 W vs ds → Vals vs us →
    PySem.W.EachIs (fun u d => ∃ x, RelV x u ∧ Dp K0 W x d) us ds ∧ PySem.W.EachIs (fun u d => ∃ as, Reads s.heap u (_root_.id d) as) us ds
  | _, _, _, .nil, .nil => ⟨.nil, .nil⟩
  | _, _, _, .cons a b, .cons r t => by
    obtain ⟨h1, h2⟩ := each_dp I hv b t
    refine ⟨.cons ⟨_, r, a⟩ h1, .cons ?_ h2⟩
    exact Dp.reads I _ _ _ (dp0 (dp_mono hv.sub a)) r
theorem each_back {W : Hp} : ∀ {us : List Value} {ds : List PyData}, PySem.W.EachIs (fun u d => ∃ x, RelV x u ∧ Dp K0 W x d) us ds → ∃ vs, Vals vs us ∧ DpAll K0 W vs ds
  | _, _, .nil => ⟨[], .nil, .nil⟩
  | _, _, .cons ⟨x, r, a⟩ t => by
    obtain ⟨vs, h1, h2⟩ := each_back t
    exact ⟨x :: vs, .cons r h1, .cons a h2⟩
theorem sortOk_facts {ds : List PyData} (h : sortOk ds = true) : PySem.W.AllAlike ds ∧ PySem.W.Sortable ds ∧ ds.length ≤ 16777216 ∧ ∀ d ∈ ds, d.depth ≤ 100 := by
  unfold sortOk at h
  simp only [Bool.and_eq_true, Bool.or_eq_true, List.all_eq_true, decide_eq_true_eq] at h
  obtain ⟨⟨⟨h1, h2⟩, h3⟩, h4⟩ := h
  refine ⟨fun d hd e he => h1 d hd e he, ?_, h3, h4⟩
  rcases h2 with h2 | h2
  · refine .inl fun d hd => ?_
    have := h2 d hd
    unfold isTupC at this
    split at this
    · exact ⟨_, _, rfl⟩
    · cases this
  · refine .inr fun d hd => ?_
    have := h2 d hd
    unfold isPlainC at this
    split at this
    · cases this
    · cases this
    · rename_i n1 n2
      exact ⟨n1, n2⟩
theorem bestOk_facts {ds : List PyData} (h : bestOk ds = true) : PySem.W.AlikeAll ds ∧ PyData.depthAll ds ≤ 100 := by
  unfold bestOk at h
  simp only [Bool.and_eq_true, List.all_eq_true, decide_eq_true_eq] at h
  obtain ⟨⟨h1, h2⟩, h3⟩ := h
  refine ⟨⟨fun d hd e he => h1 d hd e he, fun d hd e => ?_⟩, h3⟩
  have := h2 d hd
  rw [e] at this
  cases this
theorem list_reads {W H : Hp} {pins : List (Addr × Obj)} {σ : L2.St} {s : Shared} {S : Draw} (I : Inv X pins σ H s) (hv : Vw C W H S) {vs : List V} {ds : List PyData} {us : List Value} (a : DpAll K0 W vs ds) (r : Vals vs us) : ∃ as, ReadsAll s.heap us ds as :=
  Dp.readsAll I _ _ _ (dpAll0 (dpAll_mono hv.sub a)) r
theorem vals_at : ∀ {vs : List V} {us : List Value} {i : Nat} {u : Value}, Vals vs us → us[i]? = some u → ∃ x, vs[i]? = some x ∧ RelV x u
  | _, _, _, _, .nil, e => by simp at e
  | _, _, 0, _, .cons r _, e => by simp at e; subst e; exact ⟨_, rfl, r⟩
  | _, _, i + 1, u, .cons _ t, e => by
    obtain ⟨x, h1, h2⟩ := vals_at (i := i) (u := u) t (by simpa using e)
    exact ⟨x, by simpa using h1, h2⟩
/-- which of the items was handed on -/
theorem best_item {W H : Hp} {pins : List (Addr × Obj)} {σ : L2.St} {s : Shared} {S : Draw} (I : Inv X pins σ H s) (hv : Vw C W H S) {vs : List V} {ds : List PyData} {us : List Value} (a : DpAll K0 W vs ds) (r : Vals vs us)
    {i : Nat} {u : Value} {h' : Heap} {d : PyData} {bs : List Addr} (hm : d ∈ ds) (hu : us[i]? = some u) (hr : Reads h' u d bs) (hk : ∀ b o, s.heap.get? b = some o → h'.get? b = some o) : ∃ x, RelV x u ∧ Dp K0 W x d := by
  obtain ⟨x, hx, rx⟩ := vals_at r hu
  obtain ⟨e, he, hd⟩ := dpAll_getV a hx
  obtain ⟨as, re⟩ := Dp.reads I e x u (dp0 (dp_mono hv.sub hd)) rx
  have re' := PyProof.Rows.Reads.keeps hk re
  have pe : e.plain = true := dp_plain hd
  have e1 := SeqAt.readOf_plain pe re'
  have pd : d.plain = true := by
    obtain ⟨j, hj⟩ := List.getElem?_of_mem hm
    obtain ⟨y, _, hy⟩ := dpAll_get a hj
    exact dp_plain hy
  have e2 := SeqAt.readOf_plain pd hr
  have : e = d := e1.symm.trans e2
  subst this
  exact ⟨x, rx, hd⟩
theorem fold_mem {f : PyData → PyData → PyData} (hf : ∀ a y, f a y = a ∨ f a y = y) : ∀ (xs : List PyData) (x : PyData), xs.foldl f x ∈ x :: xs
  | [], x => by simp
  | y :: r, x => by
    have h := fold_mem hf r (f x y)
    rw [List.foldl_cons]
    rcases List.mem_cons.mp h with e | e
    · rw [e]
      rcases hf x y with z | z
      · rw [z]; simp
      · rw [z]; simp
    · simp [e]
theorem minD_mem (x : PyData) (xs : List PyData) : PySem.W.minD x xs ∈ x :: xs := fold_mem (fun a y => by split <;> simp) xs x
theorem maxD_mem (x : PyData) (xs : List PyData) : PySem.W.maxD x xs ∈ x :: xs := fold_mem (fun a y => by split <;> simp) xs x
theorem rdt1 {H W : Hp} {vs : List V} {x : PyData} (h : RdtAll C H W vs [x]) : ∃ v, vs = [v] ∧ Rdt C H W v x := by
  cases h with
  | cons a b => cases b; exact ⟨_, rfl, a⟩
theorem rdt2 {H W : Hp} {vs : List V} {x y : PyData} (h : RdtAll C H W vs [x, y]) : ∃ v w, vs = [v, w] ∧ Rdt C H W v x ∧ Rdt C H W w y := by
  cases h with
  | cons a b =>
    cases b with
    | cons a' b' => cases b'; exact ⟨_, _, rfl, a, a'⟩

theorem call_blt (b : Bl) (hK : X.K = C.K) (hc : X.calm = true) (hu : X.A.units + 200 < cLine) (hg : X.A.guards = some []) : CallR X b.val (rB C b) := by
  intro pins s σ H xs us Q I r h
  obtain ⟨W, S, ds, d, hv, ha, hf, q⟩ := h
  have hh : X.A.handled = none := I.ok.hd hc
  unfold bltD at hf
  split at hf
  · -- len
    rename_i x
    obtain ⟨v, rfl, hx⟩ := rdt1 ha
    unfold lenD at hf
    split at hf
    · cases hf
      obtain ⟨p, vs, rfl, h1, a1⟩ := hx.list
      refine call_len_seq pins s σ H _ us Q I r ⟨p, vs, rfl, .inl (by rw [hK]; exact h1.sq hv), ?_⟩
      rw [dpAll_len a1]
      exact go_same hv q (.int _)
    · cases hf
      obtain ⟨p, vs, rfl, h1, a1⟩ := hx.tuple
      refine call_len_seq pins s σ H _ us Q I r ⟨p, vs, rfl, .inr (hv.sqT h1), ?_⟩
      rw [dpAll_len a1]
      exact go_same hv q (.int _)
    · split at hf
      · rename_i hz
        cases hf
        obtain rfl := hx.str
        exact call_len_str pins s σ H _ us Q I r ⟨_, rfl, szl hz, go_same hv q (.int _)⟩
      · cases hf
    · cases hf
  · -- abs
    cases hf
    obtain ⟨v, rfl, hx⟩ := rdt1 ha
    obtain rfl := hx.int
    exact call_abs pins s σ H _ us Q I r ⟨_, rfl, go_same hv q (.int _)⟩
  · cases hf
    obtain ⟨v, w, rfl, hx, hy⟩ := rdt2 ha
    obtain rfl := hx.int
    obtain rfl := hy.int
    exact call_min2 hc pins s σ H _ us Q I r ⟨_, _, rfl, go_same hv q (.int _)⟩
  · cases hf
    obtain ⟨v, w, rfl, hx, hy⟩ := rdt2 ha
    obtain rfl := hx.int
    obtain rfl := hy.int
    exact call_max2 hc pins s σ H _ us Q I r ⟨_, _, rfl, go_same hv q (.int _)⟩
  · -- min of a list
    split at hf
    · rename_i x xs hb
      cases hf
      obtain ⟨v, rfl, hx⟩ := rdt1 ha
      obtain ⟨p, vs, rfl, h1, a1⟩ := hx.list
      have sq : SqL X.K H p vs := by rw [hK]; exact h1.sq hv
      obtain ⟨its, rv, hl, _⟩ := I.list sq
      obtain ⟨as, ra⟩ := list_reads I hv a1 rv
      obtain ⟨al, dd⟩ := bestOk_facts hb
      rw [Vals.ref1 r]
      refine PySem.W.min_list_data hh hl.isList (by simpa using ra) al (by omega) fun i u h' tk bs hu' hr hk => ?_
      obtain ⟨y, ry, hy⟩ := best_item I hv a1 rv (minD_mem x xs) (by simpa using hu') hr hk
      exact ⟨y, H, I.kept hk, ry, go_same hv q hy⟩
    · cases hf
  · split at hf
    · rename_i x xs hb
      cases hf
      obtain ⟨v, rfl, hx⟩ := rdt1 ha
      obtain ⟨p, vs, rfl, h1, a1⟩ := hx.list
      have sq : SqL X.K H p vs := by rw [hK]; exact h1.sq hv
      obtain ⟨its, rv, hl, _⟩ := I.list sq
      obtain ⟨as, ra⟩ := list_reads I hv a1 rv
      obtain ⟨al, dd⟩ := bestOk_facts hb
      rw [Vals.ref1 r]
      refine PySem.W.max_list_data hh hl.isList (by simpa using ra) al (by omega) fun i u h' tk bs hu' hr hk => ?_
      obtain ⟨y, ry, hy⟩ := best_item I hv a1 rv (maxD_mem x xs) (by simpa using hu') hr hk
      exact ⟨y, H, I.kept hk, ry, go_same hv q hy⟩
    · cases hf
  · -- sum
    rw [Option.map_eq_some_iff] at hf
    obtain ⟨ns, hn, rfl⟩ := hf
    obtain ⟨v, rfl, hx⟩ := rdt1 ha
    obtain ⟨p, vs, rfl, h1, a1⟩ := hx.list
    rw [intsOf_some hn] at a1
    obtain rfl := dpAll_ints a1
    exact cr_sum hc pins s σ H _ us Q I r ⟨p, ns, rfl, by rw [hK]; exact h1.sq hv, go_same hv q (.int _)⟩
  · rw [Option.map_eq_some_iff] at hf
    obtain ⟨ns, hn, rfl⟩ := hf
    obtain ⟨v, rfl, hx⟩ := rdt1 ha
    obtain ⟨p, vs, rfl, h1, a1⟩ := hx.list
    rw [boolsOf_some hn] at a1
    obtain rfl := dpAll_bools a1
    exact cr_all hc pins s σ H _ us Q I r ⟨p, ns, rfl, by rw [hK]; exact h1.sq hv, go_same hv q (.bl _)⟩
  · rw [Option.map_eq_some_iff] at hf
    obtain ⟨ns, hn, rfl⟩ := hf
    obtain ⟨v, rfl, hx⟩ := rdt1 ha
    obtain ⟨p, vs, rfl, h1, a1⟩ := hx.list
    rw [boolsOf_some hn] at a1
    obtain rfl := dpAll_bools a1
    exact cr_any hc pins s σ H _ us Q I r ⟨p, ns, rfl, by rw [hK]; exact h1.sq hv, go_same hv q (.bl _)⟩
  · -- int
    cases hf
    obtain ⟨v, rfl, hx⟩ := rdt1 ha
    obtain rfl := hx.int
    exact call_int1 pins s σ H _ us Q I r (.inl ⟨_, rfl, go_same hv q (.int _)⟩)
  · cases hf
    obtain ⟨v, rfl, hx⟩ := rdt1 ha
    obtain rfl := hx.bool
    exact call_int1 pins s σ H _ us Q I r (.inr ⟨_, rfl, go_same hv q (.int _)⟩)
  · split at hf
    · rename_i hz
      rw [Option.map_eq_some_iff] at hf
      obtain ⟨n, hn, rfl⟩ := hf
      obtain ⟨v, rfl, hx⟩ := rdt1 ha
      obtain rfl := hx.str
      exact call_int_str pins s σ H _ us Q I r ⟨_, n, rfl, hn, hz, go_same hv q (.int _)⟩
    · cases hf
  · -- str
    split at hf
    · rename_i hz
      cases hf
      obtain ⟨v, rfl, hx⟩ := rdt1 ha
      obtain rfl := hx.int
      exact call_str_int pins s σ H _ us Q I r ⟨_, rfl, hz, go_same hv q (.str _)⟩
    · cases hf
  · -- list
    cases hf
    obtain ⟨v, rfl, hx⟩ := rdt1 ha
    obtain ⟨p, vs, rfl, h1, a1⟩ := hx.list
    exact call_list_of pins s σ H _ us Q I r ⟨p, vs, rfl, .inl (by rw [hK]; exact h1.sq hv), go_lst hv q a1⟩
  · cases hf
    obtain ⟨v, rfl, hx⟩ := rdt1 ha
    obtain ⟨p, vs, rfl, h1, a1⟩ := hx.tuple
    exact call_list_of pins s σ H _ us Q I r ⟨p, vs, rfl, .inr (hv.sqT h1), go_lst hv q a1⟩
  · -- tuple
    cases hf
    obtain ⟨v, rfl, hx⟩ := rdt1 ha
    obtain ⟨p, vs, rfl, h1, a1⟩ := hx.list
    exact call_tuple_of pins s σ H _ us Q I r ⟨p, vs, rfl, .inl ⟨by rw [hK]; exact h1.sq hv, go_tup hv q a1⟩⟩
  · cases hf
    obtain ⟨v, rfl, hx⟩ := rdt1 ha
    obtain ⟨p, vs, rfl, h1, a1⟩ := hx.tuple
    exact call_tuple_of pins s σ H _ us Q I r ⟨p, vs, rfl, .inr ⟨hv.sqT h1, go_same hv q (.tup h1 a1)⟩⟩
  · -- sorted
    split at hf
    · rename_i ds' hb
      cases hf
      obtain ⟨v, rfl, hx⟩ := rdt1 ha
      obtain ⟨p, vs, rfl, h1, a1⟩ := hx.list
      have sq : SqL X.K H p vs := by rw [hK]; exact h1.sq hv
      obtain ⟨its, rv, hl, _⟩ := I.list sq
      obtain ⟨e1, e2⟩ := each_dp I hv a1 rv
      obtain ⟨al, so, hz, dd⟩ := sortOk_facts hb
      rw [Vals.ref1 r]
      refine PySem.W.sorted_data (enc := id) hl.isList e1 e2 (by rw [List.map_id]; exact al) (by rw [List.map_id]; exact so) (szl hz) (fun b hb' => by have := dd b hb'; show X.A.units + 2 + b.depth < cLine; omega) fun out hlen eo => ?_
      obtain ⟨vs', r', a'⟩ := each_back eo
      obtain ⟨ep, he'⟩ := PyProof.Rows.sortedAll_at s.heap its (List.toArray out)
      have hl' : vs'.length ≤ sizeLine := by rw [r'.length, hlen]; exact szl hz
      exact ⟨.ref _, upd H (s.heap.objs.size + 1) (.lst vs'), I.laid (t' := s.toks) (fun _ _ => PyProof.Rows.sortedAll_old) (Nat.le_succ _) ⟨hl', out, ep, r', by simpa using he'⟩, rfl, go_lst hv q a' _ (I.hok.fresh (Nat.le_succ _))⟩
    · cases hf
  · -- repr
    split at hf
    · rename_i x hb
      cases hf
      simp only [Bool.and_eq_true, decide_eq_true_eq] at hb
      obtain ⟨⟨hs, hz⟩, hd⟩ := hb
      obtain ⟨v, rfl, hx⟩ := rdt1 ha
      obtain ⟨u, rfl, ru⟩ := Vals.one r
      have wx : Dp X.K H v x := by rw [hK]; exact hx.dp hv
      obtain ⟨as, rx⟩ := Dp.reads I x v u wx ru
      have fin : ∀ {h' : Heap} {t : Tok} {tk : Nat}, (∀ b o, s.heap.get? b = some o → h'.get? b = some o) → EP X pins σ Q (.str x.shown t) { s with heap := h', toks := tk } := fun hk => ⟨.str _, H, I.kept hk, ⟨_, rfl⟩, go_same hv q (.str _)⟩
      cases wx with
      | non =>
        cases ru
        exact P.repr_of_none (fin fun _ _ e => e)
      | bl b =>
        cases ru
        exact P.repr_of_bool (fin fun _ _ e => e)
      | int i =>
        obtain ⟨t, rfl⟩ := ru
        exact P.repr_of_int (by simpa [PyData.showable] using hs) (fin fun _ _ e => e)
      | str z =>
        obtain ⟨t, rfl⟩ := ru
        exact P.repr_of_str (fin fun _ _ e => e) (by simpa [PyData.shown] using szl hz)
      | lst h1 h2 =>
        cases ru
        exact repr_of_reads' rx hs (fun e => by rw [dp_nodict (hx.dp hv)] at e; cases e) hg (by omega) (fun _ _ e => e) (fun h' t tk hk => fin hk) (szl hz)
      | tup h1 h2 =>
        cases ru
        exact repr_of_reads' rx hs (fun e => by rw [dp_nodict (hx.dp hv)] at e; cases e) hg (by omega) (fun _ _ e => e) (fun h' t tk hk => fin hk) (szl hz)
    · cases hf
  · cases hf
end
end PD
/-! P4: a small language over plain data, and its evaluation. -/
namespace PD
open PySem L2

inductive Tg where
  | nm (i : Nat)
  | tp (ts : List Tg)

inductive Mt where
  | join | split | startswith | index
  deriving DecidableEq
inductive Ty where
  | int | bool | tuple | str | list
  deriving DecidableEq

inductive Ex where
  | var (i : Nat)
  | con (d : PyData)
  | glb (x : Str) (d : PyData)
  | tup (es : List Ex)
  | lst (es : List Ex)
  | bin (op : Operator) (a b : Ex)
  | neg (a : Ex)
  | cmp (op : CmpOp) (a b : Ex)
  | chn (op op2 : CmpOp) (a b c : Ex)
  | and (es : List Ex)
  | or (es : List Ex)
  | not (a : Ex)
  | ite (c a b : Ex)
  | idx (a b : Ex)
  | sl (a : Ex) (lo hi : Option Ex)
  | blt (b : Bl) (es : List Ex)
  | call (j : Nat) (es : List Ex)
  | comp (elt : Ex) (t : Tg) (it : Ex) (cs : List Ex) (own : List Nat)
  | comp2 (elt : Ex) (t : Tg) (it : Ex) (cs : List Ex) (t2 : Tg) (it2 : Ex) (cs2 : List Ex) (own own2 : List Nat)
  | rng (es : List Ex)
  | zip (a b : Ex)
  | enm (a : Ex)
  | isi (a : Ex) (t : Ty)
  | trng (es : List Ex)
  | lrng (es : List Ex)
  | sset (a : Ex)
  | meth (m : Mt) (a b : Ex)
  | hnn (i : Nat)

inductive Sx where
  | asg (t : Tg) (e : Ex)
  | asgO (i : Nat) (e : Ex)
  | par (is : List Nat) (es : List Ex)
  | aug (i : Nat) (op : Operator) (e : Ex)
  | app (i : Nat) (e : Ex)
  | ret (e : Ex)
  | ife (c : Ex) (a b : List Sx)
  | fr (t : Tg) (it : Ex) (body : List Sx)
  | whl (c : Ex) (body : List Sx)
  | exp (e : Ex)
  | brk
  | cnt
  | rais

inductive Out where
  | nx (Γ : Env) (S : Draw)
  | ret (d : PyData) (S : Draw)
  | brk (Γ : Env) (S : Draw)
  | cnt (Γ : Env) (S : Draw)
  | exc (c : Nat) (d : PyData) (S : Draw)
  | bad

structure FDef where
  nm : Str
  np : Nat
  N : List Str
  kd : List Kd
  body : Option (List Sx)
structure Prg where
  fs : List FDef
  nxt : Draw → Int → Option (Int × Draw)

/-! ### parts of the evaluation -/
def lift {α : Type} (o : Option α) (S : Draw) : Res α :=
  match o with
  | some x => .ok x S
  | none => .bad
@[simp] theorem lift_some {α : Type} (x : α) (S : Draw) : lift (some x) S = .ok x S := rfl
@[simp] theorem lift_none {α : Type} (S : Draw) : lift (none : Option α) S = .bad := rfl
def getV (Γ : Env) (i : Nat) : Option PyData :=
  match Γ[i]? with
  | some (some d) => some d
  | _ => none
def evs (f : Draw → Ex → Res PyData) : List Ex → Draw → Res (List PyData)
  | [], S => .ok [] S
  | e :: r, S => (f S e).bind fun x S1 => (evs f r S1).bind fun xs S2 => .ok (x :: xs) S2
def wipeE (Γ : Env) : List Nat → Env
  | [] => Γ
  | v :: vs => (wipeE Γ vs).set v none
mutual
def bindT : Tg → PyData → Env → Option Env
  | .nm i, x, Γ => some (Γ.set i (some x))
  | .tp ts, .tuple xs, Γ => bindTs ts xs Γ
  | .tp _, _, _ => none
def bindTs : List Tg → List PyData → Env → Option Env
  | [], [], Γ => some Γ
  | t :: ts, x :: xs, Γ => match bindT t x Γ with
    | some Γ' => bindTs ts xs Γ'
    | none => none
  | _, _, _ => none
end
def toB {α : Type} (r : Res PyData) (k : Bool → Draw → Res α) : Res α :=
  r.bind fun x S => match x with
    | .bool b => k b S
    | _ => .bad
def noexc {α : Type} : Res α → Res α
  | .exc _ _ _ => .bad
  | r => r
def cmpL (body : PyData → Draw → Res (List PyData)) : List PyData → Draw → Res (List PyData)
  | [], S => .ok [] S
  | x :: xs, S => (body x S).bind fun ys S1 => (cmpL body xs S1).bind fun zs S2 => .ok (ys ++ zs) S2
def few (r : Res (List PyData)) : Res (List PyData) :=
  r.bind fun ys S => if ys.length ≤ 16777216 then .ok ys S else .bad
def rngL (lo : Int) (n : Nat) : List PyData := (List.range n).map fun (i : Nat) => .int (lo + i)
def rngC (lo c : Int) (n : Nat) : List PyData := (List.range n).map fun (i : Nat) => .int (lo + i * c)
def okI (i : Int) : Bool := decide (-(2 ^ 62) ≤ i ∧ i < 2 ^ 62)
def rngD : List PyData → Option (List PyData)
  | [.int j] => if okI j then some (rngL 0 j.toNat) else none
  | [.int i, .int j] => if okI i && okI j then some (rngL i (j - i).toNat) else none
  | [.int i, .int j, .int c] => if okI i && okI j && decide (c = -1) then some (rngC i (-1) (i - j).toNat) else none
  | _ => none
def itemsOf : PyData → Option (List PyData)
  | .list xs => some xs
  | .tuple xs => some xs
  | .str z => some (z.cps.toList.map fun c => .str ⟨#[c]⟩)
  | _ => none
def seqOf : PyData → Option (List PyData)
  | .list xs => some xs
  | .tuple xs => some xs
  | _ => none
def zipD (x y : PyData) : Option (List PyData) :=
  match seqOf x, seqOf y with
  | some xs, some ys => some (List.zipWith (fun a b => .tuple [a, b]) xs ys)
  | _, _ => none
def enmD (x : PyData) : Option (List PyData) := (seqOf x).map fun xs => xs.zipIdx.map fun p => .tuple [.int p.2, p.1]
def isiD (t : Ty) (x : PyData) : Bool :=
  match t with
  | .int => x.isInt
  | .bool => x.isBool
  | .tuple => x.isTuple
  | .str => x.isStr
  | .list => x.isList
def rowsOfD : List PyData → Option (List (List Int))
  | [] => some []
  | .tuple xs :: r => match intsOf xs, rowsOfD r with
    | some ns, some rs => some (ns :: rs)
    | _, _ => none
  | _ :: _ => none
def rowD (ns : List Int) : PyData := .tuple (ns.map .int)
/-- sorted(set(..)) of tuples of ints, of ints -/
def ssetD (x : PyData) : Option PyData :=
  match seqOf x with
  | some xs => match intsOf xs with
    | some ns => if ns.length < 64 then some (.list (ns.eraseDups.mergeSort (fun a b => decide (a ≤ b)) |>.map .int)) else none
    | none => match rowsOfD xs with
      | some rs => if rs.length < 64 ∧ rs.all (fun r => !r.isEmpty) then some (.list (rs.eraseDups.mergeSort (fun a b => decide (a ≤ b)) |>.map rowD)) else none
      | none => none
  | none => none
def strsOf : List PyData → Option (List Str)
  | [] => some []
  | .str i :: r => (strsOf r).map (i :: ·)
  | _ :: _ => none
def joinLen (a : Str) (ys : List Str) : Nat := (ys.map (·.length)).sum + ys.length * a.length
def methD (m : Mt) (x y : PyData) : Option PyData :=
  match m, x, y with
  | .join, .str a, .list ys => match strsOf ys with
    | some zs => if joinLen a zs ≤ 16777216 then some (.str (Txt.join a zs)) else none
    | none => none
  | .split, .str a, .str b => if (b.length == 0) = false ∧ a.length + 2 ≤ 16777216 then some (.list ((Txt.split a b).map .str)) else none
  | .startswith, .str a, .str b => some (.bool (Txt.startswith a b))
  | _, _, _ => none

structure Fns where
  e : Env → Draw → Ex → Res PyData
  s : Env → Draw → List Sx → Out
  c : Nat → List PyData → Draw → Res PyData

section
variable (r : Fns)
/-- and, or: all but the last are bools -/
def evAnd (Γ : Env) : List Ex → Draw → Res PyData
  | [], _ => .bad
  | [a], S => r.e Γ S a
  | a :: b :: l, S => toB (r.e Γ S a) fun k S1 => if k then evAnd Γ (b :: l) S1 else .ok (.bool false) S1
def evOr (Γ : Env) : List Ex → Draw → Res PyData
  | [], _ => .bad
  | [a], S => r.e Γ S a
  | a :: b :: l, S => toB (r.e Γ S a) fun k S1 => if k then .ok (.bool true) S1 else evOr Γ (b :: l) S1
/-- a test -/
def evT (Γ : Env) (S : Draw) (e : Ex) : Res Bool := toB (r.e Γ S e) fun b S1 => .ok b S1
def evTs (Γ : Env) : List Ex → Draw → Res Bool
  | [], S => .ok true S
  | c :: cs, S => (evT r Γ S c).bind fun b S1 => if b then evTs Γ cs S1 else .ok false S1
/-- what is walked -/
def evI (Γ : Env) (S : Draw) (e : Ex) : Res (List PyData) :=
  match e with
  | .rng es => (evs (r.e Γ) es S).bind fun xs S1 => lift (rngD xs) S1
  | .zip a b => (r.e Γ S a).bind fun x S1 => (r.e Γ S1 b).bind fun y S2 => lift (zipD x y) S2
  | .enm a => (r.e Γ S a).bind fun x S1 => lift (enmD x) S1
  | e => (r.e Γ S e).bind fun x S1 => lift (itemsOf x) S1
def evOpt (Γ : Env) (o : Option Ex) (S : Draw) : Res (Option Int) :=
  match o with
  | none => .ok none S
  | some e => (r.e Γ S e).bind fun x S1 => match x with
    | .int i => .ok (some i) S1
    | _ => .bad
def evCmp (op : CmpOp) (x y : PyData) (S : Draw) : Res PyData := lift (cmpB op x y) S
/-- the items of a comprehension -/
def evComp (Γ : Env) (elt : Ex) (t : Tg) (it : Ex) (cs : List Ex) (own : List Nat) (S : Draw) : Res (List PyData) :=
  (evI r Γ S it).bind fun xs S0 => few (noexc (cmpL (fun x S => match bindT t x (wipeE Γ own) with
    | some Γ' => (evTs r Γ' cs S).bind fun b S1 => if b then (r.e Γ' S1 elt).bind fun y S2 => .ok [y] S2 else .ok [] S1
    | none => .bad) xs S0))
def evComp2 (Γ : Env) (elt : Ex) (t : Tg) (it : Ex) (cs : List Ex) (t2 : Tg) (it2 : Ex) (cs2 : List Ex) (own own2 : List Nat) (S : Draw) : Res (List PyData) :=
  (evI r Γ S it).bind fun xs S0 => few (noexc (cmpL (fun x S => match bindT t x (wipeE Γ own) with
    | some Γ' => (evTs r Γ' cs S).bind fun b S1 => if b then
        (evI r Γ' S1 it2).bind fun ys S2 => cmpL (fun y S => match bindT t2 y (wipeE Γ' own2) with
          | some Γ2 => (evTs r Γ2 cs2 S).bind fun b S1 => if b then (r.e Γ2 S1 elt).bind fun z S2 => .ok [z] S2 else .ok [] S1
          | none => .bad) ys S2
      else .ok [] S1
    | none => .bad) xs S0))
def evStep (Γ : Env) (S : Draw) (e : Ex) : Res PyData :=
  match e with
  | .var i => lift (getV Γ i) S
  | .con d => .ok d S
  | .glb _ d => .ok d S
  | .tup es => (evs (r.e Γ) es S).bind fun xs S1 => if xs.length ≤ 16777216 then .ok (.tuple xs) S1 else .bad
  | .lst es => (evs (r.e Γ) es S).bind fun xs S1 => if xs.length ≤ 16777216 then .ok (.list xs) S1 else .bad
  | .bin op a b => (r.e Γ S a).bind fun x S1 => (r.e Γ S1 b).bind fun y S2 => lift (binD op x y) S2
  | .neg a => (r.e Γ S a).bind fun x S1 => match x with
    | .int i => .ok (.int (-i)) S1
    | _ => .bad
  | .cmp op a b => (r.e Γ S a).bind fun x S1 => (r.e Γ S1 b).bind fun y S2 => lift (cmpB op x y) S2
  | .chn op op2 a b c => (r.e Γ S a).bind fun x S1 => (r.e Γ S1 b).bind fun y S2 => (lift (cmpD op x y) S2).bind fun k S2 =>
      if k then (r.e Γ S2 c).bind fun z S3 => lift (cmpB op2 y z) S3 else .ok (.bool false) S2
  | .and es => evAnd r Γ es S
  | .or es => evOr r Γ es S
  | .not a => toB (r.e Γ S a) fun b S1 => .ok (.bool (!b)) S1
  | .ite c a b => (evT r Γ S c).bind fun k S1 => if k then r.e Γ S1 a else r.e Γ S1 b
  | .idx a b => (r.e Γ S a).bind fun x S1 => (r.e Γ S1 b).bind fun y S2 => lift (ixD x y) S2
  | .sl a lo hi => (r.e Γ S a).bind fun x S1 => (evOpt r Γ lo S1).bind fun l S2 => (evOpt r Γ hi S2).bind fun h S3 => lift (slD x l h) S3
  | .blt b es => (evs (r.e Γ) es S).bind fun xs S1 => lift (bltD b xs) S1
  | .call j es => noexc ((evs (r.e Γ) es S).bind fun xs S1 => r.c j xs S1)
  | .comp elt t it cs own => (evComp r Γ elt t it cs own S).bind fun ys S1 => .ok (.list ys) S1
  | .comp2 elt t it cs t2 it2 cs2 own own2 => (evComp2 r Γ elt t it cs t2 it2 cs2 own own2 S).bind fun ys S1 => .ok (.list ys) S1
  | .isi a t => (r.e Γ S a).bind fun x S1 => .ok (.bool (isiD t x)) S1
  | .trng es => (evs (r.e Γ) es S).bind fun xs S1 => match rngD xs with
    | some ys => if ys.length ≤ 16777216 ∧ xs.length ≤ 2 then .ok (.tuple ys) S1 else .bad
    | none => .bad
  | .lrng es => (evs (r.e Γ) es S).bind fun xs S1 => match rngD xs with
    | some ys => if ys.length ≤ 16777216 ∧ xs.length ≤ 2 then .ok (.list ys) S1 else .bad
    | none => .bad
  | .sset a => (r.e Γ S a).bind fun x S1 => lift (ssetD x) S1
  | .meth m a b => (r.e Γ S a).bind fun x S1 => if x.isStr then (r.e Γ S1 b).bind fun y S2 => lift (methD m x y) S2 else .bad
  | .hnn _ => .ok (.bool true) S
  | .rng _ => .bad
  | .zip _ _ => .bad
  | .enm _ => .bad

def Res.out {α : Type} (x : Res α) (k : α → Draw → Out) : Out :=
  match x with
  | .ok a S => k a S
  | .exc c d S => .exc c d S
  | .bad => .bad
def Out.seq (o : Out) (k : Env → Draw → Out) : Out :=
  match o with
  | .nx Γ S => k Γ S
  | o => o
/-- one turn after another -/
def forL (t : Tg) (body : Env → Draw → Out) : List PyData → Env → Draw → Out
  | [], Γ, S => .nx Γ S
  | x :: xs, Γ, S => match bindT t x Γ with
    | some Γ' => match body Γ' S with
      | .nx Γ2 S2 => forL t body xs Γ2 S2
      | .cnt Γ2 S2 => forL t body xs Γ2 S2
      | .brk Γ2 S2 => .nx Γ2 S2
      | o => o
    | none => .bad
def whlL (test : Env → Draw → Res Bool) (body : Env → Draw → Out) : Nat → Env → Draw → Out
  | 0, _, _ => .bad
  | k + 1, Γ, S => (test Γ S).out fun b S1 => if b then match body Γ S1 with
      | .nx Γ2 S2 => whlL test body k Γ2 S2
      | .cnt Γ2 S2 => whlL test body k Γ2 S2
      | .brk Γ2 S2 => .nx Γ2 S2
      | o => o
    else .nx Γ S1
def setAll : List Nat → List PyData → Env → Option Env
  | [], [], Γ => some Γ
  | i :: is, x :: xs, Γ => setAll is xs (Γ.set i (some x))
  | _, _, _ => none
def stStep (Γ : Env) (S : Draw) (st : Sx) : Out :=
  match st with
  | .asg t e => (r.e Γ S e).out fun x S1 => match bindT t x Γ with
    | some Γ' => .nx Γ' S1
    | none => .bad
  | .asgO i e => (r.e Γ S e).out fun x S1 => match x with
    | .list _ => .nx (Γ.set i (some x)) S1
    | _ => .bad
  | .par is es => (evs (r.e Γ) es S).out fun xs S1 => match setAll is xs Γ with
    | some Γ' => .nx Γ' S1
    | none => .bad
  | .aug i op e => match getV Γ i with
    | some x => (r.e Γ S e).out fun y S1 => match op, x, y with
      | .Add, .int a, .int b => .nx (Γ.set i (some (.int (a + b)))) S1
      | .Sub, .int a, .int b => .nx (Γ.set i (some (.int (a - b)))) S1
      | _, _, _ => .bad
    | none => .bad
  | .app i e => match getV Γ i with
    | some (.list xs) => (r.e Γ S e).out fun y S1 => if xs.length < 16777216 then .nx (Γ.set i (some (.list (xs ++ [y])))) S1 else .bad
    | _ => .bad
  | .ret e => (r.e Γ S e).out fun x S1 => .ret x S1
  | .ife c a b => (evT r Γ S c).out fun k S1 => if k then r.s Γ S1 a else r.s Γ S1 b
  | .fr t it body => (evI r Γ S it).out fun xs S1 => forL t (fun Γ S => r.s Γ S body) xs Γ S1
  | .whl c body => whlL (fun Γ S => evT r Γ S c) (fun Γ S => r.s Γ S body) 1000000 Γ S
  | .exp e => (r.e Γ S e).out fun _ S1 => .nx Γ S1
  | .brk => .brk Γ S
  | .cnt => .cnt Γ S
  | .rais => .bad
def ssStep (Γ : Env) (S : Draw) : List Sx → Out
  | [] => .nx Γ S
  | s :: ss => (stStep r Γ S s).seq fun Γ' S' => ssStep Γ' S' ss
end
def cStep (P : Prg) (r : Fns) (j : Nat) (ds : List PyData) (S : Draw) : Res PyData :=
  match P.fs[j]? with
  | some f => if ds.length = f.np then
      match f.body with
      | some b => match r.s (ds.map some ++ List.replicate (f.N.length - ds.length) none) S b with
        | .nx _ S' => .ok .none S'
        | .ret d S' => .ok d S'
        | .exc c d S' => .exc c d S'
        | _ => .bad
      | none => match ds with
        | [_, .int t] => match P.nxt S t with
          | some (i, S') => .ok (.int i) S'
          | none => .bad
        | _ => .bad
    else .bad
  | none => .bad
def run (P : Prg) : Nat → Fns
  | 0 => ⟨fun _ _ _ => .bad, fun _ _ _ => .bad, fun _ _ _ => .bad⟩
  | n + 1 => ⟨evStep (run P n), fun Γ S ss => ssStep (run P n) Γ S ss, cStep P (run P n)⟩
end PD
/-! P5: defs and calls that know that nothing is being shown (guards), and the rules of expressions over plain data. -/
namespace PD
open PySem PySem.Spec PyProof.Rows L2

/-! ### defs -/
structure FnG (P : Program) (w : World) (K : PySem.W.Frag) (mg : Str → Option Value) (base : Heap) (CX : CXT) (n : Nat) (fa : Addr) (fd : FuncData) (ps : List Str) (sp : Sp) : Prop where
  size : ∀ xs H Q E, sp xs H Q E → xs.length = ps.length
  go : ∀ (A : Around) (fr : List PySem.Env) (s : Shared) (H : Hp) (args : Args) (us : List Value) (xs : List V) (Q : VK) (E : XK),
    Room n A → A.guards = some [] → Env0 P w K mg base A fr s H → BindsTo s fd args (ps.zip us) → Vals xs us → sp xs H Q E → codeAny (model P w) A (.call (.ref fa) args) (CR CX fr P w H s Q E) s
theorem guards_deep {A : Around} {env : PySem.Env} (h : A.guards = some []) : (A.deeper env).guards = some [] := h

/-- a def of the text, by its body -/
theorem fnG_of {CX : CXT} {P : Program} {w : World} {K : PySem.W.Frag} {mg : Str → Option Value} {base : Heap} {n : Nat} {fa : Addr} {x q : Str} {st : Stmt} {fd : FuncData} {N ps : List Str} {sp : Sp}
    (F : Fun K x q st fa fd) (S : FnScope N ps (defScope st)) (size : ∀ xs H Q E, sp xs H Q E → xs.length = ps.length)
    (walk : ∀ (cd : Value) (A : Around) (fr : List PySem.Env) (s : Shared) (H : Hp) (xs : List V) (Q : VK) (E : XK), Room n (A.deeper (envOfC q (defScope st) s.heap.objs.size fa cd)) → A.guards = some [] → sp xs H Q E →
      ∃ t, PSs (cxOf CX P w K mg base N q (defScope st) fa cd A fr s H E) (defBody st) t ∧ t { nx := fun _ H' => Q .non H', rt := Q } (start N xs) H) :
    FnG P w K mg base CX (n + 1) fa fd ps sp := by
  obtain ⟨oc, od, kV, doc, pm, an, cd, ct, osl, rfl, at_, code⟩ := F.ex
  refine ⟨size, fun A fr s H args us xs Q E room gd e0 bd rv want => ?_⟩
  have hlen := size _ _ _ _ want
  have old : ∀ b o, base.get? b = some o → s.heap.get? b = some o := fun b o e => (e0.bs b o e).1
  have inK : K.In s.heap := e0.mod.kin.keeps old
  have noLim : s.heap.NoLimit := e0.mod.nolimit.keeps old
  refine codeAny_call_function room.depth (inK _ _ at_) rfl S.co S.gen rfl (PySem.W.codeRec_of inK code) (bd _ _ _ _ ?_)
  refine wpAny_newFunctionEnv_cells S.kind (fun ⟨y, u⟩ hy => ?_) fun env he s1 ic => ?_
  · rcases S.par y (List.of_mem_zip hy).1 with z | z
    · exact .inl z
    · exact .inr ⟨z, PySem.W.cellsFrom_some _ _ _ (.inl z)⟩
  subst he
  refine ⟨noLim.keeps ic.toInCall.keep, codeAny_func ?_⟩
  obtain ⟨t, pt, tt⟩ := walk cd A fr s H xs Q E (room.deeper _) gd want
  have I0 := inv_start (CX := CX) (E := E) S room.hd e0 hlen rv ic
  refine wpAny_mono (pt.run [] s1 (start N xs) H _ I0 tt) (fun flow s' h => ?_) fun _ _ h => h
  cases flow with
  | ret u =>
    obtain ⟨v, _, H', J, ru, hq⟩ := h
    exact ⟨v, H', J.os, J.bare, J.base, J.hok, ru, hq⟩
  | next =>
    obtain ⟨_, H', J, hq⟩ := h
    exact ⟨V.non, H', J.os, J.bare, J.base, J.hok, rfl, hq⟩
  | brk => exact h.choose_spec.choose_spec.2.elim
  | cont => exact h.choose_spec.choose_spec.2.elim

section
variable {X : Cx} {CX : CXT} {n : Nat} {fa : Addr} {fd : FuncData} {ps : List Str} {sp : Sp} {E : XK} {x : Str} {p pos : Pos} {e : Expr} {es : List Expr} {t : TA}
theorem runG {pins : List (Addr × Obj)} {σ : L2.St} {H : Hp} {s : Shared} {Q : VK} {us : List Value} {vs : List V} (F : FnG X.prog X.w X.K X.mg X.base CX n fa fd ps sp) (room : Room n X.A) (gd : X.A.guards = some []) (bd : Binds X.K fd ps []) (px : Passes CX X E)
    (I : Inv X pins σ H s) (rv : Vals vs us) (want : sp vs H Q E) : wpAny (model X.prog X.w) X.A (call (.ref fa) us) (EP X pins σ Q) X.xe s := by
  have hl : us.length = ps.length := by rw [← rv.length]; exact F.size _ _ _ _ want
  have bb := bd s us I.kIn (by rw [List.append_nil]; exact hl)
  rw [List.append_nil] at bb
  refine wpAny_call (codeAny_mono (F.go X.A X.stack s H ⟨us, []⟩ us vs Q E room gd I.env0 bb rv want) fun r s' h => ?_)
  cases r with
  | error z => exact px pins σ H s z s' I h
  | ok flow =>
    cases flow with
    | ret u => exact I.after h
    | next => exact False.elim h
    | brk => exact False.elim h
    | cont => exact False.elim h
theorem pe_callG (F : FnG X.prog X.w X.K X.mg X.base CX n fa fd ps sp) (room : Room n X.A) (gd : X.A.guards = some []) (hg : Gl X x) (hm : X.mg x = some (.ref fa)) (kp : PySem.W.keepIn X.K (.ref fa) = true) (bd : Binds X.K fd ps []) (px : Passes CX X E)
    (ha : PA X (e :: es) t) (hdb : (x == ("__debug__" : Str)) = false) (he : starEach (e :: es) X.env = (false, eval e X.env) :: starEach es X.env) (hpl : (backTo pos (starEach es X.env)).any (·.1) = false) :
    PE X (.Call (.Name x p) (e :: es) [] pos) (tCall sp [] E t) := by
  refine ⟨fun pins s σ H Q I h => wpAny_Call_Name_kw (ld_glob I hg hm ?_ hdb)⟩
  refine PySem.W.callWith_K (h₀ := X.base) I.ok.mod.kin kp (thn (ha.run pos pins s σ H _ I h) fun us s1 ⟨vs, H1, I1, rv, q⟩ => ⟨I1.kIn, ?_⟩) he hpl
  exact runG F room gd bd px I1 rv (by simpa using q)
theorem pe_callG0 (F : FnG X.prog X.w X.K X.mg X.base CX n fa fd ps sp) (room : Room n X.A) (gd : X.A.guards = some []) (hg : Gl X x) (hm : X.mg x = some (.ref fa)) (kp : PySem.W.keepIn X.K (.ref fa) = true) (bd : Binds X.K fd ps []) (px : Passes CX X E)
    (hdb : (x == ("__debug__" : Str)) = false) : PE X (.Call (.Name x p) [] [] pos) (tCall sp [] E tNil) := by
  refine ⟨fun pins s σ H Q I h => wpAny_Call_Name_kw (ld_glob I hg hm ?_ hdb)⟩
  exact PySem.W.callWith_K0 I.kIn kp (runG (us := []) F room gd bd px I .nil h)
end
end PD
/-! P6: the rules of expressions over plain data. -/
namespace PD
open PySem PySem.Spec PyProof.Rows L2
section
variable {X : Cx} {C : Cfg} {pos : Pos}

/-! ### names and constants -/
theorem de_var {i : Nat} {x : Str} (hN : X.N[i]? = some x) (hv : Vis X.env.scope x) (hd : (x == ("__debug__" : Str)) = false) (hcd : (x == ("__classdict__" : Str)) = false) (hk : C.kdOf i = .nrm) :
    PE X (.Name x pos) (tE C fun Γ S => lift (getV Γ i) S) := PE.imp (pe_var hN hv hd hcd) fun σ H Q ⟨Γ, W, S, he, hw, p⟩ => by
  dsimp only [getV] at p
  split at p
  · rename_i d e
    obtain ⟨v, h1, h2⟩ := he.at_ i d e
    rw [hk] at h2
    exact ⟨v, h1, p v H W (Stp.refl _ _ _) hw h2⟩
  · exact p.elim
theorem de_varR {i : Nat} {x : Str} (hN : X.N[i]? = some x) (hv : Vis X.env.scope x) (hd : (x == ("__debug__" : Str)) = false) (hcd : (x == ("__classdict__" : Str)) = false) (hk : C.kdOf i ≠ .hnd) :
    PE X (.Name x pos) (tR C fun Γ S => lift (getV Γ i) S) := PE.imp (pe_var hN hv hd hcd) fun σ H Q ⟨Γ, W, S, he, hw, p⟩ => by
  dsimp only [getV] at p
  split at p
  · rename_i d e
    obtain ⟨v, h1, h2⟩ := he.at_ i d e
    refine ⟨v, h1, p v H W (Stp.refl _ _ _) hw ?_⟩
    cases e1 : C.kdOf i with
    | nrm => rw [e1] at h2; exact .see h2
    | own =>
      rw [e1] at h2
      obtain ⟨q, vs, ds, rfl, rfl, h3, h4, h5, h6, h7⟩ := h2
      exact .own h3 h5 h7
    | scr =>
      rw [e1] at h2
      rcases h2 with h2 | ⟨q, ns, rfl, rfl, h2⟩
      · exact .see h2
      · exact .mod h2
    | hnd => exact absurd e1 hk
  · exact p.elim
/-- a constant's value -/
def conV : PyData → Option V
  | .none => some .non
  | .bool b => some (.bl b)
  | .int i => some (.int i)
  | .str x => some (.str x)
  | _ => none
theorem conV_dp {W : Hp} {d : PyData} {v : V} (h : conV d = some v) : Dp K0 W v d := by
  cases d <;> cases h
  · exact .non
  · exact .bl _
  · exact .int _
  · exact .str _
theorem de_tC {e : Expr} {d : PyData} {v : V} (h : PE X e (tC v)) (hd : conV d = some v) : PE X e (tE C fun _ S => .ok d S) := PE.imp h fun σ H Q ⟨Γ, W, S, he, hw, p⟩ => p v H W (Stp.refl _ _ _) hw (conV_dp hd)
def constB : PyData → Const → Bool
  | .none, .none => true
  | .bool a, .bool b => decide (a = b)
  | .int a, .int b => decide (a = b)
  | .str a, .str b => decide (a = b)
  | _, _ => false
theorem de_con {d : PyData} {c : Const} {j : Nat} (h : constB d c = true) : PE X (.Constant c j pos) (tE C fun _ S => .ok d S) := by
  unfold constB at h
  split at h
  · exact de_tC pe_non rfl
  · rw [decide_eq_true_eq] at h; subst h; exact de_tC pe_bl rfl
  · rw [decide_eq_true_eq] at h; subst h; exact de_tC pe_int rfl
  · rw [decide_eq_true_eq] at h; subst h; exact de_tC pe_str rfl
  · cases h

/-! ### argument lists -/
theorem de_nil {RL : Hp → Hp → List V → List PyData → Prop} (h : ∀ H W, RL H W [] []) : PA X [] (tG C RL fun _ S => .ok [] S) := PA.imp pa_nil fun σ H Q ⟨Γ, W, S, he, hw, p⟩ => p [] H W (Stp.refl _ _ _) hw (h _ _)
theorem de_cons {R : Hp → Hp → V → PyData → Prop} {RL : Hp → Hp → List V → List PyData → Prop} {e : Expr} {es : List Expr} {f : Fn PyData} {g : Fn (List PyData)} (ha : PE X e (tG C R f)) (hr : PA X es (tG C RL g))
    (hs : starEach (e :: es) X.env = (false, eval e X.env) :: starEach es X.env) (st : ∀ H W H' W' v d, Stp C.pm H W H' W' → R H W v d → R H' W' v d) (hc : ∀ H W v d vs ds, R H W v d → RL H W vs ds → RL H W (v :: vs) (d :: ds)) :
    PA X (e :: es) (tG C RL fun Γ S => (f Γ S).bind fun x S1 => (g Γ S1).bind fun xs S2 => .ok (x :: xs) S2) := PA.imp (pa_cons ha hr hs) fun σ H Q ⟨Γ, W, S, he, hw, p⟩ =>
  tG_then he hw p (fun c d S' h => h) fun x S1 v H1 W1 s1 v1 e1 r1 p1 => tG_then e1 v1 p1 (xq_stp (fun c d S' h => h) s1) fun xs S2 vs H2 W2 s2 v2 e2 r2 p2 =>
    p2 (v :: vs) H2 W2 (s1.trans s2) v2 (hc _ _ _ _ _ _ (st _ _ _ _ _ _ s2 r1) r2)
/-- arguments that are read -/
def tRs (C : Cfg) (f : Fn (List PyData)) : TA := tG C (fun H W vs ds => RdtAll C H W vs ds) f

/-! ### displays -/
theorem few_of {α : Type} {n : Nat} {r : Res α} {P : α → Draw → Prop} {E : Nat → PyData → Draw → Prop} (h : (if n ≤ 16777216 then r else .bad).Post P E) : n ≤ 16777216 ∧ r.Post P E := by
  split at h
  · rename_i hn
    exact ⟨hn, h⟩
  · exact h.elim
theorem de_tup {es : List Expr} {j : Nat} {f : Fn (List PyData)} (h : PA X es (tAs C f)) : PE X (.Tuple es j pos) (tE C fun Γ S => (f Γ S).bind fun xs S1 => if xs.length ≤ 16777216 then .ok (.tuple xs) S1 else .bad) := PE.imp (pe_tup h) fun σ H Q ⟨Γ, W, S, he, hw, p⟩ =>
  tG_then he hw p (fun c d S' h => h) fun xs S1 vs H1 W1 s1 v1 e1 r1 p1 => by
    obtain ⟨hn, q⟩ := few_of p1
    refine ⟨szl (by rw [dpAll_len r1]; exact hn), go_tup (C := C) v1 (fun v' H' W' s' v2 d2 => q v' H' W' (s1.trans s') v2 d2) r1⟩
theorem de_lstF {es : List Expr} {f : Fn (List PyData)} (h : PA X es (tAs C f)) : PE X (.List es pos) (tF C fun Γ S => (f Γ S).bind fun xs S1 => if xs.length ≤ 16777216 then .ok xs S1 else .bad) := PE.imp (pe_lst h) fun σ H Q ⟨Γ, W, S, he, hw, p⟩ =>
  tG_then he hw p (fun c d S' h => h) fun xs S1 vs H1 W1 s1 v1 e1 r1 p1 => by
    obtain ⟨hn, q⟩ := few_of p1
    refine ⟨szl (by rw [dpAll_len r1]; exact hn), fun pl hp => ?_⟩
    have hp0 : H pl = none := by
      cases e : H pl with
      | none => rfl
      | some o => obtain ⟨o', e'⟩ := s1.t pl o e; rw [hp] at e'; cases e'
    exact q pl vs _ W1 (s1.trans (Stp.newH v1 hp)) (v1.newH hp) hp0 upd_same (v1.wnone hp) (fun m => v1.new_ne hp ((mst_upd (v1.pm_ne hp)).mp m)) r1

/-! ### operators -/
theorem de_bin {a b : Expr} {op : Operator} {f g : Fn PyData} (ha : PE X a (tE C f)) (hb : PE X b (tE C g)) : PE X (.BinOp a op b pos) (tE C fun Γ S => (f Γ S).bind fun x S1 => (g Γ S1).bind fun y S2 => lift (binD op x y) S2) :=
  PE.imp (pe_op (op_binD (C := C)) ha hb) fun σ H Q ⟨Γ, W, S, he, hw, p⟩ =>
    tG_then he hw p (fun c d S' h => h) fun x S1 v H1 W1 s1 v1 e1 r1 p1 => tG_then e1 v1 p1 (xq_stp (fun c d S' h => h) s1) fun y S2 u H2 W2 s2 v2 e2 r2 p2 => by
      cases e : binD op x y with
      | none => rw [e] at p2; exact p2.elim
      | some d =>
        rw [e] at p2
        exact ⟨W2, S2, x, y, d, v2, dp_mono s2.w r1, r2, e, fun v' H' W' s' v3 d3 => p2 v' H' W' ((s1.trans s2).trans s') v3 d3⟩
theorem de_neg {a : Expr} {f : Fn PyData} (ha : PE X a (tE C f)) : PE X (.UnaryOp .USub a pos) (tE C fun Γ S => (f Γ S).bind fun x S1 => match x with
    | .int i => .ok (.int (-i)) S1
    | _ => .bad) := PE.imp (pe_un un_neg ha) fun σ H Q ⟨Γ, W, S, he, hw, p⟩ =>
  tG_then he hw p (fun c d S' h => h) fun x S1 v H1 W1 s1 v1 e1 r1 p1 => by
    cases r1 <;> try exact p1.elim
    rename_i i
    exact ⟨i, rfl, p1 _ H1 W1 s1 v1 (.int _)⟩
/-- a comparison's reading from the data -/
theorem cmp_go {op : CmpOp} {a b : Expr} {f g : Fn PyData} {σ : L2.St} {H : Hp} {Q : VK} (p : tE C (fun Γ S => (f Γ S).bind fun x S1 => (g Γ S1).bind fun y S2 => lift (cmpB op x y) S2) σ H Q) : tOp (rD C (cmpB op)) (tR C f) (tR C g) σ H Q := by
  obtain ⟨Γ, W, S, he, hw, p⟩ := p
  exact tG_then he hw p (fun c d S' h => h) fun x S1 v H1 W1 s1 v1 e1 r1 p1 => tG_then e1 v1 p1 (xq_stp (fun c d S' h => h) s1) fun y S2 u H2 W2 s2 v2 e2 r2 p2 => by
    cases e : cmpB op x y with
    | none => rw [e] at p2; exact p2.elim
    | some d =>
      rw [e] at p2
      exact ⟨W2, S2, x, y, d, v2, r1.stp s2, r2, e, fun v' H' W' s' v3 d3 => p2 v' H' W' ((s1.trans s2).trans s') v3 d3⟩
theorem de_cmp {a b : Expr} {op : CmpOp} {f g : Fn PyData} (hK : X.K = C.K) (hu : X.A.units + 200 < cLine) (ha : PE X a (tR C f)) (hb : PE X b (tR C g)) (hm : behindInMarks op b = false) :
    PE X (.Compare a [op] [b] pos) (tE C fun Γ S => (f Γ S).bind fun x S1 => (g Γ S1).bind fun y S2 => lift (cmpB op x y) S2) :=
  PE.imp (pe_cmpR (op_cmpD hK hu) ha hb hm) fun σ H Q p => cmp_go (a := a) (b := b) p
/-- from a value's reading to a test's -/
theorem toB_te {f : Fn PyData} {σ : L2.St} {H : Hp} {Q : Bool → Hp → Prop} (p : tT C (fun Γ S => toB (f Γ S) fun b S1 => .ok b S1) σ H Q) : tE C f σ H fun x H1 => ∃ k, x = .bl k ∧ Q k H1 := by
  obtain ⟨Γ, W, S, he, hw, p⟩ := p
  exact tG_then he hw p (fun c d S' h => h) fun x S1 v H1 W1 s1 v1 e1 r1 p1 => by
    cases r1 <;> try exact p1.elim
    rename_i b
    exact ⟨b, rfl, p1 _ H1 W1 s1 v1 rfl⟩
theorem dt_cmp {a b : Expr} {op : CmpOp} {f g : Fn PyData} (hK : X.K = C.K) (hu : X.A.units + 200 < cLine) (ha : PE X a (tR C f)) (hb : PE X b (tR C g)) (hm : behindInMarks op b = false) :
    PT X (.Compare a [op] [b] pos) (tT C fun Γ S => toB ((f Γ S).bind fun x S1 => (g Γ S1).bind fun y S2 => lift (cmpB op x y) S2) fun b S1 => .ok b S1) :=
  PT.imp (pt_cmpR (op_cmpD hK hu) ha hb hm) fun σ H Q p => cmp_go (a := a) (b := b) (toB_te p)
theorem dt_val {e : Expr} {f : Fn PyData} (h : PE X e (tE C f)) (he : ∀ whole, isTrue e X.env whole = (do let v ← whole; standAt e.pos; holding [v] (truthy v))) : PT X e (tT C fun Γ S => toB (f Γ S) fun b S1 => .ok b S1) :=
  PT.imp (pt_val h he) fun σ H Q p => toB_te p
/-- a chain of two -/
theorem chn_go {op op2 : CmpOp} {f g h : Fn PyData} {σ : L2.St} {H : Hp} {Q : VK} (p : tE C (fun Γ S => (f Γ S).bind fun x S1 => (g Γ S1).bind fun y S2 => (lift (cmpD op x y) S2).bind fun k S2 =>
      if k then (h Γ S2).bind fun z S3 => lift (cmpB op2 y z) S3 else .ok (.bool false) S2) σ H Q) : tChain (rD C (cmpB op)) (rD C (cmpB op2)) (tR C f) (tR C g) (tR C h) σ H Q := by
  obtain ⟨Γ, W, S, he, hw, p⟩ := p
  exact tG_then he hw p (fun c d S' h => h) fun x S1 v H1 W1 s1 v1 e1 r1 p1 => tG_then e1 v1 p1 (xq_stp (fun c d S' h => h) s1) fun y S2 u H2 W2 s2 v2 e2 r2 p2 => by
    cases e : cmpD op x y with
    | none => rw [e] at p2; exact p2.elim
    | some k =>
      rw [e] at p2
      refine ⟨W2, S2, x, y, .bool k, v2, r1.stp s2, r2, by unfold cmpB; rw [e]; rfl, fun v' H' W' s' v3 d3 => ?_⟩
      cases d3
      refine ⟨k, rfl, ?_⟩
      cases k with
      | false => exact p2 _ H' W' ((s1.trans s2).trans s') v3 (.bl _)
      | true =>
        exact tG_then (e2.stp s') v3 p2 (xq_stp (fun c d S' h => h) ((s1.trans s2).trans s')) fun z S3 t H3 W3 s3 v4 e4 r4 p4 => by
          cases e5 : cmpB op2 y z with
          | none => rw [e5] at p4; exact p4.elim
          | some d =>
            rw [e5] at p4
            exact ⟨W3, S3, y, z, d, v4, (r2.stp s').stp s3, r4, e5, fun v' H' W' s5 v5 d5 => p4 v' H' W' ((((s1.trans s2).trans s').trans s3).trans s5) v5 d5⟩
theorem de_chn {a b c : Expr} {op op2 : CmpOp} {f g h : Fn PyData} (hK : X.K = C.K) (hu : X.A.units + 200 < cLine) (ha : PE X a (tR C f)) (hb : PE X b (tR C g)) (hc : PE X c (tR C h)) (hm : lastMarks [op, op2] [b, c] = false) :
    PE X (.Compare a [op, op2] [b, c] pos) (tE C fun Γ S => (f Γ S).bind fun x S1 => (g Γ S1).bind fun y S2 => (lift (cmpD op x y) S2).bind fun k S2 => if k then (h Γ S2).bind fun z S3 => lift (cmpB op2 y z) S3 else .ok (.bool false) S2) :=
  PE.imp (pe_chain (op_cmpD hK hu) (op_cmpD hK hu) ha hb hc hm) fun σ H Q p => chn_go p
theorem dt_chn {a b c : Expr} {op op2 : CmpOp} {f g h : Fn PyData} (hK : X.K = C.K) (hu : X.A.units + 200 < cLine) (ha : PE X a (tR C f)) (hb : PE X b (tR C g)) (hc : PE X c (tR C h)) (hm : lastMarks [op, op2] [b, c] = false) :
    PT X (.Compare a [op, op2] [b, c] pos) (tT C fun Γ S => toB ((f Γ S).bind fun x S1 => (g Γ S1).bind fun y S2 => (lift (cmpD op x y) S2).bind fun k S2 => if k then (h Γ S2).bind fun z S3 => lift (cmpB op2 y z) S3 else .ok (.bool false) S2) fun b S1 => .ok b S1) :=
  PT.imp (pt_chain (op_cmpD hK hu) (op_cmpD hK hu) ha hb hc hm) fun σ H Q p => chn_go (toB_te p)

/-! ### and, or, not, if -/
theorem toB_post {α : Type} {r : Res PyData} {k : Bool → Draw → Res α} {P : α → Draw → Prop} {E : Nat → PyData → Draw → Prop} (h : (toB r k).Post P E) : (r.bind fun x S => match x with | .bool b => k b S | _ => .bad).Post P E := h
theorem de_and {a b : Expr} {rest : List Expr} {f g : Fn PyData} (ha : PE X a (tE C f)) (hb : PE X (.BoolOp .And (b :: rest) pos) (tE C g)) :
    PE X (.BoolOp .And (a :: b :: rest) pos) (tE C fun Γ S => toB (f Γ S) fun k S1 => if k then g Γ S1 else .ok (.bool false) S1) := PE.imp (pe_and ha hb) fun σ H Q ⟨Γ, W, S, he, hw, p⟩ =>
  tG_then he hw (toB_post p) (fun c d S' h => h) fun x S1 v H1 W1 s1 v1 e1 r1 p1 => by
    cases r1 <;> try exact p1.elim
    rename_i k
    refine ⟨k, rfl, ?_⟩
    cases k with
    | false => exact p1 _ H1 W1 s1 v1 (.bl _)
    | true => exact ⟨Γ, W1, S1, e1, v1, p1.mono (fun d S' q v' H' W' s' v2 d2 => q v' H' W' (s1.trans s') v2 d2) fun c d S' q H' W' s' v2 => q H' W' (s1.trans s') v2⟩
theorem de_or {a b : Expr} {rest : List Expr} {f g : Fn PyData} (ha : PE X a (tE C f)) (hb : PE X (.BoolOp .Or (b :: rest) pos) (tE C g)) :
    PE X (.BoolOp .Or (a :: b :: rest) pos) (tE C fun Γ S => toB (f Γ S) fun k S1 => if k then .ok (.bool true) S1 else g Γ S1) := PE.imp (pe_or ha hb) fun σ H Q ⟨Γ, W, S, he, hw, p⟩ =>
  tG_then he hw (toB_post p) (fun c d S' h => h) fun x S1 v H1 W1 s1 v1 e1 r1 p1 => by
    cases r1 <;> try exact p1.elim
    rename_i k
    refine ⟨k, rfl, ?_⟩
    cases k with
    | true => exact p1 _ H1 W1 s1 v1 (.bl _)
    | false => exact ⟨Γ, W1, S1, e1, v1, p1.mono (fun d S' q v' H' W' s' v2 d2 => q v' H' W' (s1.trans s') v2 d2) fun c d S' q H' W' s' v2 => q H' W' (s1.trans s') v2⟩
theorem de_not {a : Expr} {f : Fn PyData} (ha : PE X a (tE C f)) : PE X (.UnaryOp .Not a pos) (tE C fun Γ S => toB (f Γ S) fun b S1 => .ok (.bool (!b)) S1) := PE.imp (pe_not ha) fun σ H Q ⟨Γ, W, S, he, hw, p⟩ =>
  tG_then he hw (toB_post p) (fun c d S' h => h) fun x S1 v H1 W1 s1 v1 e1 r1 p1 => by
    cases r1 <;> try exact p1.elim
    rename_i k
    exact ⟨k, rfl, p1 _ H1 W1 s1 v1 (.bl _)⟩
/-- further on, with the same wish -/
theorem tG_on {α β : Type} {R : Hp → Hp → β → α → Prop} {f : Fn α} {Γ : Env} {σ : L2.St} {H W H1 W1 : Hp} {S1 : Draw} {Q : β → Hp → Prop} (s1 : Stp C.pm H W H1 W1) (e1 : EnvOk C Γ σ H1 W1) (v1 : Vw C W1 H1 S1)
    (p : (f Γ S1).Post (fun d S' => ∀ v H' W', Stp C.pm H W H' W' → Vw C W' H' S' → R H' W' v d → Q v H') (fun c d S' => ∀ H' W', Stp C.pm H W H' W' → Vw C W' H' S' → C.XQ c d S' H' W')) : tG C R f σ H1 Q :=
  ⟨Γ, W1, S1, e1, v1, p.mono (fun d S' q v' H' W' s' v2 d2 => q v' H' W' (s1.trans s') v2 d2) fun c d S' q H' W' s' v2 => q H' W' (s1.trans s') v2⟩
theorem de_ite {c a b : Expr} {f : Fn Bool} {g h : Fn PyData} (hc : PT X c (tT C f)) (ha : PE X a (tE C g)) (hb : PE X b (tE C h)) : PE X (.IfExp c a b pos) (tE C fun Γ S => (f Γ S).bind fun k S1 => if k then g Γ S1 else h Γ S1) :=
  PE.imp (pe_ifExp hc ha hb) fun σ H Q ⟨Γ, W, S, he, hw, p⟩ => tG_then he hw p (fun c d S' h => h) fun x S1 v H1 W1 s1 v1 e1 r1 p1 => by
    subst r1
    cases v with
    | true => exact tG_on s1 e1 v1 p1
    | false => exact tG_on s1 e1 v1 p1
/-- tests -/
theorem dt_not {a : Expr} {f : Fn Bool} (ha : PT X a (tT C f)) : PT X (.UnaryOp .Not a pos) (tT C fun Γ S => (f Γ S).bind fun b S1 => .ok (!b) S1) := PT.imp (pt_not ha) fun σ H Q ⟨Γ, W, S, he, hw, p⟩ =>
  tG_then he hw p (fun c d S' h => h) fun x S1 v H1 W1 s1 v1 e1 r1 p1 => by
    subst r1
    exact p1 _ H1 W1 s1 v1 rfl
theorem PW.imp {e : Expr} {t t' : TT} (h : PW X e t) (i : ∀ σ H Q, t' σ H Q → t σ H Q) : PW X e t' := ⟨fun wh pins s σ H Q I q => h.run wh pins s σ H Q I (i σ H Q q)⟩
theorem dw_and {a b : Expr} {rest : List Expr} {f g : Fn Bool} (ha : PT X a (tT C f)) (hb : PW X (.BoolOp .And (b :: rest) pos) (tT C g)) :
    PW X (.BoolOp .And (a :: b :: rest) pos) (tT C fun Γ S => (f Γ S).bind fun k S1 => if k then g Γ S1 else .ok false S1) := PW.imp (pw_and ha hb) fun σ H Q ⟨Γ, W, S, he, hw, p⟩ =>
  tG_then he hw p (fun c d S' h => h) fun x S1 v H1 W1 s1 v1 e1 r1 p1 => by
    subst r1
    cases v with
    | true => exact tG_on s1 e1 v1 p1
    | false => exact p1 _ H1 W1 s1 v1 rfl
theorem dw_or {a b : Expr} {rest : List Expr} {f g : Fn Bool} (ha : PT X a (tT C f)) (hb : PW X (.BoolOp .Or (b :: rest) pos) (tT C g)) :
    PW X (.BoolOp .Or (a :: b :: rest) pos) (tT C fun Γ S => (f Γ S).bind fun k S1 => if k then .ok true S1 else g Γ S1) := PW.imp (pw_or ha hb) fun σ H Q ⟨Γ, W, S, he, hw, p⟩ =>
  tG_then he hw p (fun c d S' h => h) fun x S1 v H1 W1 s1 v1 e1 r1 p1 => by
    subst r1
    cases v with
    | false => exact tG_on s1 e1 v1 p1
    | true => exact p1 _ H1 W1 s1 v1 rfl

/-! ### places and slices -/
theorem de_idx {a b : Expr} {f g : Fn PyData} (hK : X.K = C.K) (ha : PE X a (tR C f)) (hb : PE X b (tR C g)) (hs : PlainIx b) : PE X (.Subscript a b pos) (tE C fun Γ S => (f Γ S).bind fun x S1 => (g Γ S1).bind fun y S2 => lift (ixD x y) S2) :=
  PE.imp (pe_ix (ix_D hK) ha hb hs) fun σ H Q ⟨Γ, W, S, he, hw, p⟩ =>
    tG_then he hw p (fun c d S' h => h) fun x S1 v H1 W1 s1 v1 e1 r1 p1 => tG_then e1 v1 p1 (xq_stp (fun c d S' h => h) s1) fun y S2 u H2 W2 s2 v2 e2 r2 p2 => by
      cases e : ixD x y with
      | none => rw [e] at p2; exact p2.elim
      | some d =>
        rw [e] at p2
        exact ⟨W2, S2, x, y, d, v2, r1.stp s2, r2, e, fun v' H' W' s' v3 d3 => p2 v' H' W' ((s1.trans s2).trans s') v3 d3⟩
/-- a part of a slice -/
def tOpt (C : Cfg) (f : Fn (Option Int)) : TO := tG C (fun _ _ i j => i = j) f
theorem PO.imp {e : Option Expr} {t t' : TO} (h : PO X e t) (i : ∀ σ H Q, t' σ H Q → t σ H Q) : PO X e t' := ⟨fun pins s σ H Q I q => h.run pins s σ H Q I (i σ H Q q)⟩
theorem do_none : PO X none (tOpt C fun _ S => .ok none S) := PO.imp po_none fun σ H Q ⟨Γ, W, S, he, hw, p⟩ => p none H W (Stp.refl _ _ _) hw rfl
theorem do_some {e : Expr} {f : Fn PyData} (h : PE X e (tE C f)) : PO X (some e) (tOpt C fun Γ S => (f Γ S).bind fun x S1 => match x with
    | .int i => .ok (some i) S1
    | _ => .bad) := PO.imp (po_some h) fun σ H Q ⟨Γ, W, S, he, hw, p⟩ => tG_then he hw p (fun c d S' h => h) fun x S1 v H1 W1 s1 v1 e1 r1 p1 => by
  cases r1 <;> try exact p1.elim
  rename_i i
  exact ⟨i, rfl, p1 _ H1 W1 s1 v1 rfl⟩
theorem de_sl {a : Expr} {lo hi : Option Expr} {p2 : Pos} {f : Fn PyData} {g h : Fn (Option Int)} (hK : X.K = C.K) (ha : PE X a (tR C f)) (hl : PO X lo (tOpt C g)) (hh : PO X hi (tOpt C h)) :
    PE X (.Subscript a (.Slice lo hi none p2) pos) (tE C fun Γ S => (f Γ S).bind fun x S1 => (g Γ S1).bind fun l S2 => (h Γ S2).bind fun u S3 => lift (slD x l u) S3) :=
  PE.imp (pe_slice (sl_D hK) ha hl hh) fun σ H Q ⟨Γ, W, S, he, hw, p⟩ =>
    tG_then he hw p (fun c d S' h => h) fun x S1 v H1 W1 s1 v1 e1 r1 p1 => tG_then e1 v1 p1 (xq_stp (fun c d S' h => h) s1) fun l S2 u H2 W2 s2 v2 e2 r2 p2 =>
      tG_then e2 v2 p2 (xq_stp (fun c d S' h => h) (s1.trans s2)) fun l' S3 u' H3 W3 s3 v3 e3 r3 p3 => by
        subst r2 r3
        cases e : slD x u u' with
        | none => rw [e] at p3; exact p3.elim
        | some d =>
          rw [e] at p3
          exact ⟨W3, S3, x, d, v3, (r1.stp s2).stp s3, e, fun v' H' W' s' v4 d4 => p3 v' H' W' (((s1.trans s2).trans s3).trans s') v4 d4⟩

/-! ### built-ins -/
theorem boot_bl (b : Bl) : bootBuiltins b.nm = some b.val := by cases b <;> decide +kernel
theorem nm_bl (b : Bl) : b.nm ≠ "__name__" ∧ (b.nm == ("__debug__" : Str)) = false := by cases b <;> decide +kernel
theorem de_blt {b : Bl} {p : Pos} {e : Expr} {es : List Expr} {f : Fn (List PyData)} (hK : X.K = C.K) (hc : X.calm = true) (hu : X.A.units + 200 < cLine) (hgd : X.A.guards = some []) (hg : Gl X b.nm) (hm : X.mg b.nm = none) (ha : PA X (e :: es) (tRs C f))
    (hs : starEach (e :: es) X.env = (false, eval e X.env) :: starEach es X.env) (hpl : (backTo pos (starEach es X.env)).any (·.1) = false) :
    PE X (.Call (.Name b.nm p) (e :: es) [] pos) (tE C fun Γ S => (f Γ S).bind fun xs S1 => lift (bltD b xs) S1) := by
  have key : PE X (.Call (.Name b.nm p) (e :: es) [] pos) (tCB (rB C b) (tRs C f)) := by
    have cr := call_blt (C := C) b hK hc hu hgd
    have bo := boot_bl b
    obtain ⟨n1, n2⟩ := nm_bl b
    unfold Bl.val at cr bo
    cases ht : b.ty with
    | true =>
      rw [ht] at cr bo
      exact pe_callTy cr hg hm bo ha n1 n2 hs hpl
    | false =>
      rw [ht] at cr bo
      exact pe_callB cr hg hm bo ha n1 n2 hs hpl
  exact PE.imp key fun σ H Q ⟨Γ, W, S, he, hw, p⟩ => tG_then he hw p (fun c d S' h => h) fun xs S1 vs H1 W1 s1 v1 e1 r1 p1 => by
    cases e : bltD b xs with
    | none => rw [e] at p1; exact p1.elim
    | some d =>
      rw [e] at p1
      exact ⟨W1, S1, xs, d, v1, r1, e, fun v' H' W' s' v3 d3 => p1 v' H' W' (s1.trans s') v3 d3⟩
end
end PD
/-! P7: targets, what is walked, comprehensions. -/
namespace PD
open PySem PySem.Spec PyProof.Rows L2

/-! ### targets -/
mutual
def Tg.slots : Tg → List Nat
  | .nm i => [i]
  | .tp ts => Tg.slotsL ts
def Tg.slotsL : List Tg → List Nat
  | [] => []
  | t :: ts => t.slots ++ Tg.slotsL ts
end
theorem EnvOk.set {C : Cfg} {Γ : Env} {σ : L2.St} {H W : Hp} (e : EnvOk C Γ σ H W) {i : Nat} {v : V} {d : PyData} (hk : C.kdOf i = .nrm) (hd : Dp K0 W v d) : EnvOk C (Γ.set i (some d)) (σ.set i (some v)) H W where
  len := by rw [List.length_set, List.length_set]; exact e.len
  at_ := fun j x hj => by
    by_cases hji : i = j
    · subst hji
      by_cases hl : i < Γ.length
      · rw [List.getElem?_set_self hl] at hj
        cases hj
        exact ⟨v, List.getElem?_set_self (by rw [← e.len]; exact hl), by rw [hk]; exact hd⟩
      · rw [List.getElem?_eq_none (by rw [List.length_set]; omega)] at hj
        cases hj
    · rw [List.getElem?_set_ne hji] at hj ⊢
      exact e.at_ j x hj
  sep := fun j k p x y hjk h1 h2 h3 h4 h5 => by
    have n1 : i ≠ j := fun z => by rw [← z, hk] at h1; cases h1
    have n2 : i ≠ k := fun z => by rw [← z, hk] at h2; cases h2
    rw [List.getElem?_set_ne n1] at h3 h5
    rw [List.getElem?_set_ne n2] at h4 ⊢
    exact e.sep j k p x y hjk h1 h2 h3 h4 h5
  zd := e.zd
theorem bindTs_len : ∀ (ts : List Tg) (ds : List PyData) (Γ Γ' : Env), bindTs ts ds Γ = some Γ' → ds.length = ts.length
  | [], [], _, _, _ => rfl
  | [], _ :: _, _, _, h => by cases h
  | _ :: _, [], _, _, h => by cases h
  | t :: ts, d :: ds, Γ, Γ', h => by
    unfold bindTs at h
    split at h
    · rw [List.length_cons, List.length_cons, bindTs_len ts ds _ _ h]
    · cases h
/-- what a target asks: the data, and that its slots take them -/
def tgD (C : Cfg) (t : Tg) : TG := fun v σ H Q => ∃ Γ W S d Γ', EnvOk C Γ σ H W ∧ Vw C W H S ∧ Dp K0 W v d ∧ bindT t d Γ = some Γ' ∧
  ∀ σ', EnvOk C Γ' σ' H W → σ'.length = σ.length → (∀ i, i ∉ t.slots → σ'[i]? = σ[i]?) → Q σ' H
def tgsD (C : Cfg) (ts : List Tg) : TGs := fun vs σ H Q => ∃ Γ W S ds Γ', EnvOk C Γ σ H W ∧ Vw C W H S ∧ DpAll K0 W vs ds ∧ bindTs ts ds Γ = some Γ' ∧
  ∀ σ', EnvOk C Γ' σ' H W → σ'.length = σ.length → (∀ i, i ∉ Tg.slotsL ts → σ'[i]? = σ[i]?) → Q σ' H
section
variable {X : Cx} {C : Cfg} {pos : Pos}
theorem PG.imp {e : Expr} {t t' : TG} (h : PG X e t) (i : ∀ v σ H Q, t' v σ H Q → t v σ H Q) : PG X e t' := ⟨fun pins s σ H v u Q I r q => h.run pins s σ H v u Q I r (i v σ H Q q)⟩
theorem PGs.imp {e : List Expr} {t t' : TGs} (h : PGs X e t) (i : ∀ v σ H Q, t' v σ H Q → t v σ H Q) : PGs X e t' := ⟨fun pins s σ H v u Q I r q => h.run pins s σ H v u Q I r (i v σ H Q q)⟩
theorem dg_nm {i : Nat} {x : Str} (nd : X.N.Nodup) (hi : X.N[i]? = some x) (hx : Loc X.env.scope x) (hf : X.fn x = true ∨ X.env.scope.names.lookup x = some .local) (hk : C.kdOf i = .nrm) : PG X (.Name x pos) (tgD C (.nm i)) :=
  PG.imp (pg_name nd hi hx hf) fun v σ H Q ⟨Γ, W, S, d, Γ', he, hw, hd, hb, q⟩ => by
    cases hb
    refine q _ (he.set hk hd) (List.length_set ..) fun j hj => List.getElem?_set_ne fun z => ?_
    simp [Tg.slots] at hj
    exact hj z.symm
theorem dgs_nil : PGs X [] (tgsD C []) := PGs.imp pgs_nil fun vs σ H Q ⟨Γ, W, S, ds, Γ', he, hw, hd, hb, q⟩ => by
  cases hd with
  | nil =>
    cases hb
    exact ⟨rfl, q σ he rfl fun _ _ => rfl⟩
  | cons a b => cases hb
theorem dgs_cons {e : Expr} {es : List Expr} {t : Tg} {ts : List Tg} (h1 : PG X e (tgD C t)) (h2 : PGs X es (tgsD C ts)) (hs : (assignEach (e :: es) X.env).map (·.2) = assign e X.env :: (assignEach es X.env).map (·.2)) : PGs X (e :: es) (tgsD C (t :: ts)) :=
  PGs.imp (pgs_cons h1 h2 hs) fun vs σ H Q ⟨Γ, W, S, ds, Γ', he, hw, hd, hb, q⟩ => by
    cases hd with
    | nil => cases hb
    | @cons v vs d ds a b =>
      unfold bindTs at hb
      split at hb
      · rename_i Γ1 h1
        refine ⟨v, vs, rfl, Γ, W, S, d, Γ1, he, hw, a, h1, fun σ1 e1 l1 k1 => ?_⟩
        refine ⟨Γ1, W, S, ds, Γ', e1, hw, b, hb, fun σ2 e2 l2 k2 => ?_⟩
        refine q σ2 e2 (l2.trans l1) fun i hi => ?_
        simp only [Tg.slotsL, List.mem_append, not_or] at hi
        rw [k2 i hi.2, k1 i hi.1]
      · cases hb
theorem dg_tp {es : List Expr} {k : Nat} {ts : List Tg} (hc : X.calm = true) (h : PGs X es (tgsD C ts)) (hn : (assignEach es X.env).length = ts.length) (hst : (assignEach es X.env).findIdx? (·.1) = none) : PG X (.Tuple es k pos) (tgD C (.tp ts)) :=
  PG.imp (pg_tup hc h hn hst) fun v σ H Q ⟨Γ, W, S, d, Γ', he, hw, hd, hb, q⟩ => by
    cases hd with
    | @tup a vs ds h1 h2 =>
      have hb' : bindTs ts ds Γ = some Γ' := hb
      refine ⟨a, vs, rfl, hw.sqT h1, ?_, Γ, W, S, ds, Γ', he, hw, h2, hb', q⟩
      rw [dpAll_len h2]
      exact bindTs_len ts ds Γ Γ' hb'
    | _ => cases hb
end

/-! ### what is walked -/
/-- the things xs, one a turn, while G stands -/
structure Wk (C : Cfg) (J : It) (xs : List PyData) (G : Hp → Hp → Prop) : Prop where
  go : ∀ i H W S, Vw C W H S → G H W → i < xs.length → J.go i H
  stop : ∀ H W S, Vw C W H S → G H W → J.stop xs.length H
  yld : ∀ i H W S x H', Vw C W H S → G H W → i < xs.length → J.yld i H x H' → ∃ d W', xs[i]? = some d ∧ Stp C.pm H W H' W' ∧ Vw C W' H' S ∧ Dp K0 W' x d
abbrev Sub (W W' : Hp) : Prop := ∀ a o, W a = some o → W' a = some o
/-- how G goes on: in expressions; in statements -/
def KeepE (C : Cfg) (G : Hp → Hp → Prop) : Prop := ∀ H W H' W', Stp C.pm H W H' W' → G H W → G H' W'
def KeepS (G : Hp → Hp → Prop) : Prop := ∀ H W H' W', Sub W W' → G H W → G H' W'
def tI (C : Cfg) (kp : (Hp → Hp → Prop) → Prop) (f : Fn (List PyData)) : TI := fun σ H R => ∃ Γ W S, EnvOk C Γ σ H W ∧ Vw C W H S ∧ (f Γ S).Post
  (fun xs S' => ∀ J H' W' G, Stp C.pm H W H' W' → Vw C W' H' S' → Wk C J xs G → G H' W' → kp G → R J H')
  (fun c d S' => ∀ H' W', Stp C.pm H W H' W' → Vw C W' H' S' → C.XQ c d S' H' W')
section
variable {X : Cx} {C : Cfg} {tg : Expr}
theorem PI.imp {e : Expr} {t t' : TI} (h : PI X tg e t) (i : ∀ σ H R, t' σ H R → t σ H R) : PI X tg e t' := ⟨fun pins s σ H R I q => h.run pins s σ H R I (i σ H R q)⟩
theorem wk_list {p : Addr} {vs : List V} {xs : List PyData} (hl : vs.length = xs.length) : Wk C (Itl C.K p) xs (fun H W => Rdl C H W p vs ∧ DpAll K0 W vs xs) where
  go := fun i H W S hv g hi => ⟨vs, vs[i]'(by omega), g.1.sq hv, by simp [show i < vs.length by omega]⟩
  stop := fun H W S hv g => ⟨vs, g.1.sq hv, by omega⟩
  yld := fun i H W S x H' hv g hi y => by
    obtain ⟨rfl, y⟩ := y
    obtain ⟨d, h1, h2⟩ := dpAll_getV g.2 (y vs (g.1.sq hv))
    exact ⟨d, W, h1, Stp.refl _ _ _, hv, h2⟩
theorem wk_listS {p : Addr} {vs : List V} {xs : List PyData} (hl : vs.length = xs.length) : Wk C (Itl C.K p) xs (fun H W => SqL K0 W p vs ∧ DpAll K0 W vs xs) :=
  ⟨fun i H W S hv g => (wk_list hl).go i H W S hv ⟨.see g.1, g.2⟩, fun H W S hv g => (wk_list hl).stop H W S hv ⟨.see g.1, g.2⟩, fun i H W S x H' hv g => (wk_list hl).yld i H W S x H' hv ⟨.see g.1, g.2⟩⟩
theorem wk_tup {p : Addr} {vs : List V} {xs : List PyData} (hl : vs.length = xs.length) : Wk C (Itt C.K p) xs (fun H W => SqT K0 W p vs ∧ DpAll K0 W vs xs) where
  go := fun i H W S hv g hi => ⟨vs, vs[i]'(by omega), hv.sqT g.1, by simp [show i < vs.length by omega]⟩
  stop := fun H W S hv g => ⟨vs, hv.sqT g.1, by omega⟩
  yld := fun i H W S x H' hv g hi y => by
    obtain ⟨rfl, y⟩ := y
    obtain ⟨d, h1, h2⟩ := dpAll_getV g.2 (y vs (hv.sqT g.1))
    exact ⟨d, W, h1, Stp.refl _ _ _, hv, h2⟩
theorem wk_str {z : Str} : Wk C (Its z) (z.cps.toList.map fun c => .str ⟨#[c]⟩) (fun _ _ => True) where
  go := fun i H W S hv g hi => by
    show i < z.cps.size
    simpa using hi
  stop := fun H W S hv g => by
    show z.cps.size ≤ _
    simp
  yld := fun i H W S x H' hv g hi y => by
    obtain ⟨rfl, c, hc, rfl⟩ := y
    exact ⟨_, W, by rw [List.getElem?_map]; simp [hc], Stp.refl _ _ _, hv, .str _⟩
theorem wk_rng {lo : Int} {n : Nat} : Wk C (Itr lo n) (rngL lo n) (fun _ _ => True) where
  go := fun i H W S hv g hi => by
    show i < n
    simpa [rngL] using hi
  stop := fun H W S hv g => by
    show n ≤ _
    simp [rngL]
  yld := fun i H W S x H' hv g hi y => by
    obtain ⟨rfl, rfl⟩ := y
    have hi' : i < n := by simpa [rngL] using hi
    exact ⟨_, W, by unfold rngL; rw [List.getElem?_map, List.getElem?_range hi']; rfl, Stp.refl _ _ _, hv, .int _⟩
theorem wk_rngC {lo c : Int} {n : Nat} : Wk C (Itc lo c n) (rngC lo c n) (fun _ _ => True) where
  go := fun i H W S hv g hi => by
    show i < n
    simpa [rngC] using hi
  stop := fun H W S hv g => by
    show n ≤ _
    simp [rngC]
  yld := fun i H W S x H' hv g hi y => by
    obtain ⟨rfl, rfl⟩ := y
    have hi' : i < n := by simpa [rngC] using hi
    exact ⟨_, W, by unfold rngC; rw [List.getElem?_map, List.getElem?_range hi']; rfl, Stp.refl _ _ _, hv, .int _⟩

/-- a list, a tuple or a text is walked -/
def iSeq (K : PySem.W.Frag) (te : TE) : TI := fun σ H R => te σ H fun x H1 => (∃ a xs, x = .ref a ∧ SqL K H1 a xs ∧ R (Itl K a) H1) ∨ (∃ a xs, x = .ref a ∧ SqT K H1 a xs ∧ R (Itt K a) H1) ∨ ∃ z, x = .str z ∧ R (Its z) H1
theorem pi_seq {e : Expr} {te : TE} (he : PE X e te) : PI X tg e (iSeq X.K te) := by
  refine ⟨fun pins s σ H R I h => thn (he.run pins s σ H _ I h) fun v s1 ⟨x, H1, I1, r1, q1⟩ => ?_⟩
  have own : ∀ {b : Addr}, b ∈ [s1.heap.objs.size] → FpOk X pins H1 b := fun {b} hb => by
    rw [List.mem_singleton] at hb
    rw [hb]
    exact I1.fpOk (Nat.le_refl _) (I1.hok.fresh (Nat.le_refl _))
  have more : ∀ (o : Obj), Inv X pins σ H1 { s1 with heap := s1.heap.push o } := fun o => I1.kept (t' := s1.toks) fun b u z => Heap.get?_push_of_some _ z
  rcases q1 with ⟨a, xs, rfl, sq, q⟩ | ⟨a, xs, rfl, sq, q⟩ | ⟨z, rfl, q⟩
  · cases r1
    obtain ⟨its, _, pl, _⟩ := I1.list sq
    exact wpAny_pyIter_list pl.isList ⟨_, [s1.heap.objs.size], _, _, H1, rfl, more _, turn_list a _, ⟨_, Heap.get?_push_size _ rfl, rfl, rfl⟩, fun b hb => own hb, q⟩
  · cases r1
    obtain ⟨its, _, pl, _⟩ := I1.tuple sq
    exact wpAny_pyIter_tuple (show s1.heap.IsTuple a its.toArray from pl) ⟨_, [s1.heap.objs.size], _, _, H1, rfl, more _, turn_tuple a _, ⟨_, Heap.get?_push_size _ rfl, rfl, rfl⟩, fun b hb => own hb, q⟩
  · obtain ⟨t, rfl⟩ := r1
    cases asc : z.cps.all (· < 128)
    · refine wpAny_pyIter_wide asc ?_
      exact pi_one (tk := s1.toks) I1 _ (turn_str _ z t "str_iterator" (.inr rfl)) ⟨_, Heap.get?_push_size _ rfl, rfl, rfl⟩ q
    · refine wpAny_pyIter_ascii asc ?_
      exact pi_one (tk := s1.toks) I1 _ (turn_str _ z t "str_ascii_iterator" (.inl rfl)) ⟨_, Heap.get?_push_size _ rfl, rfl, rfl⟩ q
/-- over a value that is read -/
theorem di_val {e : Expr} {f : Fn PyData} (hK : X.K = C.K) (h : PE X e (tR C f)) : PI X tg e (tI C (KeepE C) fun Γ S => (f Γ S).bind fun x S1 => lift (itemsOf x) S1) :=
  PI.imp (pi_seq h) fun σ H R ⟨Γ, W, S, he, hw, p⟩ => tG_then he hw p (fun c d S' h => h) fun x S1 v H1 W1 s1 v1 e1 r1 p1 => by
    cases x with
    | list xs =>
      obtain ⟨a, vs, rfl, h1, h2⟩ := r1.list
      refine .inl ⟨a, vs, rfl, by rw [hK]; exact h1.sq v1, ?_⟩
      rw [hK]
      exact p1 _ H1 W1 _ s1 v1 (wk_list (dpAll_len h2)) ⟨h1, h2⟩ fun H2 W2 H3 W3 s2 g => ⟨g.1.stp s2, dpAll_mono s2.w g.2⟩
    | tuple xs =>
      obtain ⟨a, vs, rfl, h1, h2⟩ := r1.tuple
      refine .inr (.inl ⟨a, vs, rfl, v1.sqT h1, ?_⟩)
      rw [hK]
      exact p1 _ H1 W1 _ s1 v1 (wk_tup (dpAll_len h2)) ⟨h1, h2⟩ fun H2 W2 H3 W3 s2 g => ⟨sqT_mono s2.w g.1, dpAll_mono s2.w g.2⟩
    | str z =>
      obtain rfl := r1.str
      exact .inr (.inr ⟨z, rfl, p1 _ H1 W1 _ s1 v1 wk_str trivial fun _ _ _ _ _ _ => trivial⟩)
    | _ => exact p1.elim
/-- .. that is seen -/
theorem di_valS {e : Expr} {f : Fn PyData} (hK : X.K = C.K) (h : PE X e (tE C f)) : PI X tg e (tI C KeepS fun Γ S => (f Γ S).bind fun x S1 => lift (itemsOf x) S1) :=
  PI.imp (pi_seq h) fun σ H R ⟨Γ, W, S, he, hw, p⟩ => tG_then he hw p (fun c d S' h => h) fun x S1 v H1 W1 s1 v1 e1 r1 p1 => by
    cases r1 with
    | @lst a vs xs h1 h2 =>
      refine .inl ⟨a, vs, rfl, sq0 (sqL_mono v1.sub h1), ?_⟩
      rw [hK]
      exact p1 _ H1 W1 _ s1 v1 (wk_listS (dpAll_len h2)) ⟨h1, h2⟩ fun H2 W2 H3 W3 s2 g => ⟨sqL_mono s2 g.1, dpAll_mono s2 g.2⟩
    | @tup a vs xs h1 h2 =>
      refine .inr (.inl ⟨a, vs, rfl, v1.sqT h1, ?_⟩)
      rw [hK]
      exact p1 _ H1 W1 _ s1 v1 (wk_tup (dpAll_len h2)) ⟨h1, h2⟩ fun H2 W2 H3 W3 s2 g => ⟨sqT_mono s2 g.1, dpAll_mono s2 g.2⟩
    | str z => exact .inr (.inr ⟨z, rfl, p1 _ H1 W1 _ s1 v1 wk_str trivial fun _ _ _ _ _ _ => trivial⟩)
    | _ => exact p1.elim
/-- ranges (kp: either way) -/
theorem okI_b {i : Int} (h : okI i = true) : -(2 ^ 62) ≤ i ∧ i < 2 ^ 62 := of_decide_eq_true h
theorem di_rng1 {kp : (Hp → Hp → Prop) → Prop} (hk : kp fun _ _ => True) {a : Expr} {p pos : Pos} {f : Fn PyData} (hg : Gl X "range") (hm : X.mg "range" = none) (ha : PE X a (tE C f)) (hs : starEach [a] X.env = [(false, eval a X.env)]) :
    PI X tg (.Call (.Name "range" p) [a] [] pos) (tI C kp fun Γ S => (f Γ S).bind fun x S1 => lift (rngD [x]) S1) :=
  PI.imp (pi_range1 hg hm (pa_cons ha pa_nil hs) hs) fun σ H R ⟨Γ, W, S, he, hw, p⟩ => tG_then he hw p (fun c d S' h => h) fun x S1 v H1 W1 s1 v1 e1 r1 p1 => by
    cases r1 <;> try exact p1.elim
    rename_i j
    simp only [rngD] at p1
    split at p1
    · rename_i h
      exact ⟨j, rfl, (okI_b h).1, (okI_b h).2, p1 _ H1 W1 _ s1 v1 wk_rng trivial hk⟩
    · exact p1.elim
theorem di_rng2 {kp : (Hp → Hp → Prop) → Prop} (hk : kp fun _ _ => True) {a b : Expr} {p pos : Pos} {f g : Fn PyData} (hg : Gl X "range") (hm : X.mg "range" = none) (ha : PE X a (tE C f)) (hb : PE X b (tE C g)) (hs : starEach [a, b] X.env = [(false, eval a X.env), (false, eval b X.env)]) (hs2 : starEach [b] X.env = [(false, eval b X.env)]) :
    PI X tg (.Call (.Name "range" p) [a, b] [] pos) (tI C kp fun Γ S => (f Γ S).bind fun x S1 => (g Γ S1).bind fun y S2 => lift (rngD [x, y]) S2) :=
  PI.imp (pi_range2 hg hm (pa_cons ha (pa_cons hb pa_nil hs2) (by rw [hs, hs2])) hs hs2) fun σ H R ⟨Γ, W, S, he, hw, p⟩ => tG_then he hw p (fun c d S' h => h) fun x S1 v H1 W1 s1 v1 e1 r1 p1 =>
    tG_then e1 v1 p1 (xq_stp (fun c d S' h => h) s1) fun y S2 u H2 W2 s2 v2 e2 r2 p2 => by
      cases r1 <;> try exact p2.elim
      cases r2 <;> try exact p2.elim
      rename_i i j
      simp only [rngD] at p2
      split at p2
      · rename_i h
        rw [Bool.and_eq_true] at h
        exact ⟨i, j, rfl, ⟨(okI_b h.1).1, (okI_b h.1).2, (okI_b h.2).1, (okI_b h.2).2⟩, p2 _ H2 W2 _ (s1.trans s2) v2 wk_rng trivial hk⟩
      · exact p2.elim
theorem di_rng3 {kp : (Hp → Hp → Prop) → Prop} (hk : kp fun _ _ => True) {a b c : Expr} {p pos : Pos} {f g h : Fn PyData} (hg : Gl X "range") (hm : X.mg "range" = none) (ha : PE X a (tE C f)) (hb : PE X b (tE C g)) (hc : PE X c (tE C h))
    (n1 : starEach [a, b, c] X.env = (false, eval a X.env) :: starEach [b, c] X.env) (n2 : starEach [b, c] X.env = (false, eval b X.env) :: starEach [c] X.env) (n3 : starEach [c] X.env = (false, eval c X.env) :: starEach [] X.env) :
    PI X tg (.Call (.Name "range" p) [a, b, c] [] pos) (tI C kp fun Γ S => (f Γ S).bind fun x S1 => (g Γ S1).bind fun y S2 => (h Γ S2).bind fun z S3 => lift (rngD [x, y, z]) S3) :=
  PI.imp (pi_range3 hg hm (pa_cons ha (pa_cons hb (pa_cons hc pa_nil n3) n2) n1) n1 (by rw [n2, n3]; rfl)) fun σ H R ⟨Γ, W, S, he, hw, p⟩ => tG_then he hw p (fun c d S' h => h) fun x S1 v H1 W1 s1 v1 e1 r1 p1 =>
    tG_then e1 v1 p1 (xq_stp (fun c d S' h => h) s1) fun y S2 u H2 W2 s2 v2 e2 r2 p2 => tG_then e2 v2 p2 (xq_stp (fun c d S' h => h) (s1.trans s2)) fun z S3 t H3 W3 s3 v3 e3 r3 p3 => by
      cases r1 <;> try exact p3.elim
      cases r2 <;> try exact p3.elim
      cases r3 <;> try exact p3.elim
      rename_i i j k
      simp only [rngD] at p3
      split at p3
      · rename_i hh
        simp only [Bool.and_eq_true, decide_eq_true_eq] at hh
        obtain ⟨⟨h1, h2⟩, rfl⟩ := hh
        exact ⟨i, j, -1, _, rfl, RgC.neg (okI_b h1).1 (okI_b h1).2 (okI_b h2).1 (okI_b h2).2, p3 _ H3 W3 _ ((s1.trans s2).trans s3) v3 wk_rngC trivial hk⟩
      · exact p3.elim
end

/-! ### comprehensions -/
theorem wipeE_len (Γ : Env) : ∀ vs : List Nat, (wipeE Γ vs).length = Γ.length
  | [] => rfl
  | v :: vs => by unfold wipeE; rw [List.length_set, wipeE_len Γ vs]
theorem wipeE_at {Γ : Env} {i : Nat} {d : PyData} : ∀ {vs : List Nat}, (wipeE Γ vs)[i]? = some (some d) → Γ[i]? = some (some d) ∧ i ∉ vs
  | [], h => ⟨h, by simp⟩
  | v :: vs, h => by
    unfold wipeE at h
    by_cases hi : v = i
    · subst hi
      by_cases hv : v < (wipeE Γ vs).length
      · rw [List.getElem?_set_self hv] at h; cases h
      · rw [List.getElem?_eq_none (by rw [List.length_set]; omega)] at h; cases h
    · rw [List.getElem?_set_ne hi] at h
      obtain ⟨h1, h2⟩ := wipeE_at h
      exact ⟨h1, by simp only [List.mem_cons, not_or]; exact ⟨fun e => hi e.symm, h2⟩⟩
theorem EnvOk.wipe {C : Cfg} {Γ : Env} {σ : L2.St} {H W : Hp} (e : EnvOk C Γ σ H W) (vs : List Nat) : EnvOk C (wipeE Γ vs) (wipe σ vs) H W where
  len := by rw [wipeE_len, wipe_length]; exact e.len
  at_ := fun i d h => by
    obtain ⟨h1, h2⟩ := wipeE_at h
    obtain ⟨v, h3, h4⟩ := e.at_ i d h1
    exact ⟨v, by rw [wipe_out h2]; exact h3, h4⟩
  sep := fun i j p d x hij h1 h2 h3 h4 h5 => by
    obtain ⟨a1, a2⟩ := wipeE_at h3
    obtain ⟨b1, b2⟩ := wipeE_at h4
    rw [wipe_out a2] at h5
    rw [wipe_out b2]
    exact e.sep i j p d x hij h1 h2 a1 b1 h5
  zd := e.zd
theorem wipe_none {σ : L2.St} {i : Nat} : ∀ {vs : List Nat}, i ∈ vs → (wipe σ vs)[i]? = if i < σ.length then some none else none
  | v :: vs, h => by
    unfold wipe
    by_cases hi : v = i
    · subst hi
      by_cases hv : v < σ.length
      · rw [if_pos hv, List.getElem?_set_self (by rw [wipe_length]; exact hv)]
      · rw [if_neg hv, List.getElem?_eq_none (by rw [List.length_set, wipe_length]; omega)]
    · rw [List.getElem?_set_ne hi]
      exact wipe_none ((List.mem_cons.mp h).resolve_left fun e => hi e.symm)
theorem wipe_same {σ τ : L2.St} {vs : List Nat} (hl : τ.length = σ.length) (h : ∀ i, i ∉ vs → τ[i]? = σ[i]?) : L2.wipe τ vs = L2.wipe σ vs := by
  refine List.ext_getElem? fun i => ?_
  by_cases hi : i ∈ vs
  · rw [wipe_none hi, wipe_none hi, hl]
  · rw [wipe_out hi, wipe_out hi]
    exact h i hi
theorem wipe_wipe (σ : L2.St) (vs : List Nat) : L2.wipe (L2.wipe σ vs) vs = L2.wipe σ vs := wipe_same (wipe_length σ vs) fun i hi => wipe_out hi
/-- the frame's judgements inside a comprehension: nothing is raised there -/
def Cfg.inner (C : Cfg) : Cfg := { C with XQ := fun _ _ _ _ _ => False }
theorem EnvOk.inn {C : Cfg} {Γ : Env} {σ : L2.St} {H W : Hp} (e : EnvOk C Γ σ H W) : EnvOk C.inner Γ σ H W := by
  refine ⟨e.len, fun i d h => ?_, e.sep, e.zd⟩
  obtain ⟨v, h1, h2⟩ := e.at_ i d h
  refine ⟨v, h1, ?_⟩
  have hk : C.inner.kdOf i = C.kdOf i := rfl
  rw [hk]
  cases e1 : C.kdOf i with
  | nrm => rw [e1] at h2; exact h2
  | own => rw [e1] at h2; exact h2
  | hnd => rw [e1] at h2; exact h2
  | scr => rw [e1] at h2; exact h2
theorem Vw.inn {C : Cfg} {W H : Hp} {S : Draw} (v : Vw C W H S) : Vw C.inner W H S := ⟨v.sub, v.hid, v.st⟩
theorem Vw.out {C : Cfg} {W H : Hp} {S : Draw} (v : Vw C.inner W H S) : Vw C W H S := ⟨v.sub, v.hid, v.st⟩
theorem bind_ok {α β : Type} {r : Res α} {f : α → Draw → Res β} {y : β} {S' : Draw} (h : r.bind f = .ok y S') : ∃ x S, r = .ok x S ∧ f x S = .ok y S' := by
  cases r with
  | ok x S => exact ⟨x, S, rfl, h⟩
  | exc c d S => cases h
  | bad => cases h
mutual
theorem bindT_out : ∀ {t : Tg} {d : PyData} {Γ Γ' : Env} {i : Nat}, bindT t d Γ = some Γ' → i ∉ t.slots → Γ'[i]? = Γ[i]?
  | .nm j, d, Γ, Γ', i, h, hi => by
    cases h
    refine List.getElem?_set_ne fun z => hi ?_
    simp [Tg.slots, z]
  | .tp ts, .tuple xs, Γ, Γ', i, h, hi => bindTs_out (ts := ts) h hi
  | .tp _, .none, _, _, _, h, _ => by cases h
  | .tp _, .bool _, _, _, _, h, _ => by cases h
  | .tp _, .int _, _, _, _, h, _ => by cases h
  | .tp _, .str _, _, _, _, h, _ => by cases h
  | .tp _, .list _, _, _, _, h, _ => by cases h
  | .tp _, .dict _, _, _, _, h, _ => by cases h
theorem bindTs_out : ∀ {ts : List Tg} {xs : List PyData} {Γ Γ' : Env} {i : Nat}, bindTs ts xs Γ = some Γ' → i ∉ Tg.slotsL ts → Γ'[i]? = Γ[i]?
  | [], [], Γ, Γ', i, h, hi => by cases h; rfl
  | [], _ :: _, _, _, _, h, _ => by cases h
  | _ :: _, [], _, _, _, h, _ => by cases h
  | t :: ts, x :: xs, Γ, Γ', i, h, hi => by
    unfold bindTs at h
    simp only [Tg.slotsL, List.mem_append, not_or] at hi
    split at h
    · rename_i Γ1 h1
      rw [bindTs_out h hi.2, bindT_out h1 hi.1]
    · cases h
end
/-- the names as they stand later: what is ours by the names ahead, all else by what is seen -/
theorem EnvOk.later {C C' : Cfg} {Γ Γ' : Env} {σ σ' : L2.St} {H W H1 W1 : Hp} (a : EnvOk C' Γ' σ' H W) (b : EnvOk C Γ σ H1 W1) (ek : C'.kd = C.kd) (ep : C'.pm = C.pm) (eK : C'.K = C.K) (eZ : C'.Z = C.Z)
    (own : ∀ i d, C.kdOf i = .own → Γ'[i]? = some (some d) → Γ[i]? = some (some d) ∧ σ'[i]? = σ[i]?) (sub : Sub W W1) : EnvOk C' Γ' σ' H1 W1 := by
  have hk : ∀ i, C'.kdOf i = C.kdOf i := fun i => by unfold Cfg.kdOf; rw [ek]
  refine ⟨a.len, fun i d h => ?_, a.sep, fun x hx => b.zd x (by rw [← eZ]; exact hx)⟩
  obtain ⟨v, h1, h2⟩ := a.at_ i d h
  cases e : C'.kdOf i with
  | nrm => rw [e] at h2; exact ⟨v, h1, dp_mono sub h2⟩
  | hnd => rw [e] at h2; exact ⟨v, h1, h2⟩
  | scr => rw [e] at h2; exact ⟨v, h1, h2.imp (dp_mono sub) id⟩
  | own =>
    rw [hk] at e
    obtain ⟨g1, g2⟩ := own i d e h
    obtain ⟨u, k1, k2⟩ := b.at_ i d g1
    rw [e] at k2
    refine ⟨u, g2.trans k1, ?_⟩
    obtain ⟨p, vs, ds, z1, z2, z3, z4, z5, z6, z7⟩ := k2
    exact ⟨p, vs, ds, z1, z2, z3, z4, by rw [ep]; exact z5, by rw [eZ]; exact z6, z7⟩
/-- the state between two turns: what was made so far (acc), what will come (rest) -/
structure Mid (C : Cfg) (H0 W0 : Hp) (D : Addr) (total : List PyData) (H : Hp) (W : Hp) (S : Draw) (acc rest : List PyData) : Prop where
  st : Stp C.pm H0 W0 H W
  vw : Vw C W H S
  d : ∃ vs, H D = some (.lst vs) ∧ DpAll K0 W vs acc
  w : W D = none
  m : ¬ Mst H C.pm D
  all : acc ++ rest = total
theorem Mid.step {C : Cfg} {H0 W0 : Hp} {D : Addr} {total : List PyData} {H W : Hp} {S : Draw} {acc rest : List PyData} (a : Mid C H0 W0 D total H W S acc rest) {H' W' : Hp} {S' : Draw}
    (s : Stp C.pm H W H' W') (v : Vw C W' H' S') : Mid C H0 W0 D total H' W' S' acc rest := by
  obtain ⟨vs, h1, h2⟩ := a.d
  obtain ⟨h3, h4⟩ := s.k D _ h1 a.m
  refine ⟨a.st.trans s, v, ⟨vs, h3, dpAll_mono s.w h2⟩, ?_, h4, a.all⟩
  cases e : W' D with
  | none => rfl
  | some o => have := s.f D o e a.w; rw [h1] at this; cases this
/-- one more is put behind -/
theorem Mid.add {C : Cfg} {H0 W0 : Hp} {D : Addr} {total : List PyData} {H W : Hp} {S : Draw} {acc rest : List PyData} {y : PyData} (a : Mid C H0 W0 D total H W S acc (y :: rest)) (hn : H0 D = none)
    (hz : total.length ≤ 16777216) {v : V} (hv : Dp K0 W v y) : ∃ vs, H D = some (.lst vs) ∧ vs.length < sizeLine ∧ Mid C H0 W0 D total (upd H D (.lst (vs ++ [v]))) W S (acc ++ [y]) rest := by
  obtain ⟨vs, h1, h2⟩ := a.d
  refine ⟨vs, h1, ?_, ?_⟩
  · have e := congrArg List.length a.all
    rw [List.length_append, List.length_cons] at e
    rw [dpAll_len h2, sizeLine_eq]
    omega
  · refine ⟨a.st.put hn a.m, a.vw.put a.w a.m, ⟨_, upd_same, dpAll_append h2 (.cons hv .nil)⟩, a.w, fun m => a.m ((mst_upd fun z => a.m (.inl z.symm)).mp m), ?_⟩
    rw [← a.all]
    simp
theorem Mid.first {C : Cfg} {H W : Hp} {S : Draw} (v : Vw C W H S) {D : Addr} (hD : H D = none) (ys : List PyData) : Mid C H W D ys (upd H D (.lst [])) W S [] ys :=
  ⟨Stp.newH v hD, v.newH hD, ⟨[], upd_same, .nil⟩, v.wnone hD, fun m => v.new_ne hD ((mst_upd (v.pm_ne hD)).mp m), rfl⟩
theorem drop_at {α : Type} {xs : List α} {i : Nat} {d : α} (h : xs[i]? = some d) : xs.drop i = d :: xs.drop (i + 1) := by
  obtain ⟨hlt, hx⟩ := List.getElem?_eq_some_iff.mp h
  rw [List.drop_eq_getElem_cons hlt, hx]
section
variable {X : Cx} {C : Cfg}
/-- one turn's tests and element -/
theorem turn_go {fT : Fn Bool} {fE : Fn PyData} {Γ : Env} {σ : L2.St} {H W : Hp} {S S' : Draw} {ys : List PyData} {R : Hp → Prop} {D : Addr} (he : EnvOk C.inner Γ σ H W) (hv : Vw C W H S)
    (h : ((fT Γ S).bind fun b S1 => if b then (fE Γ S1).bind fun y S2 => .ok [y] S2 else .ok [] S1) = .ok ys S')
    (one : ∀ y v H' W', ys = [y] → Stp C.pm H W H' W' → Vw C W' H' S' → Dp K0 W' v y → ∃ acc, H' D = some (.lst acc) ∧ acc.length < sizeLine ∧ R (upd H' D (.lst (acc ++ [v]))))
    (none : ∀ H' W', ys = [] → Stp C.pm H W H' W' → Vw C W' H' S' → R H') :
    tT C.inner fT σ H fun b H3 => if b = true then tE C.inner fE σ H3 fun y H4 => ∃ acc, H4 D = some (.lst acc) ∧ acc.length < sizeLine ∧ R (upd H4 D (.lst (acc ++ [y]))) else R H3 := by
  obtain ⟨b, S1, e1, h⟩ := bind_ok h
  refine ⟨Γ, W, S, he, hv.inn, ?_⟩
  rw [e1]
  intro b' H1 W1 s1 v1 eb
  subst eb
  cases b' with
  | false =>
    rw [if_neg Bool.false_ne_true]
    cases h
    exact none H1 W1 rfl s1 v1.out
  | true =>
    rw [if_pos rfl]
    obtain ⟨y, S2, e2, h⟩ := bind_ok (show ((fE Γ S1).bind fun y S2 => Res.ok [y] S2) = .ok ys S' from h)
    cases h
    refine ⟨Γ, W1, S1, he.stp s1, v1, ?_⟩
    rw [e2]
    exact fun v H2 W2 s2 v2 d2 => one y v H2 W2 rfl (s1.trans s2) v2.out d2
theorem few_ok {r : Res (List PyData)} {P : List PyData → Draw → Prop} {E : Nat → PyData → Draw → Prop} (h : (few (noexc r)).Post P E) : ∃ ys S, r = .ok ys S ∧ ys.length ≤ 16777216 ∧ P ys S := by
  cases r with
  | ok ys S =>
    obtain ⟨h1, h2⟩ := few_of (show (if ys.length ≤ 16777216 then Res.ok ys S else .bad).Post P E from h)
    exact ⟨ys, S, rfl, h1, h2⟩
  | exc c d S => exact h.elim
  | bad => exact h.elim
/-- [elt for t in it if ..], its reading from the data -/
theorem lc_data {t : Tg} {fI : Fn (List PyData)} {fT : Fn Bool} {fE : Fn PyData} {vs : List Nat} (hsl : ∀ i ∈ t.slots, i ∈ vs) {σ : L2.St} {H : Hp} {Q : VK} (p : tF C (fun Γ S => (fI Γ S).bind fun xs S0 => few (noexc (cmpL (fun x S => match bindT t x (wipeE Γ vs) with
      | some Γ' => (fT Γ' S).bind fun b S1 => if b then (fE Γ' S1).bind fun y S2 => .ok [y] S2 else .ok [] S1
      | none => .bad) xs S0))) σ H Q) :
    tLc (tI C (KeepE C) fI) (tgD C.inner t) (tT C.inner fT) (tE C.inner fE) vs σ H Q := by
  obtain ⟨Γ, W, S, en, hw, p⟩ := p
  refine ⟨Γ, W, S, en, hw, ?_⟩
  dsimp only at p
  cases e0 : fI Γ S with
  | bad => rw [e0] at p; exact p.elim
  | exc c d S' => rw [e0] at p; exact p
  | ok xs S0 =>
    rw [e0] at p
    obtain ⟨ys, S', e1, hz, q⟩ := few_ok p
    intro J H1 W1 G s1 v1 wk g kp D hD
    have hD0 : H D = none := by
      cases e : H D with
      | none => rfl
      | some o => obtain ⟨o', e'⟩ := s1.t D o e; rw [hD] at e'; cases e'
    generalize hbody : (fun x S => match bindT t x (wipeE Γ vs) with
      | some Γ' => (fT Γ' S).bind fun b S1 => if b then (fE Γ' S1).bind fun y S2 => .ok [y] S2 else .ok [] S1
      | none => Res.bad) = body at e1
    refine ⟨fun i m Hi => m = xs.length - i ∧ i ≤ xs.length ∧ ∃ Wi Si acc rest, Mid C H1 W1 D ys Hi Wi Si acc rest ∧ cmpL body (xs.drop i) Si = .ok rest S', ⟨xs.length, by simp, Nat.zero_le _, W1, S0, [], ys, Mid.first v1 hD ys, by simpa using e1⟩, ?_⟩
    rintro i m Hi ⟨rfl, hi, Wi, Si, acc, rest, mid, eq⟩
    have gi := kp _ _ _ _ mid.st g
    by_cases hlt : i < xs.length
    · refine .inr ⟨wk.go i Hi Wi Si mid.vw gi hlt, fun H' => i + 1 ≤ xs.length ∧ ∃ Wj Sj acc' rest', Mid C H1 W1 D ys H' Wj Sj acc' rest' ∧ cmpL body (xs.drop (i + 1)) Sj = .ok rest' S', fun H' h' => ⟨xs.length - (i + 1), by omega, rfl, h'.1, h'.2⟩, fun x H' y => ?_⟩
      obtain ⟨d, W', hd, s2, v2, dx⟩ := wk.yld i Hi Wi Si x H' mid.vw gi hlt y
      rw [drop_at hd] at eq
      obtain ⟨zs, S1, eb, eq⟩ := bind_ok (show ((body d Si).bind fun ys S1 => (cmpL body (xs.drop (i + 1)) S1).bind fun zs S2 => Res.ok (ys ++ zs) S2) = .ok rest S' from eq)
      obtain ⟨rest', S2, er, eq⟩ := bind_ok eq
      cases eq
      have mid2 := mid.step s2 v2
      rw [← hbody] at eb
      dsimp only at eb
      split at eb
      · rename_i Γ' hb
        refine ⟨wipeE Γ vs, W', Si, d, Γ', ((en.stp ((s1.trans mid.st).trans s2)).wipe _).inn, v2.inn, dx, hb, fun σ2 e2 l2 k2 => ?_⟩
        refine ⟨?_, ?_⟩
        · rw [← wipe_wipe σ]
          exact wipe_same l2 fun j hj => k2 j fun hj' => hj (hsl j hj')
        · refine turn_go (D := D) e2 v2 eb (fun z v H3 W3 hz3 s3 v3 d3 => ?_) fun H3 W3 hz3 s3 v3 => ?_
          · subst hz3
            obtain ⟨vs, a1, a2, a3⟩ := Mid.add (y := z) (rest := rest') (by simpa using mid2.step s3 v3) hD hz d3
            exact ⟨vs, a1, a2, hlt, W3, S1, _, rest', a3, er⟩
          · subst hz3
            exact ⟨hlt, W3, S1, acc, rest', by simpa using mid2.step s3 v3, er⟩
      · cases eb
    · have ei : i = xs.length := by omega
      subst ei
      refine .inl ⟨wk.stop Hi Wi Si mid.vw gi, ?_⟩
      rw [List.drop_length] at eq
      cases eq
      obtain ⟨vs, h1, h2⟩ := mid.d
      have ea : acc = ys := by have := mid.all; simpa using this
      subst ea
      exact q D vs Hi Wi (s1.trans mid.st) mid.vw hD0 h1 mid.w mid.m h2
/-- .. a new hidden list -/
theorem de_compF {elt tg iter : Expr} {ifs : List Expr} {scope : Scope} {own : List (Str × Nat)} {pos : Pos} {t : Tg} {fI : Fn (List PyData)} {fT : Fn Bool} {fE : Fn PyData} (hc : X.calm = true) (nd : X.N.Nodup) (hi : PI X tg iter (tI C (KeepE C) fI)) (ok : BlkOk X.N X.env.scope scope own)
    (hg : ∀ (s : Shared) (H : Hp) (a : Addr) (cl : List (Str × Addr)) (fp : List Addr), PG (X.blk s H scope (compEnvC scope cl a X.env) fp) tg (tgD C.inner t)) (ht : ∀ (s : Shared) (H : Hp) (a : Addr) (cl : List (Str × Addr)) (fp : List Addr), PTs (X.blk s H scope (compEnvC scope cl a X.env) fp) ifs (tT C.inner fT))
    (he : ∀ (s : Shared) (H : Hp) (a : Addr) (cl : List (Str × Addr)) (fp : List Addr), PE (X.blk s H scope (compEnvC scope cl a X.env) fp) elt (tE C.inner fE)) (hs : ∀ x, foldedSetIterable iter X.env x = pure x) (hsl : ∀ i ∈ t.slots, i ∈ own.map (·.2)) :
    PE X (.ListComp elt [⟨tg, iter, ifs, 0⟩] scope pos) (tF C fun Γ S => (fI Γ S).bind fun xs S0 => few (noexc (cmpL (fun x S => match bindT t x (wipeE Γ (own.map (·.2))) with
      | some Γ' => (fT Γ' S).bind fun b S1 => if b then (fE Γ' S1).bind fun y S2 => .ok [y] S2 else .ok [] S1
      | none => .bad) xs S0))) := by
  exact PE.imp (pe_lc hc nd hi ok hg ht he hs) fun σ H Q p => lc_data hsl p
/-- [elt for t in it if .. for t2 in it2 if ..], its reading from the data -/
theorem lc2_data {t t1 : Tg} {fI fI1 : Fn (List PyData)} {fT fT1 : Fn Bool} {fE : Fn PyData} {vs vs1 : List Nat} (hsl : ∀ i ∈ t.slots, i ∈ vs) (hsl1 : ∀ i ∈ t1.slots, i ∈ vs1) (hnr : ∀ i ∈ t.slots, C.kdOf i = .nrm) {σ : L2.St} {H : Hp} {Q : VK} (p : tF C (fun Γ S => (fI Γ S).bind fun xs S0 => few (noexc (cmpL (fun x S => match bindT t x (wipeE Γ vs) with
      | some Γ' => (fT Γ' S).bind fun b S1 => if b then
          (fI1 Γ' S1).bind fun ys S2 => cmpL (fun y S => match bindT t1 y (wipeE Γ' vs1) with
            | some Γ2 => (fT1 Γ2 S).bind fun b S1 => if b then (fE Γ2 S1).bind fun z S2 => .ok [z] S2 else .ok [] S1
            | none => .bad) ys S2
        else .ok [] S1
      | none => .bad) xs S0))) σ H Q) :
    tLc2 (tI C (KeepE C) fI) (tgD C.inner t) (tT C.inner fT) (tI C.inner KeepS fI1) (tgD C.inner t1) (tT C.inner fT1) (tE C.inner fE) vs vs1 σ H Q := by
  obtain ⟨Γ, W, S, en, hw, p⟩ := p
  refine ⟨Γ, W, S, en, hw, ?_⟩
  dsimp only at p
  cases e0 : fI Γ S with
  | bad => rw [e0] at p; exact p.elim
  | exc c d S' => rw [e0] at p; exact p
  | ok xs S0 =>
    rw [e0] at p
    obtain ⟨ys, S', e1, hz, q⟩ := few_ok p
    intro J H1 W1 G s1 v1 wk g kp D hD
    have hD0 : H D = none := by
      cases e : H D with
      | none => rfl
      | some o => obtain ⟨o', e'⟩ := s1.t D o e; rw [hD] at e'; cases e'
    generalize hbody : (fun x S => match bindT t x (wipeE Γ vs) with
      | some Γ' => (fT Γ' S).bind fun b S1 => if b then
          (fI1 Γ' S1).bind fun ys S2 => cmpL (fun y S => match bindT t1 y (wipeE Γ' vs1) with
            | some Γ2 => (fT1 Γ2 S).bind fun b S1 => if b then (fE Γ2 S1).bind fun z S2 => .ok [z] S2 else .ok [] S1
            | none => .bad) ys S2
        else .ok [] S1
      | none => Res.bad) = body at e1
    refine ⟨fun i m Hi => m = xs.length - i ∧ i ≤ xs.length ∧ ∃ Wi Si acc rest, Mid C H1 W1 D ys Hi Wi Si acc rest ∧ cmpL body (xs.drop i) Si = .ok rest S', ⟨xs.length, by simp, Nat.zero_le _, W1, S0, [], ys, Mid.first v1 hD ys, by simpa using e1⟩, ?_⟩
    rintro i m Hi ⟨rfl, hi, Wi, Si, acc, rest, mid, eq⟩
    have gi := kp _ _ _ _ mid.st g
    by_cases hlt : i < xs.length
    · refine .inr ⟨wk.go i Hi Wi Si mid.vw gi hlt, fun H' => i + 1 ≤ xs.length ∧ ∃ Wj Sj acc' rest', Mid C H1 W1 D ys H' Wj Sj acc' rest' ∧ cmpL body (xs.drop (i + 1)) Sj = .ok rest' S', fun H' h' => ⟨xs.length - (i + 1), by omega, rfl, h'.1, h'.2⟩, fun x H' y => ?_⟩
      obtain ⟨d, W', hd, s2, v2, dx⟩ := wk.yld i Hi Wi Si x H' mid.vw gi hlt y
      rw [drop_at hd] at eq
      obtain ⟨zs, S1, eb, eq⟩ := bind_ok (show ((body d Si).bind fun ys S1 => (cmpL body (xs.drop (i + 1)) S1).bind fun zs S2 => Res.ok (ys ++ zs) S2) = .ok rest S' from eq)
      obtain ⟨rest', S2, er, eq⟩ := bind_ok eq
      cases eq
      have mid2 := mid.step s2 v2
      rw [← hbody] at eb
      dsimp only at eb
      split at eb
      · rename_i Γ' hb
        refine ⟨wipeE Γ vs, W', Si, d, Γ', ((en.stp ((s1.trans mid.st).trans s2)).wipe _).inn, v2.inn, dx, hb, fun σ2 e2 l2 k2 => ?_⟩
        refine ⟨?_, ?_⟩
        · rw [← wipe_wipe σ]
          exact wipe_same l2 fun j hj => k2 j fun hj' => hj (hsl j hj')
        · obtain ⟨b, T1, et, eb⟩ := bind_ok eb
          refine ⟨Γ', W', Si, e2, v2.inn, ?_⟩
          rw [et]
          intro b' H3 W3 s3 v3 eb'
          subst eb'
          have mid3 := mid2.step s3 v3.out
          cases b' with
          | false =>
            rw [if_neg Bool.false_ne_true]
            cases eb
            exact ⟨hlt, W3, _, acc, rest', by simpa using mid3, er⟩
          | true =>
            rw [if_pos rfl]
            obtain ⟨us, T2, eu, eb⟩ := bind_ok (show ((fI1 Γ' T1).bind fun ys S2 => cmpL (fun y S => match bindT t1 y (wipeE Γ' vs1) with
              | some Γ2 => (fT1 Γ2 S).bind fun b S1 => if b then (fE Γ2 S1).bind fun z S2 => .ok [z] S2 else .ok [] S1
              | none => .bad) ys S2) = .ok zs S1 from eb)
            refine ⟨Γ', W3, T1, e2.stp s3, v3, ?_⟩
            rw [eu]
            intro J1 H4 W4 G1 s4 v4 wk1 g1 kp1
            have mid4 := mid3.step s4 v4.out
            generalize hbody1 : (fun y S => match bindT t1 y (wipeE Γ' vs1) with
              | some Γ2 => (fT1 Γ2 S).bind fun b S1 => if b then (fE Γ2 S1).bind fun z S2 => .ok [z] S2 else .ok [] S1
              | none => Res.bad) = body1 at eb
            refine ⟨fun j k Hj => k = us.length - j ∧ j ≤ us.length ∧ ∃ Wj Sj acc1 rest1, Mid C H1 W1 D ys Hj Wj Sj acc1 (rest1 ++ rest') ∧ Sub W4 Wj ∧ EnvOk C.inner Γ' σ2 Hj Wj ∧ cmpL body1 (us.drop j) Sj = .ok rest1 S1, ⟨us.length, by simp, Nat.zero_le _, W4, T2, acc, zs, mid4, fun _ _ h => h, (e2.stp s3).stp s4, by simpa using eb⟩, ?_⟩
            have envAt : ∀ {Hk Wk : Hp}, Sub W4 Wk → Stp C.pm H1 W1 Hk Wk → EnvOk C.inner Γ' σ2 Hk Wk := fun {Hk Wk} sb st => by
              refine EnvOk.later ((e2.stp s3).stp s4) (en.stp (s1.trans st)) rfl rfl rfl rfl (fun l dl ho hl => ?_) sb
              have nl : l ∉ t.slots := fun z => by rw [hnr l z] at ho; cases ho
              rw [bindT_out hb nl] at hl
              obtain ⟨g1, g2⟩ := wipeE_at hl
              exact ⟨g1, (k2 l nl).trans (wipe_out g2)⟩
            rintro j k Hj ⟨rfl, hj, Wj, Sj, acc1, rest1, midj, subj, envj, eqj⟩
            have gj := kp1 _ _ Hj Wj subj g1
            by_cases hjl : j < us.length
            · refine .inr ⟨wk1.go j Hj Wj Sj midj.vw.inn gj hjl, fun H' => j + 1 ≤ us.length ∧ ∃ Wk Sk acc2 rest2, Mid C H1 W1 D ys H' Wk Sk acc2 (rest2 ++ rest') ∧ Sub W4 Wk ∧ EnvOk C.inner Γ' σ2 H' Wk ∧ cmpL body1 (us.drop (j + 1)) Sk = .ok rest2 S1, fun H' h' => ⟨us.length - (j + 1), by omega, rfl, h'.1, h'.2⟩, fun x1 H5 y1 => ?_⟩
              obtain ⟨d1, W5, hd1, s5, v5, dx1⟩ := wk1.yld j Hj Wj Sj x1 H5 midj.vw.inn gj hjl y1
              rw [drop_at hd1] at eqj
              obtain ⟨ws, T3, ew, eqj⟩ := bind_ok (show ((body1 d1 Sj).bind fun ys S1 => (cmpL body1 (us.drop (j + 1)) S1).bind fun zs S2 => Res.ok (ys ++ zs) S2) = .ok rest1 S1 from eqj)
              obtain ⟨rest2, T4, er2, eqj⟩ := bind_ok eqj
              cases eqj
              have mid5 := midj.step s5 v5.out
              rw [← hbody1] at ew
              dsimp only at ew
              split at ew
              · rename_i Γ2 hb2
                refine ⟨wipeE Γ' vs1, W5, Sj, d1, Γ2, (envj.stp s5).wipe _, v5, dx1, hb2, fun σ3 e3 l3 k3 => ?_⟩
                refine ⟨?_, ?_⟩
                · rw [← wipe_wipe σ2]
                  exact wipe_same l3 fun l hl => k3 l fun hl' => hl (hsl1 l hl')
                · refine turn_go (D := D) e3 v5.out ew (fun z v H6 W6 hz6 s6 v6 d6 => ?_) fun H6 W6 hz6 s6 v6 => ?_
                  · subst hz6
                    obtain ⟨vs, a1, a2, a3⟩ := Mid.add (y := z) (rest := rest2 ++ rest') (by simpa using mid5.step s6 v6) hD hz d6
                    have sb6 : Sub W4 W6 := fun a o h => s6.w a o (s5.w a o (subj a o h))
                    exact ⟨vs, a1, a2, hjl, W6, T3, _, rest2, a3, sb6, envAt sb6 a3.st, er2⟩
                  · subst hz6
                    exact ⟨hjl, W6, T3, acc1, rest2, by simpa using mid5.step s6 v6, fun a o h => s6.w a o (s5.w a o (subj a o h)), (envj.stp s5).stp s6, er2⟩
              · cases ew
            · have ej : j = us.length := by omega
              subst ej
              rw [List.drop_length] at eqj
              cases eqj
              exact .inl ⟨wk1.stop Hj Wj _ midj.vw.inn gj, hlt, Wj, _, acc1, rest', by simpa using midj, er⟩
      · cases eb
    · have ei : i = xs.length := by omega
      subst ei
      refine .inl ⟨wk.stop Hi Wi Si mid.vw gi, ?_⟩
      rw [List.drop_length] at eq
      cases eq
      obtain ⟨vs, h1, h2⟩ := mid.d
      have ea : acc = ys := by have := mid.all; simpa using this
      subst ea
      exact q D vs Hi Wi (s1.trans mid.st) mid.vw hD0 h1 mid.w mid.m h2
theorem de_comp2F {elt tg iter tg1 iter1 : Expr} {ifs ifs1 : List Expr} {scope : Scope} {own : List (Str × Nat)} {vs1 : List Nat} {pos : Pos} {t t1 : Tg} {fI fI1 : Fn (List PyData)} {fT fT1 : Fn Bool} {fE : Fn PyData} (hc : X.calm = true) (nd : X.N.Nodup) (hi : PI X tg iter (tI C (KeepE C) fI)) (ok : BlkOk X.N X.env.scope scope own) (hv : ∀ i ∈ vs1, i ∈ own.map (·.2))
    (hg : ∀ (s : Shared) (H : Hp) (a : Addr) (cl : List (Str × Addr)) (fp : List Addr), PG (X.blk s H scope (compEnvC scope cl a X.env) fp) tg (tgD C.inner t)) (ht : ∀ (s : Shared) (H : Hp) (a : Addr) (cl : List (Str × Addr)) (fp : List Addr), PTs (X.blk s H scope (compEnvC scope cl a X.env) fp) ifs (tT C.inner fT))
    (hi1 : ∀ (s : Shared) (H : Hp) (a : Addr) (cl : List (Str × Addr)) (fp : List Addr), PI (X.blk s H scope (compEnvC scope cl a X.env) fp) tg1 iter1 (tI C.inner KeepS fI1))
    (hg1 : ∀ (s : Shared) (H : Hp) (a : Addr) (cl : List (Str × Addr)) (fp : List Addr), PG (X.blk s H scope (compEnvC scope cl a X.env) fp) tg1 (tgD C.inner t1)) (ht1 : ∀ (s : Shared) (H : Hp) (a : Addr) (cl : List (Str × Addr)) (fp : List Addr), PTs (X.blk s H scope (compEnvC scope cl a X.env) fp) ifs1 (tT C.inner fT1))
    (he : ∀ (s : Shared) (H : Hp) (a : Addr) (cl : List (Str × Addr)) (fp : List Addr), PE (X.blk s H scope (compEnvC scope cl a X.env) fp) elt (tE C.inner fE)) (hs : ∀ x, foldedSetIterable iter X.env x = pure x) (hs1 : ∀ env x, foldedSetIterable iter1 env x = pure x) (hsl : ∀ i ∈ t.slots, i ∈ own.map (·.2)) (hsl1 : ∀ i ∈ t1.slots, i ∈ vs1) (hnr : ∀ i ∈ t.slots, C.kdOf i = .nrm) :
    PE X (.ListComp elt [⟨tg, iter, ifs, 0⟩, ⟨tg1, iter1, ifs1, 0⟩] scope pos) (tF C fun Γ S => (fI Γ S).bind fun xs S0 => few (noexc (cmpL (fun x S => match bindT t x (wipeE Γ (own.map (·.2))) with
      | some Γ' => (fT Γ' S).bind fun b S1 => if b then
          (fI1 Γ' S1).bind fun ys S2 => cmpL (fun y S => match bindT t1 y (wipeE Γ' vs1) with
            | some Γ2 => (fT1 Γ2 S).bind fun b S1 => if b then (fE Γ2 S1).bind fun z S2 => .ok [z] S2 else .ok [] S1
            | none => .bad) ys S2
        else .ok [] S1
      | none => .bad) xs S0))) := by
  exact PE.imp (pe_lc2 hc nd hi ok hv hg ht hi1 hg1 ht1 he hs hs1) fun σ H Q p => lc2_data hsl hsl1 hnr p
end
end PD
/-! P8: zip and enumerate over lists and tuples in any mix; isinstance; methods of texts; list and tuple of a range. -/
namespace PD
open PySem PySem.Spec PyProof.Rows L2

/-- a list or a tuple, by its place -/
inductive Src where
  | l (a : Addr)
  | t (a : Addr)
def Src.at : Src → Addr
  | .l a => a
  | .t a => a
def Src.sq (K : PySem.W.Frag) (H : Hp) (xs : List V) : Src → Prop
  | .l a => SqL K H a xs
  | .t a => SqT K H a xs
def Src.isIt (h : Heap) (it : Addr) (i : Nat) : Src → Prop
  | .l a => h.IsListIter it a i
  | .t a => h.IsTupleIter it a i
def Src.is (h : Heap) (its : Array Value) : Src → Prop
  | .l a => h.IsList a its
  | .t a => h.IsTuple a its
theorem Src.draws {prog : Program} {w : World} {A : Around} (hh : A.handled = none) (s : Src) (it : Addr) (ne : s.at ≠ it) (its : Array Value) :
    Draws prog w A it [it, s.at] its.size (fun i v => its[i]? = some v) (fun i h => s.isIt h it i ∧ s.is h its) := by
  cases s with
  | l a => exact Draws.list hh it a ne its
  | t a => exact Draws.tuple hh it a ne its
theorem Src.have_ {X : Cx} {pins : List (Addr × Obj)} {σ : L2.St} {H : Hp} {s : Shared} (I : Inv X pins σ H s) {r : Src} {xs : List V} (h : r.sq X.K H xs) : ∃ its : List Value, Vals xs its ∧ r.is s.heap its.toArray ∧ xs.length = its.length := by
  cases r with
  | l a =>
    obtain ⟨its, rv, p, _⟩ := I.list h
    exact ⟨its, rv, p.isList, rv.length⟩
  | t a =>
    obtain ⟨its, rv, p, _⟩ := I.tuple h
    exact ⟨its, rv, p, rv.length⟩
theorem Src.inj {X : Cx} {pins : List (Addr × Obj)} {σ : L2.St} {H : Hp} {s : Shared} (I : Inv X pins σ H s) {r : Src} {xs ys : List V} (h : r.sq X.K H xs) (h' : r.sq X.K H ys) : xs = ys := by
  cases r with
  | l a => exact I.list_inj h h'
  | t a => exact I.tuple_inj h h'
theorem Src.isIt_obj {h : Heap} {it : Addr} {i : Nat} {r : Src} (x : r.isIt h it i) : ∃ o, h.get? it = some o ∧ ∀ v, o.data ≠ .cell v := by
  cases r with
  | l a =>
    obtain ⟨o, e, c, d⟩ := x
    exact ⟨o, e, fun v z => by rw [d] at z; cases z⟩
  | t a =>
    obtain ⟨o, e, c, d⟩ := x
    exact ⟨o, e, fun v z => by rw [d] at z; cases z⟩
theorem Src.isIt_keep {h h' : Heap} {it : Addr} {i : Nat} {r : Src} (x : r.isIt h it i) (k : ∀ o, h.get? it = some o → h'.get? it = some o) : r.isIt h' it i := by
  cases r with
  | l a => exact Heap.IsListIter.at x k
  | t a => exact Heap.IsTupleIter.at x k
theorem Src.lt {h : Heap} {its : Array Value} {r : Src} (x : r.is h its) : r.at < h.objs.size := by
  cases r with
  | l a => obtain ⟨o, e, _⟩ := x; exact Heap.lt_size e
  | t a => obtain ⟨o, e, _⟩ := x; exact Heap.lt_size e

theorem Src.begins (r : Src) (its : Array Value) : ∃ o, Begins (.ref r.at) o (fun h => r.is h its) ∧ ∀ (h : Heap) (a : Addr), h.get? a = some o → r.isIt h a 0 := by
  cases r with
  | l a => exact ⟨_, begins_list a its, fun h b e => ⟨_, e, rfl, rfl⟩⟩
  | t a => exact ⟨_, begins_tuple a its, fun h b e => ⟨_, e, rfl, rfl⟩⟩

/-! ### zip -/
def ItZ (K : PySem.W.Frag) (r q : Src) : It :=
  ⟨fun i H => ∃ xs ys x y, r.sq K H xs ∧ q.sq K H ys ∧ xs[i]? = some x ∧ ys[i]? = some y,
    fun i H v H' => ∃ T x y, v = .ref T ∧ H T = none ∧ H' = upd H T (.tup [x, y]) ∧ (∀ xs, r.sq K H xs → xs[i]? = some x) ∧ ∀ ys, q.sq K H ys → ys[i]? = some y,
    fun i H => ∃ xs ys : List V, r.sq K H xs ∧ q.sq K H ys ∧ i = min xs.length ys.length⟩
theorem five {c z TI TO i1 i2 : Addr} (h : c ∈ [z, TI, TO, i1, i2]) : c = z ∨ c = TI ∨ c = TO ∨ c = i1 ∨ c = i2 := by simpa using h
theorem turn_zipS {P : Program} {w : World} {K : PySem.W.Frag} {elts : List Expr} {kk : Nat} {tpos : Pos} {r q : Src} {z TI TO i1 i2 : Addr} (sep : ZipSep2 z TI TO i1 i2 [i1, r.at] [i2, q.at]) (n1 : r.at ≠ i1) (n2 : q.at ≠ i2) :
    Turn P w K (.Tuple elts kk tpos) (ItZ K r q) [z, TI, TO, i1, i2] z (fun i h => IsZip h z TI TO .none ∧ IsTupOf2 h TI (.ref i1) (.ref i2) ∧ (∃ a1 a2, IsTupOf2 h TO a1 a2) ∧ r.isIt h i1 i ∧ q.isIt h i2 i) where
  mem := by simp
  obj := fun i h st b hb => by
    obtain ⟨h1, h2, ⟨a1, a2, h3⟩, h4, h5⟩ := st
    rcases five hb with e | e | e | e | e
    · rw [e]; exact ⟨_, h1, fun v z => nomatch z⟩
    · rw [e]; exact ⟨_, h2, fun v z => nomatch z⟩
    · rw [e]; exact ⟨_, h3, fun v z => nomatch z⟩
    · rw [e]; exact Src.isIt_obj h4
    · rw [e]; exact Src.isIt_obj h5
  keep := fun i h h' st k => by
    obtain ⟨h1, h2, ⟨a1, a2, h3⟩, h4, h5⟩ := st
    exact ⟨k z (by simp) _ h1, k TI (by simp) _ h2, ⟨a1, a2, k TO (by simp) _ h3⟩, Src.isIt_keep h4 (k i1 (by simp)), Src.isIt_keep h5 (k i2 (by simp))⟩
  item := by
    intro X hP hw hK hc i pins s σ H E I hf st hg
    subst hP hw hK
    obtain ⟨xs, ys, x, y, sx, sy, hx, hy⟩ := hg
    obtain ⟨its, rv, is1, l1⟩ := Src.have_ I sx
    obtain ⟨its2, rv2, is2, l2⟩ := Src.have_ I sy
    obtain ⟨u, hu, ru⟩ := rv.get hx
    obtain ⟨u2, hu2, ru2⟩ := rv2.get hy
    obtain ⟨z1, z2, z3, z4, z5⟩ := st
    have hh : X.A.in1.handled = none := I.ok.hd hc
    have G := GoesN.zip2 (elts := elts) (x1 := kk) (pos := tpos) (A := X.A) sep (Src.draws (prog := X.prog) (w := X.w) hh r i1 n1 its.toArray) (Src.draws hh q i2 n2 its2.toArray)
    have hi1 : i < its.length := by rw [← l1]; exact (List.getElem?_eq_some_iff.mp hx).1
    have hi2 : i < its2.length := by rw [← l2]; exact (List.getElem?_eq_some_iff.mp hy).1
    refine G.goes i s (fun v s2 => ∃ x H', Inv X pins σ H' s2 ∧ RelV x v ∧ (ItZ X.K r q).yld i H x H' ∧ _ ∧ ∀ b ∈ [z, TI, TO, i1, i2], H' b = none) E (by simp; omega) ⟨z1, z2, z3, ⟨z4, is1⟩, z5, is2⟩ fun v h' tk Y st' hk _ => ?_
    obtain ⟨T, a, b, rfl, hT, ha, hb, tup⟩ := Y
    obtain rfl : u = a := by
      have : its[i]? = some a := by simpa using ha
      rw [hu] at this; exact Option.some.inj this
    obtain rfl : u2 = b := by
      have : its2[i]? = some b := by simpa using hb
      rw [hu2] at this; exact Option.some.inj this
    have nH : H T = none := I.hok.fresh hT
    have new : ObjOk X.prog X.w (upd H T (.tup [x, y])) h' T (.tup [x, y]) := ⟨by show 2 ≤ sizeLine; decide, [u, u2], .cons ru (.cons ru2 .nil), tup⟩
    have I1 : Inv X pins σ (upd H T (.tup [x, y])) { s with heap := h', toks := tk } :=
      I.turnedNew (t' := tk) (ch := [z, TI, TO, i1, i2]) (fun c o hb' e => hk c o (fun hm => hb' (by simp only [List.mem_cons, List.not_mem_nil, or_false] at hm ⊢; rcases hm with e | e | e | e <;> simp [e])) e) hf hT new
    refine ⟨.ref T, _, I1, rfl, ⟨T, x, y, rfl, nH, rfl, fun zs hz => by rw [Src.inj I hz sx]; exact hx, fun zs hz => by rw [Src.inj I hz sy]; exact hy⟩, ⟨st'.1, st'.2.1, st'.2.2.1, st'.2.2.2.1.1, st'.2.2.2.2.1⟩, fun c hcm => ?_⟩
    rw [upd_ne fun e => ?_]
    · exact (hf c hcm).1
    · have hlt : c < s.heap.objs.size := by
        rcases five hcm with e | e | e | e | e
        · rw [e]; exact Heap.lt_size z1
        · rw [e]; exact Heap.lt_size z2
        · obtain ⟨_, _, z3⟩ := z3; rw [e]; exact Heap.lt_size z3
        · obtain ⟨_, e1, _⟩ := Src.isIt_obj z4; rw [e]; exact Heap.lt_size e1
        · obtain ⟨_, e1, _⟩ := Src.isIt_obj z5; rw [e]; exact Heap.lt_size e1
      rw [e] at hlt
      exact absurd (Nat.lt_of_lt_of_le hlt hT) (Nat.lt_irrefl _)
  done := by
    intro X hP hw hK hc i pins s σ H E I hf st hg
    subst hP hw hK
    obtain ⟨xs, ys, sx, sy, hend⟩ := hg
    obtain ⟨its, rv, is1, l1⟩ := Src.have_ I sx
    obtain ⟨its2, rv2, is2, l2⟩ := Src.have_ I sy
    obtain ⟨z1, z2, z3, z4, z5⟩ := st
    have hh : X.A.in1.handled = none := I.ok.hd hc
    have G := GoesN.zip2 (elts := elts) (x1 := kk) (pos := tpos) (A := X.A) sep (Src.draws (prog := X.prog) (w := X.w) hh r i1 n1 its.toArray) (Src.draws hh q i2 n2 its2.toArray)
    have en : min its.toArray.size its2.toArray.size = i := by simp; omega
    rw [en] at G
    refine G.stops s _ E ⟨z1, z2, z3, ⟨z4, is1⟩, z5, is2⟩ fun h' tk hk _ => ?_
    exact I.turnedL (t' := tk) (ch := [z, TI, TO, i1, i2]) (fun c o hb' e => hk c o (fun hm => hb' (by simp only [List.mem_cons, List.not_mem_nil, or_false] at hm ⊢; rcases hm with e | e | e | e <;> simp [e])) e) hf
  self := fun A i s Q E st h => wpAny_pyIter_zip st.1 h
def iZipS (K : PySem.W.Frag) (ta : TA) : TI := fun σ H R => ta σ H fun vs H1 => ∃ (r q : Src) (xs ys : List V), vs = [.ref r.at, .ref q.at] ∧ r.sq K H1 xs ∧ q.sq K H1 ys ∧ R (ItZ K r q) H1
theorem pi_zipS {X : Cx} {e e2 : Expr} {ta : TA} {p pos tpos : Pos} {elts : List Expr} {kk : Nat} (hg : Gl X "zip") (hm : X.mg "zip" = none) (ha : PA X [e, e2] ta)
    (hs : starEach [e, e2] X.env = (false, eval e X.env) :: starEach [e2] X.env) (hpl : (backTo pos (starEach [e2] X.env)).any (·.1) = false) : PI X (.Tuple elts kk tpos) (.Call (.Name "zip" p) [e, e2] [] pos) (iZipS X.K ta) := by
  refine ⟨fun pins s σ H R I h => Call_ (ld_blt I hg hm PyProof.Rows.boot_zip (PyProof.Rows.callWith_type1 (thn (ha.run pos pins s σ H _ I h) fun us s1 ⟨vs, H1, I1, rv, k⟩ => ?_) hs hpl))⟩
  obtain ⟨r, q, xs, ys, rfl, sx, sy, k⟩ := k
  obtain ⟨u1, u2, rfl, r1, r2⟩ := Vals.two rv
  cases r1
  cases r2
  obtain ⟨its, _, is1, _⟩ := Src.have_ I1 sx
  obtain ⟨its2, _, is2, _⟩ := Src.have_ I1 sy
  obtain ⟨o1, b1, k1⟩ := r.begins its.toArray
  obtain ⟨o2, b2, k2⟩ := q.begins its2.toArray
  refine zip_begins2 b1 b2 is1 is2 fun h' hz hTI hTO e1 e2 hsz hk => wpAny_pyIter_zip hz ?_
  have m1 : r.at < s1.heap.objs.size := Src.lt is1
  have m2 : q.at < s1.heap.objs.size := Src.lt is2
  have sep := zip_sep2 (N := s1.heap.objs.size) (fp1 := [r.at]) (fp2 := [q.at]) (fun b hb => by rw [List.mem_singleton] at hb; rw [hb]; exact m1) (fun b hb => by rw [List.mem_singleton] at hb; rw [hb]; exact m2)
  refine ⟨_, [s1.heap.objs.size + 4, s1.heap.objs.size + 2, s1.heap.objs.size + 3, s1.heap.objs.size, s1.heap.objs.size + 1], _, _, H1, rfl, I1.kept (t' := s1.toks) hk, turn_zipS sep (Nat.ne_of_lt m1) (Nat.ne_of_lt (Nat.lt_of_lt_of_le m2 (Nat.le_succ _))), ⟨hz, hTI, ⟨_, _, hTO⟩, k1 _ _ e1, k2 _ _ e2⟩, fun c hcm => ?_, k⟩
  have hle : s1.heap.objs.size ≤ c := by
    rcases five hcm with z | z | z | z | z <;> rw [z] <;> first | exact Nat.le_add_right _ _ | exact Nat.le_refl _
  exact I1.fpOk hle (I1.hok.fresh hle)

/-! ### enumerate -/
set_option maxHeartbeats 1000000 in
theorem meets_enum1 {v : Value} {o : Obj} {H : Heap → Prop} (B : Begins v o H) : Meets (Builtin.«enumerate.__new__» ⟨[.type "enumerate", v], []⟩) (fun _ R s => H s.heap ∧
      R (.ok (.ret (.ref (s.heap.push o).objs.size))) { s with heap := (s.heap.push o).push { cls := .type "enumerate", data := .fields #[.none, .bool false, .ref s.heap.objs.size, rawInt 0, .none, .none] } }) :=
  .of_wp fun prog w A R s hs => by
    obtain ⟨hp, g, d, tk, os⟩ := s
    obtain ⟨hb, hr⟩ := hs
    have hsub := sub_enumerate
    have first : ∀ {A' : Around} {E' : Value → Shared → Prop} {Q' : Value → Shared → Prop}, Q' (.ref hp.objs.size) ⟨hp.push o, g, d, tk, os⟩ → wpAny (model prog w) A' (pyIter v) Q' E' ⟨hp, g, d, tk, os⟩ := fun k => B.iter prog w _ _ ⟨hp, g, d, tk, os⟩ _ hb k
    wp_walk using first
    refine wpAny_stack_any fun stk => wpAny_pure ?_
    split
    · rename_i cc _ _ _ _ _
      cases (cc == Value.type "enumerate") <;> (wp_walk using first; exact ⟨_, rfl, hr⟩)
    · wp_walk using first
      exact ⟨_, rfl, hr⟩
theorem enum_begins1 {prog : Program} {w : World} {A : Around} {E : Value → Shared → Prop} {s : Shared} {v : Value} {o : Obj} {H : Heap → Prop} {Q : Value → Shared → Prop} (B : Begins v o H) (hb : H s.heap)
    (k : ∀ h', IsEnum h' (s.heap.objs.size + 1) s.heap.objs.size 0 .none → h'.get? s.heap.objs.size = some o → (∀ b o, s.heap.get? b = some o → h'.get? b = some o) → Q (.ref (s.heap.objs.size + 1)) { s with heap := h' }) :
    wpAny (model prog w) A (call (.type "enumerate") [v]) Q E s := by
  refine callType_new F.called_enumerate (by decide) (F.typeCall_enumerate_1 _) (F.newCall_enumerate_1 _) (fun obj => F.args_object_init_2 obj _) F.entry_enumerate_new (meets_enum1 B) ⟨hb, ?_⟩
  have size1 : (s.heap.push o).objs.size = s.heap.objs.size + 1 := Heap.size_push ..
  have here := Heap.get?_push_size (s.heap.push o) (o := { cls := .type "enumerate", data := .fields #[.none, .bool false, .ref s.heap.objs.size, rawInt 0, .none, .none] }) rfl
  show _ ∧ _
  rw [size1] at here ⊢
  exact ⟨⟨_, here, rfl⟩, k _ here (Heap.get?_push_of_some _ (Heap.get?_push_size _ B.free)) fun b u x => Heap.get?_push_of_some _ (Heap.get?_push_of_some _ x)⟩
def ItE (K : PySem.W.Frag) (r : Src) : It :=
  ⟨fun i H => ∃ xs x, r.sq K H xs ∧ xs[i]? = some x,
    fun i H v H' => ∃ T x, v = .ref T ∧ H T = none ∧ H' = upd H T (.tup [.int (i : Nat), x]) ∧ ∀ xs, r.sq K H xs → xs[i]? = some x,
    fun i H => ∃ xs : List V, r.sq K H xs ∧ i = xs.length⟩
theorem turn_enumS {P : Program} {w : World} {K : PySem.W.Frag} {elts : List Expr} {kk : Nat} {tpos : Pos} {r : Src} {e it : Addr} (ne : e ≠ it) (na : r.at ≠ it) (nb : e ≠ r.at) :
    Turn P w K (.Tuple elts kk tpos) (ItE K r) [e, it] e (fun i h => (∃ old, IsEnum h e it (0 + (i : Int)) old) ∧ r.isIt h it i) where
  mem := by simp
  obj := fun i h st b hb => by
    obtain ⟨⟨old, h1⟩, h2⟩ := st
    rcases (by simpa using hb : b = e ∨ b = it) with z | z
    · rw [z]; exact ⟨_, h1, fun v z => nomatch z⟩
    · rw [z]; exact Src.isIt_obj h2
  keep := fun i h h' st k => by
    obtain ⟨⟨old, h1⟩, h2⟩ := st
    exact ⟨⟨old, k e (by simp) _ h1⟩, Src.isIt_keep h2 (k it (by simp))⟩
  item := by
    intro X hP hw hK hc i pins s σ H E I hf st hg
    subst hP hw hK
    obtain ⟨xs, x, sx, hx⟩ := hg
    obtain ⟨its, rv, is1, l1⟩ := Src.have_ I sx
    obtain ⟨u, hu, ru⟩ := rv.get hx
    obtain ⟨⟨old, z1⟩, z2⟩ := st
    have hh : X.A.in1.handled = none := I.ok.hd hc
    have G := GoesN.enumFrom (elts := elts) (x1 := kk) (pos := tpos) (A := X.A) 0 (Src.draws (prog := X.prog) (w := X.w) hh r it na its.toArray) e ne (by simp [ne, nb]) (by simp)
    have hi1 : i < its.length := by rw [← l1]; exact (List.getElem?_eq_some_iff.mp hx).1
    refine G.goes i s (fun v s2 => ∃ x H', Inv X pins σ H' s2 ∧ RelV x v ∧ (ItE X.K r).yld i H x H' ∧ _ ∧ ∀ b ∈ [e, it], H' b = none) E (by simpa using hi1) ⟨⟨old, z1⟩, z2, is1⟩ fun v h' tk Y st' hk _ => ?_
    obtain ⟨T, t, a, rfl, hT, ha, tup⟩ := Y
    obtain rfl : u = a := by
      have : its[i]? = some a := by simpa using ha
      rw [hu] at this; exact Option.some.inj this
    have nH : H T = none := I.hok.fresh hT
    have new : ObjOk X.prog X.w (upd H T (.tup [.int (i : Nat), x])) h' T (.tup [.int (i : Nat), x]) := ⟨by show 2 ≤ sizeLine; decide, [.int (0 + (i : Int)) t, u], .cons ⟨t, by rw [Int.zero_add]⟩ (.cons ru .nil), tup⟩
    have I1 : Inv X pins σ (upd H T (.tup [.int (i : Nat), x])) { s with heap := h', toks := tk } := I.turnedNew (t' := tk) (ch := [e, it]) (fun c o hb' q => hk c o hb' q) hf hT new
    refine ⟨.ref T, _, I1, rfl, ⟨T, x, rfl, nH, rfl, fun zs hz => by rw [Src.inj I hz sx]; exact hx⟩, ⟨st'.1, st'.2.1⟩, fun c hcm => ?_⟩
    rw [upd_ne fun q => ?_]
    · exact (hf c hcm).1
    · have hlt : c < s.heap.objs.size := by
        rcases (by simpa using hcm : c = e ∨ c = it) with z | z
        · rw [z]; exact Heap.lt_size z1
        · obtain ⟨_, e1, _⟩ := Src.isIt_obj z2; rw [z]; exact Heap.lt_size e1
      rw [q] at hlt
      exact absurd (Nat.lt_of_lt_of_le hlt hT) (Nat.lt_irrefl _)
  done := by
    intro X hP hw hK hc i pins s σ H E I hf st hg
    subst hP hw hK
    obtain ⟨xs, sx, hend⟩ := hg
    obtain ⟨its, rv, is1, l1⟩ := Src.have_ I sx
    obtain ⟨⟨old, z1⟩, z2⟩ := st
    have hh : X.A.in1.handled = none := I.ok.hd hc
    have G := GoesN.enumFrom (elts := elts) (x1 := kk) (pos := tpos) (A := X.A) 0 (Src.draws (prog := X.prog) (w := X.w) hh r it na its.toArray) e ne (by simp [ne, nb]) (by simp)
    have en : its.toArray.size = i := by simp; omega
    rw [en] at G
    refine G.stops s _ E ⟨⟨old, z1⟩, z2, is1⟩ fun h' tk hk _ => ?_
    exact I.turnedL (t' := tk) (ch := [e, it]) (fun c o hb' q => hk c o hb' q) hf
  self := fun A i s Q E st h => let ⟨⟨_, he⟩, _⟩ := st; wpAny_pyIter_enum he h
def iEnumS (K : PySem.W.Frag) (ta : TA) : TI := fun σ H R => ta σ H fun vs H1 => ∃ (r : Src) (xs : List V), vs = [.ref r.at] ∧ r.sq K H1 xs ∧ R (ItE K r) H1
theorem pi_enumS {X : Cx} {e : Expr} {ta : TA} {p pos tpos : Pos} {elts : List Expr} {kk : Nat} (hg : Gl X "enumerate") (hm : X.mg "enumerate" = none) (ha : PA X [e] ta) (hs : starEach [e] X.env = [(false, eval e X.env)]) :
    PI X (.Tuple elts kk tpos) (.Call (.Name "enumerate" p) [e] [] pos) (iEnumS X.K ta) := by
  refine ⟨fun pins s σ H R I h => Call_ (ld_blt I hg hm boot_enumerate (PyProof.Rows.callWith_type1 (thn (ha.run pos pins s σ H _ I h) fun us s1 ⟨vs, H1, I1, rv, k⟩ => ?_) hs rfl))⟩
  obtain ⟨r, xs, rfl, sx, k⟩ := k
  obtain ⟨u1, rfl, r1⟩ := Vals.one rv
  cases r1
  obtain ⟨its, _, is1, _⟩ := Src.have_ I1 sx
  obtain ⟨o1, b1, k1⟩ := r.begins its.toArray
  refine enum_begins1 b1 is1 fun h' he e1 hk => wpAny_pyIter_enum he ?_
  have m1 : r.at < s1.heap.objs.size := Src.lt is1
  refine ⟨_, [s1.heap.objs.size + 1, s1.heap.objs.size], _, _, H1, rfl, I1.kept (t' := s1.toks) hk, turn_enumS (Nat.succ_ne_self _) (Nat.ne_of_lt m1) (Nat.ne_of_gt (Nat.lt_of_lt_of_le m1 (Nat.le_succ _))), ⟨⟨.none, he⟩, k1 _ _ e1⟩, fun c hcm => ?_, k⟩
  have hle : s1.heap.objs.size ≤ c := by
    rcases (by simpa using hcm : c = s1.heap.objs.size + 1 ∨ c = s1.heap.objs.size) with z | z <;> rw [z] <;> first | exact Nat.le_add_right _ _ | exact Nat.le_refl _
  exact I1.fpOk hle (I1.hok.fresh hle)

/-! ### over plain data -/
/-- a thing that zip, enumerate take: read, seen -/
def Src.rd (C : Cfg) (H W : Hp) (vs : List V) : Src → Prop
  | .l a => Rdl C H W a vs
  | .t a => SqT K0 W a vs
def Src.se (W : Hp) (vs : List V) : Src → Prop
  | .l a => SqL K0 W a vs
  | .t a => SqT K0 W a vs
section
variable {X : Cx} {C : Cfg}
theorem Src.rd_sq {H W : Hp} {S : Draw} {vs : List V} {r : Src} (h : r.rd C H W vs) (v : Vw C W H S) : r.sq C.K H vs := by
  cases r with
  | l a => exact Rdl.sq h v
  | t a => exact v.sqT h
theorem Src.rd_stp {H W H' W' : Hp} {vs : List V} {r : Src} (h : r.rd C H W vs) (s : Stp C.pm H W H' W') : r.rd C H' W' vs := by
  cases r with
  | l a => exact Rdl.stp h s
  | t a => exact sqT_mono s.w h
theorem Src.se_rd {H W : Hp} {vs : List V} {r : Src} (h : r.se W vs) : r.rd C H W vs := by
  cases r with
  | l a => exact .see h
  | t a => exact h
theorem Src.se_mono {W W' : Hp} {vs : List V} {r : Src} (h : r.se W vs) (s : Sub W W') : r.se W' vs := by
  cases r with
  | l a => exact sqL_mono s h
  | t a => exact sqT_mono s h
theorem src_rd {H W : Hp} {v : V} {d : PyData} {xs : List PyData} (h : Rdt C H W v d) (e : seqOf d = some xs) : ∃ (r : Src) (vs : List V), v = .ref r.at ∧ r.rd C H W vs ∧ DpAll K0 W vs xs := by
  cases d <;> cases e
  · obtain ⟨a, vs, rfl, h1, h2⟩ := h.list
    exact ⟨.l a, vs, rfl, h1, h2⟩
  · obtain ⟨a, vs, rfl, h1, h2⟩ := h.tuple
    exact ⟨.t a, vs, rfl, h1, h2⟩
theorem src_se {W : Hp} {v : V} {d : PyData} {xs : List PyData} (h : Dp K0 W v d) (e : seqOf d = some xs) : ∃ (r : Src) (vs : List V), v = .ref r.at ∧ r.se W vs ∧ DpAll K0 W vs xs := by
  cases h <;> cases e
  · rename_i a vs h1 h2
    exact ⟨.l a, vs, rfl, h1, h2⟩
  · rename_i a vs h1 h2
    exact ⟨.t a, vs, rfl, h1, h2⟩
theorem wk_zip {r q : Src} {vs us : List V} {xs ys : List PyData} {G : Hp → Hp → Prop} (h : ∀ H W, G H W → r.rd C H W vs ∧ DpAll K0 W vs xs ∧ q.rd C H W us ∧ DpAll K0 W us ys) (l1 : vs.length = xs.length) (l2 : us.length = ys.length) :
    Wk C (ItZ C.K r q) (List.zipWith (fun a b => .tuple [a, b]) xs ys) G where
  go := fun i H W S hv g hi => by
    obtain ⟨a1, a2, a3, a4⟩ := h H W g
    rw [List.length_zipWith] at hi
    exact ⟨vs, us, vs[i]'(by omega), us[i]'(by omega), Src.rd_sq a1 hv, Src.rd_sq a3 hv, by simp, by simp⟩
  stop := fun H W S hv g => by
    obtain ⟨a1, a2, a3, a4⟩ := h H W g
    exact ⟨vs, us, Src.rd_sq a1 hv, Src.rd_sq a3 hv, by rw [List.length_zipWith]; omega⟩
  yld := fun i H W S x H' hv g hi y => by
    obtain ⟨a1, a2, a3, a4⟩ := h H W g
    obtain ⟨T, u, u', rfl, hT, rfl, y1, y2⟩ := y
    obtain ⟨d, e1, d1⟩ := dpAll_getV a2 (y1 vs (Src.rd_sq a1 hv))
    obtain ⟨d', e2, d2⟩ := dpAll_getV a4 (y2 us (Src.rd_sq a3 hv))
    refine ⟨.tuple [d, d'], upd W T (.tup [u, u']), by rw [List.getElem?_zipWith, e1, e2], Stp.new hv hT, hv.new hT, .tup (.of upd_same) (dpAll_mono (Stp.new (C := C) hv hT).w (.cons d1 (.cons d2 .nil)))⟩
theorem wk_enum {r : Src} {vs : List V} {xs : List PyData} {G : Hp → Hp → Prop} (h : ∀ H W, G H W → r.rd C H W vs ∧ DpAll K0 W vs xs) (l1 : vs.length = xs.length) :
    Wk C (ItE C.K r) (xs.zipIdx.map fun p => .tuple [.int p.2, p.1]) G where
  go := fun i H W S hv g hi => by
    obtain ⟨a1, a2⟩ := h H W g
    rw [List.length_map, List.length_zipIdx] at hi
    exact ⟨vs, vs[i]'(by omega), Src.rd_sq a1 hv, by simp⟩
  stop := fun H W S hv g => by
    obtain ⟨a1, a2⟩ := h H W g
    exact ⟨vs, Src.rd_sq a1 hv, by rw [List.length_map, List.length_zipIdx]; omega⟩
  yld := fun i H W S x H' hv g hi y => by
    obtain ⟨a1, a2⟩ := h H W g
    obtain ⟨T, u, rfl, hT, rfl, y1⟩ := y
    obtain ⟨d, e1, d1⟩ := dpAll_getV a2 (y1 vs (Src.rd_sq a1 hv))
    refine ⟨.tuple [.int (i : Nat), d], upd W T (.tup [.int (i : Nat), u]), by rw [List.getElem?_map, List.getElem?_zipIdx, e1]; simp, Stp.new hv hT, hv.new hT, .tup (.of upd_same) (dpAll_mono (Stp.new (C := C) hv hT).w (.cons (.int _) (.cons d1 .nil)))⟩
variable {elts : List Expr} {kk : Nat} {tpos p pos : Pos}
theorem zipD_some {x y : PyData} {zs : List PyData} (h : zipD x y = some zs) : ∃ xs ys, seqOf x = some xs ∧ seqOf y = some ys ∧ zs = List.zipWith (fun a b => .tuple [a, b]) xs ys := by
  unfold zipD at h
  split at h
  · rename_i xs ys h1 h2
    cases h
    exact ⟨xs, ys, h1, h2, rfl⟩
  · cases h
theorem di_zip {a b : Expr} {f g : Fn PyData} (hK : X.K = C.K) (hg : Gl X "zip") (hm : X.mg "zip" = none) (ha : PE X a (tR C f)) (hb : PE X b (tR C g)) (hs : starEach [a, b] X.env = (false, eval a X.env) :: starEach [b] X.env) (hs2 : starEach [b] X.env = (false, eval b X.env) :: starEach [] X.env) :
    PI X (.Tuple elts kk tpos) (.Call (.Name "zip" p) [a, b] [] pos) (tI C (KeepE C) fun Γ S => (f Γ S).bind fun x S1 => (g Γ S1).bind fun y S2 => lift (zipD x y) S2) :=
  PI.imp (pi_zipS hg hm (pa_cons ha (pa_cons hb pa_nil hs2) hs) hs (by rw [hs2]; rfl)) fun σ H R ⟨Γ, W, S, he, hw, p⟩ => tG_then he hw p (fun c d S' h => h) fun x S1 v H1 W1 s1 v1 e1 r1 p1 =>
    tG_then e1 v1 p1 (xq_stp (fun c d S' h => h) s1) fun y S2 u H2 W2 s2 v2 e2 r2 p2 => by
      cases e : zipD x y with
      | none => rw [e] at p2; exact p2.elim
      | some zs =>
        rw [e] at p2
        obtain ⟨xs, ys, q1, q2, rfl⟩ := zipD_some e
        obtain ⟨r, vs, rfl, h1, h2⟩ := src_rd (r1.stp s2) q1
        obtain ⟨q, us, rfl, h3, h4⟩ := src_rd r2 q2
        refine ⟨r, q, vs, us, rfl, by rw [hK]; exact Src.rd_sq h1 v2, by rw [hK]; exact Src.rd_sq h3 v2, ?_⟩
        rw [hK]
        exact p2 _ H2 W2 (fun H W => r.rd C H W vs ∧ DpAll K0 W vs xs ∧ q.rd C H W us ∧ DpAll K0 W us ys) (s1.trans s2) v2 (wk_zip (fun _ _ g => g) (dpAll_len h2) (dpAll_len h4)) ⟨h1, h2, h3, h4⟩
          fun _ _ _ _ st g => ⟨Src.rd_stp g.1 st, dpAll_mono st.w g.2.1, Src.rd_stp g.2.2.1 st, dpAll_mono st.w g.2.2.2⟩
theorem di_zipS {a b : Expr} {f g : Fn PyData} (hK : X.K = C.K) (hg : Gl X "zip") (hm : X.mg "zip" = none) (ha : PE X a (tE C f)) (hb : PE X b (tE C g)) (hs : starEach [a, b] X.env = (false, eval a X.env) :: starEach [b] X.env) (hs2 : starEach [b] X.env = (false, eval b X.env) :: starEach [] X.env) :
    PI X (.Tuple elts kk tpos) (.Call (.Name "zip" p) [a, b] [] pos) (tI C KeepS fun Γ S => (f Γ S).bind fun x S1 => (g Γ S1).bind fun y S2 => lift (zipD x y) S2) :=
  PI.imp (pi_zipS hg hm (pa_cons ha (pa_cons hb pa_nil hs2) hs) hs (by rw [hs2]; rfl)) fun σ H R ⟨Γ, W, S, he, hw, p⟩ => tG_then he hw p (fun c d S' h => h) fun x S1 v H1 W1 s1 v1 e1 r1 p1 =>
    tG_then e1 v1 p1 (xq_stp (fun c d S' h => h) s1) fun y S2 u H2 W2 s2 v2 e2 r2 p2 => by
      cases e : zipD x y with
      | none => rw [e] at p2; exact p2.elim
      | some zs =>
        rw [e] at p2
        obtain ⟨xs, ys, q1, q2, rfl⟩ := zipD_some e
        obtain ⟨r, vs, rfl, h1, h2⟩ := src_se (dp_mono s2.w r1) q1
        obtain ⟨q, us, rfl, h3, h4⟩ := src_se r2 q2
        refine ⟨r, q, vs, us, rfl, by rw [hK]; exact Src.rd_sq (Src.se_rd h1) v2, by rw [hK]; exact Src.rd_sq (Src.se_rd h3) v2, ?_⟩
        rw [hK]
        exact p2 _ H2 W2 (fun H W => r.se W vs ∧ DpAll K0 W vs xs ∧ q.se W us ∧ DpAll K0 W us ys) (s1.trans s2) v2 (wk_zip (fun _ _ g => ⟨Src.se_rd g.1, g.2.1, Src.se_rd g.2.2.1, g.2.2.2⟩) (dpAll_len h2) (dpAll_len h4)) ⟨h1, h2, h3, h4⟩
          fun _ _ _ _ st g => ⟨Src.se_mono g.1 st, dpAll_mono st g.2.1, Src.se_mono g.2.2.1 st, dpAll_mono st g.2.2.2⟩
theorem enmD_some {x : PyData} {zs : List PyData} (h : enmD x = some zs) : ∃ xs, seqOf x = some xs ∧ zs = xs.zipIdx.map fun p => .tuple [.int p.2, p.1] := by
  unfold enmD at h
  rw [Option.map_eq_some_iff] at h
  obtain ⟨xs, h1, rfl⟩ := h
  exact ⟨xs, h1, rfl⟩
theorem di_enm {a : Expr} {f : Fn PyData} (hK : X.K = C.K) (hg : Gl X "enumerate") (hm : X.mg "enumerate" = none) (ha : PE X a (tR C f)) (hs : starEach [a] X.env = [(false, eval a X.env)]) :
    PI X (.Tuple elts kk tpos) (.Call (.Name "enumerate" p) [a] [] pos) (tI C (KeepE C) fun Γ S => (f Γ S).bind fun x S1 => lift (enmD x) S1) :=
  PI.imp (pi_enumS hg hm (pa_cons ha pa_nil hs) hs) fun σ H R ⟨Γ, W, S, he, hw, p⟩ => tG_then he hw p (fun c d S' h => h) fun x S1 v H1 W1 s1 v1 e1 r1 p1 => by
    cases e : enmD x with
    | none => rw [e] at p1; exact p1.elim
    | some zs =>
      rw [e] at p1
      obtain ⟨xs, q1, rfl⟩ := enmD_some e
      obtain ⟨r, vs, rfl, h1, h2⟩ := src_rd r1 q1
      refine ⟨r, vs, rfl, by rw [hK]; exact Src.rd_sq h1 v1, ?_⟩
      rw [hK]
      exact p1 _ H1 W1 (fun H W => r.rd C H W vs ∧ DpAll K0 W vs xs) s1 v1 (wk_enum (fun _ _ g => g) (dpAll_len h2)) ⟨h1, h2⟩ fun _ _ _ _ st g => ⟨Src.rd_stp g.1 st, dpAll_mono st.w g.2⟩
theorem di_enmS {a : Expr} {f : Fn PyData} (hK : X.K = C.K) (hg : Gl X "enumerate") (hm : X.mg "enumerate" = none) (ha : PE X a (tE C f)) (hs : starEach [a] X.env = [(false, eval a X.env)]) :
    PI X (.Tuple elts kk tpos) (.Call (.Name "enumerate" p) [a] [] pos) (tI C KeepS fun Γ S => (f Γ S).bind fun x S1 => lift (enmD x) S1) :=
  PI.imp (pi_enumS hg hm (pa_cons ha pa_nil hs) hs) fun σ H R ⟨Γ, W, S, he, hw, p⟩ => tG_then he hw p (fun c d S' h => h) fun x S1 v H1 W1 s1 v1 e1 r1 p1 => by
    cases e : enmD x with
    | none => rw [e] at p1; exact p1.elim
    | some zs =>
      rw [e] at p1
      obtain ⟨xs, q1, rfl⟩ := enmD_some e
      obtain ⟨r, vs, rfl, h1, h2⟩ := src_se r1 q1
      refine ⟨r, vs, rfl, by rw [hK]; exact Src.rd_sq (Src.se_rd h1) v1, ?_⟩
      rw [hK]
      exact p1 _ H1 W1 (fun H W => r.se W vs ∧ DpAll K0 W vs xs) s1 v1 (wk_enum (fun _ _ g => ⟨Src.se_rd g.1, g.2⟩) (dpAll_len h2)) ⟨h1, h2⟩ fun _ _ _ _ st g => ⟨Src.se_mono g.1 st, dpAll_mono st g.2⟩

/-! ### isinstance -/
def Ty.nm : Ty → Str
  | .int => "int" | .bool => "bool" | .tuple => "tuple" | .str => "str" | .list => "list"
def Ty.id : Ty → String
  | .int => "int" | .bool => "bool" | .tuple => "tuple" | .str => "str" | .list => "list"
theorem boot_ty (t : Ty) : bootBuiltins t.nm = some (.type t.id) := by cases t <;> decide +kernel
theorem nm_ty (t : Ty) : t.nm ≠ "__name__" ∧ (t.nm == ("__debug__" : Str)) = false := by cases t <;> decide +kernel
theorem boot_isi : bootBuiltins "isinstance" = some (.builtin "isinstance") := by decide +kernel
def rIsi (C : Cfg) (t : Ty) : List V → Hp → VK → Prop := fun vs H Q => ∃ W S v x, vs = [v, .ty t.id] ∧ Vw C W H S ∧ Rdt C H W v x ∧ Q (.bl (isiD t x)) H
theorem call_isiD (t : Ty) (hK : X.K = C.K) : CallR X (.builtin "isinstance") (rIsi C t) := by
  intro pins s σ H xs us Q I r h
  obtain ⟨W, S, v, x, rfl, hv, hx, q⟩ := h
  obtain ⟨u1, u2, rfl, r1, r2⟩ := Vals.two r
  have wx : Dp X.K H v x := by rw [hK]; exact hx.dp hv
  obtain ⟨as, rx⟩ := Dp.reads I x v u1 wx r1
  have e2 : u2 = .type t.id := r2
  subst e2
  have fin : ∀ tk, s.toks ≤ tk → EP X pins σ Q (.bool (isiD t x)) { s with toks := tk } := fun tk _ => ⟨.bl _, H, I.tok tk, rfl, q⟩
  cases t with
  | int => exact PySem.W.isinstance_int_data rx fin
  | bool => exact PySem.W.isinstance_bool_data rx fin
  | tuple => exact PySem.W.isinstance_tuple_data rx fin
  | str => exact PySem.W.isinstance_str_data rx fin
  | list => exact PySem.W.isinstance_list_data rx fin
theorem de_isi {a : Expr} {t : Ty} {p2 : Pos} {f : Fn PyData} (hK : X.K = C.K) (hg : Gl X "isinstance") (hm : X.mg "isinstance" = none) (hg2 : Gl X t.nm) (hm2 : X.mg t.nm = none) (ha : PE X a (tR C f)) (hs : starEach [a, .Name t.nm p2] X.env = (false, eval a X.env) :: starEach [.Name t.nm p2] X.env) :
    PE X (.Call (.Name "isinstance" p) [a, .Name t.nm p2] [] pos) (tE C fun Γ S => (f Γ S).bind fun x S1 => .ok (.bool (isiD t x)) S1) :=
  PE.imp (pe_callB (call_isiD t hK) hg hm boot_isi (pa_cons ha (pa_cons (pe_bltn (v := .ty t.id) hg2 hm2 (boot_ty t) rfl (nm_ty t).1 (nm_ty t).2) pa_nil) hs) (by decide) (by decide) hs rfl) fun σ H Q ⟨Γ, W, S, he, hw, p⟩ =>
    tG_then he hw p (fun c d S' h => h) fun x S1 v H1 W1 s1 v1 e1 r1 p1 => ⟨W1, S1, v, x, rfl, v1, r1, p1 _ H1 W1 s1 v1 (.bl _)⟩
end
end PD
/-! P9: statements over plain data. -/
namespace PD
open PySem PySem.Spec PyProof.Rows L2

def Out.Post (nx : Env → Draw → Prop) (rt : PyData → Draw → Prop) (bk ct : Env → Draw → Prop) (ex : Nat → PyData → Draw → Prop) : Out → Prop
  | .nx Γ S => nx Γ S
  | .ret d S => rt d S
  | .brk Γ S => bk Γ S
  | .cnt Γ S => ct Γ S
  | .exc c d S => ex c d S
  | .bad => False
abbrev FnS := Env → Draw → Out
/-- what a statement may want behind it, from the frame's entry (H0, W0) on -/
abbrev NxD (C : Cfg) (H0 W0 W : Hp) (k : L2.St → Hp → Prop) : Env → Draw → Prop := fun Γ' S' => ∀ σ' H' W', EnvOk C Γ' σ' H' W' → Vw C W' H' S' → Stp C.pm H0 W0 H' W' → Sub W W' → k σ' H'
abbrev RtD (C : Cfg) (H0 W0 : Hp) (k : VK) : PyData → Draw → Prop := fun d S' => ∀ v H' W', Vw C W' H' S' → Stp C.pm H0 W0 H' W' → Dp K0 W' v d → k v H'
abbrev ExD (C : Cfg) (H0 W0 : Hp) : Nat → PyData → Draw → Prop := fun c d S' => ∀ H' W', Stp C.pm H0 W0 H' W' → Vw C W' H' S' → C.XQ c d S' H' W'
def tS (C : Cfg) (H0 W0 : Hp) (f : FnS) : TS := fun D σ H => ∃ Γ W S, EnvOk C Γ σ H W ∧ Vw C W H S ∧ Stp C.pm H0 W0 H W ∧
  (f Γ S).Post (NxD C H0 W0 W D.nx) (RtD C H0 W0 D.rt) (NxD C H0 W0 W D.bk) (NxD C H0 W0 W D.ct) (ExD C H0 W0)
theorem nxD_sub {C : Cfg} {H0 W0 W W1 : Hp} {k : L2.St → Hp → Prop} {Γ : Env} {S : Draw} (h : NxD C H0 W0 W k Γ S) (s : Sub W W1) : NxD C H0 W0 W1 k Γ S := fun σ' H' W' e v t u => h σ' H' W' e v t fun a o q => u a o (s a o q)
theorem Out.Post.mono {o : Out} {nx nx' bk bk' ct ct' : Env → Draw → Prop} {rt rt' : PyData → Draw → Prop} {ex ex' : Nat → PyData → Draw → Prop} (h : o.Post nx rt bk ct ex) (h1 : ∀ Γ S, nx Γ S → nx' Γ S) (h2 : ∀ d S, rt d S → rt' d S) (h3 : ∀ Γ S, bk Γ S → bk' Γ S) (h4 : ∀ Γ S, ct Γ S → ct' Γ S)
    (h5 : ∀ c d S, ex c d S → ex' c d S) : o.Post nx' rt' bk' ct' ex' := by
  cases o with
  | nx Γ S => exact h1 _ _ h
  | ret d S => exact h2 _ _ h
  | brk Γ S => exact h3 _ _ h
  | cnt Γ S => exact h4 _ _ h
  | exc c d S => exact h5 _ _ _ h
  | bad => exact h
section
variable {X : Cx} {C : Cfg} {H0 W0 : Hp} {pos : Pos}
/-- from an expression's result to a statement's -/
theorem out_then {α β : Type} {R : Hp → Hp → β → α → Prop} {f : Fn α} {k : α → Draw → Out} {Γ : Env} {σ : L2.St} {H W : Hp} {S : Draw} {Q : β → Hp → Prop} {nx bk ct : Env → Draw → Prop} {rt : PyData → Draw → Prop} (he : EnvOk C Γ σ H W) (hv : Vw C W H S) (st : Stp C.pm H0 W0 H W)
    (h : ((f Γ S).out k).Post nx rt bk ct (ExD C H0 W0))
    (next : ∀ x S1 v H1 W1, Stp C.pm H W H1 W1 → Vw C W1 H1 S1 → EnvOk C Γ σ H1 W1 → R H1 W1 v x → (k x S1).Post nx rt bk ct (ExD C H0 W0) → Q v H1) : tG C R f σ H Q := by
  refine ⟨Γ, W, S, he, hv, ?_⟩
  cases e : f Γ S with
  | ok x S1 =>
    rw [e] at h
    exact fun v H1 W1 s1 v1 r => next x S1 v H1 W1 s1 v1 (he.stp s1) r h
  | exc c d S1 =>
    rw [e] at h
    exact fun H1 W1 s1 v1 => h H1 W1 (st.trans s1) v1
  | bad =>
    rw [e] at h
    exact h.elim
/-! ### blocks -/
theorem ds_nil : PSs X [] (tS C H0 W0 fun Γ S => .nx Γ S) := PSs.imp pss_nil fun D σ H ⟨Γ, W, S, he, hv, st, p⟩ => p σ H W he hv st fun _ _ h => h
theorem ds_cons {s : Stmt} {r : List Stmt} {f g : FnS} (h1 : PS X s (tS C H0 W0 f)) (h2 : PSs X r (tS C H0 W0 g)) : PSs X (s :: r) (tS C H0 W0 fun Γ S => (f Γ S).seq g) := PSs.imp (pss_cons h1 h2) fun D σ H ⟨Γ, W, S, he, hv, st, p⟩ => by
  refine ⟨Γ, W, S, he, hv, st, ?_⟩
  dsimp only at p
  cases e : f Γ S with
  | nx Γ1 S1 =>
    rw [e] at p
    intro σ1 H1 W1 e1 v1 t1 u1
    exact ⟨Γ1, W1, S1, e1, v1, t1, Out.Post.mono (show (g Γ1 S1).Post _ _ _ _ _ from p) (fun _ _ h => nxD_sub h u1) (fun _ _ h => h) (fun _ _ h => nxD_sub h u1) (fun _ _ h => nxD_sub h u1) fun _ _ _ h => h⟩
  | _ => rw [e] at p; exact p
/-! ### small ones -/
theorem ds_brk : PS X (.Break pos) (tS C H0 W0 fun Γ S => .brk Γ S) := PS.imp ps_break fun D σ H ⟨Γ, W, S, he, hv, st, p⟩ => p σ H W he hv st fun _ _ h => h
theorem ds_cnt : PS X (.Continue pos) (tS C H0 W0 fun Γ S => .cnt Γ S) := PS.imp ps_continue fun D σ H ⟨Γ, W, S, he, hv, st, p⟩ => p σ H W he hv st fun _ _ h => h
theorem ds_never {s : Stmt} : PS X s (tS C H0 W0 fun _ _ => .bad) := PS.imp ps_never fun D σ H ⟨Γ, W, S, he, hv, st, p⟩ => p.elim
theorem ds_exp {e : Expr} {f : Fn PyData} (h : PE X e (tE C f)) (hs : swapsWith e none pos.line X.env = pure false) : PS X (.Expr e pos) (tS C H0 W0 fun Γ S => (f Γ S).out fun _ S1 => .nx Γ S1) := PS.imp (ps_expr h hs) fun D σ H ⟨Γ, W, S, he, hv, st, p⟩ =>
  out_then he hv st p fun x S1 v H1 W1 s1 v1 e1 r1 p1 => p1 σ H1 W1 e1 v1 (st.trans s1) s1.w
theorem ds_ife {c : Expr} {a b : List Stmt} {f : Fn Bool} {g h : FnS} (hc : PT X c (tT C f)) (ha : PSs X a (tS C H0 W0 g)) (hb : PSs X b (tS C H0 W0 h)) : PS X (.If c a b pos) (tS C H0 W0 fun Γ S => (f Γ S).out fun k S1 => if k then g Γ S1 else h Γ S1) :=
  PS.imp (ps_if hc ha hb) fun D σ H ⟨Γ, W, S, he, hv, st, p⟩ => out_then he hv st p fun x S1 v H1 W1 s1 v1 e1 r1 p1 => by
    subst r1
    have on : ∀ {o : Out}, o.Post (NxD C H0 W0 W D.nx) (RtD C H0 W0 D.rt) (NxD C H0 W0 W D.bk) (NxD C H0 W0 W D.ct) (ExD C H0 W0) → o.Post (NxD C H0 W0 W1 D.nx) (RtD C H0 W0 D.rt) (NxD C H0 W0 W1 D.bk) (NxD C H0 W0 W1 D.ct) (ExD C H0 W0) := fun q =>
      Out.Post.mono q (fun _ _ h => nxD_sub h s1.w) (fun _ _ h => h) (fun _ _ h => nxD_sub h s1.w) (fun _ _ h => nxD_sub h s1.w) fun _ _ _ h => h
    cases v with
    | true => exact ⟨Γ, W1, S1, e1, v1, st.trans s1, on p1⟩
    | false => exact ⟨Γ, W1, S1, e1, v1, st.trans s1, on p1⟩
/-! ### assignments -/
theorem asg_go {te : TE} {f : Fn PyData} {t : Tg} {D : Ends} {σ : L2.St} {H : Hp} (hte : ∀ σ H Q, tE C f σ H Q → te σ H Q) (p : tS C H0 W0 (fun Γ S => (f Γ S).out fun x S1 => match bindT t x Γ with
    | some Γ' => .nx Γ' S1
    | none => .bad) D σ H) : tAsg te (tgD C t) D σ H := by
  obtain ⟨Γ, W, S, he, hv, st, p⟩ := p
  refine hte _ _ _ (out_then he hv st p fun x S1 v H1 W1 s1 v1 e1 r1 p1 => ?_)
  split at p1
  · rename_i Γ' hb
    exact ⟨Γ, W1, S1, x, Γ', e1, v1, r1, hb, fun σ' e2 _ _ => p1 σ' H1 W1 e2 v1 (st.trans s1) s1.w⟩
  · exact p1.elim
theorem ds_asg {tg e : Expr} {f : Fn PyData} {t : Tg} (h : PE X e (tE C f)) (hg : PG X tg (tgD C t)) (hs : swapsWithSole [tg] e pos.line X.env = pure false) (hw : swappedStores [tg] e X.env = pure none) (h1 : (assignEach [tg] X.env).map (·.2) = [assign tg X.env]) :
    PS X (.Assign [tg] e pos) (tS C H0 W0 fun Γ S => (f Γ S).out fun x S1 => match bindT t x Γ with
      | some Γ' => .nx Γ' S1
      | none => .bad) := PS.imp (ps_asg h hg hs hw h1) fun D σ H p => asg_go (fun _ _ _ q => q) p
/-- name = a comprehension's list, on one line -/
theorem gn_of {i : Nat} {v : V} {σ : L2.St} {H : Hp} {Q : L2.St → Hp → Prop} (hk : C.kdOf i = .nrm) (h : tgD C (.nm i) v σ H Q) : gName i v σ H Q := by
  obtain ⟨Γ, W, S, d, Γ', he, hw, hd, hb, q⟩ := h
  cases hb
  refine q _ (he.set hk hd) (List.length_set ..) fun j hj => List.getElem?_set_ne fun z => ?_
  simp [Tg.slots] at hj
  exact hj z.symm
/-- a new list that stays ours -/
theorem EnvOk.setO {Γ : Env} {σ : L2.St} {H W H' W' : Hp} (e : EnvOk C Γ σ H W) (s : Stp C.pm H W H' W') {i : Nat} {p : Addr} {vs : List V} {ds : List PyData} (hk : C.kdOf i = .own) (hn : H p = none) (hl : H' p = some (.lst vs)) (hw : W' p = none) (hm : ¬ Mst H' C.pm p) (hd : DpAll K0 W' vs ds) :
    EnvOk C (Γ.set i (some (.list ds))) (σ.set i (some (.ref p))) H' W' := by
  have e' := e.stp s
  have hz : ¬ C.Z p := fun z => by obtain ⟨o, q⟩ := e.zd p z; rw [hn] at q; cases q
  have other : ∀ (j : Nat) (d : PyData), C.kdOf j = .own → Γ[j]? = some (some d) → σ[j]? ≠ some (some (V.ref p)) := fun j d hj hg hs => by
    obtain ⟨v, h1, h2⟩ := e.at_ j d hg
    rw [hj] at h2
    obtain ⟨q, us, es, rfl, _, h3, _⟩ := h2
    rw [hs] at h1
    cases h1
    rw [hn] at h3
    cases h3
  refine ⟨by rw [List.length_set, List.length_set]; exact e.len, fun j x hj => ?_, fun j k q x y hjk h1 h2 h3 h4 h5 => ?_, e'.zd⟩
  · by_cases hji : i = j
    · subst hji
      by_cases hl' : i < Γ.length
      · rw [List.getElem?_set_self hl'] at hj
        cases hj
        exact ⟨.ref p, List.getElem?_set_self (by rw [← e.len]; exact hl'), by rw [hk]; exact ⟨p, vs, ds, rfl, rfl, hl, hw, hm, hz, hd⟩⟩
      · rw [List.getElem?_eq_none (by rw [List.length_set]; omega)] at hj
        cases hj
    · rw [List.getElem?_set_ne hji] at hj ⊢
      exact e'.at_ j x hj
  · by_cases hji : i = j
    · subst hji
      rw [List.getElem?_set_ne hjk] at h4 ⊢
      by_cases hl' : i < σ.length
      · rw [List.getElem?_set_self hl'] at h5
        cases h5
        exact other k y h2 h4
      · rw [List.getElem?_eq_none (by rw [List.length_set]; omega)] at h5
        cases h5
    · rw [List.getElem?_set_ne hji] at h3 h5
      by_cases hki : i = k
      · subst hki
        by_cases hl' : i < σ.length
        · rw [List.getElem?_set_self hl']
          intro z
          cases z
          exact other j x h1 h3 h5
        · rw [List.getElem?_eq_none (by rw [List.length_set]; omega)]
          intro z
          cases z
      · rw [List.getElem?_set_ne hki] at h4 ⊢
        exact e.sep j k q x y hjk h1 h2 h3 h4 h5
theorem asgO_go {te : TE} {f : Fn (List PyData)} {i : Nat} {D : Ends} {σ : L2.St} {H : Hp} (hk : C.kdOf i = .own) (hte : ∀ σ H Q, tF C f σ H Q → te σ H Q) (p : tS C H0 W0 (fun Γ S => (f Γ S).out fun xs S1 => .nx (Γ.set i (some (.list xs))) S1) D σ H) : tAsg te (gName i) D σ H := by
  obtain ⟨Γ, W, S, he, hv, st, p⟩ := p
  refine hte _ _ _ ⟨Γ, W, S, he, hv, ?_⟩
  dsimp only at p
  cases e : f Γ S with
  | ok ds S1 =>
    rw [e] at p
    exact fun q vs H1 W1 s1 v1 hn hl hw hm hd => p _ H1 W1 (he.setO s1 hk hn hl hw hm hd) v1 (st.trans s1) s1.w
  | exc c d S1 =>
    rw [e] at p
    exact fun H1 W1 s1 v1 => p H1 W1 (st.trans s1) v1
  | bad =>
    rw [e] at p
    exact p.elim
/-! ### xs.append(e) on a list of ours -/
theorem EnvOk.putO {Γ : Env} {σ : L2.St} {H W : Hp} (e : EnvOk C Γ σ H W) {i : Nat} {p : Addr} {vs : List V} {xs ys : List PyData} (hk : C.kdOf i = .own) (hg : Γ[i]? = some (some (.list xs))) (hs : σ[i]? = some (some (.ref p))) (hw : W p = none) (hm : ¬ Mst H C.pm p) (hd : DpAll K0 W vs ys) :
    EnvOk C (Γ.set i (some (.list ys))) σ (upd H p (.lst vs)) W := by
  have hpm : C.pm ≠ p := fun z => hm (.inl z.symm)
  have hz : ¬ C.Z p := by
    obtain ⟨v, h1, h2⟩ := e.at_ i _ hg
    rw [hk] at h2
    obtain ⟨q, us, es, rfl, _, _, _, _, h6, _⟩ := h2
    rw [hs] at h1
    cases h1
    exact h6
  refine ⟨by rw [List.length_set]; exact e.len, fun j x hj => ?_, fun j k q x y hjk h1 h2 h3 h4 h5 => ?_, fun a ha => ?_⟩
  · by_cases hji : i = j
    · subst hji
      rw [List.getElem?_set_self (List.getElem?_eq_some_iff.mp hg).1] at hj
      cases hj
      exact ⟨.ref p, hs, by rw [hk]; exact ⟨p, vs, ys, rfl, rfl, upd_same, hw, fun m => hm ((mst_upd hpm).mp m), hz, hd⟩⟩
    · rw [List.getElem?_set_ne hji] at hj
      obtain ⟨v, h1, h2⟩ := e.at_ j x hj
      refine ⟨v, h1, ?_⟩
      cases ek : C.kdOf j with
      | nrm => rw [ek] at h2; exact h2
      | hnd => rw [ek] at h2; exact h2
      | scr => rw [ek] at h2; exact h2
      | own =>
        rw [ek] at h2
        obtain ⟨q, us, es, rfl, rfl, z3, z4, z5, z6, z7⟩ := h2
        have nq : q ≠ p := fun z => e.sep i j p _ _ hji hk ek hg hj hs (by rw [h1, z])
        exact ⟨q, us, es, rfl, rfl, by rw [upd_ne nq]; exact z3, z4, fun m => z5 ((mst_upd hpm).mp m), z6, z7⟩
  · have low : ∀ {l : Nat} {z : PyData}, (Γ.set i (some (.list ys)))[l]? = some (some z) → ∃ z', Γ[l]? = some (some z') := fun {l z} hl => by
      by_cases hli : i = l
      · subst hli; exact ⟨_, hg⟩
      · rw [List.getElem?_set_ne hli] at hl; exact ⟨_, hl⟩
    obtain ⟨x', hx'⟩ := low h3
    obtain ⟨y', hy'⟩ := low h4
    exact e.sep j k q x' y' hjk h1 h2 hx' hy' h5
  · obtain ⟨o, ho⟩ := e.zd a ha
    by_cases hap : a = p
    · exact ⟨_, by rw [hap]; exact upd_same⟩
    · exact ⟨o, by rw [upd_ne hap]; exact ho⟩
theorem ds_app {i : Nat} {x : Str} {a : Expr} {p1 apos cpos : Pos} {f : Fn PyData} (hN : X.N[i]? = some x) (hv : Vis X.env.scope x) (hd : (x == ("__debug__" : Str)) = false) (hcd : (x == ("__classdict__" : Str)) = false) (hk : C.kdOf i = .own) (ha : PE X a (tE C f))
    (hs : starEach [a] X.env = (false, eval a X.env) :: starEach [] X.env) (hl : (apos.endLine == cpos.line) = true) (hz : ∀ b o, H0 b = some o → C.Z b) :
    PS X (.Expr (.Call (.Attribute (.Name x p1) "append" apos) [a] [] cpos) pos) (tS C H0 W0 fun Γ S => match getV Γ i with
      | some (.list xs) => (f Γ S).out fun y S1 => if xs.length < 16777216 then .nx (Γ.set i (some (.list (xs ++ [y])))) S1 else .bad
      | _ => .bad) := by
  have key := pe_bm (cpos := cpos) (apos := apos) PySem.F.plainAttrs_list PySem.F.slot_list_append PySem.F.type_list_append (mt_append (X := X)) (pe_var (pos := p1) hN hv hd hcd) (pa_cons ha pa_nil hs) rfl (by rw [hs]; rfl) hl hs rfl
  refine PS.imp (ps_expr key rfl) fun D σ H ⟨Γ, W, S, he, hw, st, p⟩ => ?_
  dsimp only at p
  split at p
  · rename_i xs hgv
    have hg : Γ[i]? = some (some (.list xs)) := by
      unfold getV at hgv
      split at hgv
      · rename_i d e; rw [e]; cases hgv; rfl
      · cases hgv
    obtain ⟨v, h1, h2⟩ := he.at_ i _ hg
    rw [hk] at h2
    obtain ⟨q, vs, ds, rfl, e2, h3, h4, h5, h6, h7⟩ := h2
    cases e2
    refine ⟨.ref q, h1, .inl ⟨rfl, vs, SqL.of h3⟩, ?_⟩
    exact out_then he hw st p fun y S1 u H1 W1 s1 v1 e1 r1 p1 => by
      split at p1
      · rename_i hz'
        obtain ⟨k1, k2⟩ := s1.k q _ h3 h5
        have w1 : W1 q = none := by
          cases e : W1 q with
          | none => rfl
          | some o => have := s1.f q o e h4; rw [h3] at this; cases this
        have n0 : H0 q = none := by
          cases e : H0 q with
          | none => rfl
          | some o => exact absurd (hz q o e) h6
        refine ⟨q, vs, u, rfl, rfl, k1, by rw [dpAll_len h7, sizeLine_eq]; exact hz', ?_⟩
        exact p1 σ _ W1 (e1.putO hk hg h1 w1 k2 (dpAll_append (dpAll_mono s1.w h7) (.cons r1 .nil))) (v1.put w1 k2) ((st.trans s1).put n0 k2) s1.w
      · exact p1.elim
  · exact p.elim
/-! ### return: what is ours is shown -/
def Kd.opn : Kd → Kd
  | .own => .nrm
  | k => k
def Cfg.opn (C : Cfg) : Cfg := { C with kd := C.kd.map Kd.opn }
theorem opn_kd (i : Nat) : C.opn.kdOf i = (C.kdOf i).opn := by
  unfold Cfg.kdOf Cfg.opn
  simp only [List.getD_eq_getElem?_getD, List.getElem?_map]
  cases C.kd[i]? <;> rfl
open Classical in
theorem EnvOk.opn {Γ : Env} {σ : L2.St} {H W : Hp} {S : Draw} (e : EnvOk C Γ σ H W) (v : Vw C W H S) (hz : ∀ b o, H0 b = some o → C.Z b) (st : Stp C.pm H0 W0 H W) :
    ∃ W1, EnvOk C.opn Γ σ H W1 ∧ Vw C.opn W1 H S ∧ Stp C.pm H0 W0 H W1 := by
  let own : Addr → Prop := fun a => ∃ (i : Nat) (d : PyData), C.kdOf i = .own ∧ Γ[i]? = some (some d) ∧ σ[i]? = some (some (V.ref a))
  have of_own : ∀ a, own a → ∃ vs ds, H a = some (.lst vs) ∧ W a = none ∧ ¬ Mst H C.pm a ∧ ¬ C.Z a ∧ DpAll K0 W vs ds := fun a ⟨i, d, h1, h2, h3⟩ => by
    obtain ⟨u, g1, g2⟩ := e.at_ i d h2
    rw [h3] at g1
    cases g1
    rw [h1] at g2
    obtain ⟨p, vs, ds, z1, _, z3, z4, z5, z6, z7⟩ := g2
    cases z1
    exact ⟨vs, ds, z3, z4, z5, z6, z7⟩
  let W1 : Hp := fun a => if own a then H a else W a
  have w1o : ∀ {a}, own a → W1 a = H a := fun h => if_pos h
  have w1n : ∀ {a}, ¬ own a → W1 a = W a := fun h => if_neg h
  have sub : Sub W W1 := fun a o h => by
    by_cases ho : own a
    · obtain ⟨_, _, _, z, _⟩ := of_own a ho
      rw [z] at h; cases h
    · rw [w1n ho]; exact h
  refine ⟨W1, ⟨e.len, fun i d h => ?_, fun i j p d x hij h1 => ?_, e.zd⟩, ⟨fun a o h => ?_, fun a m => ?_, v.st⟩, ⟨fun a o h => sub a o (st.w a o h), st.k, st.t, fun a o h hn => ?_⟩⟩
  · obtain ⟨u, g1, g2⟩ := e.at_ i d h
    refine ⟨u, g1, ?_⟩
    rw [opn_kd]
    cases ek : C.kdOf i with
    | nrm => rw [ek] at g2; exact dp_mono sub g2
    | hnd => rw [ek] at g2; exact g2
    | scr => rw [ek] at g2; exact g2.imp (dp_mono sub) id
    | own =>
      have g2' := g2
      rw [ek] at g2'
      obtain ⟨p, vs, ds, rfl, rfl, z3, z4, z5, z6, z7⟩ := g2'
      exact .lst (.of (by rw [w1o ⟨i, _, ek, h, g1⟩]; exact z3)) (dpAll_mono sub z7)
  · rw [opn_kd] at h1
    cases ek : C.kdOf i <;> rw [ek] at h1 <;> cases h1
  · by_cases ho : own a
    · rw [w1o ho] at h; exact h
    · rw [w1n ho] at h; exact v.sub a o h
  · by_cases ho : own a
    · obtain ⟨_, _, _, _, z, _⟩ := of_own a ho
      exact absurd m z
    · rw [w1n ho]; exact v.hid a m
  · by_cases ho : own a
    · obtain ⟨_, _, _, _, _, z, _⟩ := of_own a ho
      cases e0 : H0 a with
      | none => rfl
      | some u => exact absurd (hz a u e0) z
    · rw [w1n ho] at h; exact st.f a o h hn
theorem ds_ret {e : Expr} {f : Fn PyData} (h : PE X e (tE C.opn f)) (hz : ∀ b o, H0 b = some o → C.Z b) : PS X (.Return (some e) pos) (tS C H0 W0 fun Γ S => (f Γ S).out fun x S1 => .ret x S1) := PS.imp (ps_ret h) fun D σ H ⟨Γ, W, S, he, hv, st, p⟩ => by
  obtain ⟨W1, e1, v1, t1⟩ := he.opn hv hz st
  refine ⟨Γ, W1, S, e1, v1, ?_⟩
  dsimp only at p
  cases q : f Γ S with
  | ok x S1 =>
    rw [q] at p
    exact fun v H2 W2 s2 v2 d2 => p v H2 W2 ⟨v2.sub, v2.hid, v2.st⟩ (t1.trans s2) d2
  | exc c d S1 =>
    rw [q] at p
    exact fun H2 W2 s2 v2 => p H2 W2 (t1.trans s2) ⟨v2.sub, v2.hid, v2.st⟩
  | bad =>
    rw [q] at p
    exact p.elim
theorem ds_retN : PS X (.Return none pos) (tS C H0 W0 fun _ S => .ret .none S) := PS.imp ps_retN fun D σ H ⟨Γ, W, S, he, hv, st, p⟩ => p .non H W hv st .non
/-! ### name op= e -/
theorem ds_augA {i : Nat} {x : Str} {e : Expr} {p' : Pos} {f : Fn PyData} (nd : X.N.Nodup) (hi : X.N[i]? = some x) (hx : Loc X.env.scope x) (hf : X.fn x = true ∨ X.env.scope.names.lookup x = some .local) (hk : C.kdOf i = .nrm) (he : PE X e (tE C f)) :
    PS X (.AugAssign (.Name x p') .Add e pos) (tS C H0 W0 fun Γ S => match getV Γ i with
      | some z => (f Γ S).out fun y S1 => match z, y with
        | .int a, .int b => .nx (Γ.set i (some (.int (a + b)))) S1
        | _, _ => .bad
      | none => .bad) := PS.imp (ps_aug nd hi hx he ip_add hf) fun D σ H ⟨Γ, W, S, hen, hv, st, p⟩ => by
  dsimp only at p
  split at p
  · rename_i z hgv
    have hg : Γ[i]? = some (some z) := by
      unfold getV at hgv
      split at hgv
      · rename_i d e; rw [e]; cases hgv; rfl
      · cases hgv
    obtain ⟨v, h1, h2⟩ := hen.at_ i _ hg
    rw [hk] at h2
    refine ⟨v, h1, ?_⟩
    exact out_then hen hv st p fun y S1 u H1 W1 s1 v1 e1 r1 p1 => by
      cases h2 <;> try exact p1.elim
      cases r1 <;> try exact p1.elim
      rename_i a b
      exact ⟨a, b, rfl, rfl, p1 _ H1 W1 (e1.set hk (.int _)) v1 (st.trans s1) s1.w⟩
  · exact p.elim
/-! ### loops -/
theorem ds_for {tg iter : Expr} {body : List Stmt} {t : Tg} {fI : Fn (List PyData)} {g : FnS} (hp : PassesOwn (model X.prog X.w) X.A X.env X.xe) (hc : X.calm = true) (hi : PI X tg iter (tI C KeepS fI)) (hg : PG X tg (tgD C t)) (hb : PSs X body (tS C H0 W0 g)) (hs : ∀ x, foldedSetIterable iter X.env x = pure x) :
    PS X (.For tg iter body [] pos) (tS C H0 W0 fun Γ S => (fI Γ S).out fun xs S1 => forL t g xs Γ S1) := PS.imp (ps_for hp hc hi hg hb hs) fun D σ H ⟨Γ, W, S, he, hv, st, p⟩ => by
  refine ⟨Γ, W, S, he, hv, ?_⟩
  dsimp only at p
  cases e0 : fI Γ S with
  | bad => rw [e0] at p; exact p.elim
  | exc c d S' => rw [e0] at p; exact fun H1 W1 s1 v1 => p H1 W1 (st.trans s1) v1
  | ok xs S0 =>
    rw [e0] at p
    have p : (forL t g xs Γ S0).Post (NxD C H0 W0 W D.nx) (RtD C H0 W0 D.rt) (NxD C H0 W0 W D.bk) (NxD C H0 W0 W D.ct) (ExD C H0 W0) := p
    intro J H1 W1 G s1 v1 wk gg kp
    refine ⟨fun i m σi Hi => m = xs.length - i ∧ i ≤ xs.length ∧ ∃ Γi Wi Si, EnvOk C Γi σi Hi Wi ∧ Vw C Wi Hi Si ∧ Stp C.pm H0 W0 Hi Wi ∧ Sub W1 Wi ∧ (forL t g (xs.drop i) Γi Si).Post (NxD C H0 W0 W D.nx) (RtD C H0 W0 D.rt) (NxD C H0 W0 W D.bk) (NxD C H0 W0 W D.ct) (ExD C H0 W0),
      ⟨xs.length, by simp, Nat.zero_le _, Γ, W1, S0, he.stp s1, v1, st.trans s1, fun _ _ h => h, by simpa using p⟩, ?_⟩
    rintro i m σi Hi ⟨rfl, hi, Γi, Wi, Si, ei, vi, ti, sbi, pi⟩
    have gi := kp _ _ Hi Wi sbi gg
    have sbW : Sub W Wi := fun a o h => sbi a o (s1.w a o h)
    by_cases hlt : i < xs.length
    · refine .inr ⟨wk.go i Hi Wi Si vi gi hlt, fun σ' H' => i + 1 ≤ xs.length ∧ ∃ Γj Wj Sj, EnvOk C Γj σ' H' Wj ∧ Vw C Wj H' Sj ∧ Stp C.pm H0 W0 H' Wj ∧ Sub W1 Wj ∧ (forL t g (xs.drop (i + 1)) Γj Sj).Post (NxD C H0 W0 W D.nx) (RtD C H0 W0 D.rt) (NxD C H0 W0 W D.bk) (NxD C H0 W0 W D.ct) (ExD C H0 W0),
        fun σ' H' h' => ⟨xs.length - (i + 1), by omega, rfl, h'.1, h'.2⟩, fun x H' y => ?_⟩
      obtain ⟨d, W', hd, s2, v2, dx⟩ := wk.yld i Hi Wi Si x H' vi gi hlt y
      rw [drop_at hd] at pi
      unfold forL at pi
      split at pi
      · rename_i Γ' hb'
        refine ⟨Γi, W', Si, d, Γ', ei.stp s2, v2, dx, hb', fun σ2 e2 _ _ => ?_⟩
        have sb2 : Sub W1 W' := fun a o h => s2.w a o (sbi a o h)
        have nxt : ∀ {Γ3 : Env} {S3 : Draw} {k : L2.St → Hp → Prop}, (∀ σ3 H3, (i + 1 ≤ xs.length ∧ ∃ Γj Wj Sj, EnvOk C Γj σ3 H3 Wj ∧ Vw C Wj H3 Sj ∧ Stp C.pm H0 W0 H3 Wj ∧ Sub W1 Wj ∧ (forL t g (xs.drop (i + 1)) Γj Sj).Post (NxD C H0 W0 W D.nx) (RtD C H0 W0 D.rt) (NxD C H0 W0 W D.bk) (NxD C H0 W0 W D.ct) (ExD C H0 W0)) → k σ3 H3) →
            (forL t g (xs.drop (i + 1)) Γ3 S3).Post (NxD C H0 W0 W D.nx) (RtD C H0 W0 D.rt) (NxD C H0 W0 W D.bk) (NxD C H0 W0 W D.ct) (ExD C H0 W0) → NxD C H0 W0 W' k Γ3 S3 := fun {Γ3 S3 k} hk q σ3 H3 W3 e3 v3 t3 u3 => hk σ3 H3 ⟨hlt, Γ3, W3, S3, e3, v3, t3, fun a o h => u3 a o (sb2 a o h), q⟩
        refine ⟨Γ', W', Si, e2, v2, ti.trans s2, ?_⟩
        cases eb : g Γ' Si with
        | nx Γ3 S3 => rw [eb] at pi; exact nxt (fun _ _ h => h) pi
        | cnt Γ3 S3 => rw [eb] at pi; exact nxt (fun _ _ h => h) pi
        | brk Γ3 S3 =>
          rw [eb] at pi
          exact fun σ3 H3 W3 e3 v3 t3 u3 => (show NxD C H0 W0 W D.nx Γ3 S3 from pi) σ3 H3 W3 e3 v3 t3 fun a o h => u3 a o (s2.w a o (sbW a o h))
        | ret d3 S3 => rw [eb] at pi; exact pi
        | exc c3 d3 S3 => rw [eb] at pi; exact pi
        | bad => rw [eb] at pi; exact pi.elim
      · exact pi.elim
    · have ej : i = xs.length := by omega
      subst ej
      rw [List.drop_length] at pi
      exact .inl ⟨wk.stop Hi Wi Si vi gi, pi σi Hi Wi ei vi ti sbW⟩
theorem ds_whl {c : Expr} {body : List Stmt} {f : Fn Bool} {g : FnS} (hp : PassesOwn (model X.prog X.w) X.A X.env X.xe) (hc : PT X c (tT C f)) (hb : PSs X body (tS C H0 W0 g)) (n : Nat) : PS X (.While c body [] pos) (tS C H0 W0 fun Γ S => whlL f g n Γ S) :=
  PS.imp (ps_while hp hc hb) fun D σ H ⟨Γ, W, S, he, hv, st, p⟩ => by
    refine ⟨fun m σi Hi => ∃ Γi Wi Si, EnvOk C Γi σi Hi Wi ∧ Vw C Wi Hi Si ∧ Stp C.pm H0 W0 Hi Wi ∧ Sub W Wi ∧ (whlL f g m Γi Si).Post (NxD C H0 W0 W D.nx) (RtD C H0 W0 D.rt) (NxD C H0 W0 W D.bk) (NxD C H0 W0 W D.ct) (ExD C H0 W0), ⟨n, Γ, W, S, he, hv, st, fun _ _ h => h, p⟩, ?_⟩
    rintro m σi Hi ⟨Γi, Wi, Si, ei, vi, ti, sbi, pi⟩
    cases m with
    | zero => exact pi.elim
    | succ m =>
      unfold whlL at pi
      exact out_then ei vi ti pi fun k S1 b H1 W1 s1 v1 e1 r1 p1 => by
        subst r1
        have sb1 : Sub W W1 := fun a o h => s1.w a o (sbi a o h)
        cases b with
        | false =>
          rw [if_neg Bool.false_ne_true] at p1 ⊢
          exact p1 σi H1 W1 e1 v1 (ti.trans s1) sb1
        | true =>
          rw [if_pos rfl] at p1 ⊢
          refine ⟨fun σ' H' => ∃ Γj Wj Sj, EnvOk C Γj σ' H' Wj ∧ Vw C Wj H' Sj ∧ Stp C.pm H0 W0 H' Wj ∧ Sub W Wj ∧ (whlL f g m Γj Sj).Post (NxD C H0 W0 W D.nx) (RtD C H0 W0 D.rt) (NxD C H0 W0 W D.bk) (NxD C H0 W0 W D.ct) (ExD C H0 W0), fun σ' H' h' => ⟨m, Nat.lt_succ_self _, h'⟩, ?_⟩
          refine ⟨Γi, W1, S1, e1, v1, ti.trans s1, ?_⟩
          cases eb : g Γi S1 with
          | nx Γ3 S3 => rw [eb] at p1; exact fun σ3 H3 W3 e3 v3 t3 u3 => ⟨Γ3, W3, S3, e3, v3, t3, fun a o h => u3 a o (sb1 a o h), p1⟩
          | cnt Γ3 S3 => rw [eb] at p1; exact fun σ3 H3 W3 e3 v3 t3 u3 => ⟨Γ3, W3, S3, e3, v3, t3, fun a o h => u3 a o (sb1 a o h), p1⟩
          | brk Γ3 S3 => rw [eb] at p1; exact fun σ3 H3 W3 e3 v3 t3 u3 => (show NxD C H0 W0 W D.nx Γ3 S3 from p1) σ3 H3 W3 e3 v3 t3 fun a o h => u3 a o (sb1 a o h)
          | ret d3 S3 => rw [eb] at p1; exact p1
          | exc c3 d3 S3 => rw [eb] at p1; exact p1
          | bad => rw [eb] at p1; exact p1.elim
end
end PD
/-! P10: more assignments, calls of the program's functions, texts, ranges as values. -/
namespace PD
open PySem PySem.Spec PyProof.Rows L2
section
variable {X : Cx} {C : Cfg} {H0 W0 : Hp} {pos : Pos}
/-- a hidden list, new since Hs -/
def OwnAt (C : Cfg) (Hs H W : Hp) (p : Addr) (ds : List PyData) : Prop := ∃ vs, Hs p = none ∧ H p = some (.lst vs) ∧ W p = none ∧ ¬ Mst H C.pm p ∧ DpAll K0 W vs ds
theorem OwnAt.stp {Hs H W H' W' : Hp} {p : Addr} {ds : List PyData} (o : OwnAt C Hs H W p ds) (s : Stp C.pm H W H' W') : OwnAt C Hs H' W' p ds := by
  obtain ⟨vs, h1, h2, h3, h4, h5⟩ := o
  obtain ⟨k1, k2⟩ := s.k p _ h2 h4
  refine ⟨vs, h1, k1, ?_, k2, dpAll_mono s.w h5⟩
  cases e : W' p with
  | none => rfl
  | some u => have := s.f p u e h3; rw [h2] at this; cases this
/-- no slot of ours -/
def NoOwn (C : Cfg) (Γ : Env) (σ : L2.St) (p : Addr) : Prop := ∀ (j : Nat) (d : PyData), C.kdOf j = .own → Γ[j]? = some (some d) → σ[j]? ≠ some (some (V.ref p))
theorem EnvOk.noOwn {Γ : Env} {σ : L2.St} {H W : Hp} (e : EnvOk C Γ σ H W) {p : Addr} (hn : H p = none) : NoOwn C Γ σ p := fun j d hj hg hs => by
  obtain ⟨v, h1, h2⟩ := e.at_ j d hg
  rw [hj] at h2
  obtain ⟨q, us, es, rfl, _, h3, _⟩ := h2
  rw [hs] at h1
  cases h1
  rw [hn] at h3
  cases h3
theorem EnvOk.noZ {Γ : Env} {σ : L2.St} {H W : Hp} (e : EnvOk C Γ σ H W) {p : Addr} (hn : H p = none) : ¬ C.Z p := fun z => by
  obtain ⟨o, q⟩ := e.zd p z
  rw [hn] at q
  cases q
theorem EnvOk.putN {Γ : Env} {σ : L2.St} {Hs H W : Hp} (e : EnvOk C Γ σ H W) {i : Nat} {p : Addr} {ds : List PyData} (hk : C.kdOf i = .own) (o : OwnAt C Hs H W p ds) (hz : ¬ C.Z p) (no : NoOwn C Γ σ p) :
    EnvOk C (Γ.set i (some (.list ds))) (σ.set i (some (.ref p))) H W := by
  obtain ⟨vs, _, hl, hw, hm, hd⟩ := o
  refine ⟨by rw [List.length_set, List.length_set]; exact e.len, fun j x hj => ?_, fun j k q x y hjk h1 h2 h3 h4 h5 => ?_, e.zd⟩
  · by_cases hji : i = j
    · subst hji
      by_cases hl' : i < Γ.length
      · rw [List.getElem?_set_self hl'] at hj
        cases hj
        exact ⟨.ref p, List.getElem?_set_self (by rw [← e.len]; exact hl'), by rw [hk]; exact ⟨p, vs, ds, rfl, rfl, hl, hw, hm, hz, hd⟩⟩
      · rw [List.getElem?_eq_none (by rw [List.length_set]; omega)] at hj
        cases hj
    · rw [List.getElem?_set_ne hji] at hj ⊢
      exact e.at_ j x hj
  · by_cases hji : i = j
    · subst hji
      rw [List.getElem?_set_ne hjk] at h4 ⊢
      by_cases hl' : i < σ.length
      · rw [List.getElem?_set_self hl'] at h5
        cases h5
        exact no k y h2 h4
      · rw [List.getElem?_eq_none (by rw [List.length_set]; omega)] at h5
        cases h5
    · rw [List.getElem?_set_ne hji] at h3 h5
      by_cases hki : i = k
      · subst hki
        by_cases hl' : i < σ.length
        · rw [List.getElem?_set_self hl']
          intro z
          cases z
          exact no j x h1 h3 h5
        · rw [List.getElem?_eq_none (by rw [List.length_set]; omega)]
          intro z
          cases z
      · rw [List.getElem?_set_ne hki] at h4 ⊢
        exact e.sep j k q x y hjk h1 h2 h3 h4 h5
/-! ### a new list to a name -/
theorem ds_newN {st : Stmt} {te : TE} {f : Fn (List PyData)} {i : Nat} (h : PS X st (tAsg te (gName i))) (hte : ∀ σ H Q, tF C f σ H Q → te σ H Q) (hk : C.kdOf i = .nrm) :
    PS X st (tS C H0 W0 fun Γ S => (f Γ S).out fun xs S1 => .nx (Γ.set i (some (.list xs))) S1) := PS.imp h fun D σ H p => by
  obtain ⟨Γ, W, S, he, hv, st, p⟩ := p
  have q : (((f Γ S).bind fun ds S' => (Res.ok (PyData.list ds) S' : Res PyData)).out fun x S1 => .nx (Γ.set i (some x)) S1).Post (NxD C H0 W0 W D.nx) (RtD C H0 W0 D.rt) (NxD C H0 W0 W D.bk) (NxD C H0 W0 W D.ct) (ExD C H0 W0) := by
    dsimp only at p
    cases e : f Γ S with
    | _ => rw [e] at p; exact p
  exact hte _ _ _ (tF_show (out_then (f := fun Γ S => (f Γ S).bind fun ds S' => Res.ok (PyData.list ds) S') he hv st q fun x S1 v H1 W1 s1 v1 e1 r1 p1 => p1 _ H1 W1 (e1.set hk r1) v1 (st.trans s1) s1.w))
theorem ds_newO {st : Stmt} {te : TE} {f : Fn (List PyData)} {i : Nat} (h : PS X st (tAsg te (gName i))) (hte : ∀ σ H Q, tF C f σ H Q → te σ H Q) (hk : C.kdOf i = .own) :
    PS X st (tS C H0 W0 fun Γ S => (f Γ S).out fun xs S1 => .nx (Γ.set i (some (.list xs))) S1) := PS.imp h fun D σ H p => asgO_go hk hte p
theorem ds_setE {x : Str} {e : Expr} {f : Fn PyData} {i : Nat} {p' : Pos} (h : PE X e (tE C f)) (hN : X.N.Nodup) (hi : X.N[i]? = some x) (hx : Loc X.env.scope x) (hs : swapsWith e (some (.Name x p')) pos.line X.env = pure false) (hf : X.fn x = true ∨ X.env.scope.names.lookup x = some .local) (hk : C.kdOf i = .nrm) :
    PS X (.Assign [.Name x p'] e pos) (tS C H0 W0 fun Γ S => (f Γ S).out fun x S1 => .nx (Γ.set i (some x)) S1) := PS.imp (ps_set hN hi hx h hs hf) fun D σ H p => by
  obtain ⟨Γ, W, S, he, hv, st, p⟩ := p
  exact out_then he hv st p fun x S1 v H1 W1 s1 v1 e1 r1 p1 => p1 _ H1 W1 (e1.set hk r1) v1 (st.trans s1) s1.w
theorem ps_setF {x : Str} {e : Expr} {f : Fn (List PyData)} {i : Nat} {p' : Pos} (h : PE X e (tF C f)) (hN : X.N.Nodup) (hi : X.N[i]? = some x) (hx : Loc X.env.scope x) (hs : swapsWith e (some (.Name x p')) pos.line X.env = pure false) (hf : X.fn x = true ∨ X.env.scope.names.lookup x = some .local) :
    PS X (.Assign [.Name x p'] e pos) (tAsg (tF C f) (gName i)) := ps_set hN hi hx h hs hf
/-! ### x, y = a, b -/
/-- what lies ready for a slot -/
def Rdy (C : Cfg) (k : Kd) (Hs H W : Hp) (v : V) (d : PyData) : Prop := match k with
  | .own => ∃ p ds, v = .ref p ∧ d = .list ds ∧ OwnAt C Hs H W p ds
  | _ => Dp K0 W v d
/-- a value on its way to a slot -/
def tK (C : Cfg) (k : Kd) (f : Fn PyData) : TE := fun σ H Q => ∃ Γ W S, EnvOk C Γ σ H W ∧ Vw C W H S ∧ (f Γ S).Post
  (fun d S' => ∀ v H' W', Stp C.pm H W H' W' → Vw C W' H' S' → Rdy C k H H' W' v d → Q v H')
  (fun c d S' => ∀ H' W', Stp C.pm H W H' W' → Vw C W' H' S' → C.XQ c d S' H' W')
theorem pk_nrm {e : Expr} {k : Kd} {f : Fn PyData} (hk : k ≠ .own) (h : PE X e (tE C f)) : PE X e (tK C k f) := PE.imp h fun σ H Q ⟨Γ, W, S, he, hv, p⟩ => ⟨Γ, W, S, he, hv, p.mono (fun d S' q v H' W' s v' r => q v H' W' s v' (by
  cases k with
  | own => exact absurd rfl hk
  | _ => exact r)) fun _ _ _ q => q⟩
theorem pk_own {e : Expr} {f : Fn (List PyData)} (h : PE X e (tF C f)) : PE X e (tK C .own fun Γ S => (f Γ S).bind fun ds S1 => .ok (.list ds) S1) := PE.imp h fun σ H Q ⟨Γ, W, S, he, hv, p⟩ => by
  refine ⟨Γ, W, S, he, hv, ?_⟩
  dsimp only at p
  cases e : f Γ S with
  | ok ds S1 =>
    rw [e] at p
    exact fun q vs H' W' s v hn hl hw hm hd => p (.ref q) H' W' s v ⟨q, ds, rfl, rfl, vs, hn, hl, hw, hm, hd⟩
  | exc c d S1 => rw [e] at p; exact p
  | bad => rw [e] at p; exact p
theorem Rdy.stp {k : Kd} {Hs H W H' W' : Hp} {v : V} {d : PyData} (r : Rdy C k Hs H W v d) (s : Stp C.pm H W H' W') : Rdy C k Hs H' W' v d := by
  cases k with
  | own => obtain ⟨p, ds, e1, e2, o⟩ := r; exact ⟨p, ds, e1, e2, o.stp s⟩
  | _ => exact dp_mono s.w r
theorem EnvOk.rdy {Γ : Env} {σ : L2.St} {Hs H W : Hp} {k : Kd} {i : Nat} {v : V} {d : PyData} (e : EnvOk C Γ σ H W) (hk : C.kdOf i = k) (hkk : k = .nrm ∨ k = .own) (r : Rdy C k Hs H W v d) (hz : ∀ p, v = .ref p → k = .own → ¬ C.Z p) (no : ∀ p, v = .ref p → k = .own → NoOwn C Γ σ p) : EnvOk C (Γ.set i (some d)) (σ.set i (some v)) H W := by
  rcases hkk with rfl | rfl
  · exact e.set hk r
  · obtain ⟨p, ds, rfl, rfl, o⟩ := r
    exact e.putN hk o (hz p rfl rfl) (no p rfl rfl)
theorem NoOwn.set {Γ : Env} {σ : L2.St} {p : Addr} {i : Nat} {v : V} {d : PyData} (no : NoOwn C Γ σ p) (h : C.kdOf i = .own → v ≠ .ref p) : NoOwn C (Γ.set i (some d)) (σ.set i (some v)) p := fun j x hj hg hs => by
  by_cases hij : i = j
  · subst hij
    by_cases hl : i < σ.length
    · rw [List.getElem?_set_self hl] at hs
      cases hs
      exact h hj rfl
    · rw [List.getElem?_eq_none (by rw [List.length_set]; omega)] at hs
      cases hs
  · rw [List.getElem?_set_ne hij] at hg hs
    exact no j x hj hg hs
theorem tK_then {γ : Type} {k : Kd} {f : Fn PyData} {Γ : Env} {σ : L2.St} {H W : Hp} {S : Draw} {kk : PyData → Draw → Res γ} {o : γ → Draw → Out} {Q : VK} {nx bk ct : Env → Draw → Prop} {rt : PyData → Draw → Prop} (he : EnvOk C Γ σ H W) (hv : Vw C W H S) (st : Stp C.pm H0 W0 H W)
    (h : (((f Γ S).bind kk).out o).Post nx rt bk ct (ExD C H0 W0))
    (next : ∀ x S1 v H1 W1, Stp C.pm H W H1 W1 → Vw C W1 H1 S1 → EnvOk C Γ σ H1 W1 → Rdy C k H H1 W1 v x → ((kk x S1).out o).Post nx rt bk ct (ExD C H0 W0) → Q v H1) : tK C k f σ H Q := by
  refine ⟨Γ, W, S, he, hv, ?_⟩
  cases e : f Γ S with
  | ok x S1 =>
    rw [e] at h
    exact fun v H1 W1 s1 v1 r => next x S1 v H1 W1 s1 v1 (he.stp s1) r h
  | exc c d S1 =>
    rw [e] at h
    exact fun H1 W1 s1 v1 => h H1 W1 (st.trans s1) v1
  | bad =>
    rw [e] at h
    exact h.elim
theorem hn_back {pm : Addr} {H W H1 W1 : Hp} (s : Stp pm H W H1 W1) {p : Addr} (h : H1 p = none) : H p = none := by
  cases e : H p with
  | none => rfl
  | some o => obtain ⟨o', e'⟩ := s.t p o e; rw [h] at e'; cases e'
theorem ds_par {i j : Nat} {x y : Str} {a b : Expr} {px py pt : Pos} {kt k2 pt2} {f g : Fn PyData} (hc : X.calm = true) (hN : X.N.Nodup) (hi : X.N[i]? = some x) (hj : X.N[j]? = some y) (hij : i ≠ j) (hx : X.env.scope.names.lookup x = some .local) (hy : X.env.scope.names.lookup y = some .local)
    (ki : C.kdOf i = .nrm ∨ C.kdOf i = .own) (kj : C.kdOf j = .nrm ∨ C.kdOf j = .own) (ha : PE X a (tK C (C.kdOf i) f)) (hb : PE X b (tK C (C.kdOf j) g)) (sa : starEach [a, b] X.env = (false, eval a X.env) :: starEach [b] X.env) (sb : starEach [b] X.env = (false, eval b X.env) :: starEach [] X.env)
    (hw : swappedStores [.Tuple [.Name x px, .Name y py] kt pt] (.Tuple [a, b] k2 pt2) X.env = pure (some [x, y])) (hs : swapsWithSole [.Tuple [.Name x px, .Name y py] kt pt] (.Tuple [a, b] k2 pt2) pos.line X.env = pure false) :
    PS X (.Assign [.Tuple [.Name x px, .Name y py] kt pt] (.Tuple [a, b] k2 pt2) pos) (tS C H0 W0 fun Γ S => ((f Γ S).bind fun u S1 => (g Γ S1).bind fun v S2 => (.ok (u, v) S2 : Res (PyData × PyData))).out fun p S2 => .nx ((Γ.set i (some p.1)).set j (some p.2)) S2) :=
  PS.imp (ps_par hc hN hi hj hij hx hy (pa_cons ha (pa_cons hb pa_nil sb) sa) hw hs) fun D σ H ⟨Γ, W, S, he, hv, st, p⟩ =>
    tK_then he hv st p fun u S1 v1 H1 W1 s1 w1 e1 r1 p1 => tK_then e1 w1 (st.trans s1) p1 fun u2 S2 v2 H2 W2 s2 w2 e2 r2 p2 => by
      have r1' := r1.stp s2
      refine ⟨v1, v2, rfl, p2 _ H2 W2 ?_ w2 ((st.trans s1).trans s2) (s1.trans s2).w⟩
      have n1 : ∀ p, v1 = .ref p → C.kdOf i = .own → H p = none ∧ ∃ o, H1 p = some o := fun p e k => by
        rw [k] at r1
        obtain ⟨q, ds, z1, _, vs, z2, z3, _⟩ := r1
        rw [e] at z1
        cases z1
        exact ⟨z2, _, z3⟩
      have n2 : ∀ p, v2 = .ref p → C.kdOf j = .own → H1 p = none := fun p e k => by
        rw [k] at r2
        obtain ⟨q, ds, z1, _, vs, z2, _⟩ := r2
        rw [e] at z1
        cases z1
        exact z2
      have e3 : EnvOk C (Γ.set i (some u)) (σ.set i (some v1)) H2 W2 := e2.rdy rfl ki r1' (fun p e k => he.noZ (n1 p e k).1) fun p e k => he.noOwn (n1 p e k).1
      exact e3.rdy rfl kj r2 (fun p e k => e1.noZ (n2 p e k)) fun p e k => (e1.noOwn (n2 p e k)).set fun k' e' => by
        obtain ⟨_, o, z⟩ := n1 p e' k'
        rw [n2 p e k] at z
        cases z
theorem ds_par3 {i j l : Nat} {x y z : Str} {a b c : Expr} {px py pz pt : Pos} {kt k2 pt2} {f g h : Fn PyData} (hc : X.calm = true) (hN : X.N.Nodup) (hi : X.N[i]? = some x) (hj : X.N[j]? = some y) (hl : X.N[l]? = some z) (hij : i ≠ j) (hil : i ≠ l) (hjl : j ≠ l)
    (hx : X.env.scope.names.lookup x = some .local) (hy : X.env.scope.names.lookup y = some .local) (hz : X.env.scope.names.lookup z = some .local)
    (ki : C.kdOf i = .nrm ∨ C.kdOf i = .own) (kj : C.kdOf j = .nrm ∨ C.kdOf j = .own) (kl : C.kdOf l = .nrm ∨ C.kdOf l = .own) (ha : PE X a (tK C (C.kdOf i) f)) (hb : PE X b (tK C (C.kdOf j) g)) (hcc : PE X c (tK C (C.kdOf l) h))
    (sa : starEach [a, b, c] X.env = (false, eval a X.env) :: starEach [b, c] X.env) (sb : starEach [b, c] X.env = (false, eval b X.env) :: starEach [c] X.env) (sc : starEach [c] X.env = (false, eval c X.env) :: starEach [] X.env)
    (hw : swappedStores [.Tuple [.Name x px, .Name y py, .Name z pz] kt pt] (.Tuple [a, b, c] k2 pt2) X.env = pure (some [x, y, z])) (hs : swapsWithSole [.Tuple [.Name x px, .Name y py, .Name z pz] kt pt] (.Tuple [a, b, c] k2 pt2) pos.line X.env = pure false) :
    PS X (.Assign [.Tuple [.Name x px, .Name y py, .Name z pz] kt pt] (.Tuple [a, b, c] k2 pt2) pos) (tS C H0 W0 fun Γ S => ((f Γ S).bind fun u S1 => (g Γ S1).bind fun v S2 => (h Γ S2).bind fun w S3 => (.ok (u, v, w) S3 : Res (PyData × PyData × PyData))).out fun p S2 => .nx (((Γ.set i (some p.1)).set j (some p.2.1)).set l (some p.2.2)) S2) :=
  PS.imp (ps_par3 hc hN hi hj hl hij hil hjl hx hy hz (pa_cons ha (pa_cons hb (pa_cons hcc pa_nil sc) sb) sa) hw hs) fun D σ H ⟨Γ, W, S, he, hv, st, p⟩ =>
    tK_then he hv st p fun u S1 v1 H1 W1 s1 w1 e1 r1 p1 => tK_then e1 w1 (st.trans s1) p1 fun u2 S2 v2 H2 W2 s2 w2 e2 r2 p2 => tK_then e2 w2 ((st.trans s1).trans s2) p2 fun u3 S3 v3 H3 W3 s3 w3 e3 r3 p3 => by
      have r1' := (r1.stp s2).stp s3
      have r2' := r2.stp s3
      refine ⟨v1, v2, v3, rfl, p3 _ H3 W3 ?_ w3 (((st.trans s1).trans s2).trans s3) ((s1.trans s2).trans s3).w⟩
      have n1 : ∀ p, v1 = .ref p → C.kdOf i = .own → H p = none ∧ ∃ o, H1 p = some o := fun p e k => by
        rw [k] at r1
        obtain ⟨q, ds, z1, _, vs, z2, z3, _⟩ := r1
        rw [e] at z1
        cases z1
        exact ⟨z2, _, z3⟩
      have n2 : ∀ p, v2 = .ref p → C.kdOf j = .own → H1 p = none ∧ ∃ o, H2 p = some o := fun p e k => by
        rw [k] at r2
        obtain ⟨q, ds, z1, _, vs, z2, z3, _⟩ := r2
        rw [e] at z1
        cases z1
        exact ⟨z2, _, z3⟩
      have n3 : ∀ p, v3 = .ref p → C.kdOf l = .own → H2 p = none := fun p e k => by
        rw [k] at r3
        obtain ⟨q, ds, z1, _, vs, z2, _⟩ := r3
        rw [e] at z1
        cases z1
        exact z2
      have e4 : EnvOk C (Γ.set i (some u)) (σ.set i (some v1)) H3 W3 := e3.rdy rfl ki r1' (fun p e k => he.noZ (n1 p e k).1) fun p e k => he.noOwn (n1 p e k).1
      have e5 : EnvOk C ((Γ.set i (some u)).set j (some u2)) ((σ.set i (some v1)).set j (some v2)) H3 W3 := e4.rdy rfl kj r2' (fun p e k => e1.noZ (n2 p e k).1) fun p e k => (e1.noOwn (n2 p e k).1).set fun k' e' => by
        obtain ⟨_, o, z⟩ := n1 p e' k'
        rw [(n2 p e k).1] at z
        cases z
      exact e5.rdy rfl kl r3 (fun p e k => e2.noZ (n3 p e k)) fun p e k => ((e2.noOwn (n3 p e k)).set fun k' e' => by
        obtain ⟨_, o, z⟩ := n1 p e' k'
        rw [hn_back s2 (n3 p e k)] at z
        cases z).set fun k' e' => by
        obtain ⟨_, o, z⟩ := n2 p e' k'
        rw [n3 p e k] at z
        cases z
/-! ### calls -/
/-- an argument, by the kind of its parameter -/
def ArgK (pm : Addr) (K : PySem.W.Frag) (W : Hp) : Kd → V → PyData → Prop
  | .hnd, v, d => v = .ref pm ∧ d = hndD
  | .scr, v, d => Dp K0 W v d ∨ ∃ (p : Addr) (ns : List Int), v = .ref p ∧ d = .list (ns.map .int) ∧ SqL K (fun _ => none) p (ns.map V.int)
  | _, v, d => Dp K0 W v d
inductive ArgsK (pm : Addr) (K : PySem.W.Frag) (W : Hp) : List Kd → List V → List PyData → Prop where
  | nil : ArgsK pm K W [] [] []
  | cons {k : Kd} {ks : List Kd} {v : V} {vs : List V} {d : PyData} {ds : List PyData} (h : ArgK pm K W k v d) (t : ArgsK pm K W ks vs ds) : ArgsK pm K W (k :: ks) (v :: vs) (d :: ds)
theorem ArgK.mono {pm : Addr} {K : PySem.W.Frag} {W W' : Hp} (s : Sub W W') {k : Kd} {v : V} {d : PyData} (h : ArgK pm K W k v d) : ArgK pm K W' k v d := by
  cases k with
  | hnd => exact h
  | scr => exact h.imp (dp_mono s) id
  | _ => exact dp_mono s h
theorem de_cons2 {R : Hp → Hp → V → PyData → Prop} {RL RL' : Hp → Hp → List V → List PyData → Prop} {e : Expr} {es : List Expr} {f : Fn PyData} {g : Fn (List PyData)} (ha : PE X e (tG C R f)) (hr : PA X es (tG C RL g))
    (hs : starEach (e :: es) X.env = (false, eval e X.env) :: starEach es X.env) (st : ∀ H W H' W' v d, Stp C.pm H W H' W' → R H W v d → R H' W' v d) (hc : ∀ H W v d vs ds, R H W v d → RL H W vs ds → RL' H W (v :: vs) (d :: ds)) :
    PA X (e :: es) (tG C RL' fun Γ S => (f Γ S).bind fun x S1 => (g Γ S1).bind fun xs S2 => .ok (x :: xs) S2) := PA.imp (pa_cons ha hr hs) fun σ H Q ⟨Γ, W, S, he, hw, p⟩ =>
  tG_then he hw p (fun c d S' h => h) fun x S1 v H1 W1 s1 v1 e1 r1 p1 => tG_then e1 v1 p1 (xq_stp (fun c d S' h => h) s1) fun xs S2 vs H2 W2 s2 v2 e2 r2 p2 =>
    p2 (v :: vs) H2 W2 (s1.trans s2) v2 (hc _ _ _ _ _ _ (st _ _ _ _ _ _ s2 r1) r2)
/-- the handle -/
theorem de_hnd {i : Nat} {x : Str} (hN : X.N[i]? = some x) (hv : Vis X.env.scope x) (hd : (x == ("__debug__" : Str)) = false) (hcd : (x == ("__classdict__" : Str)) = false) (hk : C.kdOf i = .hnd) :
    PE X (.Name x pos) (tG C (fun _ W v d => ArgK C.pm C.K W .hnd v d) fun Γ S => lift (getV Γ i) S) := PE.imp (pe_var hN hv hd hcd) fun σ H Q ⟨Γ, W, S, he, hw, p⟩ => by
  dsimp only [getV] at p
  split at p
  · rename_i d e
    obtain ⟨v, h1, h2⟩ := he.at_ i d e
    rw [hk] at h2
    exact ⟨v, h1, p v H W (Stp.refl _ _ _) hw h2⟩
  · exact p.elim
theorem de_scr {i : Nat} {x : Str} (hN : X.N[i]? = some x) (hv : Vis X.env.scope x) (hd : (x == ("__debug__" : Str)) = false) (hcd : (x == ("__classdict__" : Str)) = false) (hk : C.kdOf i = .scr) :
    PE X (.Name x pos) (tG C (fun _ W v d => ArgK C.pm C.K W .scr v d) fun Γ S => lift (getV Γ i) S) := PE.imp (pe_var hN hv hd hcd) fun σ H Q ⟨Γ, W, S, he, hw, p⟩ => by
  dsimp only [getV] at p
  split at p
  · rename_i d e
    obtain ⟨v, h1, h2⟩ := he.at_ i d e
    rw [hk] at h2
    exact ⟨v, h1, p v H W (Stp.refl _ _ _) hw h2⟩
  · exact p.elim
theorem de_argE {e : Expr} {f : Fn PyData} {k : Kd} (h : PE X e (tE C f)) (hk : k ≠ .hnd) : PE X e (tG C (fun _ W v d => ArgK C.pm C.K W k v d) f) := PE.imp h fun σ H Q ⟨Γ, W, S, he, hv, p⟩ => ⟨Γ, W, S, he, hv, p.mono (fun d S' q v H' W' s v' r => q v H' W' s v' (by
  cases k with
  | hnd => exact absurd rfl hk
  | scr => exact .inl r
  | _ => exact r)) fun _ _ _ q => q⟩
/-- what a call of the program's function j promises -/
def spF (P : Prg) (M : Mch) (K : PySem.W.Frag) (n j : Nat) (ks : List Kd) : Sp := fun xs H Q E => ∃ (C : Cfg) (W : Hp) (S : Draw) (ds : List PyData), C.M = M ∧ C.K = K ∧ Vw C W H S ∧ ArgsK C.pm K W ks xs ds ∧
  ((run P n).c j ds S).Post (fun d S' => ∀ v H' W', Stp C.pm H W H' W' → Vw C W' H' S' → Dp K0 W' v d → Q v H') (fun _ _ _ => False)
theorem ArgsK.len {pm : Addr} {K : PySem.W.Frag} {W : Hp} : ∀ {ks : List Kd} {vs : List V} {ds : List PyData}, ArgsK pm K W ks vs ds → vs.length = ks.length ∧ ds.length = ks.length
  | _, _, _, .nil => ⟨rfl, rfl⟩
  | _, _, _, .cons _ t => by
    obtain ⟨h1, h2⟩ := t.len
    exact ⟨by rw [List.length_cons, List.length_cons, h1], by rw [List.length_cons, List.length_cons, h2]⟩
theorem de_call {P : Prg} {n j : Nat} {ks : List Kd} {fa : Addr} {fd : FuncData} {ps : List Str} {x : Str} {p : Pos} {e : Expr} {es : List Expr} {f : Fn (List PyData)} (F : FnG X.prog X.w X.K X.mg X.base CX0 n fa fd ps (spF P C.M C.K n j ks)) (room : Room n X.A) (gd : X.A.guards = some []) (hg : Gl X x) (hm : X.mg x = some (.ref fa)) (kp : PySem.W.keepIn X.K (.ref fa) = true)
    (bd : Binds X.K fd ps []) (ha : PA X (e :: es) (tG C (fun _ W vs ds => ArgsK C.pm C.K W ks vs ds) f)) (hdb : (x == ("__debug__" : Str)) = false) (he : starEach (e :: es) X.env = (false, eval e X.env) :: starEach es X.env) (hpl : (backTo pos (starEach es X.env)).any (·.1) = false)
    (hX : ∀ c d S H W, C.XQ c d S H W ↔ False) :
    PE X (.Call (.Name x p) (e :: es) [] pos) (tE C fun Γ S => noexc ((f Γ S).bind fun xs S1 => (run P n).c j xs S1)) :=
  PE.imp (pe_callG (E := E0) F room gd hg hm kp bd pass0 ha hdb he hpl) fun σ H Q ⟨Γ, W, S, en, hv, p⟩ => by
    refine ⟨Γ, W, S, en, hv, ?_⟩
    dsimp only at p
    cases e1 : f Γ S with
    | bad => rw [e1] at p; exact p.elim
    | exc c d S1 => rw [e1] at p; exact p.elim
    | ok xs S1 =>
      rw [e1] at p
      intro vs H1 W1 s1 v1 a1
      refine ⟨C, W1, S1, xs, rfl, rfl, v1, by simpa using a1, ?_⟩
      have p : (noexc ((run P n).c j xs S1)).Post _ _ := p
      cases e2 : (run P n).c j xs S1 with
      | bad => rw [e2] at p; exact p.elim
      | exc c d S2 => rw [e2] at p; exact p.elim
      | ok d S2 =>
        rw [e2] at p
        exact fun v H' W' s' v' r => p v H' W' (s1.trans s') v' r
theorem de_call0 {P : Prg} {n j : Nat} {fa : Addr} {fd : FuncData} {ps : List Str} {x : Str} {p : Pos} (F : FnG X.prog X.w X.K X.mg X.base CX0 n fa fd ps (spF P C.M C.K n j [])) (room : Room n X.A) (gd : X.A.guards = some []) (hg : Gl X x) (hm : X.mg x = some (.ref fa)) (kp : PySem.W.keepIn X.K (.ref fa) = true)
    (bd : Binds X.K fd ps []) (hdb : (x == ("__debug__" : Str)) = false) :
    PE X (.Call (.Name x p) [] [] pos) (tE C fun Γ S => noexc ((run P n).c j [] S)) :=
  PE.imp (pe_callG0 (E := E0) F room gd hg hm kp bd pass0 hdb) fun σ H Q ⟨Γ, W, S, en, hv, p⟩ => by
    refine ⟨C, W, S, [], rfl, rfl, hv, .nil, ?_⟩
    dsimp only at p
    cases e2 : (run P n).c j [] S with
    | bad => rw [e2] at p; exact p.elim
    | exc c d S2 => rw [e2] at p; exact p.elim
    | ok d S2 => rw [e2] at p; exact p
/-! ### tuple(range(..)), list(range(..)) -/
theorem rg_dp {W : Hp} (a b : Int) : DpAll K0 W (rgV a b) (rngL a (b - a).toNat) := by
  unfold rgV rngL
  generalize List.range (b - a).toNat = l
  induction l with
  | nil => exact .nil
  | cons n r ih => exact .cons (.int _) ih
theorem rngL_len (lo : Int) (n : Nat) : (rngL lo n).length = n := by unfold rngL; simp
theorem rg_ok {a b : Int} (h1 : okI a = true) (h2 : okI b = true) (h3 : (rngL a (b - a).toNat).length ≤ 16777216) : RgOk a b := by
  obtain ⟨z1, z2⟩ := okI_b h1
  obtain ⟨z3, z4⟩ := okI_b h2
  rw [rngL_len] at h3
  exact ⟨z1, z2, z3, z4, h3⟩
def mkR (tup : Bool) (ys : List PyData) : PyData := if tup then .tuple ys else .list ys
theorem de_rg1 {tup : Bool} {a : Expr} {p p2 pos2 : Pos} {f : Fn PyData} (hc : X.calm = true) (hg : Gl X (if tup then "tuple" else "list")) (hm : X.mg (if tup then "tuple" else "list") = none) (hg2 : Gl X "range") (hm2 : X.mg "range" = none) (ha : PE X a (tE C f)) (hs : starEach [a] X.env = (false, eval a X.env) :: starEach [] X.env) :
    PE X (.Call (.Name (if tup then "tuple" else "list") p) [.Call (.Name "range" p2) [a] [] pos2] [] pos) (tE C fun Γ S => (f Γ S).bind fun x S1 => match rngD [x] with
      | some ys => if ys.length ≤ 16777216 then .ok (mkR tup ys) S1 else .bad
      | none => .bad) := by
  have main : ∀ {σ : L2.St} {H : Hp} {Q : VK}, tE C (fun Γ S => (f Γ S).bind fun x S1 => match rngD [x] with
      | some ys => if ys.length ≤ 16777216 then .ok (mkR tup ys) S1 else .bad
      | none => .bad) σ H Q → tRg1 (tE C f) σ H fun i j H1 => RgOk i j ∧ ∀ q, H1 q = none → Q (.ref q) (upd H1 q (if tup then .tup (rgV i j) else .lst (rgV i j))) := fun {σ H Q} ⟨Γ, W, S, he, hw, p⟩ =>
    tG_then he hw p (fun c d S' h => h) fun x S1 v H1 W1 s1 v1 e1 r1 p1 => by
      cases r1 <;> try exact p1.elim
      rename_i j
      refine ⟨j, rfl, ?_⟩
      dsimp only [rngD] at p1
      cases e : okI j with
      | false => rw [e] at p1; exact p1.elim
      | true =>
        rw [e, if_pos (by rfl)] at p1
        obtain ⟨hl, p1⟩ := few_of p1
        have hl' : (rngL 0 (j - 0).toNat).length ≤ 16777216 := by simpa using hl
        refine ⟨rg_ok rfl e hl', fun q hq => ?_⟩
        have dd : DpAll K0 W1 (rgV 0 j) (rngL 0 j.toNat) := by simpa using rg_dp (W := W1) 0 j
        have ww : ∀ {o : HO} (b : Addr) (u : HO), W1 b = some u → upd W1 q o b = some u := fun b u h => by rw [upd_ne (ne_of_none h (v1.wnone hq))]; exact h
        cases tup with
        | true => exact p1 _ _ _ (s1.trans (Stp.new v1 hq)) (v1.new hq) (.tup (.of upd_same) (dpAll_mono ww dd))
        | false => exact p1 _ _ _ (s1.trans (Stp.new v1 hq)) (v1.new hq) (.lst (.of upd_same) (dpAll_mono ww dd))
  cases tup with
  | true => exact PE.imp (pe_tupRg hc hg hm (prg_1 hg2 hm2 ha hs) rfl) fun σ H Q q => main q
  | false => exact PE.imp (pe_listRg hc hg hm (prg_1 hg2 hm2 ha hs) rfl) fun σ H Q q => main q
theorem de_rg2 {tup : Bool} {a b : Expr} {p p2 pos2 : Pos} {f g : Fn PyData} (hc : X.calm = true) (hg : Gl X (if tup then "tuple" else "list")) (hm : X.mg (if tup then "tuple" else "list") = none) (hg2 : Gl X "range") (hm2 : X.mg "range" = none) (ha : PE X a (tE C f)) (hb : PE X b (tE C g)) (hs : starEach [a, b] X.env = (false, eval a X.env) :: starEach [b] X.env) (hs2 : starEach [b] X.env = (false, eval b X.env) :: starEach [] X.env)
    (hpl : (backTo pos2 (starEach [b] X.env)).any (·.1) = false) :
    PE X (.Call (.Name (if tup then "tuple" else "list") p) [.Call (.Name "range" p2) [a, b] [] pos2] [] pos) (tE C fun Γ S => (f Γ S).bind fun x S1 => (g Γ S1).bind fun y S2 => match rngD [x, y] with
      | some ys => if ys.length ≤ 16777216 then .ok (mkR tup ys) S2 else .bad
      | none => .bad) := by
  have main : ∀ {σ : L2.St} {H : Hp} {Q : VK}, tE C (fun Γ S => (f Γ S).bind fun x S1 => (g Γ S1).bind fun y S2 => match rngD [x, y] with
      | some ys => if ys.length ≤ 16777216 then .ok (mkR tup ys) S2 else .bad
      | none => .bad) σ H Q → tRg2 (tE C f) (tE C g) σ H fun i j H1 => RgOk i j ∧ ∀ q, H1 q = none → Q (.ref q) (upd H1 q (if tup then .tup (rgV i j) else .lst (rgV i j))) := fun {σ H Q} ⟨Γ, W, S, he, hw, p⟩ =>
    tG_then he hw p (fun c d S' h => h) fun x S1 v H1 W1 s1 v1 e1 r1 p1 => tG_then e1 v1 p1 (xq_stp (fun c d S' h => h) s1) fun y S2 u H2 W2 s2 v2 e2 r2 p2 => by
      cases r1 <;> try exact p2.elim
      cases r2 <;> try exact p2.elim
      rename_i i j
      refine ⟨i, j, rfl, rfl, ?_⟩
      dsimp only [rngD] at p2
      cases ei : okI i with
      | false => rw [ei] at p2; exact p2.elim
      | true =>
        cases ej : okI j with
        | false => rw [ei, ej] at p2; exact p2.elim
        | true =>
          rw [ei, ej, if_pos (by rfl)] at p2
          obtain ⟨hl, p2⟩ := few_of p2
          refine ⟨rg_ok ei ej hl, fun q hq => ?_⟩
          have dd : DpAll K0 W2 (rgV i j) (rngL i (j - i).toNat) := rg_dp i j
          have ww : ∀ {o : HO} (b : Addr) (u : HO), W2 b = some u → upd W2 q o b = some u := fun b u h => by rw [upd_ne (ne_of_none h (v2.wnone hq))]; exact h
          cases tup with
          | true => exact p2 _ _ _ ((s1.trans s2).trans (Stp.new v2 hq)) (v2.new hq) (.tup (.of upd_same) (dpAll_mono ww dd))
          | false => exact p2 _ _ _ ((s1.trans s2).trans (Stp.new v2 hq)) (v2.new hq) (.lst (.of upd_same) (dpAll_mono ww dd))
  cases tup with
  | true => exact PE.imp (pe_tupRg hc hg hm (prg_2 hg2 hm2 ha hb hs hs2 hpl) rfl) fun σ H Q q => main q
  | false => exact PE.imp (pe_listRg hc hg hm (prg_2 hg2 hm2 ha hb hs hs2 hpl) rfl) fun σ H Q q => main q
end
end PD
/-! P11: texts; what the checker looks at. -/
namespace PD
open PySem PySem.Spec PyProof.Rows L2
section
variable {X : Cx} {C : Cfg} {pos : Pos}
theorem pe_fn {e : Expr} {f g : Fn PyData} (h : PE X e (tE C f)) (hfg : ∀ Γ S, f Γ S = g Γ S) : PE X e (tE C g) := by
  have : f = g := funext fun Γ => funext fun S => hfg Γ S
  rw [← this]; exact h
theorem pt_fn {e : Expr} {f g : Fn Bool} (h : PT X e (tT C f)) (hfg : ∀ Γ S, f Γ S = g Γ S) : PT X e (tT C g) := by
  have : f = g := funext fun Γ => funext fun S => hfg Γ S
  rw [← this]; exact h
theorem pf_fn {e : Expr} {f g : Fn (List PyData)} (h : PE X e (tF C f)) (hfg : ∀ Γ S, f Γ S = g Γ S) : PE X e (tF C g) := by
  have : f = g := funext fun Γ => funext fun S => hfg Γ S
  rw [← this]; exact h
theorem pi_fn {tg e : Expr} {kp : (Hp → Hp → Prop) → Prop} {f g : Fn (List PyData)} (h : PI X tg e (tI C kp f)) (hfg : ∀ Γ S, f Γ S = g Γ S) : PI X tg e (tI C kp g) := by
  have : f = g := funext fun Γ => funext fun S => hfg Γ S
  rw [← this]; exact h
theorem ps_fn {e : Stmt} {H0 W0 : Hp} {f g : FnS} (h : PS X e (tS C H0 W0 f)) (hfg : ∀ Γ S, f Γ S = g Γ S) : PS X e (tS C H0 W0 g) := by
  have : f = g := funext fun Γ => funext fun S => hfg Γ S
  rw [← this]; exact h
theorem pss_fn {e : List Stmt} {H0 W0 : Hp} {f g : FnS} (h : PSs X e (tS C H0 W0 f)) (hfg : ∀ Γ S, f Γ S = g Γ S) : PSs X e (tS C H0 W0 g) := by
  have : f = g := funext fun Γ => funext fun S => hfg Γ S
  rw [← this]; exact h
theorem bind_bind {α β γ : Type} (r : Res α) (f : α → Draw → Res β) (g : β → Draw → Res γ) : (r.bind f).bind g = r.bind fun x S => (f x S).bind g := by cases r <;> rfl
/-! ### texts -/
theorem strs_dp {W : Hp} : ∀ (zs : List Str), DpAll K0 W (zs.map V.str) (zs.map .str)
  | [] => .nil
  | z :: r => .cons (.str z) (strs_dp r)
theorem strs_of {W : Hp} : ∀ {vs : List V} {ds : List PyData} {zs : List Str}, DpAll K0 W vs ds → strsOf ds = some zs → vs = zs.map V.str
  | _, _, _, .nil, h => by cases h; rfl
  | _, _, _, .cons (v := v) (d := d) a b, h => by
    cases a with
    | str x =>
      simp only [strsOf, Option.map_eq_some_iff] at h
      obtain ⟨r, h1, rfl⟩ := h
      rw [strs_of b h1]; rfl
    | _ => cases h
theorem de_join {o e : Expr} {apos : Pos} {f g : Fn PyData} (hK : X.K = C.K) (ho : PE X o (tE C f)) (he : PE X e (tR C g)) (hs : starEach [e] X.env = [(false, eval e X.env)]) (hb : attributeBase o "join" X.env (eval o X.env) = eval o X.env) (hl : (apos.endLine == pos.line) = true) :
    PE X (.Call (.Attribute o "join" apos) [e] [] pos) (tE C fun Γ S => (f Γ S).bind fun x S1 => if x.isStr then (g Γ S1).bind fun y S2 => lift (methD .join x y) S2 else .bad) :=
  PE.imp (pe_join ho he hs hb hl) fun σ H Q ⟨Γ, W, S, en, hw, p⟩ => tG_then en hw p (fun c d S' h => h) fun x S1 v H1 W1 s1 v1 e1 r1 p1 => by
    cases r1 with
    | str a =>
      refine ⟨⟨a, rfl⟩, tG_then e1 v1 p1 (xq_stp (fun c d S' h => h) s1) fun y S2 u H2 W2 s2 v2 e2 r2 p2 => ?_⟩
      cases y with
      | list ys =>
        obtain ⟨q, vs, rfl, h1, h2⟩ := r2.list
        cases ez : strsOf ys with
        | none => simp only [methD, ez] at p2; exact p2.elim
        | some zs =>
          simp only [methD, ez] at p2
          split at p2
          · rename_i hz
            rw [strs_of h2 ez] at h1
            exact ⟨a, q, zs, rfl, rfl, .inl (by rw [hK]; exact h1.sq v2), hz, p2 _ H2 W2 (s1.trans s2) v2 (.str _)⟩
          · exact p2.elim
      | _ => exact p2.elim
    | _ => exact p1.elim
theorem de_split {o e : Expr} {apos : Pos} {f g : Fn PyData} (ho : PE X o (tE C f)) (he : PE X e (tE C g)) (hs : starEach [e] X.env = [(false, eval e X.env)]) (hb : attributeBase o "split" X.env (eval o X.env) = eval o X.env) (hl : (apos.endLine == pos.line) = true) :
    PE X (.Call (.Attribute o "split" apos) [e] [] pos) (tE C fun Γ S => (f Γ S).bind fun x S1 => if x.isStr then (g Γ S1).bind fun y S2 => lift (methD .split x y) S2 else .bad) :=
  PE.imp (pe_split ho he hs hb hl) fun σ H Q ⟨Γ, W, S, en, hw, p⟩ => tG_then en hw p (fun c d S' h => h) fun x S1 v H1 W1 s1 v1 e1 r1 p1 => by
    cases r1 with
    | str a =>
      refine ⟨⟨a, rfl⟩, tG_then e1 v1 p1 (xq_stp (fun c d S' h => h) s1) fun y S2 u H2 W2 s2 v2 e2 r2 p2 => ?_⟩
      cases r2 with
      | str b =>
        simp only [methD] at p2
        split at p2
        · rename_i hz
          refine ⟨a, b, rfl, rfl, hz.1, by rw [sizeLine_eq]; exact hz.2, fun q hq => ?_⟩
          refine p2 _ _ (upd W2 q (.lst ((Txt.split a b).map V.str))) ((s1.trans s2).trans (Stp.new v2 hq)) (v2.new hq) (.lst (.of upd_same) (strs_dp _))
        · exact p2.elim
      | _ => exact p2.elim
    | _ => exact p1.elim
theorem de_starts {o e : Expr} {apos : Pos} {f g : Fn PyData} (ho : PE X o (tE C f)) (he : PE X e (tE C g)) (hs : starEach [e] X.env = [(false, eval e X.env)]) (hb : attributeBase o "startswith" X.env (eval o X.env) = eval o X.env) (hl : (apos.endLine == pos.line) = true) :
    PE X (.Call (.Attribute o "startswith" apos) [e] [] pos) (tE C fun Γ S => (f Γ S).bind fun x S1 => if x.isStr then (g Γ S1).bind fun y S2 => lift (methD .startswith x y) S2 else .bad) :=
  PE.imp (pe_m1 F.slot_str_startswith F.type_str_startswith mt_startswith ho he hs hb hl) fun σ H Q ⟨Γ, W, S, en, hw, p⟩ => tG_then en hw p (fun c d S' h => h) fun x S1 v H1 W1 s1 v1 e1 r1 p1 => by
    cases r1 with
    | str a =>
      refine ⟨⟨a, rfl⟩, tG_then e1 v1 p1 (xq_stp (fun c d S' h => h) s1) fun y S2 u H2 W2 s2 v2 e2 r2 p2 => ?_⟩
      cases r2 with
      | str b => exact ⟨a, b, rfl, rfl, p2 _ H2 W2 (s1.trans s2) v2 (.bl _)⟩
      | _ => exact p2.elim
    | _ => exact p1.elim
/-! ### forms -/
def notStar : Expr → Bool
  | .Starred .. => false
  | _ => true
theorem star_cons {x : Expr} (h : notStar x = true) (xs : List Expr) (env : PySem.Env) : starEach (x :: xs) env = (false, eval x env) :: starEach xs env := by
  cases x <;> first | rfl | cases h
theorem star_any : ∀ {xs : List Expr}, xs.all notStar = true → ∀ (p : Pos) (env : PySem.Env), (backTo p (starEach xs env)).any (·.1) = false
  | [], _, _, _ => rfl
  | x :: xs, h, p, env => by
    rw [List.all_cons, Bool.and_eq_true] at h
    rw [star_cons h.1]
    have := star_any h.2 p env
    unfold backTo at this ⊢
    rw [List.map_cons, List.any_cons, this]
    rfl
theorem asg_cons {x : Expr} (h : notStar x = true) (xs : List Expr) (env : PySem.Env) : assignEach (x :: xs) env = (false, assign x env) :: assignEach xs env := by
  cases x <;> first | rfl | cases h
def notSlice : Expr → Bool
  | .Slice .. => false
  | _ => true
theorem plain_ix {b : Expr} (h : notSlice b = true) : PlainIx b := by
  cases b <;> first | (intro o i; rfl) | cases h
def notSet : Expr → Bool
  | .Set .. => false
  | _ => true
theorem folded {e : Expr} (h : notSet e = true) (env : PySem.Env) (x : Value) : foldedSetIterable e env x = pure x := by
  cases e <;> first | rfl | cases h
def plainT : Expr → Bool
  | .UnaryOp .Not _ _ => false
  | .BoolOp .. => false
  | .IfExp .. => false
  | .Compare .. => false
  | _ => true
theorem plain_true {e : Expr} (h : plainT e = true) (env : PySem.Env) (whole : Sem Value) : isTrue e env whole = (do let v ← whole; standAt e.pos; holding [v] (truthy v)) := by
  cases e with
  | UnaryOp op a p => cases op <;> first | rfl | cases h
  | _ => first | rfl | cases h
def notComp : Expr → Bool
  | .ListComp .. => false
  | .SetComp .. => false
  | .DictComp .. => false
  | _ => true
theorem no_swap {e : Expr} (h : notComp e = true) (t : Option Expr) (l : Nat) (env : PySem.Env) : swapsWith e t l env = pure false := by
  cases e <;> first | rfl | cases h
def plainO : Expr → Bool
  | .Name .. => true
  | .Constant .. => true
  | _ => false
theorem plain_base {o : Expr} (h : plainO o = true) (nm : Str) (env : PySem.Env) : attributeBase o nm env (eval o env) = eval o env := by
  cases o <;> first | rfl | cases h
end
end PD
/-! P12: the checker that ties a program's text to the small language; expressions. -/
namespace PD
open PySem PySem.Spec PyProof.Rows L2

structure Ct where
  N : List Str
  kd : List Kd
  sc : Scope
  raw : Scope
  top : Bool
def Ct.k (ct : Ct) (i : Nat) : Kd := ct.kd.getD i .nrm
def visB (sc : Scope) (x : Str) : Bool :=
  match sc.names.lookup x with
  | some .local => true
  | some .cell => true
  | some .free => true
  | _ => false
def locB (sc : Scope) (x : Str) : Bool :=
  match sc.names.lookup x with
  | some .local => true
  | some .cell => true
  | _ => false
def isLocal (sc : Scope) (x : Str) : Bool :=
  match sc.names.lookup x with
  | some .local => true
  | _ => false
def isCell (sc : Scope) (x : Str) : Bool :=
  match sc.names.lookup x with
  | some .cell => true
  | _ => false
def glB (ct : Ct) (x : Str) : Bool :=
  match ct.sc.names.lookup x with
  | some .globalImplicit => true
  | _ => false
def dbg (x : Str) : Bool := x == ("__debug__" : Str)
def nmB (ct : Ct) (i : Nat) (x : Str) : Bool := decide (ct.N[i]? = some x) && visB ct.sc x && !dbg x && !(x == ("__classdict__" : Str))
def stB (ct : Ct) (i : Nat) (x : Str) : Bool := decide (ct.N[i]? = some x) && locB ct.sc x && (ct.top || isCell ct.raw x || isLocal ct.sc x)
mutual
def tgB (ct : Ct) : Tg → Expr → Bool
  | .nm i, x => match x with
    | .Name y _ => stB ct i y && decide (ct.k i = .nrm)
    | _ => false
  | .tp ts, x => match x with
    | .Tuple xs _ _ => tgsB ct ts xs
    | _ => false
def tgsB (ct : Ct) : List Tg → List Expr → Bool
  | [], xs => xs.isEmpty
  | t :: ts, xs => match xs with
    | x :: r => tgB ct t x && notStar x && tgsB ct ts r
    | [] => false
end
structure Chk where
  e : Ct → Ex → Expr → Bool
  t : Ct → Ex → Expr → Bool
  s : Ct → List Sx → List Stmt → Bool

def all2 {α β : Type} (f : α → β → Bool) : List α → List β → Bool
  | [], [] => true
  | a :: as, b :: bs => f a b && all2 f as bs
  | _, _ => false
def ownS (ct : Ct) (own : List Nat) : List (Str × Nat) := own.map fun i => (ct.N.getD i ⟨#[]⟩, i)
def Ct.inn (ct : Ct) (scope : Scope) : Ct := { ct with sc := relS scope ct.sc, raw := scope, top := false }
def cEq : PyData → PyData → Bool
  | .none, .none => true
  | .bool a, .bool b => decide (a = b)
  | .int a, .int b => decide (a = b)
  | .str a, .str b => decide (a = b)
  | _, _ => false
theorem cEq_eq {a b : PyData} (h : cEq a b = true) : a = b := by
  unfold cEq at h
  split at h <;> first | rfl | (rw [decide_eq_true_eq] at h; rw [h]) | cases h
section
variable (P : Prg) (gc : List (Str × PyData)) (r : Chk)
def rdB (ct : Ct) (a : Ex) (x : Expr) : Bool :=
  match a with
  | .var i => match x with
    | .Name y _ => nmB ct i y && !decide (ct.k i = .hnd)
    | _ => false
  | a => r.e ct a x
def argB (ct : Ct) (k : Kd) (a : Ex) (x : Expr) : Bool :=
  match k with
  | .hnd => match a with
    | .var i => match x with
      | .Name y _ => nmB ct i y && decide (ct.k i = .hnd)
      | _ => false
    | _ => false
  | _ => r.e ct a x
def argsB (ct : Ct) : List Kd → List Ex → List Expr → Bool
  | [], [], [] => true
  | k :: ks, a :: as, x :: xs => argB r ct k a x && notStar x && argsB ct ks as xs
  | _, _, _ => false
def isTup : Expr → Bool
  | .Tuple .. => true
  | _ => false
def rngB (ct : Ct) (es : List Ex) (x : Expr) : Bool :=
  match x with
  | .Call (.Name y _) xs [] _ => y == ("range" : Str) && glB ct "range" && all2 (r.e ct) es xs && xs.all notStar && !xs.isEmpty && decide (xs.length ≤ 3)
  | _ => false
def itB (ct : Ct) (see : Bool) (a : Ex) (tg x : Expr) : Bool :=
  match a with
  | .rng es => rngB r ct es x
  | .zip a b => match x with
    | .Call (.Name y _) [xa, xb] [] _ => y == ("zip" : Str) && glB ct "zip" && isTup tg && notStar xa && notStar xb && (if see then r.e ct a xa && r.e ct b xb else rdB r ct a xa && rdB r ct b xb)
    | _ => false
  | .enm a => match x with
    | .Call (.Name y _) [xa] [] _ => y == ("enumerate" : Str) && glB ct "enumerate" && isTup tg && notStar xa && (if see then r.e ct a xa else rdB r ct a xa)
    | _ => false
  | a => if see then r.e ct a x else rdB r ct a x
def ifsB (ct : Ct) (cs : List Ex) (xs : List Expr) : Bool :=
  match cs, xs with
  | [], [] => true
  | [c], [x] => r.t ct c x
  | _, _ => false
def optB (ct : Ct) (o : Option Ex) (x : Option Expr) : Bool :=
  match o, x with
  | none, none => true
  | some a, some y => r.e ct a y
  | _, _ => false
def subB (a b : List Nat) : Bool := a.all fun i => b.contains i
def compB (ct : Ct) (elt : Ex) (t : Tg) (it : Ex) (cs : List Ex) (own : List Nat) (x : Expr) : Bool :=
  match x with
  | .ListComp xe [⟨tg, iter, ifs, as⟩] scope _ => decide (as = 0) && itB r ct false it tg iter && notSet iter && blkC ct.N ct.sc scope (ownS ct own) && tgB (ct.inn scope) t tg && ifsB r (ct.inn scope) cs ifs && r.e (ct.inn scope) elt xe && subB t.slots own
  | _ => false
def comp2B (ct : Ct) (elt : Ex) (t : Tg) (it : Ex) (cs : List Ex) (t2 : Tg) (it2 : Ex) (cs2 : List Ex) (own own2 : List Nat) (x : Expr) : Bool :=
  match x with
  | .ListComp xe [⟨tg, iter, ifs, as⟩, ⟨tg2, iter2, ifs2, as2⟩] scope _ => decide (as = 0) && decide (as2 = 0) && itB r ct false it tg iter && notSet iter && notSet iter2 && blkC ct.N ct.sc scope (ownS ct own) && tgB (ct.inn scope) t tg && ifsB r (ct.inn scope) cs ifs &&
      itB r (ct.inn scope) true it2 tg2 iter2 && tgB (ct.inn scope) t2 tg2 && ifsB r (ct.inn scope) cs2 ifs2 && r.e (ct.inn scope) elt xe && subB t.slots own && subB t2.slots own2 && subB own2 own && t.slots.all fun i => decide (ct.k i = .nrm)
  | _ => false
def Mt.nm : Mt → Str
  | .join => "join" | .split => "split" | .startswith => "startswith" | .index => "index"
def eStep (ct : Ct) (a : Ex) (x : Expr) : Bool :=
  match a with
  | .var i => match x with
    | .Name y _ => nmB ct i y && decide (ct.k i = .nrm)
    | _ => false
  | .con d => match x with
    | .Constant c _ _ => constB d c
    | _ => false
  | .glb z d => match x with
    | .Name y _ => y == z && glB ct y && !dbg y && (match gc.lookup z with | some d' => cEq d d' | none => false)
    | _ => false
  | .tup es => match x with
    | .Tuple xs _ _ => all2 (r.e ct) es xs && xs.all notStar
    | _ => false
  | .lst es => match x with
    | .List xs _ => all2 (r.e ct) es xs && xs.all notStar
    | _ => false
  | .bin op a b => match x with
    | .BinOp xa op' xb _ => decide (op = op') && r.e ct a xa && r.e ct b xb
    | _ => false
  | .neg a => match x with
    | .UnaryOp op xa _ => decide (op = .USub) && r.e ct a xa
    | _ => false
  | .cmp op a b => match x with
    | .Compare xa [op'] [xb] _ => decide (op = op') && rdB r ct a xa && rdB r ct b xb && !behindInMarks op xb
    | _ => false
  | .chn op op2 a b c => match x with
    | .Compare xa [op', op2'] [xb, xc] _ => decide (op = op') && decide (op2 = op2') && rdB r ct a xa && rdB r ct b xb && rdB r ct c xc && !lastMarks [op, op2] [xb, xc]
    | _ => false
  | .and es => match x with
    | .BoolOp op xs _ => decide (op = .And) && all2 (r.e ct) es xs && !es.isEmpty
    | _ => false
  | .or es => match x with
    | .BoolOp op xs _ => decide (op = .Or) && all2 (r.e ct) es xs && !es.isEmpty
    | _ => false
  | .not a => match x with
    | .UnaryOp op xa _ => decide (op = .Not) && r.e ct a xa
    | _ => false
  | .ite c a b => match x with
    | .IfExp xc xa xb _ => r.t ct c xc && r.e ct a xa && r.e ct b xb
    | _ => false
  | .idx a b => match x with
    | .Subscript xa xb _ => notSlice xb && rdB r ct a xa && rdB r ct b xb
    | _ => false
  | .sl a lo hi => match x with
    | .Subscript xa (.Slice l h st _) _ => st.isNone && rdB r ct a xa && optB r ct lo l && optB r ct hi h
    | _ => false
  | .blt b es => match x with
    | .Call (.Name y _) xs kws _ => kws.isEmpty && y == b.nm && glB ct y && !xs.isEmpty && all2 (rdB r ct) es xs && xs.all notStar
    | _ => false
  | .call j es => match x with
    | .Call (.Name y _) xs kws _ => kws.isEmpty && glB ct y && !dbg y && (match P.fs[j]? with | some f => f.nm == y && argsB r ct (f.kd.take f.np) es xs | none => false)
    | _ => false
  | .comp elt t it cs own => compB r ct elt t it cs own x
  | .comp2 elt t it cs t2 it2 cs2 own own2 => comp2B r ct elt t it cs t2 it2 cs2 own own2 x
  | .isi a t => match x with
    | .Call (.Name y _) [xa, .Name z _] kws _ => kws.isEmpty && y == ("isinstance" : Str) && glB ct y && z == t.nm && glB ct z && rdB r ct a xa && notStar xa
    | _ => false
  | .trng es => match x with
    | .Call (.Name y _) [xr] kws _ => kws.isEmpty && y == ("tuple" : Str) && glB ct y && rngB r ct es xr && decide (es.length ≤ 2)
    | _ => false
  | .lrng es => match x with
    | .Call (.Name y _) [xr] kws _ => kws.isEmpty && y == ("list" : Str) && glB ct y && rngB r ct es xr && decide (es.length ≤ 2)
    | _ => false
  | .meth m a b => match x with
    | .Call (.Attribute o nm ap) [xb] kws p => kws.isEmpty && nm == m.nm && plainO o && r.e ct a o && (match m with | .join => rdB r ct b xb | .split => r.e ct b xb | .startswith => r.e ct b xb | .index => false) && notStar xb && (ap.endLine == p.line)
    | _ => false
  | _ => false
def tStep (ct : Ct) (a : Ex) (x : Expr) : Bool :=
  match x with
  | .Compare xa ops xs _ => match a with
    | .cmp op a b => match ops, xs with
      | [op'], [xb] => decide (op = op') && rdB r ct a xa && rdB r ct b xb && !behindInMarks op xb
      | _, _ => false
    | .chn op op2 a b c => match ops, xs with
      | [op', op2'], [xb, xc] => decide (op = op') && decide (op2 = op2') && rdB r ct a xa && rdB r ct b xb && rdB r ct c xc && !lastMarks [op, op2] [xb, xc]
      | _, _ => false
    | _ => false
  | .BoolOp op xs _ => match a with
    | .and es => decide (op = .And) && all2 (r.t ct) es xs && !es.isEmpty
    | .or es => decide (op = .Or) && all2 (r.t ct) es xs && !es.isEmpty
    | _ => false
  | .UnaryOp .Not xa _ => match a with
    | .not a => r.t ct a xa
    | _ => false
  | x => plainT x && eStep P gc r ct a x
end

/-! ### what stands in a frame -/
def bltNames : List Str := ["len", "abs", "min", "max", "sum", "all", "any", "int", "str", "list", "tuple", "sorted", "repr", "range", "zip", "enumerate", "isinstance", "bool"]
theorem bl_mem (b : Bl) : b.nm ∈ bltNames := by cases b <;> simp [Bl.nm, bltNames]
theorem ty_mem (t : Ty) : t.nm ∈ bltNames := by cases t <;> simp [Ty.nm, bltNames]
structure Gd (P : Prg) (gc : List (Str × PyData)) (ct : Ct) (C : Cfg) (X : Cx) (n : Nat) : Prop where
  hK : X.K = C.K
  calm : X.calm = true
  un : X.A.units + 200 < cLine
  gd : X.A.guards = some []
  N : X.N = ct.N
  nd : ct.N.Nodup
  sc : X.env.scope = ct.sc
  kd : C.kd = ct.kd
  kind : ct.sc.kind = .function
  fn : ∀ x, (ct.top || isCell ct.raw x) = true → X.fn x = true
  blt : ∀ x ∈ bltNames, X.mg x = none
  con : ∀ x d, gc.lookup x = some d → ∃ v u, X.mg x = some u ∧ RelV v u ∧ conV d = some v
  room : Room n X.A
  xq : ∀ c d S H W, C.XQ c d S H W ↔ False
  fns : ∀ m, m < n → ∀ (j : Nat) (f : FDef), P.fs[j]? = some f → ∃ fa fd ps, FnG X.prog X.w X.K X.mg X.base CX0 m fa fd ps (spF P C.M C.K m j (f.kd.take f.np)) ∧ X.mg f.nm = some (.ref fa) ∧ PySem.W.keepIn X.K (.ref fa) = true ∧ Binds X.K fd ps []
section
variable {P : Prg} {gc : List (Str × PyData)} {ct : Ct} {C : Cfg} {X : Cx} {n : Nat}
theorem Gd.low (g : Gd P gc ct C X (n + 1)) : Gd P gc ct C X n := { g with room := g.room.mono (Nat.le_succ n), fns := fun m hm => g.fns m (Nat.lt_succ_of_lt hm) }
theorem isCell_eq {sc : Scope} {x : Str} (h : isCell sc x = true) : sc.names.lookup x = some .cell := by
  unfold isCell at h
  split at h
  · assumption
  · cases h
theorem isLocal_eq {sc : Scope} {x : Str} (h : isLocal sc x = true) : sc.names.lookup x = some .local := by
  unfold isLocal at h
  split at h
  · assumption
  · cases h
theorem Gd.blk (g : Gd P gc ct C X n) (s : Shared) (H : Hp) (scope : Scope) (hk : scope.kind = .function) (cl : List (Str × Addr)) (a : Addr) (fp : List Addr) : Gd P gc (ct.inn scope) C.inner (X.blk s H scope (compEnvC scope cl a X.env) fp) n where
  hK := g.hK
  calm := g.calm
  un := g.un
  gd := g.gd
  N := g.N
  nd := g.nd
  sc := by
    show relS scope X.env.scope = relS scope ct.sc
    rw [g.sc]
  kd := g.kd
  kind := hk
  fn := fun x h => by
    have h : isCell scope x = true := h
    show (scope.names.lookup x == some .cell) = true
    rw [isCell_eq h]; rfl
  blt := g.blt
  con := g.con
  room := g.room
  xq := fun _ _ _ _ _ => Iff.rfl
  fns := g.fns
theorem Gd.gl (g : Gd P gc ct C X n) {x : Str} (h : glB ct x = true) : Gl X x := by
  unfold glB at h
  split at h
  · rename_i e
    show X.env.scope.names.lookup x = _
    rw [g.sc]; exact e
  · cases h
theorem visB_eq {sc : Scope} {x : Str} (h : visB sc x = true) : Vis sc x := by
  unfold visB at h
  split at h
  · exact .inl (by assumption)
  · exact .inr (.inl (by assumption))
  · exact .inr (.inr (by assumption))
  · cases h
theorem locB_eq {sc : Scope} {x : Str} (h : locB sc x = true) : Loc sc x := by
  unfold locB at h
  split at h
  · exact .inl (by assumption)
  · exact .inr (by assumption)
  · cases h
theorem Gd.nm (g : Gd P gc ct C X n) {i : Nat} {x : Str} (h : nmB ct i x = true) : X.N[i]? = some x ∧ Vis X.env.scope x ∧ (x == ("__debug__" : Str)) = false ∧ (x == ("__classdict__" : Str)) = false := by
  unfold nmB at h
  simp only [Bool.and_eq_true, decide_eq_true_eq, Bool.not_eq_true'] at h
  obtain ⟨⟨⟨h1, h2⟩, h3⟩, h4⟩ := h
  exact ⟨by rw [g.N]; exact h1, by rw [g.sc]; exact visB_eq h2, h3, h4⟩
theorem Gd.st (g : Gd P gc ct C X n) {i : Nat} {x : Str} (h : stB ct i x = true) : X.N[i]? = some x ∧ Loc X.env.scope x ∧ (X.fn x = true ∨ X.env.scope.names.lookup x = some .local) := by
  unfold stB at h
  rw [Bool.and_eq_true, Bool.and_eq_true, decide_eq_true_eq, Bool.or_eq_true] at h
  obtain ⟨⟨h1, h2⟩, h3⟩ := h
  refine ⟨by rw [g.N]; exact h1, by rw [g.sc]; exact locB_eq h2, ?_⟩
  rcases h3 with h3 | h3
  · exact .inl (g.fn x h3)
  · right; rw [g.sc]; exact isLocal_eq h3
theorem Gd.kOf (g : Gd P gc ct C X n) (i : Nat) : C.kdOf i = ct.k i := by
  unfold Cfg.kdOf Ct.k
  rw [g.kd]
mutual
theorem tg_snd (g : Gd P gc ct C X n) : ∀ {t : Tg} {x : Expr}, tgB ct t x = true → PG X x (tgD C t)
  | .nm i, x, h => by
    unfold tgB at h
    split at h
    · rename_i y p
      rw [Bool.and_eq_true, decide_eq_true_eq] at h
      obtain ⟨h1, h2, h3⟩ := g.st h.1
      exact dg_nm (by rw [g.N]; exact g.nd) h1 h2 h3 (by rw [g.kOf]; exact h.2)
    · cases h
  | .tp ts, x, h => by
    unfold tgB at h
    split at h
    · rename_i xs k p
      obtain ⟨h1, h2, h3⟩ := tgs_snd g h
      exact dg_tp g.calm h1 h2 h3
    · cases h
theorem tgs_snd (g : Gd P gc ct C X n) : ∀ {ts : List Tg} {xs : List Expr}, tgsB ct ts xs = true → PGs X xs (tgsD C ts) ∧ (assignEach xs X.env).length = ts.length ∧ (assignEach xs X.env).findIdx? (·.1) = none
  | [], xs, h => by
    unfold tgsB at h
    cases xs with
    | nil => exact ⟨dgs_nil, rfl, rfl⟩
    | cons a b => cases h
  | t :: ts, xs, h => by
    unfold tgsB at h
    cases xs with
    | nil => cases h
    | cons a b =>
      rw [Bool.and_eq_true, Bool.and_eq_true] at h
      obtain ⟨⟨h1, h2⟩, h3⟩ := h
      obtain ⟨k1, k2, k3⟩ := tgs_snd g h3
      refine ⟨dgs_cons (tg_snd g h1) k1 (by rw [asg_cons h2]; rfl), by rw [asg_cons h2, List.length_cons, List.length_cons, k2], ?_⟩
      rw [asg_cons h2, List.findIdx?_cons]
      simp only [Bool.false_eq_true, if_false, k3]
      rfl
end
/-! ### soundness: what is promised at a level -/
structure Snd (P : Prg) (gc : List (Str × PyData)) (n : Nat) (r : Chk) : Prop where
  e : ∀ {ct : Ct} {C : Cfg} {X : Cx} {a : Ex} {x : Expr}, Gd P gc ct C X n → r.e ct a x = true → PE X x (tE C fun Γ S => (run P n).e Γ S a)
  t : ∀ {ct : Ct} {C : Cfg} {X : Cx} {a : Ex} {x : Expr}, Gd P gc ct C X n → r.t ct a x = true → PT X x (tT C fun Γ S => evT (run P n) Γ S a)
  s : ∀ {ct : Ct} {C : Cfg} {X : Cx} {ss : List Sx} {b : List Stmt} {H0 W0 : Hp}, Gd P gc ct C X n → ct.top = true → PassesOwn (model X.prog X.w) X.A X.env X.xe → (∀ b o, H0 b = some o → C.Z b) → r.s ct ss b = true → PSs X b (tS C H0 W0 fun Γ S => (run P n).s Γ S ss)
variable {r : Chk}
/-- n: the children's level -/
theorem rd_snd (sn : Snd P gc n r) (g : Gd P gc ct C X n) {a : Ex} {x : Expr} (h : rdB r ct a x = true) : PE X x (tR C fun Γ S => (run P n).e Γ S a) := by
  unfold rdB at h
  split at h
  · rename_i i
    split at h
    · rename_i y p
      rw [Bool.and_eq_true, Bool.not_eq_true', decide_eq_false_iff_not] at h
      obtain ⟨h1, h2, h3, h4⟩ := g.nm h.1
      cases n with
      | zero => exact PE.imp (de_varR (C := C) h1 h2 h3 h4 (by rw [g.kOf]; exact h.2)) fun σ H Q ⟨Γ, W, S, he, hv, p⟩ => p.elim
      | succ n => exact de_varR h1 h2 h3 h4 (by rw [g.kOf]; exact h.2)
    · cases h
  · exact pe_rd (sn.e g h)
theorem all2_as (sn : Snd P gc n r) (g : Gd P gc ct C X n) : ∀ {es : List Ex} {xs : List Expr}, all2 (r.e ct) es xs = true → xs.all notStar = true → PA X xs (tAs C fun Γ S => evs ((run P n).e Γ) es S)
  | [], [], _, _ => de_nil fun _ _ => .nil
  | [], _ :: _, h, _ => by cases h
  | _ :: _, [], h, _ => by cases h
  | a :: as, x :: xs, h, hs => by
    unfold all2 at h
    rw [Bool.and_eq_true] at h
    rw [List.all_cons, Bool.and_eq_true] at hs
    exact de_cons (sn.e g h.1) (all2_as sn g h.2 hs.2) (star_cons hs.1 _ _) (fun _ _ _ _ _ _ s r => dp_mono s.w r) fun _ _ _ _ _ _ a b => .cons a b
theorem all2_rs (sn : Snd P gc n r) (g : Gd P gc ct C X n) : ∀ {es : List Ex} {xs : List Expr}, all2 (rdB r ct) es xs = true → xs.all notStar = true → PA X xs (tRs C fun Γ S => evs ((run P n).e Γ) es S)
  | [], [], _, _ => de_nil fun _ _ => .nil
  | [], _ :: _, h, _ => by cases h
  | _ :: _, [], h, _ => by cases h
  | a :: as, x :: xs, h, hs => by
    unfold all2 at h
    rw [Bool.and_eq_true] at h
    rw [List.all_cons, Bool.and_eq_true] at hs
    exact de_cons (rd_snd sn g h.1) (all2_rs sn g h.2 hs.2) (star_cons hs.1 _ _) (fun _ _ _ _ _ _ s r => r.stp s) fun _ _ _ _ _ _ a b => .cons a b
theorem arg_snd (sn : Snd P gc n r) (g : Gd P gc ct C X n) {k : Kd} {a : Ex} {x : Expr} (h : argB r ct k a x = true) : PE X x (tG C (fun _ W v d => ArgK C.pm C.K W k v d) fun Γ S => (run P n).e Γ S a) := by
  unfold argB at h
  split at h
  · split at h
    · rename_i i
      split at h
      · rename_i y p
        rw [Bool.and_eq_true, decide_eq_true_eq] at h
        obtain ⟨h1, h2, h3, h4⟩ := g.nm h.1
        cases n with
        | zero => exact PE.imp (de_hnd (C := C) h1 h2 h3 h4 (by rw [g.kOf]; exact h.2)) fun σ H Q ⟨Γ, W, S, he, hv, p⟩ => p.elim
        | succ n => exact de_hnd h1 h2 h3 h4 (by rw [g.kOf]; exact h.2)
      · cases h
    · cases h
  · rename_i k hk
    exact de_argE (sn.e g h) fun e => hk e
theorem args_snd (sn : Snd P gc n r) (g : Gd P gc ct C X n) : ∀ {ks : List Kd} {es : List Ex} {xs : List Expr}, argsB r ct ks es xs = true → PA X xs (tG C (fun _ W vs ds => ArgsK C.pm C.K W ks vs ds) fun Γ S => evs ((run P n).e Γ) es S) ∧ xs.all notStar = true
  | [], [], [], _ => ⟨de_nil fun _ _ => .nil, rfl⟩
  | k :: ks, a :: as, x :: xs, h => by
    unfold argsB at h
    rw [Bool.and_eq_true, Bool.and_eq_true] at h
    obtain ⟨k1, k2⟩ := args_snd sn g h.2
    exact ⟨de_cons2 (arg_snd sn g h.1.1) k1 (star_cons h.1.2 _ _) (fun _ _ _ _ _ _ s r => r.mono s.w) fun _ _ _ _ _ _ a b => .cons a b, by rw [List.all_cons, h.1.2, k2]; rfl⟩
  | [], _ :: _, _, h => by cases h
  | [], [], _ :: _, h => by cases h
  | _ :: _, [], _, h => by cases h
  | _ :: _, _ :: _, [], h => by cases h
theorem rng_snd (sn : Snd P gc n r) (g : Gd P gc ct C X n) {kp : (Hp → Hp → Prop) → Prop} (hk : kp fun _ _ => True) {es : List Ex} {tg x : Expr} (h : rngB r ct es x = true) : PI X tg x (tI C kp fun Γ S => evI (run P n) Γ S (.rng es)) := by
  unfold rngB at h
  split at h
  · rename_i y p xs pos
    simp only [Bool.and_eq_true, beq_iff_eq, decide_eq_true_eq, Bool.not_eq_true'] at h
    obtain ⟨⟨⟨⟨⟨rfl, h2⟩, h3⟩, h4⟩, h5⟩, h6⟩ := h
    have gl := g.gl h2
    have hm := g.blt "range" (by simp [bltNames])
    cases xs with
    | nil => cases h5
    | cons xa xs =>
      cases es with
      | nil => cases h3
      | cons a es =>
        simp only [all2, Bool.and_eq_true] at h3
        simp only [List.all_cons, Bool.and_eq_true] at h4
        cases xs with
        | nil =>
          cases es with
          | cons _ _ => simp [all2] at h3
          | nil =>
            refine pi_fn (di_rng1 hk gl hm (sn.e g h3.1) (star_cons h4.1 _ _)) fun Γ S => ?_
            simp only [evI, evs, bind_bind]
            rfl
        | cons xb xs =>
          cases es with
          | nil => simp [all2] at h3
          | cons b es =>
            simp only [all2, Bool.and_eq_true] at h3
            simp only [List.all_cons, Bool.and_eq_true] at h4
            cases xs with
            | nil =>
              cases es with
              | cons _ _ => simp [all2] at h3
              | nil =>
                refine pi_fn (di_rng2 hk gl hm (sn.e g h3.1) (sn.e g h3.2.1) (by rw [star_cons h4.1, star_cons h4.2.1]; rfl) (star_cons h4.2.1 _ _)) fun Γ S => ?_
                simp only [evI, evs, bind_bind]
                rfl
            | cons xc xs =>
              cases es with
              | nil => simp [all2] at h3
              | cons c es =>
                simp only [all2, Bool.and_eq_true] at h3
                simp only [List.all_cons, Bool.and_eq_true] at h4
                cases xs with
                | cons _ _ => simp at h6
                | nil =>
                  cases es with
                  | cons _ _ => simp [all2] at h3
                  | nil =>
                    refine pi_fn (di_rng3 hk gl hm (sn.e g h3.1) (sn.e g h3.2.1) (sn.e g h3.2.2.1) (star_cons h4.1 _ _) (star_cons h4.2.1 _ _) (star_cons h4.2.2.1 _ _)) fun Γ S => ?_
                    simp only [evI, evs, bind_bind]
                    rfl
  · cases h
theorem isTup_eq {x : Expr} (h : isTup x = true) : ∃ es k p, x = .Tuple es k p := by
  cases x <;> first | exact ⟨_, _, _, rfl⟩ | cases h
theorem itE_snd (sn : Snd P gc n r) (g : Gd P gc ct C X n) {a : Ex} {tg x : Expr} (h : itB r ct false a tg x = true) : PI X tg x (tI C (KeepE C) fun Γ S => evI (run P n) Γ S a) := by
  unfold itB at h
  split at h
  · exact rng_snd sn g (fun _ _ _ _ _ h => h) h
  · rename_i a b
    split at h
    · rename_i y p xa xb pos
      simp only [Bool.and_eq_true, beq_iff_eq, Bool.false_eq_true, if_false] at h
      obtain ⟨⟨⟨⟨⟨rfl, h2⟩, h3⟩, h4⟩, h5⟩, h6⟩ := h
      obtain ⟨es, k, tp, rfl⟩ := isTup_eq h3
      exact di_zip g.hK (g.gl h2) (g.blt _ (by simp [bltNames])) (rd_snd sn g h6.1) (rd_snd sn g h6.2) (star_cons h4 _ _) (star_cons h5 _ _)
    · cases h
  · rename_i a
    split at h
    · rename_i y p xa pos
      simp only [Bool.and_eq_true, beq_iff_eq, Bool.false_eq_true, if_false] at h
      obtain ⟨⟨⟨⟨rfl, h2⟩, h3⟩, h4⟩, h6⟩ := h
      obtain ⟨es, k, tp, rfl⟩ := isTup_eq h3
      exact di_enm g.hK (g.gl h2) (g.blt _ (by simp [bltNames])) (rd_snd sn g h6) (star_cons h4 _ _)
    · cases h
  · rename_i n1 n2 n3
    simp only [Bool.false_eq_true, if_false] at h
    refine pi_fn (di_val g.hK (rd_snd sn g h)) fun Γ S => ?_
    unfold evI
    split
    · exact absurd rfl (n1 _)
    · exact absurd rfl (n2 _ _)
    · exact absurd rfl (n3 _)
    · rfl
theorem itS_snd (sn : Snd P gc n r) (g : Gd P gc ct C X n) {a : Ex} {tg x : Expr} (h : itB r ct true a tg x = true) : PI X tg x (tI C KeepS fun Γ S => evI (run P n) Γ S a) := by
  unfold itB at h
  split at h
  · exact rng_snd sn g (fun _ _ _ _ _ h => h) h
  · rename_i a b
    split at h
    · rename_i y p xa xb pos
      simp only [Bool.and_eq_true, beq_iff_eq, if_true] at h
      obtain ⟨⟨⟨⟨⟨rfl, h2⟩, h3⟩, h4⟩, h5⟩, h6⟩ := h
      obtain ⟨es, k, tp, rfl⟩ := isTup_eq h3
      exact di_zipS g.hK (g.gl h2) (g.blt _ (by simp [bltNames])) (sn.e g h6.1) (sn.e g h6.2) (star_cons h4 _ _) (star_cons h5 _ _)
    · cases h
  · rename_i a
    split at h
    · rename_i y p xa pos
      simp only [Bool.and_eq_true, beq_iff_eq, if_true] at h
      obtain ⟨⟨⟨⟨rfl, h2⟩, h3⟩, h4⟩, h6⟩ := h
      obtain ⟨es, k, tp, rfl⟩ := isTup_eq h3
      exact di_enmS g.hK (g.gl h2) (g.blt _ (by simp [bltNames])) (sn.e g h6) (star_cons h4 _ _)
    · cases h
  · rename_i n1 n2 n3
    simp only [if_true] at h
    refine pi_fn (di_valS g.hK (sn.e g h)) fun Γ S => ?_
    unfold evI
    split
    · exact absurd rfl (n1 _)
    · exact absurd rfl (n2 _ _)
    · exact absurd rfl (n3 _)
    · rfl
theorem ifs_snd (sn : Snd P gc n r) (g : Gd P gc ct C X n) {cs : List Ex} {xs : List Expr} (h : ifsB r ct cs xs = true) : PTs X xs (tT C fun Γ S => evTs (run P n) Γ cs S) := by
  unfold ifsB at h
  split at h
  · refine ⟨fun pins s σ H Q I q => pts_nil.run pins s σ H Q I ?_⟩
    obtain ⟨Γ, W, S, he, hv, p⟩ := q
    exact p true H W (Stp.refl _ _ _) hv rfl
  · rename_i c x
    refine pts_one (pt_fn (sn.t g h) fun Γ S => ?_)
    unfold evTs
    cases evT (run P n) Γ S c with
    | ok b S1 => cases b <;> rfl
    | exc c d S1 => rfl
    | bad => rfl
  · cases h
theorem opt_snd (sn : Snd P gc n r) (g : Gd P gc ct C X n) {o : Option Ex} {x : Option Expr} (h : optB r ct o x = true) : PO X x (tOpt C fun Γ S => evOpt (run P n) Γ o S) := by
  unfold optB at h
  split at h
  · exact do_none
  · exact do_some (sn.e g h)
  · cases h
end
end PD
/-! P13: expressions that are checked do what the evaluation says. -/
namespace PD
open PySem PySem.Spec PyProof.Rows L2
section
variable {P : Prg} {gc : List (Str × PyData)} {ct : Ct} {C : Cfg} {X : Cx} {n : Nat} {r : Chk}
theorem ownS_ix (ct : Ct) (own : List Nat) : (ownS ct own).map (·.2) = own := by
  unfold ownS
  rw [List.map_map]
  exact List.map_id' own
theorem subB_mem {a b : List Nat} (h : subB a b = true) : ∀ i ∈ a, i ∈ b := fun i hi => by
  unfold subB at h
  rw [List.all_eq_true] at h
  simpa using h i hi
theorem blk_kind {N : List Str} {sc scope : Scope} {own : List (Str × Nat)} (h : blkC N sc scope own = true) : scope.kind = .function := (blkOk_by h).kind
theorem comp_snd (sn : Snd P gc n r) (g : Gd P gc ct C X n) {elt : Ex} {t : Tg} {it : Ex} {cs : List Ex} {own : List Nat} {x : Expr} (h : compB r ct elt t it cs own x = true) : PE X x (tF C fun Γ S => evComp (run P n) Γ elt t it cs own S) := by
  unfold compB at h
  split at h
  · rename_i xe tg iter ifs as scope pos
    simp only [Bool.and_eq_true, decide_eq_true_eq] at h
    obtain ⟨⟨⟨⟨⟨⟨⟨rfl, h1⟩, h2⟩, h3⟩, h4⟩, h5⟩, h6⟩, h7⟩ := h
    have hk := blk_kind h3
    have key := de_compF (pos := pos) g.calm (by rw [g.N]; exact g.nd) (itE_snd sn g h1) (by rw [g.N, g.sc]; exact blkOk_by h3) (fun s H a cl fp => tg_snd (g.blk s H scope hk cl a fp) h4) (fun s H a cl fp => ifs_snd sn (g.blk s H scope hk cl a fp) h5) (fun s H a cl fp => sn.e (g.blk s H scope hk cl a fp) h6) (folded h2 _) (by rw [ownS_ix]; exact subB_mem h7)
    rw [ownS_ix] at key
    exact key
  · cases h
theorem comp2_snd (sn : Snd P gc n r) (g : Gd P gc ct C X n) {elt : Ex} {t : Tg} {it : Ex} {cs : List Ex} {t2 : Tg} {it2 : Ex} {cs2 : List Ex} {own own2 : List Nat} {x : Expr} (h : comp2B r ct elt t it cs t2 it2 cs2 own own2 x = true) : PE X x (tF C fun Γ S => evComp2 (run P n) Γ elt t it cs t2 it2 cs2 own own2 S) := by
  unfold comp2B at h
  split at h
  · rename_i xe tg iter ifs as tg2 iter2 ifs2 as2 scope pos
    simp only [Bool.and_eq_true, decide_eq_true_eq] at h
    obtain ⟨⟨⟨⟨⟨⟨⟨⟨⟨⟨⟨⟨⟨⟨⟨rfl, rfl⟩, h1⟩, h2⟩, h2'⟩, h3⟩, h4⟩, h5⟩, h6⟩, h7⟩, h8⟩, h9⟩, h10⟩, h11⟩, h12⟩, h13⟩ := h
    have hk := blk_kind h3
    have key := de_comp2F (pos := pos) (vs1 := own2) g.calm (by rw [g.N]; exact g.nd) (itE_snd sn g h1) (by rw [g.N, g.sc]; exact blkOk_by h3) (by rw [ownS_ix]; exact subB_mem h12) (fun s H a cl fp => tg_snd (g.blk s H scope hk cl a fp) h4) (fun s H a cl fp => ifs_snd sn (g.blk s H scope hk cl a fp) h5)
      (fun s H a cl fp => itS_snd sn (g.blk s H scope hk cl a fp) h6) (fun s H a cl fp => tg_snd (g.blk s H scope hk cl a fp) h7) (fun s H a cl fp => ifs_snd sn (g.blk s H scope hk cl a fp) h8) (fun s H a cl fp => sn.e (g.blk s H scope hk cl a fp) h9) (folded h2 _) (folded h2') (by rw [ownS_ix]; exact subB_mem h10) (subB_mem h11) (fun i hi => by
        rw [g.kOf]
        rw [List.all_eq_true] at h13
        exact of_decide_eq_true (h13 i hi))
    rw [ownS_ix] at key
    exact key
  · cases h
theorem and_snd (sn : Snd P gc n r) (g : Gd P gc ct C X n) {pos : Pos} : ∀ {es : List Ex} {xs : List Expr}, all2 (r.e ct) es xs = true → es ≠ [] → PE X (.BoolOp .And xs pos) (tE C fun Γ S => evAnd (run P n) Γ es S)
  | [], _, _, h => absurd rfl h
  | [a], [x], h, _ => by
    simp only [all2, Bool.and_eq_true] at h
    exact pe_one (sn.e g h.1)
  | a :: b :: es, x :: y :: xs, h, _ => by
    rw [all2, Bool.and_eq_true] at h
    exact de_and (sn.e g h.1) (and_snd sn g h.2 (by simp))
  | _ :: _, [], h, _ => by cases h
  | [_], _ :: _ :: _, h, _ => by simp [all2] at h
  | _ :: _ :: _, [_], h, _ => by simp [all2] at h
theorem or_snd (sn : Snd P gc n r) (g : Gd P gc ct C X n) {pos : Pos} : ∀ {es : List Ex} {xs : List Expr}, all2 (r.e ct) es xs = true → es ≠ [] → PE X (.BoolOp .Or xs pos) (tE C fun Γ S => evOr (run P n) Γ es S)
  | [], _, _, h => absurd rfl h
  | [a], [x], h, _ => by
    simp only [all2, Bool.and_eq_true] at h
    exact pe_one (sn.e g h.1)
  | a :: b :: es, x :: y :: xs, h, _ => by
    rw [all2, Bool.and_eq_true] at h
    exact de_or (sn.e g h.1) (or_snd sn g h.2 (by simp))
  | _ :: _, [], h, _ => by cases h
  | [_], _ :: _ :: _, h, _ => by simp [all2] at h
  | _ :: _ :: _, [_], h, _ => by simp [all2] at h
theorem and_t (sn : Snd P gc n r) (g : Gd P gc ct C X n) {pos : Pos} : ∀ {es : List Ex} {xs : List Expr}, all2 (r.t ct) es xs = true → es ≠ [] → PW X (.BoolOp .And xs pos) (tT C fun Γ S => toB (evAnd (run P n) Γ es S) fun b S1 => .ok b S1)
  | [], _, _, h => absurd rfl h
  | [a], [x], h, _ => by
    simp only [all2, Bool.and_eq_true] at h
    exact pw_and1 (sn.t g h.1)
  | a :: b :: es, x :: y :: xs, h, _ => by
    rw [all2, Bool.and_eq_true] at h
    have key := dw_and (pos := pos) (sn.t g h.1) (and_t sn g h.2 (by simp))
    have e : (fun (Γ : Env) (S : Draw) => (evT (run P n) Γ S a).bind fun k S1 => if k then toB (evAnd (run P n) Γ (b :: es) S1) (fun b S1 => Res.ok b S1) else .ok false S1) = fun Γ S => toB (evAnd (run P n) Γ (a :: b :: es) S) fun b S1 => .ok b S1 := by
      funext Γ S
      show ((toB ((run P n).e Γ S a) fun b S1 => Res.ok b S1).bind fun k S1 => if k then toB (evAnd (run P n) Γ (b :: es) S1) (fun b S1 => Res.ok b S1) else .ok false S1) = toB (toB ((run P n).e Γ S a) fun k S1 => if k then evAnd (run P n) Γ (b :: es) S1 else .ok (.bool false) S1) fun b S1 => .ok b S1
      cases (run P n).e Γ S a with
      | bad => rfl
      | exc c d S1 => rfl
      | ok d S1 => cases d <;> first | rfl | (rename_i k; cases k <;> rfl)
    rw [← e]
    exact key
  | _ :: _, [], h, _ => by cases h
  | [_], _ :: _ :: _, h, _ => by simp [all2] at h
  | _ :: _ :: _, [_], h, _ => by simp [all2] at h
theorem or_t (sn : Snd P gc n r) (g : Gd P gc ct C X n) {pos : Pos} : ∀ {es : List Ex} {xs : List Expr}, all2 (r.t ct) es xs = true → es ≠ [] → PW X (.BoolOp .Or xs pos) (tT C fun Γ S => toB (evOr (run P n) Γ es S) fun b S1 => .ok b S1)
  | [], _, _, h => absurd rfl h
  | [a], [x], h, _ => by
    simp only [all2, Bool.and_eq_true] at h
    exact pw_or1 (sn.t g h.1)
  | a :: b :: es, x :: y :: xs, h, _ => by
    rw [all2, Bool.and_eq_true] at h
    have key := dw_or (pos := pos) (sn.t g h.1) (or_t sn g h.2 (by simp))
    have e : (fun (Γ : Env) (S : Draw) => (evT (run P n) Γ S a).bind fun k S1 => if k then .ok true S1 else toB (evOr (run P n) Γ (b :: es) S1) (fun b S1 => Res.ok b S1)) = fun Γ S => toB (evOr (run P n) Γ (a :: b :: es) S) fun b S1 => .ok b S1 := by
      funext Γ S
      show ((toB ((run P n).e Γ S a) fun b S1 => Res.ok b S1).bind fun k S1 => if k then .ok true S1 else toB (evOr (run P n) Γ (b :: es) S1) (fun b S1 => Res.ok b S1)) = toB (toB ((run P n).e Γ S a) fun k S1 => if k then .ok (.bool true) S1 else evOr (run P n) Γ (b :: es) S1) fun b S1 => .ok b S1
      cases (run P n).e Γ S a with
      | bad => rfl
      | exc c d S1 => rfl
      | ok d S1 => cases d <;> first | rfl | (rename_i k; cases k <;> rfl)
    rw [← e]
    exact key
  | _ :: _, [], h, _ => by cases h
  | [_], _ :: _ :: _, h, _ => by simp [all2] at h
  | _ :: _ :: _, [_], h, _ => by simp [all2] at h
theorem rg_val (sn : Snd P gc n r) (g : Gd P gc ct C X n) {tup : Bool} {es : List Ex} {x : Expr} {p pos : Pos} (hg : glB ct (if tup then "tuple" else "list") = true) (h : rngB r ct es x = true) (hl : es.length ≤ 2) :
    PE X (.Call (.Name (if tup then "tuple" else "list") p) [x] [] pos) (tE C fun Γ S => (evs ((run P n).e Γ) es S).bind fun xs S1 => match rngD xs with
      | some ys => if ys.length ≤ 16777216 ∧ xs.length ≤ 2 then .ok (mkR tup ys) S1 else .bad
      | none => .bad) := by
  unfold rngB at h
  split at h
  · rename_i y p xs pos
    simp only [Bool.and_eq_true, beq_iff_eq, decide_eq_true_eq, Bool.not_eq_true'] at h
    obtain ⟨⟨⟨⟨⟨rfl, h2⟩, h3⟩, h4⟩, h5⟩, h6⟩ := h
    have gl := g.gl h2
    have hm := g.blt "range" (by simp [bltNames])
    have hm2 : X.mg (if tup then "tuple" else "list") = none := g.blt _ (by cases tup <;> simp [bltNames])
    cases xs with
    | nil => cases h5
    | cons xa xs =>
      cases es with
      | nil => cases h3
      | cons a es =>
        simp only [all2, Bool.and_eq_true] at h3
        simp only [List.all_cons, Bool.and_eq_true] at h4
        cases xs with
        | nil =>
          cases es with
          | cons _ _ => simp [all2] at h3
          | nil =>
            refine pe_fn (de_rg1 g.calm (g.gl hg) hm2 gl hm (sn.e g h3.1) (star_cons h4.1 _ _)) fun Γ S => ?_
            simp only [evs, bind_bind]
            refine congrArg _ (funext fun x => funext fun S1 => ?_)
            simp only [Res.bind_ok]
            cases rngD [x] with
            | none => rfl
            | some ys => simp
        | cons xb xs =>
          cases es with
          | nil => simp [all2] at h3
          | cons b es =>
            simp only [all2, Bool.and_eq_true] at h3
            simp only [List.all_cons, Bool.and_eq_true] at h4
            cases es with
            | cons _ _ => simp at hl
            | nil =>
              cases xs with
              | cons _ _ => simp [all2] at h3
              | nil =>
                refine pe_fn (de_rg2 g.calm (g.gl hg) hm2 gl hm (sn.e g h3.1) (sn.e g h3.2.1) (star_cons h4.1 _ _) (star_cons h4.2.1 _ _) (star_any (by simp [h4.2.1]) _ _)) fun Γ S => ?_
                simp only [evs, bind_bind]
                refine congrArg _ (funext fun x => funext fun S1 => ?_)
                refine congrArg _ (funext fun y => funext fun S2 => ?_)
                simp only [Res.bind_ok]
                cases rngD [x, y] with
                | none => rfl
                | some ys => simp
  · cases h
theorem e_snd (sn : Snd P gc n r) (g' : Gd P gc ct C X (n + 1)) {a : Ex} {x : Expr} (h : eStep P gc r ct a x = true) : PE X x (tE C fun Γ S => evStep (run P n) Γ S a) := by
  have g := g'.low
  cases a with
  | var i =>
    simp only [eStep] at h
    split at h
    · rw [Bool.and_eq_true, decide_eq_true_eq] at h
      obtain ⟨h1, h2, h3, h4⟩ := g.nm h.1
      exact de_var h1 h2 h3 h4 (by rw [g.kOf]; exact h.2)
    · cases h
  | con d =>
    simp only [eStep] at h
    split at h
    · exact de_con h
    · cases h
  | glb z d =>
    simp only [eStep] at h
    split at h
    · rename_i y p
      simp only [Bool.and_eq_true, beq_iff_eq, Bool.not_eq_true'] at h
      obtain ⟨⟨⟨rfl, h2⟩, h3⟩, h4⟩ := h
      split at h4
      · rename_i d' e
        cases cEq_eq h4
        obtain ⟨v, u, k1, k2, k3⟩ := g.con _ _ e
        exact de_tC (pe_glob (g.gl h2) k1 k2 h3) k3
      · cases h4
    · cases h
  | tup es =>
    simp only [eStep] at h
    split at h
    · rw [Bool.and_eq_true] at h
      exact de_tup (all2_as sn g h.1 h.2)
    · cases h
  | lst es =>
    simp only [eStep] at h
    split at h
    · rw [Bool.and_eq_true] at h
      refine pe_fn (pe_show (de_lstF (all2_as sn g h.1 h.2))) fun Γ S => ?_
      simp only [evStep, bind_bind]
      refine congrArg _ (funext fun xs => funext fun S1 => ?_)
      split <;> rfl
    · cases h
  | bin op a b =>
    simp only [eStep] at h
    split at h
    · simp only [Bool.and_eq_true, decide_eq_true_eq] at h
      obtain ⟨⟨rfl, h2⟩, h3⟩ := h
      exact de_bin (sn.e g h2) (sn.e g h3)
    · cases h
  | neg a =>
    simp only [eStep] at h
    split at h
    · simp only [Bool.and_eq_true, decide_eq_true_eq] at h
      obtain ⟨rfl, h2⟩ := h
      exact de_neg (sn.e g h2)
    · cases h
  | cmp op a b =>
    simp only [eStep] at h
    split at h
    · simp only [Bool.and_eq_true, decide_eq_true_eq, Bool.not_eq_true'] at h
      obtain ⟨⟨⟨rfl, h2⟩, h3⟩, h4⟩ := h
      exact de_cmp g.hK g.un (rd_snd sn g h2) (rd_snd sn g h3) h4
    · cases h
  | chn op op2 a b c =>
    simp only [eStep] at h
    split at h
    · simp only [Bool.and_eq_true, decide_eq_true_eq, Bool.not_eq_true'] at h
      obtain ⟨⟨⟨⟨⟨rfl, rfl⟩, h2⟩, h3⟩, h4⟩, h5⟩ := h
      exact de_chn g.hK g.un (rd_snd sn g h2) (rd_snd sn g h3) (rd_snd sn g h4) h5
    · cases h
  | and es =>
    simp only [eStep] at h
    split at h
    · simp only [Bool.and_eq_true, decide_eq_true_eq, Bool.not_eq_true'] at h
      obtain ⟨⟨rfl, h2⟩, h3⟩ := h
      exact and_snd sn g h2 (by rintro rfl; cases h3)
    · cases h
  | or es =>
    simp only [eStep] at h
    split at h
    · simp only [Bool.and_eq_true, decide_eq_true_eq, Bool.not_eq_true'] at h
      obtain ⟨⟨rfl, h2⟩, h3⟩ := h
      exact or_snd sn g h2 (by rintro rfl; cases h3)
    · cases h
  | not a =>
    simp only [eStep] at h
    split at h
    · simp only [Bool.and_eq_true, decide_eq_true_eq] at h
      obtain ⟨rfl, h2⟩ := h
      exact de_not (sn.e g h2)
    · cases h
  | ite c a b =>
    simp only [eStep] at h
    split at h
    · simp only [Bool.and_eq_true] at h
      exact de_ite (sn.t g h.1.1) (sn.e g h.1.2) (sn.e g h.2)
    · cases h
  | idx a b =>
    simp only [eStep] at h
    split at h
    · simp only [Bool.and_eq_true] at h
      exact de_idx g.hK (rd_snd sn g h.1.2) (rd_snd sn g h.2) (plain_ix h.1.1)
    · cases h
  | sl a lo hi =>
    simp only [eStep] at h
    split at h
    · simp only [Bool.and_eq_true] at h
      obtain ⟨⟨⟨h1, h2⟩, h3⟩, h4⟩ := h
      rename_i st _ _
      cases st with
      | some _ => cases h1
      | none => exact de_sl g.hK (rd_snd sn g h2) (opt_snd sn g h3) (opt_snd sn g h4)
    · cases h
  | blt b es =>
    simp only [eStep] at h
    split at h
    · rename_i y p xs kws pos
      simp only [Bool.and_eq_true, beq_iff_eq, Bool.not_eq_true'] at h
      obtain ⟨⟨⟨⟨⟨h0, rfl⟩, h2⟩, h3⟩, h4⟩, h5⟩ := h
      cases kws with
      | cons _ _ => cases h0
      | nil =>
        cases xs with
        | nil => cases h3
        | cons xa xs =>
          have hst := h5
          rw [List.all_cons, Bool.and_eq_true] at hst
          exact de_blt g.hK g.calm g.un g.gd (g.gl h2) (g.blt _ (bl_mem b)) (all2_rs sn g h4 h5) (star_cons hst.1 _ _) (star_any hst.2 _ _)
    · cases h
  | call j es =>
    simp only [eStep] at h
    split at h
    · rename_i y p xs kws pos
      simp only [Bool.and_eq_true, Bool.not_eq_true'] at h
      obtain ⟨⟨⟨h0, h1⟩, h2⟩, h3⟩ := h
      cases kws with
      | cons _ _ => cases h0
      | nil =>
        split at h3
        · rename_i f hf
          rw [Bool.and_eq_true, beq_iff_eq] at h3
          obtain ⟨rfl, h3⟩ := h3
          obtain ⟨ar, st⟩ := args_snd sn g h3
          obtain ⟨fa, fd, ps, F, mf, kp, bd⟩ := g'.fns n (Nat.lt_succ_self n) j f hf
          cases xs with
          | nil =>
            cases hk : f.kd.take f.np with
            | cons _ _ => rw [hk] at h3; cases es <;> cases h3
            | nil =>
              rw [hk] at h3 F
              cases es with
              | cons _ _ => cases h3
              | nil => exact de_call0 F g.room g.gd (g.gl h1) mf kp bd h2
          | cons xa xs =>
            rw [List.all_cons, Bool.and_eq_true] at st
            exact de_call F g.room g.gd (g.gl h1) mf kp bd ar h2 (star_cons st.1 _ _) (star_any st.2 _ _) g.xq
        · cases h3
    · cases h
  | comp elt t it cs own =>
    exact pe_show (comp_snd sn g h)
  | comp2 elt t it cs t2 it2 cs2 own own2 =>
    exact pe_show (comp2_snd sn g h)
  | isi a t =>
    simp only [eStep] at h
    split at h
    · rename_i y p xa z pz kws pos
      simp only [Bool.and_eq_true, beq_iff_eq] at h
      obtain ⟨⟨⟨⟨⟨⟨h0, rfl⟩, h2⟩, rfl⟩, h4⟩, h5⟩, h6⟩ := h
      cases kws with
      | cons _ _ => cases h0
      | nil => exact de_isi g.hK (g.gl h2) (g.blt _ (by simp [bltNames])) (g.gl h4) (g.blt _ (ty_mem t)) (rd_snd sn g h5) (star_cons h6 _ _)
    · cases h
  | trng es =>
    simp only [eStep] at h
    split at h
    · rename_i y p xr kws pos
      simp only [Bool.and_eq_true, beq_iff_eq, decide_eq_true_eq] at h
      obtain ⟨⟨⟨⟨h0, rfl⟩, h2⟩, h3⟩, h4⟩ := h
      cases kws with
      | cons _ _ => cases h0
      | nil => exact rg_val (tup := true) sn g h2 h3 h4
    · cases h
  | lrng es =>
    simp only [eStep] at h
    split at h
    · rename_i y p xr kws pos
      simp only [Bool.and_eq_true, beq_iff_eq, decide_eq_true_eq] at h
      obtain ⟨⟨⟨⟨h0, rfl⟩, h2⟩, h3⟩, h4⟩ := h
      cases kws with
      | cons _ _ => cases h0
      | nil => exact rg_val (tup := false) sn g h2 h3 h4
    · cases h
  | meth m a b =>
    simp only [eStep] at h
    split at h
    · rename_i o nm ap xb kws p
      simp only [Bool.and_eq_true, beq_iff_eq] at h
      obtain ⟨⟨⟨⟨⟨⟨h0, rfl⟩, h2⟩, h3⟩, h4⟩, h5⟩, h6⟩ := h
      have h6 : (ap.endLine == p.line) = true := by rw [beq_iff_eq]; exact h6
      cases kws with
      | cons _ _ => cases h0
      | nil =>
        cases m with
        | join => exact de_join g.hK (sn.e g h3) (rd_snd sn g h4) (star_cons h5 _ _) (plain_base h2 _ _) h6
        | split => exact de_split (sn.e g h3) (sn.e g h4) (star_cons h5 _ _) (plain_base h2 _ _) h6
        | startswith => exact de_starts (sn.e g h3) (sn.e g h4) (star_cons h5 _ _) (plain_base h2 _ _) h6
        | index => cases h4
    · cases h
  | rng es => cases h
  | zip a b => cases h
  | enm a => cases h
  | sset a => cases h
  | hnn i => cases h
theorem toB_cases {α : Type} (x : Res PyData) (k : Bool → Draw → Res α) : toB x k = (toB x fun b S => .ok b S).bind k := by
  unfold toB
  cases x with
  | bad => rfl
  | exc c d S => rfl
  | ok d S => cases d <;> rfl
theorem t_snd (sn : Snd P gc n r) (g' : Gd P gc ct C X (n + 1)) {a : Ex} {x : Expr} (h : tStep P gc r ct a x = true) : PT X x (tT C fun Γ S => toB (evStep (run P n) Γ S a) fun b S1 => .ok b S1) := by
  have g := g'.low
  unfold tStep at h
  split at h
  · split at h
    · split at h
      · simp only [Bool.and_eq_true, decide_eq_true_eq, Bool.not_eq_true'] at h
        obtain ⟨⟨⟨rfl, h2⟩, h3⟩, h4⟩ := h
        exact dt_cmp g.hK g.un (rd_snd sn g h2) (rd_snd sn g h3) h4
      · cases h
    · split at h
      · simp only [Bool.and_eq_true, decide_eq_true_eq, Bool.not_eq_true'] at h
        obtain ⟨⟨⟨⟨⟨rfl, rfl⟩, h2⟩, h3⟩, h4⟩, h5⟩ := h
        exact dt_chn g.hK g.un (rd_snd sn g h2) (rd_snd sn g h3) (rd_snd sn g h4) h5
      · cases h
    · cases h
  · split at h
    · simp only [Bool.and_eq_true, decide_eq_true_eq, Bool.not_eq_true'] at h
      obtain ⟨⟨rfl, h2⟩, h3⟩ := h
      exact (and_t sn g h2 (by rintro rfl; cases h3)).pt
    · simp only [Bool.and_eq_true, decide_eq_true_eq, Bool.not_eq_true'] at h
      obtain ⟨⟨rfl, h2⟩, h3⟩ := h
      exact (or_t sn g h2 (by rintro rfl; cases h3)).pt
    · cases h
  · split at h
    · rename_i a
      refine pt_fn (dt_not (sn.t g h)) fun Γ S => ?_
      show ((toB ((run P n).e Γ S a) fun b S1 => Res.ok b S1).bind fun b S1 => Res.ok (!b) S1) = toB (toB ((run P n).e Γ S a) fun b S1 => Res.ok (.bool (!b)) S1) fun b S1 => .ok b S1
      cases (run P n).e Γ S a with
      | bad => rfl
      | exc c d S1 => rfl
      | ok d S1 => cases d <;> rfl
    · cases h
  · rw [Bool.and_eq_true] at h
    exact dt_val (e_snd sn g' h.2) (plain_true h.1 _)
end
end PD
/-! P14: statements that are checked do what the evaluation says; the program's functions do. -/
namespace PD
open PySem PySem.Spec PyProof.Rows L2

def Ct.opn (ct : Ct) : Ct := { ct with kd := ct.kd.map Kd.opn }
/-- new lists -/
def isF : Ex → Bool
  | .lst _ => true
  | .comp .. => true
  | .comp2 .. => true
  | _ => false
def evF (r : Fns) (Γ : Env) (S : Draw) (a : Ex) : Res (List PyData) := (r.e Γ S a).bind fun d S1 => match d with
  | .list xs => .ok xs S1
  | _ => .bad
theorem evF_e (P : Prg) {a : Ex} (h : isF a = true) : ∀ (n : Nat) (Γ : Env) (S : Draw), (run P n).e Γ S a = (evF (run P n) Γ S a).bind fun xs S1 => .ok (.list xs) S1
  | 0, _, _ => rfl
  | n + 1, Γ, S => by
    cases a <;> try cases h
    · rename_i es
      show ((evs ((run P n).e Γ) es S).bind fun xs S1 => if xs.length ≤ 16777216 then Res.ok (PyData.list xs) S1 else .bad) = (((evs ((run P n).e Γ) es S).bind fun xs S1 => if xs.length ≤ 16777216 then Res.ok (PyData.list xs) S1 else .bad).bind fun d S1 => match d with
        | .list xs => .ok xs S1
        | _ => .bad).bind _
      cases evs ((run P n).e Γ) es S with
      | ok xs S1 => simp only [Res.bind_ok]; split <;> rfl
      | _ => rfl
    · rename_i elt t it cs own
      show ((evComp (run P n) Γ elt t it cs own S).bind fun ys S1 => Res.ok (PyData.list ys) S1) = (((evComp (run P n) Γ elt t it cs own S).bind fun ys S1 => Res.ok (PyData.list ys) S1).bind fun d S1 => match d with
        | .list xs => .ok xs S1
        | _ => .bad).bind _
      cases evComp (run P n) Γ elt t it cs own S <;> rfl
    · rename_i elt t it cs t2 it2 cs2 own own2
      show ((evComp2 (run P n) Γ elt t it cs t2 it2 cs2 own own2 S).bind fun ys S1 => Res.ok (PyData.list ys) S1) = (((evComp2 (run P n) Γ elt t it cs t2 it2 cs2 own own2 S).bind fun ys S1 => Res.ok (PyData.list ys) S1).bind fun d S1 => match d with
        | .list xs => .ok xs S1
        | _ => .bad).bind _
      cases evComp2 (run P n) Γ elt t it cs t2 it2 cs2 own own2 S <;> rfl
structure Chk2 extends Chk where
  f : Ct → Ex → Expr → Bool
section
variable (P : Prg) (gc : List (Str × PyData)) (r : Chk2)
def fStep (ct : Ct) (a : Ex) (x : Expr) : Bool :=
  match a with
  | .lst es => match x with
    | .List xs _ => all2 (r.e ct) es xs && xs.all notStar
    | _ => false
  | .comp elt t it cs own => compB r.toChk ct elt t it cs own x
  | .comp2 elt t it cs t2 it2 cs2 own own2 => comp2B r.toChk ct elt t it cs t2 it2 cs2 own own2 x
  | _ => false
def kB (ct : Ct) (i : Nat) (a : Ex) (x : Expr) : Bool :=
  match ct.k i with
  | .nrm => r.e ct a x
  | .own => isF a && r.f ct a x
  | _ => false
def plainV : Expr → Bool
  | .Tuple vs _ _ => (!(vs.length == 2 || vs.length == 3)) || vs.all (foldedForSure 8)
  | _ => true
def stmtB (ct : Ct) (s : Sx) (x : Stmt) : Bool :=
  match s with
  | .asg t e => match x with
    | .Assign [tg] xe _ => match t with
      | .nm i => match tg with
        | .Name y _ => stB ct i y && decide (ct.k i = .nrm) && (if notComp xe then r.e ct e xe else isF e && r.f ct e xe && isLocal ct.sc y)
        | _ => false
      | t => notComp xe && r.e ct e xe && tgB ct t tg && plainV xe && notStar tg
    | _ => false
  | .asgO i e => match x with
    | .Assign [tg] xe _ => match tg with
      | .Name y _ => stB ct i y && decide (ct.k i = .own) && isF e && r.f ct e xe && isLocal ct.sc y
      | _ => false
    | _ => false
  | .par is es => match x with
    | .Assign [.Tuple [.Name y1 p1, .Name y2 p2] _ _] (.Tuple [x1, x2] _ _) _ => match is, es with
      | [i, j], [a, b] => stB ct i y1 && stB ct j y2 && isLocal ct.sc y1 && isLocal ct.sc y2 && !(y1 == y2) && decide (i ≠ j) && (p1.line == p2.line) && notStar x1 && notStar x2 && kB r ct i a x1 && kB r ct j b x2 && !([x1, x2].all (foldedForSure 8)) && !([x1, x2].all (constantsAlone 8))
      | _, _ => false
    | .Assign [.Tuple [.Name y1 p1, .Name y2 p2, .Name y3 p3] _ _] (.Tuple [x1, x2, x3] _ _) _ => match is, es with
      | [i, j, l], [a, b, c] => stB ct i y1 && stB ct j y2 && stB ct l y3 && isLocal ct.sc y1 && isLocal ct.sc y2 && isLocal ct.sc y3 && !(y1 == y2) && !(y1 == y3) && !(y2 == y3) && decide (i ≠ j) && decide (i ≠ l) && decide (j ≠ l) && (p1.line == p2.line) && (p1.line == p3.line) &&
          notStar x1 && notStar x2 && notStar x3 && kB r ct i a x1 && kB r ct j b x2 && kB r ct l c x3 && !([x1, x2, x3].all (foldedForSure 8)) && !([x1, x2, x3].all (constantsAlone 8))
      | _, _ => false
    | _ => false
  | .aug i op e => match x with
    | .AugAssign (.Name y _) op' xe _ => decide (op = .Add) && decide (op' = .Add) && stB ct i y && decide (ct.k i = .nrm) && r.e ct e xe
    | _ => false
  | .app i e => match x with
    | .Expr (.Call (.Attribute (.Name y _) nm ap) [xa] [] cp) _ => nm == ("append" : Str) && nmB ct i y && decide (ct.k i = .own) && r.e ct e xa && notStar xa && (ap.endLine == cp.line)
    | _ => false
  | .ret e => match x with
    | .Return (some xe) _ => r.e ct.opn e xe
    | _ => false
  | .ife c a b => match x with
    | .If xc xa xb _ => r.t ct c xc && r.s ct a xa && r.s ct b xb
    | _ => false
  | .fr t it body => match x with
    | .For tg iter xb [] _ => itB r.toChk ct true it tg iter && tgB ct t tg && r.s ct body xb && notSet iter
    | _ => false
  | .whl c body => match x with
    | .While xc xb [] _ => r.t ct c xc && r.s ct body xb
    | _ => false
  | .exp e => match x with
    | .Expr xe _ => notComp xe && r.e ct e xe
    | _ => false
  | .brk => match x with
    | .Break _ => true
    | _ => false
  | .cnt => match x with
    | .Continue _ => true
    | _ => false
  | .rais => true
def sStep (ct : Ct) (ss : List Sx) (xs : List Stmt) : Bool := all2 (stmtB r ct) ss xs
def chk : Nat → Chk2
  | 0 => ⟨⟨fun _ _ _ => false, fun _ _ _ => false, fun _ _ _ => false⟩, fun _ _ _ => false⟩
  | m + 1 => ⟨⟨eStep P gc (chk m).toChk, tStep P gc (chk m).toChk, sStep (chk m)⟩, fStep (chk m)⟩
end
structure Snd2 (P : Prg) (gc : List (Str × PyData)) (n : Nat) (r : Chk2) : Prop where
  b : Snd P gc n r.toChk
  f : ∀ {ct : Ct} {C : Cfg} {X : Cx} {a : Ex} {x : Expr}, Gd P gc ct C X n → r.f ct a x = true → PE X x (tF C fun Γ S => evF (run P n) Γ S a)
  fa : ∀ {ct : Ct} {C : Cfg} {X : Cx} {a : Ex} {x : Expr} {i : Nat} {y : Str} (py spos : Pos), Gd P gc ct C X n → r.f ct a x = true → stB ct i y = true → isLocal ct.sc y = true → ∃ te : TE, PS X (.Assign [.Name y py] x spos) (tAsg te (gName i)) ∧ ∀ σ H Q, tF C (fun Γ S => evF (run P n) Γ S a) σ H Q → te σ H Q
section
variable {P : Prg} {gc : List (Str × PyData)} {ct : Ct} {C : Cfg} {X : Cx} {n : Nat} {r : Chk2} {H0 W0 : Hp}
theorem sw_eq {elt : Expr} {gs : List Comprehension} {scope : Scope} {pos py : Pos} {y : Str} {l : Nat} {env : PySem.Env} (hk : env.scope.kind = .function) (hy : env.scope.names.lookup y = some .local) :
    swapsWith (.ListComp elt gs scope pos) (some (.Name y py)) l env = pure ((py.line == pos.line) && !(scope.names.any fun (n, k) => n == y && (k == .local || k == .cell))) := by
  have ky : env.kindOf y = some .local := hy
  have hb : env.blockKind = .function := by unfold Env.blockKind; rw [hk]; rfl
  unfold swapsWith
  simp only [hb, ky, Expr.pos]
  rfl
theorem Gd.loc (g : Gd P gc ct C X n) {y : Str} (h : isLocal ct.sc y = true) : X.env.scope.names.lookup y = some .local := by rw [g.sc]; exact isLocal_eq h
theorem Gd.nd' (g : Gd P gc ct C X n) : X.N.Nodup := by rw [g.N]; exact g.nd
theorem Gd.opn (g : Gd P gc ct C X n) : Gd P gc ct.opn C.opn X n := { g with kd := by show C.kd.map Kd.opn = ct.kd.map Kd.opn; rw [g.kd] }
theorem f_snd (sn : Snd2 P gc n r) (g' : Gd P gc ct C X (n + 1)) {a : Ex} {x : Expr} (h : fStep r ct a x = true) : PE X x (tF C fun Γ S => evF (run P (n + 1)) Γ S a) := by
  have g := g'.low
  unfold fStep at h
  split at h
  · rename_i es
    split at h
    · rw [Bool.and_eq_true] at h
      refine pf_fn (de_lstF (all2_as sn.b g h.1 h.2)) fun Γ S => ?_
      show _ = ((evs ((run P n).e Γ) es S).bind fun xs S1 => if xs.length ≤ 16777216 then Res.ok (PyData.list xs) S1 else .bad).bind fun d S1 => match d with
        | .list xs => .ok xs S1
        | _ => .bad
      cases evs ((run P n).e Γ) es S with
      | ok xs S1 => simp only [Res.bind_ok]; split <;> rfl
      | _ => rfl
    · cases h
  · rename_i elt t it cs own
    refine pf_fn (comp_snd sn.b g h) fun Γ S => ?_
    show _ = ((evComp (run P n) Γ elt t it cs own S).bind fun ys S1 => Res.ok (PyData.list ys) S1).bind fun d S1 => match d with
        | .list xs => .ok xs S1
        | _ => .bad
    cases evComp (run P n) Γ elt t it cs own S <;> rfl
  · rename_i elt t it cs t2 it2 cs2 own own2
    refine pf_fn (comp2_snd sn.b g h) fun Γ S => ?_
    show _ = ((evComp2 (run P n) Γ elt t it cs t2 it2 cs2 own own2 S).bind fun ys S1 => Res.ok (PyData.list ys) S1).bind fun d S1 => match d with
        | .list xs => .ok xs S1
        | _ => .bad
    cases evComp2 (run P n) Γ elt t it cs t2 it2 cs2 own own2 S <;> rfl
  · cases h
theorem fa_snd (sn : Snd2 P gc n r) (g' : Gd P gc ct C X (n + 1)) {a : Ex} {x : Expr} {i : Nat} {y : Str} (py spos : Pos) (h : fStep r ct a x = true) (hst : stB ct i y = true) (hl : isLocal ct.sc y = true) :
    ∃ te : TE, PS X (.Assign [.Name y py] x spos) (tAsg te (gName i)) ∧ ∀ σ H Q, tF C (fun Γ S => evF (run P (n + 1)) Γ S a) σ H Q → te σ H Q := by
  have g := g'.low
  have pf := f_snd sn g' h
  obtain ⟨s1, s2, s3⟩ := g.st hst
  have plain : swapsWith x (some (.Name y py)) spos.line X.env = pure false → ∃ te : TE, PS X (.Assign [.Name y py] x spos) (tAsg te (gName i)) ∧ ∀ σ H Q, tF C (fun Γ S => evF (run P (n + 1)) Γ S a) σ H Q → te σ H Q := fun hs => ⟨_, ps_setF pf g.nd' s1 s2 hs s3, fun _ _ _ q => q⟩
  have ks : X.env.scope.kind = .function := by rw [g.sc]; exact g.kind
  unfold fStep at h
  split at h
  · split at h
    · exact plain rfl
    · cases h
  · rename_i elt t it cs own
    have h0 := h
    unfold compB at h
    split at h
    · rename_i xe tg iter ifs as scope pos
      simp only [Bool.and_eq_true, decide_eq_true_eq] at h
      obtain ⟨⟨⟨⟨⟨⟨⟨rfl, h1⟩, h2⟩, h3⟩, h4⟩, h5⟩, h6⟩, h7⟩ := h
      have hk := blk_kind h3
      have sw := sw_eq (elt := xe) (gs := [⟨tg, iter, ifs, 0⟩]) (scope := scope) (pos := pos) (py := py) (l := spos.line) ks (g.loc hl)
      cases hb : ((py.line == pos.line) && !(scope.names.any fun (n, k) => n == y && (k == .local || k == .cell))) with
      | false => rw [hb] at sw; exact plain sw
      | true =>
        rw [hb] at sw
        refine ⟨_, ps_setLc g.calm g.nd' s1 (g.loc hl) sw (itE_snd sn.b g h1) (by rw [g.N, g.sc]; exact blkOk_by h3) (fun s H a cl fp => tg_snd (g.blk s H scope hk cl a fp) h4) (fun s H a cl fp => ifs_snd sn.b (g.blk s H scope hk cl a fp) h5) (fun s H a cl fp => sn.b.e (g.blk s H scope hk cl a fp) h6) (folded h2 _), fun σ H Q q => ?_⟩
        refine lc_data (by rw [ownS_ix]; exact subB_mem h7) ?_
        have e : (fun Γ S => evF (run P (n + 1)) Γ S (.comp elt t it cs own)) = fun Γ S => evComp (run P n) Γ elt t it cs own S := by
          funext Γ S
          show ((evComp (run P n) Γ elt t it cs own S).bind fun ys S1 => Res.ok (PyData.list ys) S1).bind (fun d S1 => match d with
            | .list xs => .ok xs S1
            | _ => .bad) = _
          cases evComp (run P n) Γ elt t it cs own S <;> rfl
        rw [e] at q
        rw [ownS_ix]
        exact q
    · cases h
  · rename_i elt t it cs t2 it2 cs2 own own2
    unfold comp2B at h
    split at h
    · rename_i xe tg iter ifs as tg2 iter2 ifs2 as2 scope pos
      simp only [Bool.and_eq_true, decide_eq_true_eq] at h
      obtain ⟨⟨⟨⟨⟨⟨⟨⟨⟨⟨⟨⟨⟨⟨⟨rfl, rfl⟩, h1⟩, h2⟩, h2'⟩, h3⟩, h4⟩, h5⟩, h6⟩, h7⟩, h8⟩, h9⟩, h10⟩, h11⟩, h12⟩, h13⟩ := h
      have hk := blk_kind h3
      have sw := sw_eq (elt := xe) (gs := [⟨tg, iter, ifs, 0⟩, ⟨tg2, iter2, ifs2, 0⟩]) (scope := scope) (pos := pos) (py := py) (l := spos.line) ks (g.loc hl)
      cases hb : ((py.line == pos.line) && !(scope.names.any fun (n, k) => n == y && (k == .local || k == .cell))) with
      | false => rw [hb] at sw; exact plain sw
      | true =>
        rw [hb] at sw
        refine ⟨_, ps_setLc2 (vs1 := own2) g.calm g.nd' s1 (g.loc hl) sw (itE_snd sn.b g h1) (by rw [g.N, g.sc]; exact blkOk_by h3) (by rw [ownS_ix]; exact subB_mem h12) (fun s H a cl fp => tg_snd (g.blk s H scope hk cl a fp) h4) (fun s H a cl fp => ifs_snd sn.b (g.blk s H scope hk cl a fp) h5)
          (fun s H a cl fp => itS_snd sn.b (g.blk s H scope hk cl a fp) h6) (fun s H a cl fp => tg_snd (g.blk s H scope hk cl a fp) h7) (fun s H a cl fp => ifs_snd sn.b (g.blk s H scope hk cl a fp) h8) (fun s H a cl fp => sn.b.e (g.blk s H scope hk cl a fp) h9) (folded h2 _) (folded h2'), fun σ H Q q => ?_⟩
        refine lc2_data (by rw [ownS_ix]; exact subB_mem h10) (subB_mem h11) (fun i hi => by
          rw [g.kOf]
          rw [List.all_eq_true] at h13
          exact of_decide_eq_true (h13 i hi)) ?_
        have e : (fun Γ S => evF (run P (n + 1)) Γ S (.comp2 elt t it cs t2 it2 cs2 own own2)) = fun Γ S => evComp2 (run P n) Γ elt t it cs t2 it2 cs2 own own2 S := by
          funext Γ S
          show ((evComp2 (run P n) Γ elt t it cs t2 it2 cs2 own own2 S).bind fun ys S1 => Res.ok (PyData.list ys) S1).bind (fun d S1 => match d with
            | .list xs => .ok xs S1
            | _ => .bad) = _
          cases evComp2 (run P n) Γ elt t it cs t2 it2 cs2 own own2 S <;> rfl
        rw [e] at q
        rw [ownS_ix]
        exact q
    · cases h
  · cases h
theorem k_snd (sn : Snd2 P gc n r) (g : Gd P gc ct C X n) {i : Nat} {a : Ex} {x : Expr} (h : kB r ct i a x = true) : (C.kdOf i = .nrm ∨ C.kdOf i = .own) ∧ PE X x (tK C (C.kdOf i) fun Γ S => (run P n).e Γ S a) := by
  unfold kB at h
  rw [g.kOf]
  split at h
  · rename_i e
    rw [e]
    exact ⟨.inl rfl, pk_nrm (by simp) (sn.b.e g h)⟩
  · rename_i e
    rw [e]
    rw [Bool.and_eq_true] at h
    refine ⟨.inr rfl, ?_⟩
    have key := pk_own (sn.f g h.2)
    have e : (fun (Γ : Env) (S : Draw) => (evF (run P n) Γ S a).bind fun ds S1 => Res.ok (PyData.list ds) S1) = fun Γ S => (run P n).e Γ S a := by
      funext Γ S
      rw [← evF_e P h.1]
    rw [e] at key
    exact key
  · cases h
theorem swapped_none {tg x : Expr} (h : plainV x = true) (env : PySem.Env) : swappedStores [tg] x env = pure none := by
  cases x with
  | Tuple vs k p =>
    unfold plainV at h
    rw [Bool.or_eq_true] at h
    cases tg with
    | Tuple ts kt pt =>
      unfold swappedStores
      simp only []
      split
      · rfl
      · rename_i h1
        split
        · rfl
        · split
          · rfl
          · split
            · rfl
            · rename_i h4
              exfalso
              rcases h with h | h
              · simp only [Bool.or_eq_true, bne_iff_ne, ne_eq, Bool.not_eq_true', not_or, Bool.not_eq_false, Decidable.not_not] at h1
                rw [h1.1.2] at h
                rcases h1.1.1 with z | z <;> (rw [z] at h; first | cases h | (rw [Bool.or_true] at h; cases h))
              · exact h4 h
    | List ts pt =>
      unfold swappedStores
      simp only []
      split
      · rfl
      · rename_i h1
        split
        · rfl
        · split
          · rfl
          · split
            · rfl
            · rename_i h4
              exfalso
              rcases h with h | h
              · simp only [Bool.or_eq_true, bne_iff_ne, ne_eq, Bool.not_eq_true', not_or, Bool.not_eq_false, Decidable.not_not] at h1
                rw [h1.1.2] at h
                rcases h1.1.1 with z | z <;> (rw [z] at h; first | cases h | (rw [Bool.or_true] at h; cases h))
              · exact h4 h
    | _ => rfl
  | _ => cases tg <;> rfl
theorem swapped_two {y1 y2 : Str} {p1 p2 pt p2' : Pos} {kt k2 : Nat} {x1 x2 : Expr} {env : PySem.Env} (hk : env.scope.kind = .function) (h1 : env.scope.names.lookup y1 = some .local) (h2 : env.scope.names.lookup y2 = some .local) (ne : (y1 == y2) = false) (hl : (p1.line == p2.line) = true)
    (s1 : notStar x1 = true) (s2 : notStar x2 = true) (f : ([x1, x2].all (foldedForSure 8)) = false) (c : ([x1, x2].all (constantsAlone 8)) = false) :
    swappedStores [.Tuple [.Name y1 p1, .Name y2 p2] kt pt] (.Tuple [x1, x2] k2 p2') env = pure (some [y1, y2]) := by
  have hb : env.blockKind = .function := by unfold Env.blockKind; rw [hk]; rfl
  have k1 : env.kindOf y1 = some .local := h1
  have k2 : env.kindOf y2 = some .local := h2
  have st : ∀ F : Expr → Bool, F x1 = false → F x2 = false → [x1, x2].any F = false := fun F a b => by simp [a, b]
  have hl2 : (p2.line == p1.line) = true := by rw [beq_iff_eq] at hl ⊢; exact hl.symm
  have nm : ∀ F : Expr → Option Str, F (.Name y1 p1) = some y1 → F (.Name y2 p2) = some y2 → [Expr.Name y1 p1, Expr.Name y2 p2].filterMap F = [y1, y2] := fun F a b => by simp [a, b]
  have du : ([y1, y2] : List Str).eraseDups = [y1, y2] := by
    have ne' : (y2 == y1) = false := by rw [beq_eq_false_iff_ne] at ne ⊢; exact fun e => ne e.symm
    simp only [List.eraseDups_cons, List.filter_cons, ne', List.filter_nil, List.eraseDups_nil]
    rfl
  unfold swappedStores
  simp only [hb, f, c]
  rw [st _ (by cases x1 <;> first | rfl | cases s1) (by cases x2 <;> first | rfl | cases s2)]
  rw [nm _ (by show (if _ then _ else _) = _; rw [if_pos]; rw [k1]; simp [Expr.pos]) (by show (if _ then _ else _) = _; rw [if_pos]; rw [k2]; exact hl2)]
  rw [du]
  rfl
theorem swapped_three {y1 y2 y3 : Str} {p1 p2 p3 pt p2' : Pos} {kt k2 : Nat} {x1 x2 x3 : Expr} {env : PySem.Env} (hk : env.scope.kind = .function) (h1 : env.scope.names.lookup y1 = some .local) (h2 : env.scope.names.lookup y2 = some .local) (h3 : env.scope.names.lookup y3 = some .local) (n12 : (y1 == y2) = false) (n13 : (y1 == y3) = false) (n23 : (y2 == y3) = false) (hl : (p1.line == p2.line) = true) (hl3 : (p1.line == p3.line) = true)
    (s1 : notStar x1 = true) (s2 : notStar x2 = true) (s3 : notStar x3 = true) (f : ([x1, x2, x3].all (foldedForSure 8)) = false) (c : ([x1, x2, x3].all (constantsAlone 8)) = false) :
    swappedStores [.Tuple [.Name y1 p1, .Name y2 p2, .Name y3 p3] kt pt] (.Tuple [x1, x2, x3] k2 p2') env = pure (some [y1, y2, y3]) := by
  have hb : env.blockKind = .function := by unfold Env.blockKind; rw [hk]; rfl
  have k1 : env.kindOf y1 = some .local := h1
  have k2 : env.kindOf y2 = some .local := h2
  have k3 : env.kindOf y3 = some .local := h3
  have st : ∀ F : Expr → Bool, F x1 = false → F x2 = false → F x3 = false → [x1, x2, x3].any F = false := fun F a b c => by simp [a, b, c]
  have hl2 : (p2.line == p1.line) = true := by rw [beq_iff_eq] at hl ⊢; exact hl.symm
  have hl3' : (p3.line == p1.line) = true := by rw [beq_iff_eq] at hl3 ⊢; exact hl3.symm
  have nm : ∀ F : Expr → Option Str, F (.Name y1 p1) = some y1 → F (.Name y2 p2) = some y2 → F (.Name y3 p3) = some y3 → [Expr.Name y1 p1, Expr.Name y2 p2, Expr.Name y3 p3].filterMap F = [y1, y2, y3] := fun F a b c => by simp [a, b, c]
  have du : ([y1, y2, y3] : List Str).eraseDups = [y1, y2, y3] := by
    have a : (y2 == y1) = false := by rw [beq_eq_false_iff_ne] at n12 ⊢; exact fun e => n12 e.symm
    have b : (y3 == y1) = false := by rw [beq_eq_false_iff_ne] at n13 ⊢; exact fun e => n13 e.symm
    have c : (y3 == y2) = false := by rw [beq_eq_false_iff_ne] at n23 ⊢; exact fun e => n23 e.symm
    simp [List.eraseDups_cons, List.filter_cons, a, b, c, List.filter_nil, List.eraseDups_nil]
  unfold swappedStores
  simp only [hb, f, c]
  rw [st _ (by cases x1 <;> first | rfl | cases s1) (by cases x2 <;> first | rfl | cases s2) (by cases x3 <;> first | rfl | cases s3)]
  rw [nm _ (by show (if _ then _ else _) = _; rw [if_pos]; rw [k1]; simp [Expr.pos]) (by show (if _ then _ else _) = _; rw [if_pos]; rw [k2]; exact hl2) (by show (if _ then _ else _) = _; rw [if_pos]; rw [k3]; exact hl3')]
  rw [du]
  rfl
end
end PD
/-! P15: statements that are checked do what the evaluation says. -/
namespace PD
open PySem PySem.Spec PyProof.Rows L2
section
variable {P : Prg} {gc : List (Str × PyData)} {ct : Ct} {C : Cfg} {X : Cx} {n : Nat} {r : Chk2} {H0 W0 : Hp}
theorem par2_eq (e : Draw → Ex → Res PyData) (Γ : Env) (S : Draw) (i j : Nat) (a b : Ex) :
    (((e S a).bind fun u S1 => (e S1 b).bind fun v S2 => (.ok (u, v) S2 : Res (PyData × PyData))).out fun p S2 => .nx ((Γ.set i (some p.1)).set j (some p.2)) S2) = (evs e [a, b] S).out fun xs S1 => match setAll [i, j] xs Γ with
      | some Γ' => .nx Γ' S1
      | none => .bad := by
  unfold evs
  cases e S a with
  | ok u S1 =>
    simp only [Res.bind_ok, evs]
    cases e S1 b with
    | ok v S2 => rfl
    | _ => rfl
  | _ => rfl
theorem par3_eq (e : Draw → Ex → Res PyData) (Γ : Env) (S : Draw) (i j l : Nat) (a b c : Ex) :
    (((e S a).bind fun u S1 => (e S1 b).bind fun v S2 => (e S2 c).bind fun w S3 => (.ok (u, v, w) S3 : Res (PyData × PyData × PyData))).out fun p S2 => .nx (((Γ.set i (some p.1)).set j (some p.2.1)).set l (some p.2.2)) S2) = (evs e [a, b, c] S).out fun xs S1 => match setAll [i, j, l] xs Γ with
      | some Γ' => .nx Γ' S1
      | none => .bad := by
  unfold evs
  cases e S a with
  | ok u S1 =>
    simp only [Res.bind_ok, evs]
    cases e S1 b with
    | ok v S2 =>
      simp only [Res.bind_ok, evs]
      cases e S2 c with
      | ok v S2 => rfl
      | _ => rfl
    | _ => rfl
  | _ => rfl
theorem newF_eq {a : Ex} (h : isF a = true) (Γ : Env) (S : Draw) (i : Nat) : ((evF (run P n) Γ S a).out fun xs S1 => .nx (Γ.set i (some (.list xs))) S1) = ((run P n).e Γ S a).out fun x S1 => .nx (Γ.set i (some x)) S1 := by
  rw [evF_e P h]
  cases evF (run P n) Γ S a <;> rfl
theorem newO_eq {a : Ex} (h : isF a = true) (Γ : Env) (S : Draw) (i : Nat) : ((evF (run P n) Γ S a).out fun xs S1 => .nx (Γ.set i (some (.list xs))) S1) = ((run P n).e Γ S a).out fun x S1 => match x with
    | .list _ => .nx (Γ.set i (some x)) S1
    | _ => .bad := by
  rw [evF_e P h]
  cases evF (run P n) Γ S a <;> rfl
theorem stmt_snd (sn : Snd2 P gc n r) (g' : Gd P gc ct C X (n + 1)) (top : ct.top = true) (po : PassesOwn (model X.prog X.w) X.A X.env X.xe) (hz : ∀ b o, H0 b = some o → C.Z b) {s : Sx} {x : Stmt} (h : stmtB r ct s x = true) : PS X x (tS C H0 W0 fun Γ S => stStep (run P n) Γ S s) := by
  have g := g'.low
  cases s with
  | asg t e =>
    simp only [stmtB] at h
    split at h
    · rename_i tg xe pos
      split at h
      · rename_i i
        split at h
        · rename_i y p
          rw [Bool.and_eq_true, Bool.and_eq_true, decide_eq_true_eq] at h
          obtain ⟨⟨h1, h2⟩, h3⟩ := h
          obtain ⟨s1, s2, s3⟩ := g.st h1
          have hk : C.kdOf i = .nrm := by rw [g.kOf]; exact h2
          split at h3
          · rename_i hn
            exact ds_setE (sn.b.e g h3) g.nd' s1 s2 (no_swap hn _ _ _) s3 hk
          · rw [Bool.and_eq_true, Bool.and_eq_true] at h3
            obtain ⟨te, k1, k2⟩ := sn.fa p pos g h3.1.2 h1 h3.2
            exact ps_fn (ds_newN k1 k2 hk) fun Γ S => newF_eq h3.1.1 Γ S i
        · cases h
      · simp only [Bool.and_eq_true] at h
        obtain ⟨⟨⟨⟨h1, h2⟩, h3⟩, h4⟩, h5⟩ := h
        exact ds_asg (sn.b.e g h2) (tg_snd g h3) (no_swap h1 _ _ _) (swapped_none h4 _) (by rw [asg_cons h5]; rfl)
    · cases h
  | asgO i e =>
    simp only [stmtB] at h
    split at h
    · rename_i tg xe pos
      split at h
      · rename_i y p
        simp only [Bool.and_eq_true, decide_eq_true_eq] at h
        obtain ⟨⟨⟨⟨h1, h2⟩, h3⟩, h4⟩, h5⟩ := h
        obtain ⟨te, k1, k2⟩ := sn.fa p pos g h4 h1 h5
        exact ps_fn (ds_newO k1 k2 (by rw [g.kOf]; exact h2)) fun Γ S => newO_eq h3 Γ S i
      · cases h
    · cases h
  | par is es =>
    simp only [stmtB] at h
    split at h
    · rename_i y1 p1 y2 p2 kt pt x1 x2 k2 pt2 pos
      split at h
      · rename_i i j a b
        simp only [Bool.and_eq_true, decide_eq_true_eq, Bool.not_eq_true'] at h
        obtain ⟨⟨⟨⟨⟨⟨⟨⟨⟨⟨⟨⟨h1, h2⟩, h3⟩, h4⟩, h5⟩, h6⟩, h7⟩, h8⟩, h9⟩, h10⟩, h11⟩, h12⟩, h13⟩ := h
        obtain ⟨ki, pi⟩ := k_snd sn g h10
        obtain ⟨kj, pj⟩ := k_snd sn g h11
        have ks : X.env.scope.kind = .function := by rw [g.sc]; exact g.kind
        exact ps_fn (ds_par g.calm g.nd' (g.st h1).1 (g.st h2).1 h6 (g.loc h3) (g.loc h4) ki kj pi pj (star_cons h8 _ _) (star_cons h9 _ _) (swapped_two ks (g.loc h3) (g.loc h4) h5 h7 h8 h9 h12 h13) rfl) fun Γ S => par2_eq ((run P n).e Γ) Γ S i j a b
      · cases h
    · rename_i y1 p1 y2 p2 y3 p3 kt pt x1 x2 x3 k2 pt2 pos
      split at h
      · rename_i i j l a b c
        simp only [Bool.and_eq_true, decide_eq_true_eq, Bool.not_eq_true'] at h
        obtain ⟨⟨⟨⟨⟨⟨⟨⟨⟨⟨⟨⟨⟨⟨⟨⟨⟨⟨⟨⟨⟨h1, h2⟩, h3⟩, h4⟩, h5⟩, h6⟩, h7⟩, h8⟩, h9⟩, h10⟩, h11⟩, h12⟩, h13⟩, h14⟩, h15⟩, h16⟩, h17⟩, h18⟩, h19⟩, h20⟩, h21⟩, h22⟩ := h
        obtain ⟨ki, pi⟩ := k_snd sn g h18
        obtain ⟨kj, pj⟩ := k_snd sn g h19
        obtain ⟨kl, pl⟩ := k_snd sn g h20
        have ks : X.env.scope.kind = .function := by rw [g.sc]; exact g.kind
        exact ps_fn (ds_par3 g.calm g.nd' (g.st h1).1 (g.st h2).1 (g.st h3).1 h10 h11 h12 (g.loc h4) (g.loc h5) (g.loc h6) ki kj kl pi pj pl (star_cons h15 _ _) (star_cons h16 _ _) (star_cons h17 _ _) (swapped_three ks (g.loc h4) (g.loc h5) (g.loc h6) h7 h8 h9 h13 h14 h15 h16 h17 h21 h22) rfl) fun Γ S => par3_eq ((run P n).e Γ) Γ S i j l a b c
      · cases h
    · cases h
  | aug i op e =>
    simp only [stmtB] at h
    split at h
    · rename_i y p op' xe pos
      simp only [Bool.and_eq_true, decide_eq_true_eq] at h
      obtain ⟨⟨⟨⟨rfl, rfl⟩, h3⟩, h4⟩, h5⟩ := h
      obtain ⟨s1, s2, s3⟩ := g.st h3
      refine ps_fn (ds_augA g.nd' s1 s2 s3 (by rw [g.kOf]; exact h4) (sn.b.e g h5)) fun Γ S => ?_
      show _ = (match getV Γ i with
        | some x => ((run P n).e Γ S e).out fun y S1 => match Operator.Add, x, y with
          | .Add, .int a, .int b => .nx (Γ.set i (some (.int (a + b)))) S1
          | .Sub, .int a, .int b => .nx (Γ.set i (some (.int (a - b)))) S1
          | _, _, _ => .bad
        | none => .bad)
      cases getV Γ i with
      | none => rfl
      | some z =>
        cases (run P n).e Γ S e with
        | ok y S1 => cases z <;> first | rfl | (cases y <;> rfl)
        | _ => rfl
    · cases h
  | app i e =>
    simp only [stmtB] at h
    split at h
    · rename_i y py nm ap xa cp pos
      simp only [Bool.and_eq_true, decide_eq_true_eq, beq_iff_eq] at h
      obtain ⟨⟨⟨⟨⟨rfl, h2⟩, h3⟩, h4⟩, h5⟩, h6⟩ := h
      obtain ⟨s1, s2, s3, s4⟩ := g.nm h2
      exact ds_app s1 s2 s3 s4 (by rw [g.kOf]; exact h3) (sn.b.e g h4) (star_cons h5 _ _) (by rw [beq_iff_eq]; exact h6) hz
    · cases h
  | ret e =>
    simp only [stmtB] at h
    split at h
    · exact ds_ret (sn.b.e g.opn h) hz
    · cases h
  | ife c a b =>
    simp only [stmtB] at h
    split at h
    · simp only [Bool.and_eq_true] at h
      exact ds_ife (sn.b.t g h.1.1) (sn.b.s g top po hz h.1.2) (sn.b.s g top po hz h.2)
    · cases h
  | fr t it body =>
    simp only [stmtB] at h
    split at h
    · simp only [Bool.and_eq_true] at h
      obtain ⟨⟨⟨h1, h2⟩, h3⟩, h4⟩ := h
      exact ds_for po g.calm (itS_snd sn.b g h1) (tg_snd g h2) (sn.b.s g top po hz h3) (folded h4 _)
    · cases h
  | whl c body =>
    simp only [stmtB] at h
    split at h
    · simp only [Bool.and_eq_true] at h
      exact ds_whl po (sn.b.t g h.1) (sn.b.s g top po hz h.2) 1000000
    · cases h
  | exp e =>
    simp only [stmtB] at h
    split at h
    · simp only [Bool.and_eq_true] at h
      exact ds_exp (sn.b.e g h.2) (no_swap h.1 _ _ _)
    · cases h
  | brk =>
    simp only [stmtB] at h
    split at h
    · exact ds_brk
    · cases h
  | cnt =>
    simp only [stmtB] at h
    split at h
    · exact ds_cnt
    · cases h
  | rais => exact ds_never
theorem ss_snd (sn : Snd2 P gc n r) (g' : Gd P gc ct C X (n + 1)) (top : ct.top = true) (po : PassesOwn (model X.prog X.w) X.A X.env X.xe) (hz : ∀ b o, H0 b = some o → C.Z b) : ∀ {ss : List Sx} {xs : List Stmt}, all2 (stmtB r ct) ss xs = true → PSs X xs (tS C H0 W0 fun Γ S => ssStep (run P n) Γ S ss)
  | [], [], _ => ds_nil
  | [], _ :: _, h => by cases h
  | _ :: _, [], h => by cases h
  | s :: ss, x :: xs, h => by
    rw [all2, Bool.and_eq_true] at h
    exact ds_cons (stmt_snd sn g' top po hz h.1) (ss_snd sn g' top po hz h.2)
end
theorem snd2 (P : Prg) (gc : List (Str × PyData)) : ∀ (n m : Nat), Snd2 P gc n (chk P gc m)
  | 0, m => {
      b := ⟨fun g h => ⟨fun pins s σ H Q I ⟨Γ, W, S, he, hv, p⟩ => p.elim⟩, fun g h => ⟨fun pins s σ H Q I ⟨Γ, W, S, he, hv, p⟩ => p.elim⟩, fun g _ _ _ h => ⟨fun pins s σ H D I ⟨Γ, W, S, he, hv, st, p⟩ => p.elim⟩⟩
      f := fun g h => ⟨fun pins s σ H Q I ⟨Γ, W, S, he, hv, p⟩ => p.elim⟩
      fa := fun py sp g h _ _ => ⟨fun _ _ _ => False, ⟨fun pins s σ H D I h => h.elim⟩, fun σ H Q ⟨Γ, W, S, he, hv, p⟩ => p.elim⟩ }
  | n + 1, 0 => {
      b := ⟨fun g h => (by cases h), fun g h => (by cases h), fun g _ _ _ h => (by cases h)⟩
      f := fun g h => by cases h
      fa := fun py sp g h _ _ => by cases h }
  | n + 1, m + 1 => {
      b := ⟨fun g h => e_snd (snd2 P gc n m).b g h, fun g h => t_snd (snd2 P gc n m).b g h, fun g top po hz h => ss_snd (snd2 P gc n m) g top po hz h⟩
      f := fun g h => f_snd (snd2 P gc n m) g h
      fa := fun py sp g h h1 h2 => fa_snd (snd2 P gc n m) g py sp h h1 h2 }
end PD
/-! P16: all functions of a program that is checked do what the evaluation says. -/
namespace PD
open PySem PySem.Spec PyProof.Rows L2

/-- a program's functions in their world -/
structure Wld (P : Prg) (gc : List (Str × PyData)) (M : Mch) (prog : Program) (w : World) (K : PySem.W.Frag) (mg : Str → Option Value) (base : Heap) where
  blt : ∀ x ∈ bltNames, mg x = none
  con : ∀ x d, gc.lookup x = some d → ∃ v u, mg x = some u ∧ RelV v u ∧ conV d = some v
  fa : Nat → Addr
  fd : Nat → FuncData
  ps : Nat → List Str
  mgf : ∀ (j : Nat) (f : FDef), P.fs[j]? = some f → mg f.nm = some (.ref (fa j))
  kp : ∀ (j : Nat) (f : FDef), P.fs[j]? = some f → PySem.W.keepIn K (.ref (fa j)) = true
  bd : ∀ (j : Nat) (f : FDef), P.fs[j]? = some f → Binds K (fd j) (ps j) []
  np : ∀ (j : Nat) (f : FDef), P.fs[j]? = some f → (ps j).length = (f.kd.take f.np).length
  /-- with a body: its text is checked -/
  cd : ∀ (j : Nat) (f : FDef) (b : List Sx), P.fs[j]? = some f → f.body = some b → ∃ (st : Stmt) (q : Str) (m : Nat), Fun K f.nm q st (fa j) (fd j) ∧ FnScope f.N (ps j) (defScope st) ∧ (∀ k ∈ f.kd.take f.np, k ≠ .own) ∧
    (chk P gc m).s ⟨f.N, f.kd, defScope st, defScope st, true⟩ b (defBody st) = true
  /-- the draws: by hand -/
  dr : ∀ (j : Nat) (f : FDef), P.fs[j]? = some f → f.body = none → ∀ n, FnG prog w K mg base CX0 n (fa j) (fd j) (ps j) (spF P M K n j (f.kd.take f.np))

section
variable {P : Prg} {gc : List (Str × PyData)} {M : Mch} {prog : Program} {w : World} {K : PySem.W.Frag} {mg : Str → Option Value} {base : Heap}
theorem ArgsK.get {pm : Addr} {W : Hp} : ∀ {ks : List Kd} {vs : List V} {ds : List PyData}, ArgsK pm K W ks vs ds → ∀ (i : Nat) (d : PyData), ds[i]? = some d → ∃ k v, ks[i]? = some k ∧ vs[i]? = some v ∧ ArgK pm K W k v d
  | _, _, _, .nil, i, d, h => by simp at h
  | _, _, _, .cons a b, 0, d, h => by simp at h; subst h; exact ⟨_, _, rfl, rfl, a⟩
  | _, _, _, .cons a b, i + 1, d, h => by
    obtain ⟨k, v, h1, h2, h3⟩ := b.get i d (by simpa using h)
    exact ⟨k, v, by simpa using h1, by simpa using h2, h3⟩
/-- a frame's first state -/
theorem EnvOk.start {C : Cfg} {W H : Hp} {N : List Str} {kd : List Kd} {np : Nat} {xs : List V} {ds : List PyData} (hkd : C.kd = kd) (hZ : C.Z = fun a => ∃ o, H a = some o) (hno : ∀ k ∈ kd.take np, k ≠ .own) (a : ArgsK C.pm C.K W (kd.take np) xs ds) :
    EnvOk C (ds.map some ++ List.replicate (N.length - ds.length) none) (L2.start N xs) H W := by
  obtain ⟨l1, l2⟩ := a.len
  have hl : xs.length = ds.length := by rw [l1, l2]
  have low : ∀ (i : Nat) (d : PyData), (ds.map some ++ List.replicate (N.length - ds.length) none)[i]? = some (some d) → ds[i]? = some d := fun i d h => by
    rw [List.getElem?_append] at h
    split at h
    · rw [List.getElem?_map, Option.map_eq_some_iff] at h
      obtain ⟨x, h1, h2⟩ := h
      cases h2
      exact h1
    · rw [List.getElem?_replicate] at h
      split at h <;> cases h
  refine ⟨by unfold L2.start; simp [hl], fun i d h => ?_, fun i j p d e hij h1 h2 h3 => ?_, fun a h => by rw [hZ] at h; exact h⟩
  · obtain ⟨k, v, k1, k2, k3⟩ := a.get i d (low i d h)
    refine ⟨v, ?_, ?_⟩
    · unfold L2.start
      rw [List.getElem?_append_left (by rw [List.length_map]; exact (List.getElem?_eq_some_iff.mp k2).1), List.getElem?_map, k2]
      rfl
    · have kk : C.kdOf i = k := by
        unfold Cfg.kdOf
        rw [hkd, List.getD_eq_getElem?_getD]
        rw [List.getElem?_take] at k1
        split at k1
        · rw [k1]; rfl
        · cases k1
      rw [kk]
      have nk : k ≠ .own := hno k (List.mem_of_getElem? k1)
      cases k with
      | nrm => exact k3
      | own => exact absurd rfl nk
      | hnd => exact k3
      | scr => exact k3
  · exfalso
    obtain ⟨k, v, k1, k2, k3⟩ := a.get i d (low i d h3)
    have kk : C.kdOf i = k := by
      unfold Cfg.kdOf
      rw [hkd, List.getD_eq_getElem?_getD]
      rw [List.getElem?_take] at k1
      split at k1
      · rw [k1]; rfl
      · cases k1
    exact hno k (List.mem_of_getElem? k1) (by rw [← kk]; exact h1)
def Wld.fns (w' : Wld P gc M prog w K mg base) (n : Nat) : Prop := ∀ (j : Nat) (f : FDef), P.fs[j]? = some f → FnG prog w K mg base CX0 n (w'.fa j) (w'.fd j) (w'.ps j) (spF P M K n j (f.kd.take f.np))
/-- a frame of the program's -/
def frC (M : Mch) (K : PySem.W.Frag) (pm : Addr) (H : Hp) (kd : List Kd) : Cfg := { M := M, K := K, pm := pm, Z := fun a => ∃ o, H a = some o, kd := kd, XQ := fun _ _ _ _ _ => False }
theorem Wld.gd (w' : Wld P gc M prog w K mg base) {n : Nat} (hf : ∀ m, m < n → w'.fns m) {N ps : List Str} {sc : Scope} (S : FnScope N ps sc) {kd : List Kd} {pm : Addr} {H H1 : Hp} {q : Str} {a : Addr} {cd : Value} {A : Around} {fr : List PySem.Env} {s : Shared} {E : XK}
    (room : Room n (A.deeper (envOfC q sc s.heap.objs.size a cd))) (gd : A.guards = some []) : Gd P gc ⟨N, kd, sc, sc, true⟩ (frC M K pm H kd) (cxOf CX0 prog w K mg base N q sc a cd A fr s H1 E) n where
  hK := rfl
  calm := rfl
  un := by have := room.un; show (A.deeper _).units + 200 < cLine; omega
  gd := guards_deep gd
  N := rfl
  nd := S.nd
  sc := rfl
  kd := rfl
  kind := S.kind
  fn := fun _ _ => rfl
  blt := w'.blt
  con := w'.con
  room := room
  xq := fun _ _ _ _ _ => Iff.rfl
  fns := fun m hm j f hj => ⟨w'.fa j, w'.fd j, w'.ps j, hf m hm j f hj, w'.mgf j f hj, w'.kp j f hj, w'.bd j f hj⟩
theorem Wld.all (w' : Wld P gc M prog w K mg base) : ∀ n, w'.fns n := by
  intro n
  induction n using Nat.strongRecOn with
  | _ n ih =>
    intro j f hj
    cases n with
    | zero => exact ⟨fun xs H Q E ⟨C, W, S, ds, _, _, _, _, p⟩ => p.elim, fun A fr s H args us xs Q E _ _ _ _ _ ⟨C, W, S, ds, _, _, _, _, p⟩ => p.elim⟩
    | succ n =>
      cases hb : f.body with
      | none => exact w'.dr j f hj hb (n + 1)
      | some b =>
        obtain ⟨st, q, m, F, S, hno, hc⟩ := w'.cd j f b hj hb
        refine fnG_of F S (fun xs H Q E ⟨C, W, D, ds, _, _, _, a, _⟩ => by rw [w'.np j f hj]; exact a.len.1) fun cd A fr s H xs Q E room gd want => ?_
        obtain ⟨C, W, D, ds, eM, eK, hv, ha, p⟩ := want
        have g := w'.gd (kd := f.kd) (pm := C.pm) (H := H) (fr := fr) (H1 := H) (E := E) (fun m hm => ih m (Nat.lt_succ_of_lt hm)) S room gd
        refine ⟨_, (snd2 P gc n m).b.s (H0 := H) (W0 := W) g rfl (passes_of rfl) (fun b o h => ⟨o, h⟩) hc, ?_⟩
        subst eM eK
        refine ⟨ds.map some ++ List.replicate (f.N.length - ds.length) none, W, D, EnvOk.start rfl rfl hno ha, ⟨hv.sub, hv.hid, hv.st⟩, Stp.refl _ _ _, ?_⟩
        have p : (cStep P (run P n) j ds D).Post (fun d S' => ∀ v H' W', Stp C.pm H W H' W' → Vw C W' H' S' → Dp K0 W' v d → Q v H') (fun _ _ _ => False) := p
        unfold cStep at p
        rw [hj] at p
        dsimp only at p
        split at p
        · rw [hb] at p
          dsimp only at p ⊢
          cases eo : (run P n).s (ds.map some ++ List.replicate (f.N.length - ds.length) none) D b with
          | nx Γ' S' => rw [eo] at p; exact fun σ' H' W' _ (v' : Vw (frC C.M C.K C.pm H f.kd) W' H' S') t' _ => p .non H' W' t' ⟨v'.sub, v'.hid, v'.st⟩ .non
          | ret d S' => rw [eo] at p; exact fun v H' W' (v' : Vw (frC C.M C.K C.pm H f.kd) W' H' S') t' dv => p v H' W' t' ⟨v'.sub, v'.hid, v'.st⟩ dv
          | brk Γ' S' => rw [eo] at p; exact p.elim
          | cnt Γ' S' => rw [eo] at p; exact p.elim
          | exc c d S' => rw [eo] at p; exact p.elim
          | bad => rw [eo] at p; exact p.elim
        · exact p.elim
end
end PD
/-! P17: a law's end: the call from without, the law's own frame. -/
namespace PD
open PySem PySem.Spec PyProof.Rows L2

section
variable {P : Program} {w : World} {K : PySem.W.Frag} {mg mb : Str → Option Value} {k : Nat} {fa a : Addr} {fd : FuncData} {x : Str} {sp : Sp} {s1 : Shared} {us : List Value} {ns : List Int}
def FinOk (s1 : Shared) : Result → Shared → Prop := fun r s' => r = .ok (.ret (.bool true)) ∧ OldK s1.heap s'.heap ∧ s'.os = s1.os ∧ AllBare s'.gens
/-- over a heap in which nothing is tracked but the script -/
theorem end_core (inK : K.In s1.heap) (gl : s1.heap.Ns mainGlobals mg) (bl : s1.heap.Ns builtinsNs mb) (bb : ∀ y : Str, y ≠ "__name__" → mb y = bootBuiltins y) (nl : s1.heap.NoLimit) (ng : s1.gens = #[])
    (at_ : s1.heap.get? a = some { cls := .type "list", data := .seq us.toArray }) (room : Room k callerA) (F : ∀ base : Heap, K.In base → base.Ns mainGlobals mg → FnG P w K mg base CX0 k fa fd [x] sp) (bd : ∀ (s : Shared) (u : Value), BindsTo s fd ⟨[u], []⟩ [(x, u)])
    {H : Hp} (only : Only H) (want : sp [.ref a] H (fun v _ => v = .bl true) fun _ _ _ => False) (hok : HOk P w H s1.heap) (lone : ∀ b u, H b = some u → b = a) (nK : ∀ u, H a = some u → K.lookup a = none) :
    codeAny (model P w) callerA (.call (.ref fa) ⟨[.ref a], []⟩) (FinOk s1) s1 := by
  have dictFree : ∀ {b : Addr} {o : Obj} {es : Array DictEntry} {m : Nat}, s1.heap.get? b = some o → o.data = .dict es m → H b = none := by
    intro b o es m h1 h2
    cases hb : H b with
    | none => rfl
    | some u =>
      cases lone b u hb
      rw [at_] at h1
      cases h1
      exact nomatch (show Data.seq us.toArray _ = Data.dict es m from h2)
  have nsOf : ∀ {b : Addr} {m : Str → Option Value}, s1.heap.Ns b m → (hidT s1.heap H).Ns b m := by
    rintro b m ⟨o, es, n, h1, h2, h3⟩
    exact ⟨o, es, n, hidT_get h1 (dictFree h1 h2), h2, h3⟩
  have inB : K.In (hidT s1.heap H) := by
    intro b o h1
    refine hidT_get (inK b o h1) ?_
    cases hb : H b with
    | none => rfl
    | some u =>
      cases lone b u hb
      rw [nK u hb] at h1
      cases h1
  obtain ⟨mc, c1, c2⟩ := nl
  have md : Mod K mg (hidT s1.heap H) := ⟨inB, nsOf gl, ⟨mb, nsOf bl, bb⟩, ⟨mc, nsOf c1, c2⟩⟩
  have noMem : ∀ b : Addr, b ∉ ([] : List Addr) := fun b z => by cases z
  have e0 : Env0 P w K mg (hidT s1.heap H) callerA [] s1 H := ⟨rfl, md, fun b o e => of_hidT e, Nat.le_of_eq (hidT_size _ _), trivial, fun b z => absurd z (noMem b), hok, .of_eq ng⟩
  refine codeAny_mono ((F _ inB (nsOf gl)).go callerA [] s1 H ⟨[.ref a], []⟩ [.ref a] [.ref a] _ _ room rfl e0 (bd s1 (.ref a)) (.cons rfl .nil) want) ?_
  intro r s' h
  cases r with
  | error e => exact False.elim h
  | ok flow =>
    cases flow with
    | ret u =>
      obtain ⟨v, H', z1, z2, z3, z4, z5, z6⟩ := h
      cases (show v = .bl true from z6)
      cases (show u = Value.bool true from z5)
      refine ⟨rfl, OldK.of_keep fun b o e => ?_, z1, z2⟩
      cases hb : H b with
      | none => exact z3.keep b o e hb (noMem b) (noMem b)
      | some u =>
        rcases only b with z | ⟨ob, xs, z⟩
        · rw [hb] at z; cases z
        · obtain ⟨y1, _⟩ := hok b _ z
          obtain ⟨y2, _⟩ := z4 b _ (z3.frzs b ob _ z)
          rw [e] at y1
          cases y1
          exact y2
    | next => exact False.elim h
    | brk => exact False.elim h
    | cont => exact False.elim h
def scrH (a : Addr) (us : List Value) (ns : List Int) : Hp := fun b => if b = a then some (.frz { cls := .type "list", data := .seq us.toArray } (.lst (ns.map V.int))) else none
theorem law_end (inK : K.In s1.heap) (gl : s1.heap.Ns mainGlobals mg) (bl : s1.heap.Ns builtinsNs mb) (bb : ∀ y : Str, y ≠ "__name__" → mb y = bootBuiltins y) (nl : s1.heap.NoLimit) (ng : s1.gens = #[])
    (at_ : s1.heap.get? a = some { cls := .type "list", data := .seq us.toArray }) (hin : IntsAre us ns) (size : ns.length ≤ sizeLine) (room : Room k callerA) (F : ∀ base : Heap, K.In base → base.Ns mainGlobals mg → FnG P w K mg base CX0 k fa fd [x] sp) (bd : ∀ (s : Shared) (u : Value), BindsTo s fd ⟨[u], []⟩ [(x, u)])
    (want : ∀ H : Hp, Only H → SqL K H a (ns.map V.int) → (∀ b u, H b = some u → b = a) → sp [.ref a] H (fun v _ => v = .bl true) fun _ _ _ => False) : codeAny (model P w) callerA (.call (.ref fa) ⟨[.ref a], []⟩) (FinOk s1) s1 := by
  have vs := vals_ints hin
  cases hk : K.lookup a with
  | some o =>
    have h1 := inK a o hk
    rw [at_] at h1
    cases h1
    have sq : SqL K (fun _ => none) a (ns.map V.int) := .inr ⟨_, us.toArray, _, hk, rfl, rfl, rfl, by rw [List.size_toArray, hin.length]; exact size, by simpa using vs⟩
    exact end_core inK gl bl bb nl ng at_ room F bd (fun _ => .inl rfl) (want _ (fun _ => .inl rfl) sq fun _ _ z => nomatch z) (fun _ _ z => nomatch z) (fun _ _ z => nomatch z) fun _ z => nomatch z
  | none =>
    have hit : scrH a us ns a = some (.frz { cls := .type "list", data := .seq us.toArray } (.lst (ns.map V.int))) := if_pos rfl
    have mis : ∀ {b : Addr} {u : HO}, scrH a us ns b = some u → b = a := fun {b u} z => by
      by_cases e : b = a
      · exact e
      · rw [show scrH a us ns b = none from if_neg e] at z; cases z
    have only : Only (scrH a us ns) := fun b => by
      by_cases e : b = a
      · cases e; exact .inr ⟨_, _, hit⟩
      · exact .inl (if_neg e)
    refine end_core inK gl bl bb nl ng at_ room F bd only (want _ only (.inl (.inr ⟨_, hit⟩)) fun b u z => mis z) (fun b u z => ?_) (fun b u z => mis z) fun _ _ => hk
    cases mis z
    rw [hit] at z
    cases z
    exact ⟨at_, by rw [List.length_map]; exact size, us, _, vs, at_⟩
end
/-- the goal behind the head, from the law's own promise -/
theorem walk_pd {l : PySem.W.OpenLaw} {n k : Nat} {q : Program} {loose : List Str} {XP : (Str → Option Value) → Heap → Prop} {YP : World → Heap → Prop} {d : DefRec} {K : Params → PySem.W.Frag} {sp : World → Sp} {x : Str}
    (most : l.most = some n) (most2 : n ≤ sizeLine) (nodef : d.params.defaults = []) (room : Room k callerA) (hY : ∀ (w : World) (h : Heap), YP w h → (K w.params).In h)
    (F : ∀ (w : World) (mg : Str → Option Value) (fa : Addr) (h : Heap), (K w.params).In h → h.Ns mainGlobals mg → mg d.name = some (.ref fa) → ∃ fd : FuncData, (∀ (s : Shared) (u : Value), BindsTo s fd ⟨[u], []⟩ [(x, u)]) ∧
      ∀ base : Heap, (K w.params).In base → base.Ns mainGlobals mg → FnG l.prog w (K w.params) mg base CX0 k fa fd [x] (sp w))
    (want : ∀ (w : World) (H : Hp) (a : Addr) (ns : List Int), ns.length ≤ n → Only H → SqL (K w.params) H a (ns.map V.int) → (∀ b u, H b = some u → b = a) → sp w [.ref a] H (fun v _ => v = .bl true) fun _ _ _ => False) :
    PySem.W.WalkO q loose XP YP l.row.toRowW d [] (fun f vs => PySem.call f vs) := by
  refine Att.attach_call most nodef ?_
  intro w s0 s1 mg mb fa o pm cd doc a us ns G Y _ _ _ mgf at_ hin len ng
  have inK := hY w _ Y
  obtain ⟨fd, bd, F'⟩ := F w mg fa _ inK G.T.g mgf
  exact law_end inK G.T.g G.T.b G.T.builtins G.T.nolimit ng at_ hin (Nat.le_trans len most2) room F' bd fun H h1 h2 h3 => want w H a ns len h1 h2 h3

/-! ### the law's own function -/
/-- the maker of the draws: new things alone -/
def spStart (M : Mch) (K : PySem.W.Frag) (init : List Int → Draw) : Sp := fun xs H Q E => ∃ (a : Addr) (ns : List Int), xs = [.ref a] ∧ ns.length ≤ 63 ∧ SqL K H a (ns.map V.int) ∧
  ∀ pm H', (∀ b o, H b = some o → H' b = some o) → StAt M H' pm (init ns) → (∀ b, Mst H' pm b → H b = none) → Q (.ref pm) H'
def spLaw (K : PySem.W.Frag) (n : Nat) : Sp := fun xs H Q E => ∃ (a : Addr) (ns : List Int), xs = [.ref a] ∧ SqL K H a (ns.map V.int) ∧ ns.length ≤ n ∧ ∀ H', Q (.bl true) H'
def firstB (ct : Ct) (ys : Str) (s1 : Stmt) : Bool :=
  match s1 with
  | .Assign [.Name ym _] (.Call (.Name y _) [.Name x _] kws _) _ => kws.isEmpty && y == ys && glB ct y && !dbg y && nmB ct 0 x && stB ct 1 ym
  | _ => false
theorem PSs.union {X : Cx} {b : List Stmt} {I : Type} {p : I → Prop} {t : I → TS} (h : ∀ i, p i → PSs X b (t i)) : PSs X b (fun D σ H => ∃ i, p i ∧ t i D σ H) :=
  ⟨fun pins s σ H D J ⟨i, hi, q⟩ => (h i hi).run pins s σ H D J q⟩
section
variable {P : Prg} {gc : List (Str × PyData)} {M : Mch} {prog : Program} {w : World} {K : PySem.W.Frag} {mg : Str → Option Value} {base : Heap}
def lawEnv (N : List Str) (ns : List Int) : Env := some (.list (ns.map .int)) :: some hndD :: List.replicate (N.length - 2) none
theorem law_fn (w' : Wld P gc M prog w K mg base) {n m : Nat} {x q px ys : Str} {st s1 : Stmt} {rest : List Stmt} {fa fs : Addr} {fd fds : FuncData} {N pss : List Str} {kd : List Kd} {body : List Sx} {init : List Int → Draw}
    (F : Fun K x q st fa fd) (S : FnScope N [px] (defScope st)) (hb : defBody st = s1 :: rest) (kd0 : kd.getD 0 .nrm = .scr) (kd1 : kd.getD 1 .nrm = .hnd) (hN : 2 ≤ N.length) (hf : firstB ⟨N, kd, defScope st, defScope st, true⟩ ys s1 = true)
    (fst : FnG prog w K mg base CX0 n fs fds pss (spStart M K init)) (mgs : mg ys = some (.ref fs)) (kps : PySem.W.keepIn K (.ref fs) = true) (bds : Binds K fds pss []) (hc : (chk P gc m).s ⟨N, kd, defScope st, defScope st, true⟩ body rest = true)
    (go : ∀ ns : List Int, ns.length ≤ 63 → ∃ S', (run P n).s (lawEnv N ns) (init ns) body = .ret (.bool true) S') : FnG prog w K mg base CX0 (n + 1) fa fd [px] (spLaw K 63) := by
  refine fnG_of F S (fun xs H Q E ⟨a, ns, e, _⟩ => by rw [e]; rfl) fun cd A fr s H xs Q E room gd want => ?_
  obtain ⟨a, ns, rfl, sq, len, hQ⟩ := want
  obtain ⟨S', eS⟩ := go ns len
  have g : ∀ (pm : Addr) (H' : Hp), Gd P gc ⟨N, kd, defScope st, defScope st, true⟩ (frC M K pm H' kd) (cxOf CX0 prog w K mg base N q (defScope st) fa cd A fr s H E) n := fun pm H' => w'.gd (fun m _ => w'.all m) S room gd
  have later := fun (i : Addr × Hp × Hp) (_ : True) => (snd2 P gc n m).b.s (H0 := i.2.1) (W0 := i.2.2) (g i.1 i.2.1) rfl (passes_of rfl) (fun b o h => ⟨o, h⟩) hc
  unfold firstB at hf
  split at hf
  · rename_i ym pym y py x' px' kws cpos pos
    simp only [Bool.and_eq_true, Bool.not_eq_true', beq_iff_eq] at hf
    obtain ⟨⟨⟨⟨⟨h0, rfl⟩, h2⟩, h3⟩, h4⟩, h5⟩ := hf
    cases kws with
    | cons _ _ => cases h0
    | nil =>
      have g0 := g 0 H
      obtain ⟨n1, n2, n3, n4⟩ := g0.nm h4
      obtain ⟨t1, t2, t3⟩ := g0.st h5
      have call := pe_callG (E := E0) (p := py) (pos := cpos) fst room g0.gd (g0.gl h2) mgs kps bds pass0 (pa_cons (pe_var (pos := px') n1 n2 n3 n4) pa_nil rfl) h3 rfl rfl
      rw [hb]
      refine ⟨_, pss_cons (ps_set (pos := pos) (pos' := pym) g0.nd' t1 t2 call rfl t3) (PSs.union later), ?_⟩
      have s0 : (L2.start N [V.ref a])[0]? = some (some (.ref a)) := rfl
      refine ⟨.ref a, s0, a, ns, rfl, len, sq, fun pm H' sub stt new => ?_⟩
      refine ⟨(pm, H', H), trivial, lawEnv N ns, H, init ns, ⟨?_, ?_, ?_, fun b z => z⟩, ⟨sub, new, stt⟩, ?_, ?_⟩
      · unfold lawEnv L2.start
        simp
        omega
      · intro i d hi
        match i with
        | 0 =>
          cases hi
          refine ⟨.ref a, s0, ?_⟩
          show Slot _ _ _ (kd.getD 0 .nrm) _ _
          rw [kd0]
          rcases sq with z | z
          · exact .inl (.lst (.inl z) (ints_dpAll _))
          · exact .inr ⟨a, ns, rfl, rfl, .inr z⟩
        | 1 =>
          cases hi
          refine ⟨.ref pm, ?_, ?_⟩
          · rw [List.getElem?_set_self]
            unfold L2.start
            simp
            omega
          · show Slot _ _ _ (kd.getD 1 .nrm) _ _
            rw [kd1]
            exact ⟨rfl, rfl⟩
        | i + 2 =>
          exfalso
          unfold lawEnv at hi
          simp only [List.getElem?_cons_succ, List.getElem?_replicate] at hi
          split at hi <;> cases hi
      · intro i j p d e hij h1 h2 h3
        exfalso
        have h1 : kd.getD i .nrm = .own := h1
        match i with
        | 0 => rw [kd0] at h1; cases h1
        | 1 => rw [kd1] at h1; cases h1
        | i + 2 =>
          unfold lawEnv at h3
          simp only [List.getElem?_cons_succ, List.getElem?_replicate] at h3
          split at h3 <;> cases h3
      · exact ⟨fun b o h => h, fun b o h nm => ⟨h, nm⟩, fun b o h => ⟨o, h⟩, fun b o h hn => by have h : H b = some o := h; have hn : H b = none := hn; rw [hn] at h; cases h⟩
      · dsimp only
        rw [eS]
        intro v H2 W2 _ _ dv
        cases dv
        exact hQ H2
  · cases hf
end
end PD
/-! P18: the functions that draw: ints, one dict with two lists. -/
namespace PD
open PySem PySem.Spec PyProof.Rows L2

structure Lay where
  c : Str
  g : Str
  a : Str
  b : Option Str
def Lay.dct (L : Lay) (S : Draw) (pc pg : Addr) : List (Key × V) := [(.inr L.c, V.ref pc), (.inr L.g, V.ref pg), (.inr L.a, V.int S.a)] ++ (match L.b with | some x => [(.inr x, V.int S.b)] | none => [])
structure Lay.Ok (L : Lay) : Prop where
  cg : L.c ≠ L.g
  ca : L.c ≠ L.a
  ga : L.g ≠ L.a
  cb : ∀ x, L.b = some x → L.c ≠ x
  gb : ∀ x, L.b = some x → L.g ≠ x
  ab : ∀ x, L.b = some x → L.a ≠ x
def Lay.m (L : Lay) : Mch where
  lay := L.dct
  refs := fun S pc pg k a h => by
    unfold Lay.dct at h
    rw [List.mem_append] at h
    rcases h with h | h
    · simp only [List.mem_cons, List.not_mem_nil, or_false] at h
      rcases h with h | h | h
      · cases h; exact .inl rfl
      · cases h; exact .inr rfl
      · cases h
    · cases hb : L.b with
      | none => rw [hb] at h; cases h
      | some x =>
        rw [hb] at h
        simp only [List.mem_cons, List.not_mem_nil, or_false] at h
        cases h
  hc := fun S pc pg => ⟨.inr L.c, by simp [Lay.dct]⟩
  hg := fun S pc pg => ⟨.inr L.g, by simp [Lay.dct]⟩
section
variable {L : Lay} (ok : L.Ok) (S : Draw) (pc pg : Addr)
theorem lay_c : valV (L.dct S pc pg) (.inr L.c) = some (.ref pc) := by simp [valV, Lay.dct]
theorem lay_g (ok : L.Ok) : valV (L.dct S pc pg) (.inr L.g) = some (.ref pg) := by
  simp [valV, Lay.dct, List.find?_cons, ok.cg]
theorem lay_a (ok : L.Ok) : valV (L.dct S pc pg) (.inr L.a) = some (.int S.a) := by
  simp [valV, Lay.dct, List.find?_cons, ok.ca, ok.ga]
theorem lay_b (ok : L.Ok) {x : Str} (hb : L.b = some x) : valV (L.dct S pc pg) (.inr x) = some (.int S.b) := by
  simp [valV, Lay.dct, List.find?_cons, hb, ok.cb x hb, ok.gb x hb, ok.ab x hb]
theorem put_g (ok : L.Ok) (q : Addr) : putK (L.dct S pc pg) (.inr L.g) (.ref q) = L.dct S pc q := by
  have h1 : L.c ≠ L.g := ok.cg
  have h2 : ¬ L.a = L.g := fun e => ok.ga e.symm
  cases hb : L.b with
  | none => simp [putK, Lay.dct, hb, h1, h2]
  | some x =>
    have h3 : ¬ x = L.g := fun e => ok.gb x hb e.symm
    simp [putK, Lay.dct, hb, h1, h2, h3]
theorem put_a (ok : L.Ok) (i : Int) : putK (L.dct S pc pg) (.inr L.a) (.int i) = L.dct { S with a := i } pc pg := by
  have h1 : L.c ≠ L.a := ok.ca
  have h2 : L.g ≠ L.a := ok.ga
  cases hb : L.b with
  | none => simp [putK, Lay.dct, hb, h1, h2]
  | some x =>
    have h3 : ¬ x = L.a := fun e => ok.ab x hb e.symm
    simp [putK, Lay.dct, hb, h1, h2, h3]
theorem put_b (ok : L.Ok) {x : Str} (hb : L.b = some x) (i : Int) : putK (L.dct S pc pg) (.inr x) (.int i) = L.dct { S with b := i } pc pg := by
  simp [putK, Lay.dct, hb, ok.cb x hb, ok.gb x hb, ok.ab x hb]
theorem dct_len : (L.dct S pc pg).length < sizeLine := by
  have h : (L.dct S pc pg).length ≤ 4 := by
    unfold Lay.dct
    cases L.b <;> simp
  rw [sizeLine_eq]
  omega
end
/-- the state at a point of a drawing function, that began at H0 -/
structure Cur (L : Lay) (pm : Addr) (H0 H : Hp) (S : Draw) (pc pg : Addr) : Prop where
  d : H pm = some (.dK (L.dct S pc pg))
  lc : H pc = some (.lst (S.cells.map V.int))
  lg : H pg = some (.lst (S.great.map V.int))
  ne : pc ≠ pg
  k : ∀ a o, H0 a = some o → ¬ Mst H0 pm a → H a = some o ∧ a ≠ pm ∧ a ≠ pc ∧ a ≠ pg
  t : ∀ a o, H0 a = some o → ∃ o', H a = some o'
section
variable {L : Lay} {pm : Addr} {H0 H : Hp} {S : Draw} {pc pg : Addr}
theorem Cur.mc (c : Cur L pm H0 H S pc pg) : pm ≠ pc := fun e => by have := c.d; rw [e, c.lc] at this; cases this
theorem Cur.mg (c : Cur L pm H0 H S pc pg) : pm ≠ pg := fun e => by have := c.d; rw [e, c.lg] at this; cases this
theorem Cur.mst (c : Cur L pm H0 H S pc pg) {a : Addr} (h : Mst H pm a) : a = pm ∨ a = pc ∨ a = pg := by
  rcases h with h | ⟨kvs, k, h1, h2⟩
  · exact .inl h
  · rw [c.d] at h1
    cases h1
    exact .inr (L.m.refs S pc pg k a h2)
/-- a new thing -/
theorem Cur.new (c : Cur L pm H0 H S pc pg) {q : Addr} {o : HO} (hq : H q = none) : Cur L pm H0 (upd H q o) S pc pg where
  d := by rw [upd_ne (ne_of_none c.d hq)]; exact c.d
  lc := by rw [upd_ne (ne_of_none c.lc hq)]; exact c.lc
  lg := by rw [upd_ne (ne_of_none c.lg hq)]; exact c.lg
  ne := c.ne
  k := fun a u h n => by
    obtain ⟨h1, h2⟩ := c.k a u h n
    exact ⟨by rw [upd_ne (ne_of_none h1 hq)]; exact h1, h2⟩
  t := fun a u h => by
    obtain ⟨u', h1⟩ := c.t a u h
    exact ⟨u', by rw [upd_ne (ne_of_none h1 hq)]; exact h1⟩
theorem Cur.putA (c : Cur L pm H0 H S pc pg) (ok : L.Ok) (i : Int) : Cur L pm H0 (upd H pm (.dK (putK (L.dct S pc pg) (.inr L.a) (.int i)))) { S with a := i } pc pg where
  d := by rw [upd_same, put_a S pc pg ok]
  lc := by rw [upd_ne c.mc.symm]; exact c.lc
  lg := by rw [upd_ne c.mg.symm]; exact c.lg
  ne := c.ne
  k := fun a u h n => by
    obtain ⟨h1, h2, h3⟩ := c.k a u h n
    exact ⟨by rw [upd_ne h2]; exact h1, h2, h3⟩
  t := fun a u h => by
    by_cases e : a = pm
    · exact ⟨_, by rw [e]; exact upd_same⟩
    · rw [upd_ne e]; exact c.t a u h
theorem Cur.putB (c : Cur L pm H0 H S pc pg) (ok : L.Ok) {x : Str} (hb : L.b = some x) (i : Int) : Cur L pm H0 (upd H pm (.dK (putK (L.dct S pc pg) (.inr x) (.int i)))) { S with b := i } pc pg where
  d := by rw [upd_same, put_b S pc pg ok hb]
  lc := by rw [upd_ne c.mc.symm]; exact c.lc
  lg := by rw [upd_ne c.mg.symm]; exact c.lg
  ne := c.ne
  k := fun a u h n => by
    obtain ⟨h1, h2, h3⟩ := c.k a u h n
    exact ⟨by rw [upd_ne h2]; exact h1, h2, h3⟩
  t := fun a u h => by
    by_cases e : a = pm
    · exact ⟨_, by rw [e]; exact upd_same⟩
    · rw [upd_ne e]; exact c.t a u h
/-- the second list anew -/
theorem Cur.putG (c : Cur L pm H0 H S pc pg) (ok : L.Ok) {q : Addr} {gs : List Int} (hq : H0 q = none) (hl : H q = some (.lst (gs.map V.int))) (nm : q ≠ pm) (nc : q ≠ pc) : Cur L pm H0 (upd H pm (.dK (putK (L.dct S pc pg) (.inr L.g) (.ref q)))) { S with great := gs } pc q where
  d := by rw [upd_same, put_g S pc pg ok]; rfl
  lc := by rw [upd_ne c.mc.symm]; exact c.lc
  lg := by rw [upd_ne nm]; exact hl
  ne := nc.symm
  k := fun a u h n => by
    obtain ⟨h1, h2, h3, h4⟩ := c.k a u h n
    exact ⟨by rw [upd_ne h2]; exact h1, h2, h3, ne_of_none h hq⟩
  t := fun a u h => by
    by_cases e : a = pm
    · exact ⟨_, by rw [e]; exact upd_same⟩
    · rw [upd_ne e]; exact c.t a u h
/-- a place of the second list -/
theorem Cur.setG (c : Cur L pm H0 H S pc pg) (j : Nat) (i : Int) : Cur L pm H0 (upd H pg (.lst ((S.great.map V.int).set j (.int i)))) { S with great := S.great.set j i } pc pg where
  d := by rw [upd_ne c.mg]; exact c.d
  lc := by rw [upd_ne c.ne]; exact c.lc
  lg := by rw [upd_same, List.map_set]
  ne := c.ne
  k := fun a u h n => by
    obtain ⟨h1, h2, h3, h4⟩ := c.k a u h n
    exact ⟨by rw [upd_ne h4]; exact h1, h2, h3, h4⟩
  t := fun a u h => by
    by_cases e : a = pg
    · exact ⟨_, by rw [e]; exact upd_same⟩
    · rw [upd_ne e]; exact c.t a u h
/-- the beginning, the end -/
theorem Cur.begin {C : Cfg} {W : Hp} (hM : C.M = L.m) (v : Vw C W H S) : ∃ pc pg, Cur L C.pm H H S pc pg := by
  obtain ⟨pc, pg, ne, h1, h2, h3⟩ := v.st
  rw [hM] at h1
  refine ⟨pc, pg, h1, h2, h3, ne, fun a o h n => ⟨h, fun e => n (.inl e), fun e => n ?_, fun e => n ?_⟩, fun a o h => ⟨o, h⟩⟩
  · subst e
    obtain ⟨k, hk⟩ := L.m.hc S a pg
    exact .inr ⟨_, k, h1, hk⟩
  · subst e
    obtain ⟨k, hk⟩ := L.m.hg S pc a
    exact .inr ⟨_, k, h1, hk⟩
theorem Cur.fin {C : Cfg} {W H' : Hp} {S' : Draw} (hM : C.M = L.m) (v : Vw C W H S) (c : Cur L C.pm H H' S' pc pg) : Stp C.pm H W H' W ∧ Vw C W H' S' := by
  have nm : ∀ a o, H a = some o → ¬ Mst H C.pm a → ¬ Mst H' C.pm a := fun a o h n m => by
    obtain ⟨_, h2, h3, h4⟩ := c.k a o h n
    rcases c.mst m with e | e | e
    · exact h2 e
    · exact h3 e
    · exact h4 e
  refine ⟨⟨fun _ _ h => h, fun a o h n => ⟨(c.k a o h n).1, nm a o h n⟩, c.t, fun a o h n => by rw [n] at h; cases h⟩, ⟨fun a o h => ?_, fun a m => ?_, pc, pg, c.ne, by rw [hM]; exact c.d, c.lc, c.lg⟩⟩
  · have n : ¬ Mst H C.pm a := fun m => by rw [v.hid a m] at h; cases h
    exact (c.k a o (v.sub a o h) n).1
  · cases e : W a with
    | none => rfl
    | some o =>
      have n : ¬ Mst H C.pm a := fun m => by rw [v.hid a m] at e; cases e
      exact absurd m (nm a o (v.sub a o e) n)
end
end PD
/-! P19: rules of the functions that draw. -/
namespace PD
open PySem PySem.Spec PyProof.Rows L2

abbrev ZEnv := List (Option Int)
structure ZOk (pm : Addr) (Γ : ZEnv) (σ : L2.St) : Prop where
  h : σ[0]? = some (some (.ref pm))
  len : Γ.length = σ.length
  at_ : ∀ (i : Nat) (d : Int), Γ[i]? = some (some d) → σ[i]? = some (some (V.int d))
  z : ∀ d : Int, Γ[0]? ≠ some (some d)
theorem ZOk.set {pm : Addr} {Γ : ZEnv} {σ : L2.St} (o : ZOk pm Γ σ) {i : Nat} (h0 : i ≠ 0) (d : Int) : ZOk pm (Γ.set i (some d)) (σ.set i (some (.int d))) where
  h := by rw [List.getElem?_set_ne h0]; exact o.h
  len := by rw [List.length_set, List.length_set]; exact o.len
  at_ := fun j e hj => by
    by_cases hij : i = j
    · subst hij
      by_cases hl : i < Γ.length
      · rw [List.getElem?_set_self hl] at hj
        cases hj
        exact List.getElem?_set_self (by rw [← o.len]; exact hl)
      · rw [List.getElem?_eq_none (by rw [List.length_set]; omega)] at hj
        cases hj
    · rw [List.getElem?_set_ne hij] at hj ⊢
      exact o.at_ j e hj
  z := fun e => by rw [List.getElem?_set_ne h0]; exact o.z e
def getI (Γ : ZEnv) (i : Nat) : Option Int :=
  match Γ[i]? with
  | some (some d) => some d
  | _ => none
abbrev ZFn := ZEnv → Draw → Option Int
abbrev ZTst := ZEnv → Draw → Option Bool
inductive ZOut where
  | nx (Γ : ZEnv) (S : Draw)
  | ret (i : Int) (S : Draw)
  | bad
abbrev ZSt := ZEnv → Draw → ZOut
def ZOut.Post (nx : ZEnv → Draw → Prop) (rt : Int → Draw → Prop) : ZOut → Prop
  | .nx Γ S => nx Γ S
  | .ret i S => rt i S
  | .bad => False
section
variable (L : Lay) (pm : Addr) (H0 : Hp)
def zN (g : ZFn) : TE := fun σ H Q => ∃ Γ S pc pg i, ZOk pm Γ σ ∧ Cur L pm H0 H S pc pg ∧ g Γ S = some i ∧ ∀ H', Cur L pm H0 H' S pc pg → Q (.int i) H'
def zT (g : ZTst) : TT := fun σ H Q => ∃ Γ S pc pg b, ZOk pm Γ σ ∧ Cur L pm H0 H S pc pg ∧ g Γ S = some b ∧ ∀ H', Cur L pm H0 H' S pc pg → Q b H'
def zS (f : ZSt) : TS := fun D σ H => ∃ Γ S pc pg, ZOk pm Γ σ ∧ Cur L pm H0 H S pc pg ∧ (f Γ S).Post (fun Γ' S' => ∀ σ' H' pc' pg', ZOk pm Γ' σ' → Cur L pm H0 H' S' pc' pg' → D.nx σ' H') (fun i S' => ∀ H' pc' pg', Cur L pm H0 H' S' pc' pg' → D.rt (.int i) H')
end
section
variable {X : Cx} {L : Lay} {pm : Addr} {H0 : Hp} {pos p1 p2 p3 : Pos} {m : Str}
/-- the handle's name -/
structure HNm (X : Cx) (m : Str) : Prop where
  n : X.N[0]? = some m
  v : Vis X.env.scope m
  d : (m == ("__debug__" : Str)) = false
  c : (m == ("__classdict__" : Str)) = false
theorem op_neE (hu : X.A.units + 200 < cLine) : OpR X (compareOp .NotEq) (fun x y H Q => ∃ (p q : Addr) (ns : List Int), x = .ref p ∧ y = .ref q ∧ H p = some (.lst (ns.map V.int)) ∧ H q = some (.lst []) ∧ Q (.bl (!ns.isEmpty)) H) := by
  intro pins s σ H x y v u Q I rx ry h
  obtain ⟨p, q, ns, rfl, rfl, h1, h2, hq⟩ := h
  have wx : Dp X.K H (.ref p) (.list (ns.map .int)) := .lst (.of h1) (ints_dpAll _)
  have wy : Dp X.K H (.ref q) (.list []) := .lst (.of h2) .nil
  obtain ⟨as, r1⟩ := Dp.reads I _ _ v wx rx
  obtain ⟨bs, r2⟩ := Dp.reads I _ _ u wy ry
  have e : (!PyData.eqv (.list (ns.map .int)) (.list [])) = !ns.isEmpty := by
    cases ns with
    | nil => rfl
    | cons a b => rfl
  refine SeqAt.ne_plain r1 r2 (dp_plain wx) (dp_plain wy) (dpt_min (x := .list (ns.map .int)) (y := .list []) ?_ hu) (by rw [e]; exact ⟨.bl _, H, I, rfl, hq⟩)
  unfold dpt
  simp [PyData.depth, PyData.depthAll]
theorem zn_var {i : Nat} {x : Str} (hN : X.N[i]? = some x) (hv : Vis X.env.scope x) (hd : (x == ("__debug__" : Str)) = false) (hcd : (x == ("__classdict__" : Str)) = false) : PE X (.Name x pos) (zN L pm H0 fun Γ _ => getI Γ i) :=
  PE.imp (pe_var hN hv hd hcd) fun σ H Q ⟨Γ, S, pc, pg, j, o, c, e, q⟩ => by
    dsimp only [getI] at e
    split at e
    · rename_i d h
      cases e
      exact ⟨.int j, o.at_ i j h, q H c⟩
    · cases e
theorem zn_con {i : Int} {k : Nat} : PE X (.Constant (.int i) k pos) (zN L pm H0 fun _ _ => some i) := PE.imp pe_int fun σ H Q ⟨Γ, S, pc, pg, j, o, c, e, q⟩ => by
  cases e
  exact q H c
theorem zn_a (ok : L.Ok) (hm : HNm X m) (hu : X.A.units + 200 < cLine) {k : Nat} : PE X (.Subscript (.Name m p1) (.Constant (.str L.a) k p2) pos) (zN L pm H0 fun _ S => some S.a) :=
  PE.imp (pe_dget (by omega) (pe_var hm.n hm.v hm.d hm.c) pe_str (fun _ _ => rfl)) fun σ H Q ⟨Γ, S, pc, pg, j, o, c, e, q⟩ => by
    cases e
    exact ⟨.ref pm, o.h, pm, .int S.a, rfl, by have := DGet.k (k := .inr L.a) c.d; rw [lay_a S pc pg ok] at this; exact this, q H c⟩
theorem zn_b (ok : L.Ok) (hm : HNm X m) (hu : X.A.units + 200 < cLine) {x : Str} (hb : L.b = some x) {k : Nat} : PE X (.Subscript (.Name m p1) (.Constant (.str x) k p2) pos) (zN L pm H0 fun _ S => some S.b) :=
  PE.imp (pe_dget (by omega) (pe_var hm.n hm.v hm.d hm.c) pe_str (fun _ _ => rfl)) fun σ H Q ⟨Γ, S, pc, pg, j, o, c, e, q⟩ => by
    cases e
    exact ⟨.ref pm, o.h, pm, .int S.b, rfl, by have := DGet.k (k := .inr x) c.d; rw [lay_b S pc pg ok hb] at this; exact this, q H c⟩
/-- the lists -/
def zL (L : Lay) (pm : Addr) (H0 : Hp) (w : Bool) : TE := fun σ H Q => ∃ Γ S pc pg, ZOk pm Γ σ ∧ Cur L pm H0 H S pc pg ∧ Q (.ref (if w then pc else pg)) H
theorem zl_c (hm : HNm X m) (hu : X.A.units + 200 < cLine) {k : Nat} : PE X (.Subscript (.Name m p1) (.Constant (.str L.c) k p2) pos) (zL L pm H0 true) :=
  PE.imp (pe_dget (by omega) (pe_var hm.n hm.v hm.d hm.c) pe_str (fun _ _ => rfl)) fun σ H Q ⟨Γ, S, pc, pg, o, c, q⟩ =>
    ⟨.ref pm, o.h, pm, .ref pc, rfl, by have := DGet.k (k := .inr L.c) c.d; rw [lay_c S pc pg] at this; exact this, q⟩
theorem zl_g (ok : L.Ok) (hm : HNm X m) (hu : X.A.units + 200 < cLine) {k : Nat} : PE X (.Subscript (.Name m p1) (.Constant (.str L.g) k p2) pos) (zL L pm H0 false) :=
  PE.imp (pe_dget (by omega) (pe_var hm.n hm.v hm.d hm.c) pe_str (fun _ _ => rfl)) fun σ H Q ⟨Γ, S, pc, pg, o, c, q⟩ =>
    ⟨.ref pm, o.h, pm, .ref pg, rfl, by have := DGet.k (k := .inr L.g) c.d; rw [lay_g S pc pg ok] at this; exact this, q⟩
def lst (w : Bool) (S : Draw) : List Int := if w then S.cells else S.great
theorem Cur.l {H : Hp} {S : Draw} {pc pg : Addr} (c : Cur L pm H0 H S pc pg) (w : Bool) : H (if w then pc else pg) = some (.lst ((lst w S).map V.int)) := by
  cases w with
  | true => exact c.lc
  | false => exact c.lg
def ixZ (xs : List Int) (i : Int) : Option Int := if 0 ≤ i ∧ i < xs.length then xs[i.toNat]? else none
theorem atI_map {xs : List Int} {i j : Int} (h : ixZ xs i = some j) : atI (xs.map V.int) i = some (.int j) := by
  unfold ixZ at h
  split at h
  · rename_i hi
    unfold atI ixN
    rw [if_pos hi.1, List.length_map, if_pos hi.2]
    simp [h]
  · cases h
theorem zn_ix {w : Bool} {l e : Expr} {g : ZFn} (hl : PE X l (zL L pm H0 w)) (he : PE X e (zN L pm H0 g)) (hs : PlainIx e) : PE X (.Subscript l e pos) (zN L pm H0 fun Γ S => (g Γ S).bind fun i => ixZ (lst w S) i) :=
  PE.imp (pe_ix ix_list hl he hs) fun σ H Q ⟨Γ, S, pc, pg, j, o, c, e, q⟩ => by
    rw [Option.bind_eq_some_iff] at e
    obtain ⟨i, e1, e2⟩ := e
    exact ⟨Γ, S, pc, pg, o, c, Γ, S, pc, pg, i, o, c, e1, fun H' c' => ⟨_, _, i, .int j, rfl, rfl, .of (c'.l w), atI_map e2, q H' c'⟩⟩
theorem zn_len {w : Bool} {l : Expr} (hg : Gl X "len") (hm : X.mg "len" = none) (hl : PE X l (zL L pm H0 w)) (hs : starEach [l] X.env = (false, eval l X.env) :: starEach [] X.env) : PE X (.Call (.Name "len" p1) [l] [] pos) (zN L pm H0 fun _ S => some (lst w S).length) :=
  PE.imp (pe_callB call_len_seq hg hm (by decide +kernel) (pa_cons hl pa_nil hs) (by decide) (by decide) hs rfl) fun σ H Q ⟨Γ, S, pc, pg, j, o, c, e, q⟩ => by
    cases e
    exact ⟨Γ, S, pc, pg, o, c, _, (lst w S).map V.int, rfl, .inl (.of (c.l w)), by rw [List.length_map]; exact q H c⟩
theorem zn_int {e : Expr} {g : ZFn} (hg : Gl X "int") (hm : X.mg "int" = none) (he : PE X e (zN L pm H0 g)) (hs : starEach [e] X.env = (false, eval e X.env) :: starEach [] X.env) : PE X (.Call (.Name "int" p1) [e] [] pos) (zN L pm H0 g) :=
  PE.imp (pe_callTy call_int1 hg hm (by decide +kernel) (pa_cons he pa_nil hs) (by decide) (by decide) hs rfl) fun σ H Q ⟨Γ, S, pc, pg, j, o, c, e, q⟩ =>
    ⟨Γ, S, pc, pg, j, o, c, e, fun H' c' => .inl ⟨j, rfl, q H' c'⟩⟩
/-- two ints -/
def zOp : Operator → Int → Int → Option Int
  | .Add, i, j => some (i + j)
  | .Sub, i, j => some (i - j)
  | .Mult, i, j => if (-(2 ^ 64) < i ∧ i < 2 ^ 64) ∨ (-(2 ^ 64) < j ∧ j < 2 ^ 64) then some (i * j) else none
  | .Mod, i, j => if 0 < j then some (i % j) else none
  | .FloorDiv, i, j => if 0 < j ∧ j < 1073741824 then some (i / j) else none
  | _, _, _ => none
theorem op_z {op : Operator} : OpR X (binaryOp op) (fun x y H Q => ∃ i j k, x = .int i ∧ y = .int j ∧ zOp op i j = some k ∧ Q (.int k) H) := by
  intro pins s σ H x y v u Q I rx ry h
  obtain ⟨i, j, k, rfl, rfl, e, q⟩ := h
  unfold zOp at e
  split at e
  · cases e; exact op_add pins s σ H _ _ v u Q I rx ry ⟨_, _, rfl, rfl, q⟩
  · cases e; exact op_sub pins s σ H _ _ v u Q I rx ry ⟨_, _, rfl, rfl, q⟩
  · split at e
    · rename_i h; cases e; exact op_mul pins s σ H _ _ v u Q I rx ry ⟨_, _, rfl, rfl, h, q⟩
    · cases e
  · split at e
    · rename_i h; cases e; exact op_mod pins s σ H _ _ v u Q I rx ry ⟨_, _, rfl, rfl, h, q⟩
    · cases e
  · split at e
    · rename_i h; cases e; exact op_fdiv pins s σ H _ _ v u Q I rx ry ⟨_, _, rfl, rfl, h, q⟩
    · cases e
  · cases e
theorem zn_op {op : Operator} {a b : Expr} {g h : ZFn} (ha : PE X a (zN L pm H0 g)) (hb : PE X b (zN L pm H0 h)) : PE X (.BinOp a op b pos) (zN L pm H0 fun Γ S => (g Γ S).bind fun i => (h Γ S).bind fun j => zOp op i j) :=
  PE.imp (pe_op op_z ha hb) fun σ H Q ⟨Γ, S, pc, pg, k, o, c, e, q⟩ => by
    rw [Option.bind_eq_some_iff] at e
    obtain ⟨i, e1, e⟩ := e
    rw [Option.bind_eq_some_iff] at e
    obtain ⟨j, e2, e3⟩ := e
    exact ⟨Γ, S, pc, pg, i, o, c, e1, fun H' c' => ⟨Γ, S, pc, pg, j, o, c', e2, fun H2 c2 => ⟨i, j, k, rfl, rfl, e3, q H2 c2⟩⟩⟩
/-! ### tests -/
theorem zt_ne {w : Bool} {l : Expr} (hu : X.A.units + 200 < cLine) (hl : PE X l (zL L pm H0 w)) : PT X (.Compare l [.NotEq] [.List [] p1] pos) (zT L pm H0 fun _ S => some (!(lst w S).isEmpty)) :=
  PT.imp (pt_cmpR (op_neE hu) hl (pe_lst pa_nil) rfl) fun σ H Q ⟨Γ, S, pc, pg, b, o, c, e, q⟩ => by
    cases e
    refine ⟨Γ, S, pc, pg, o, c, by show 0 ≤ sizeLine; exact Nat.zero_le _, fun r hr => ⟨_, r, lst w S, rfl, rfl, (c.new hr).l w, upd_same, _, rfl, q _ (c.new hr)⟩⟩
theorem zt_eq {a : Expr} {g : ZFn} {n : Int} {k : Nat} (ha : PE X a (zN L pm H0 g)) : PT X (.Compare a [.Eq] [.Constant (.int n) k p1] pos) (zT L pm H0 fun Γ S => (g Γ S).map fun i => decide (i = n)) :=
  PT.imp (pt_cmpR op_eq ha pe_int rfl) fun σ H Q ⟨Γ, S, pc, pg, b, o, c, e, q⟩ => by
    rw [Option.map_eq_some_iff] at e
    obtain ⟨i, e1, rfl⟩ := e
    exact ⟨Γ, S, pc, pg, i, o, c, e1, fun H' c' => ⟨rfl, _, by simp, q H' c'⟩⟩
theorem zt_gt {a : Expr} {g : ZFn} {n : Int} {k : Nat} (ha : PE X a (zN L pm H0 g)) : PT X (.Compare a [.Gt] [.Constant (.int n) k p1] pos) (zT L pm H0 fun Γ S => (g Γ S).map fun i => decide (n < i)) :=
  PT.imp (pt_cmpR op_gt ha pe_int rfl) fun σ H Q ⟨Γ, S, pc, pg, b, o, c, e, q⟩ => by
    rw [Option.map_eq_some_iff] at e
    obtain ⟨i, e1, rfl⟩ := e
    exact ⟨Γ, S, pc, pg, i, o, c, e1, fun H' c' => ⟨_, _, rfl, rfl, _, rfl, q H' c'⟩⟩
theorem zt_and {a b : Expr} {g h : ZTst} (ha : PT X a (zT L pm H0 g)) (hb : PT X b (zT L pm H0 h)) : PT X (.BoolOp .And [a, b] pos) (zT L pm H0 fun Γ S => (g Γ S).bind fun k => if k then h Γ S else some false) :=
  PT.imp (pw_and ha (pw_and1 hb)).pt fun σ H Q ⟨Γ, S, pc, pg, b, o, c, e, q⟩ => by
    rw [Option.bind_eq_some_iff] at e
    obtain ⟨k, e1, e2⟩ := e
    refine ⟨Γ, S, pc, pg, k, o, c, e1, fun H' c' => ?_⟩
    cases k with
    | true => exact ⟨Γ, S, pc, pg, b, o, c', e2, q⟩
    | false => cases e2; exact q H' c'
theorem zn_ite {t a b : Expr} {f : ZTst} {g h : ZFn} (ht : PT X t (zT L pm H0 f)) (ha : PE X a (zN L pm H0 g)) (hb : PE X b (zN L pm H0 h)) : PE X (.IfExp t a b pos) (zN L pm H0 fun Γ S => (f Γ S).bind fun k => if k then g Γ S else h Γ S) :=
  PE.imp (pe_ifExp ht ha hb) fun σ H Q ⟨Γ, S, pc, pg, i, o, c, e, q⟩ => by
    rw [Option.bind_eq_some_iff] at e
    obtain ⟨k, e1, e2⟩ := e
    refine ⟨Γ, S, pc, pg, k, o, c, e1, fun H' c' => ?_⟩
    cases k with
    | true => exact ⟨Γ, S, pc, pg, i, o, c', e2, q⟩
    | false => exact ⟨Γ, S, pc, pg, i, o, c', e2, q⟩
/-! ### statements -/
def ZOut.seq (o : ZOut) (k : ZSt) : ZOut :=
  match o with
  | .nx Γ S => k Γ S
  | o => o
theorem zs_nil : PSs X [] (zS L pm H0 fun Γ S => .nx Γ S) := PSs.imp pss_nil fun D σ H ⟨Γ, S, pc, pg, o, c, p⟩ => p σ H pc pg o c
theorem zs_cons {s : Stmt} {r : List Stmt} {f g : ZSt} (h1 : PS X s (zS L pm H0 f)) (h2 : PSs X r (zS L pm H0 g)) : PSs X (s :: r) (zS L pm H0 fun Γ S => (f Γ S).seq g) :=
  PSs.imp (pss_cons h1 h2) fun D σ H ⟨Γ, S, pc, pg, o, c, p⟩ => by
    refine ⟨Γ, S, pc, pg, o, c, ?_⟩
    dsimp only at p
    cases e : f Γ S with
    | nx Γ1 S1 =>
      rw [e] at p
      exact fun σ1 H1 pc1 pg1 o1 c1 => ⟨Γ1, S1, pc1, pg1, o1, c1, p⟩
    | ret i S1 => rw [e] at p; exact p
    | bad => rw [e] at p; exact p
def zo {α : Type} (o : Option α) (k : α → ZOut) : ZOut :=
  match o with
  | some x => k x
  | none => .bad
theorem zs_set {i : Nat} {x : Str} {e : Expr} {g : ZFn} (h0 : i ≠ 0) (hN : X.N.Nodup) (hi : X.N[i]? = some x) (hx : Loc X.env.scope x) (hf : X.fn x = true ∨ X.env.scope.names.lookup x = some .local) (he : PE X e (zN L pm H0 g)) (hs : swapsWith e (some (.Name x p1)) pos.line X.env = pure false) :
    PS X (.Assign [.Name x p1] e pos) (zS L pm H0 fun Γ S => zo (g Γ S) fun j => .nx (Γ.set i (some j)) S) := PS.imp (ps_set hN hi hx he hs hf) fun D σ H ⟨Γ, S, pc, pg, o, c, p⟩ => by
  dsimp only at p
  cases e : g Γ S with
  | none => rw [e] at p; exact p.elim
  | some j => rw [e] at p; exact ⟨Γ, S, pc, pg, j, o, c, e, fun H' c' => p _ H' pc pg (o.set h0 j) c'⟩
theorem zs_a (ok : L.Ok) (hm : HNm X m) (hu : X.A.units + 200 < cLine) {e : Expr} {g : ZFn} {k : Nat} (he : PE X e (zN L pm H0 g)) (hs : swapsWith e (some (.Subscript (.Name m p1) (.Constant (.str L.a) k p2) p3)) pos.line X.env = pure false) :
    PS X (.Assign [.Subscript (.Name m p1) (.Constant (.str L.a) k p2) p3] e pos) (zS L pm H0 fun Γ S => zo (g Γ S) fun j => .nx Γ { S with a := j }) := PS.imp (ps_dput (by omega) (pe_var hm.n hm.v hm.d hm.c) pe_str he hs) fun D σ H ⟨Γ, S, pc, pg, o, c, p⟩ => by
  dsimp only at p
  cases e : g Γ S with
  | none => rw [e] at p; exact p.elim
  | some j => rw [e] at p; exact ⟨Γ, S, pc, pg, j, o, c, e, fun H' c' => ⟨.ref pm, o.h, pm, _, rfl, DPut.k (k := .inr L.a) c'.d (dct_len _ _ _), p _ _ pc pg o (c'.putA ok j)⟩⟩
theorem zs_b (ok : L.Ok) (hm : HNm X m) (hu : X.A.units + 200 < cLine) {x : Str} (hb : L.b = some x) {e : Expr} {g : ZFn} {k : Nat} (he : PE X e (zN L pm H0 g)) (hs : swapsWith e (some (.Subscript (.Name m p1) (.Constant (.str x) k p2) p3)) pos.line X.env = pure false) :
    PS X (.Assign [.Subscript (.Name m p1) (.Constant (.str x) k p2) p3] e pos) (zS L pm H0 fun Γ S => zo (g Γ S) fun j => .nx Γ { S with b := j }) := PS.imp (ps_dput (by omega) (pe_var hm.n hm.v hm.d hm.c) pe_str he hs) fun D σ H ⟨Γ, S, pc, pg, o, c, p⟩ => by
  dsimp only at p
  cases e : g Γ S with
  | none => rw [e] at p; exact p.elim
  | some j => rw [e] at p; exact ⟨Γ, S, pc, pg, j, o, c, e, fun H' c' => ⟨.ref pm, o.h, pm, _, rfl, DPut.k (k := .inr x) c'.d (dct_len _ _ _), p _ _ pc pg o (c'.putB ok hb j)⟩⟩
/-- m[g] = m[g][1:] -/
theorem cut1 (xs : List Int) : cutV (xs.map V.int) (some 1) none = (xs.drop 1).map V.int := by
  cases xs with
  | nil => rfl
  | cons x r =>
    unfold cutV
    have h1 : HT.sIx ((x :: r).map V.int).length 0 (some 1) = 1 := by simp [HT.sIx]
    have h2 : HT.sIx ((x :: r).map V.int).length ((x :: r).map V.int).length none = r.length + 1 := by simp [HT.sIx]
    rw [h1, h2]
    simp [← List.length_map (f := V.int) (as := r), -List.length_map]
theorem zs_pop (ok : L.Ok) (hm : HNm X m) (hu : X.A.units + 200 < cLine) {l : Expr} {k k2 : Nat} {p4 p5 p6 : Pos} (hl : PE X l (zL L pm H0 false)) :
    PS X (.Assign [.Subscript (.Name m p1) (.Constant (.str L.g) k p2) p3] (.Subscript l (.Slice (some (.Constant (.int 1) k2 p4)) none none p5) p6) pos) (zS L pm H0 fun Γ S => .nx Γ { S with great := S.great.drop 1 }) :=
  PS.imp (ps_dput (by omega) (pe_var hm.n hm.v hm.d hm.c) pe_str (pe_slice sl_list hl (po_some pe_int) po_none) rfl) fun D σ H ⟨Γ, S, pc, pg, o, c, p⟩ => by
    refine ⟨Γ, S, pc, pg, o, c, 1, rfl, pg, _, rfl, .of c.lg, fun q hq => ?_⟩
    have c1 := c.new (o := .lst (cutV (S.great.map V.int) (some 1) none)) hq
    have h0 : H0 q = none := by
      cases e : H0 q with
      | none => rfl
      | some u => obtain ⟨u', e'⟩ := c.t q u e; rw [hq] at e'; cases e'
    exact ⟨.ref pm, o.h, pm, _, rfl, DPut.k (k := .inr L.g) c1.d (dct_len _ _ _), p _ _ pc q o (c1.putG ok h0 (by rw [upd_same, cut1]) (ne_of_none c.d hq).symm (ne_of_none c.lc hq).symm)⟩
theorem ixN_of {n : Nat} {i : Int} (h : 0 ≤ i ∧ i < n) : ixN n i = some i.toNat := by
  unfold ixN
  rw [if_pos h.1, if_pos h.2]
/-- m[g][i] = e -/
def setZ (S : Draw) (i j : Int) : Option Draw := if 0 ≤ i ∧ i < S.great.length then some { S with great := S.great.set i.toNat j } else none
theorem zg_set {l e : Expr} {g : ZFn} (hl : PE X l (zL L pm H0 false)) (he : PE X e (zN L pm H0 g)) (ha : ∀ v, assign (.Subscript l e pos) X.env v = (do
      let ov ← holding [v] (eval l X.env)
      let iv ← holding [v, ov] (eval e X.env)
      standAt pos
      holding [v, ov, iv] (setItem ov iv v)
      release [v, ov, iv] [])) : PG X (.Subscript l e pos) (fun v σ H Q => ∃ Γ S pc pg i j S', v = .int j ∧ ZOk pm Γ σ ∧ Cur L pm H0 H S pc pg ∧ g Γ S = some i ∧ setZ S i j = some S' ∧ ∀ H', Cur L pm H0 H' S' pc pg → Q σ H') :=
  PG.imp (pg_sub hl he set_list ha) fun v σ H Q ⟨Γ, S, pc, pg, i, j, S', ev, o, c, e1, e2, q⟩ => by
    subst ev
    unfold setZ at e2
    split at e2
    · rename_i h
      cases e2
      exact ⟨Γ, S, pc, pg, o, c, Γ, S, pc, pg, i, o, c, e1, fun H' c' => ⟨pg, _, i, i.toNat, rfl, rfl, c'.lg, ixN_of (by rw [List.length_map]; exact h), q _ (c'.setG i.toNat j)⟩⟩
    · cases e2
theorem zs_put {l e v : Expr} {g f : ZFn} {p : Pos} (hl : PE X l (zL L pm H0 false)) (he : PE X e (zN L pm H0 g)) (hv : PE X v (zN L pm H0 f)) (ha : ∀ v, assign (.Subscript l e p) X.env v = (do
      let ov ← holding [v] (eval l X.env)
      let iv ← holding [v, ov] (eval e X.env)
      standAt p
      holding [v, ov, iv] (setItem ov iv v)
      release [v, ov, iv] [])) (hs : swapsWithSole [.Subscript l e p] v pos.line X.env = pure false) (hw : swappedStores [.Subscript l e p] v X.env = pure none) :
    PS X (.Assign [.Subscript l e p] v pos) (zS L pm H0 fun Γ S => zo (f Γ S) fun j => zo (g Γ S) fun i => zo (setZ S i j) fun S' => .nx Γ S') :=
  PS.imp (ps_asg hv (zg_set hl he ha) hs hw rfl) fun D σ H ⟨Γ, S, pc, pg, o, c, p⟩ => by
    dsimp only at p
    cases e1 : f Γ S with
    | none => rw [e1] at p; exact p.elim
    | some j =>
      rw [e1] at p
      dsimp only [zo] at p
      cases e2 : g Γ S with
      | none => rw [e2] at p; exact p.elim
      | some i =>
        rw [e2] at p
        dsimp only at p
        cases e3 : setZ S i j with
        | none => rw [e3] at p; exact p.elim
        | some S' => rw [e3] at p; exact ⟨Γ, S, pc, pg, j, o, c, e1, fun H' c' => ⟨Γ, S, pc, pg, i, j, S', rfl, o, c', e2, e3, fun H2 c2 => p σ H2 pc pg o c2⟩⟩
/-- x, m[g][i] = a, b -/
theorem zs_both {i0 : Nat} {x : Str} {l e a b : Expr} {g f1 f2 : ZFn} {p px pt p2' : Pos} {kt k2 : Nat} (hc : X.calm = true) (h0 : i0 ≠ 0) (hN : X.N.Nodup) (hi : X.N[i0]? = some x) (hx : Loc X.env.scope x) (hf : X.fn x = true ∨ X.env.scope.names.lookup x = some .local)
    (hl : PE X l (zL L pm H0 false)) (he : PE X e (zN L pm H0 g)) (h1 : PE X a (zN L pm H0 f1)) (h2 : PE X b (zN L pm H0 f2)) (ha : ∀ v, assign (.Subscript l e p) X.env v = (do
      let ov ← holding [v] (eval l X.env)
      let iv ← holding [v, ov] (eval e X.env)
      standAt p
      holding [v, ov, iv] (setItem ov iv v)
      release [v, ov, iv] [])) (s1 : starEach [a, b] X.env = (false, eval a X.env) :: starEach [b] X.env) (s2 : starEach [b] X.env = (false, eval b X.env) :: starEach [] X.env)
    (hs : swapsWithSole [.Tuple [.Name x px, .Subscript l e p] kt pt] (.Tuple [a, b] k2 p2') pos.line X.env = pure false) (hw : swappedStores [.Tuple [.Name x px, .Subscript l e p] kt pt] (.Tuple [a, b] k2 p2') X.env = pure none) :
    PS X (.Assign [.Tuple [.Name x px, .Subscript l e p] kt pt] (.Tuple [a, b] k2 p2') pos) (zS L pm H0 fun Γ S => zo (f1 Γ S) fun u => zo (f2 Γ S) fun v => zo (g (Γ.set i0 (some u)) S) fun i => zo (setZ S i v) fun S' => .nx (Γ.set i0 (some u)) S') :=
  PS.imp (ps_asg (pe_tup (pa_cons h1 (pa_cons h2 pa_nil s2) s1)) (pg_tup (n := 2) hc (pgs_cons (pg_name hN hi hx hf) (pgs_cons (zg_set hl he ha) pgs_nil rfl) rfl) rfl rfl) hs hw rfl) fun D σ H ⟨Γ, S, pc, pg, o, c, p⟩ => by
    dsimp only at p
    cases e1 : f1 Γ S with
    | none => rw [e1] at p; exact p.elim
    | some u =>
      rw [e1] at p
      dsimp only [zo] at p
      cases e2 : f2 Γ S with
      | none => rw [e2] at p; exact p.elim
      | some v =>
        rw [e2] at p
        dsimp only at p
        cases e3 : g (Γ.set i0 (some u)) S with
        | none => rw [e3] at p; exact p.elim
        | some i =>
          rw [e3] at p
          dsimp only at p
          cases e4 : setZ S i v with
          | none => rw [e4] at p; exact p.elim
          | some S' =>
            rw [e4] at p
            refine ⟨Γ, S, pc, pg, u, o, c, e1, fun H1 c1 => ⟨Γ, S, pc, pg, v, o, c1, e2, fun H2 c2 => ⟨by show 2 ≤ sizeLine; decide, fun r hr => ?_⟩⟩⟩
            exact ⟨r, [.int u, .int v], rfl, .of upd_same, rfl, .int u, [.int v], rfl, .int v, [], rfl, Γ.set i0 (some u), S, pc, pg, i, v, S', rfl, o.set h0 u, c2.new hr, e3, e4, fun H3 c3 => ⟨rfl, p _ H3 pc pg (o.set h0 u) c3⟩⟩
theorem zs_if {t : Expr} {a b : List Stmt} {f : ZTst} {g h : ZSt} (ht : PT X t (zT L pm H0 f)) (ha : PSs X a (zS L pm H0 g)) (hb : PSs X b (zS L pm H0 h)) : PS X (.If t a b pos) (zS L pm H0 fun Γ S => zo (f Γ S) fun k => if k then g Γ S else h Γ S) :=
  PS.imp (ps_if ht ha hb) fun D σ H ⟨Γ, S, pc, pg, o, c, p⟩ => by
    dsimp only at p
    cases e : f Γ S with
    | none => rw [e] at p; exact p.elim
    | some k =>
      rw [e] at p
      refine ⟨Γ, S, pc, pg, k, o, c, e, fun H' c' => ?_⟩
      cases k with
      | true => exact ⟨Γ, S, pc, pg, o, c', p⟩
      | false => exact ⟨Γ, S, pc, pg, o, c', p⟩
def zWh (f : ZTst) (g : ZSt) : Nat → ZSt
  | 0, _, _ => .bad
  | n + 1, Γ, S => zo (f Γ S) fun k => if k then (g Γ S).seq (zWh f g n) else .nx Γ S
theorem zs_while {t : Expr} {b : List Stmt} {f : ZTst} {g : ZSt} (hp : PassesOwn (model X.prog X.w) X.A X.env X.xe) (ht : PT X t (zT L pm H0 f)) (hb : PSs X b (zS L pm H0 g)) (n : ZEnv → Draw → Nat) : PS X (.While t b [] pos) (zS L pm H0 fun Γ S => zWh f g (n Γ S) Γ S) :=
  PS.imp (ps_while hp ht hb) fun D σ H ⟨Γ, S, pc, pg, o, c, p⟩ => by
    refine ⟨fun m σ H => ∃ Γ S pc pg, ZOk pm Γ σ ∧ Cur L pm H0 H S pc pg ∧ (zWh f g m Γ S).Post (fun Γ' S' => ∀ σ' H' pc' pg', ZOk pm Γ' σ' → Cur L pm H0 H' S' pc' pg' → D.nx σ' H') (fun i S' => ∀ H' pc' pg', Cur L pm H0 H' S' pc' pg' → D.rt (.int i) H'), ⟨_, Γ, S, pc, pg, o, c, p⟩, ?_⟩
    rintro m σ H ⟨Γ, S, pc, pg, o, c, p⟩
    cases m with
    | zero => exact p.elim
    | succ m =>
      unfold zWh at p
      cases e : f Γ S with
      | none => rw [e] at p; exact p.elim
      | some k =>
        rw [e] at p
        dsimp only [zo] at p
        refine ⟨Γ, S, pc, pg, k, o, c, e, fun H' c' => ?_⟩
        cases k with
        | false =>
          rw [if_neg Bool.false_ne_true] at p ⊢
          exact p σ H' pc pg o c'
        | true =>
          rw [if_pos rfl] at p ⊢
          refine ⟨fun σ H => ∃ Γ S pc pg, ZOk pm Γ σ ∧ Cur L pm H0 H S pc pg ∧ (zWh f g m Γ S).Post (fun Γ' S' => ∀ σ' H' pc' pg', ZOk pm Γ' σ' → Cur L pm H0 H' S' pc' pg' → D.nx σ' H') (fun i S' => ∀ H' pc' pg', Cur L pm H0 H' S' pc' pg' → D.rt (.int i) H'), fun σ' H' h' => ⟨m, Nat.lt_succ_self m, h'⟩, Γ, S, pc, pg, o, c', ?_⟩
          cases e2 : g Γ S with
          | nx Γ1 S1 => rw [e2] at p; exact fun σ1 H1 pc1 pg1 o1 c1 => ⟨Γ1, S1, pc1, pg1, o1, c1, p⟩
          | ret i S1 => rw [e2] at p; exact p
          | bad => rw [e2] at p; exact p
theorem zs_ret {e : Expr} {g : ZFn} (he : PE X e (zN L pm H0 g)) : PS X (.Return (some e) pos) (zS L pm H0 fun Γ S => zo (g Γ S) fun i => .ret i S) := PS.imp (ps_ret he) fun D σ H ⟨Γ, S, pc, pg, o, c, p⟩ => by
  dsimp only at p
  cases e : g Γ S with
  | none => rw [e] at p; exact p.elim
  | some i => rw [e] at p; exact ⟨Γ, S, pc, pg, i, o, c, e, fun H' c' => p H' pc pg c'⟩
end
end PD
/-! P20: a drawing function's promise. -/
namespace PD
open PySem PySem.Spec PyProof.Rows L2
section
variable {P : Prg} {L : Lay} {prog : Program} {w : World} {K : PySem.W.Frag} {mg : Str → Option Value} {base : Heap}
def zRun (z : ZSt) (n : Nat) (S : Draw) (t : Int) : Option (Int × Draw) :=
  match z (none :: some t :: List.replicate (n - 2) none) S with
  | .ret i S' => some (i, S')
  | _ => none
theorem draw_fn {j : Nat} {f : FDef} (hj : P.fs[j]? = some f) (hb : f.body = none) (hk : f.kd.take f.np = [.hnd, .nrm]) {x q : Str} {st : Stmt} {fa : Addr} {fd : FuncData} {N ps : List Str} (F : Fun K x q st fa fd) (S : FnScope N ps (defScope st)) (hps : ps.length = 2) (hN : 2 ≤ N.length)
    {z : ZSt} (hz : P.nxt = zRun z N.length)
    (body : ∀ (cd : Value) (A : Around) (fr : List PySem.Env) (s : Shared) (H : Hp) (E : XK) (n : Nat) (pm : Addr), Room n (A.deeper (envOfC q (defScope st) s.heap.objs.size fa cd)) → PSs (cxOf CX0 prog w K mg base N q (defScope st) fa cd A fr s H E) (defBody st) (zS L pm H z)) :
    ∀ n, FnG prog w K mg base CX0 n fa fd ps (spF P L.m K n j (f.kd.take f.np))
  | 0 => ⟨fun xs H Q E ⟨C, W, D, ds, _, _, _, _, p⟩ => p.elim, fun A fr s H args us xs Q E _ _ _ _ _ ⟨C, W, D, ds, _, _, _, _, p⟩ => p.elim⟩
  | n + 1 => by
    rw [hk]
    refine fnG_of F S (fun xs H Q E ⟨C, W, D, ds, _, _, _, a, _⟩ => by rw [hps]; exact a.len.1) fun cd A fr s H xs Q E room gd want => ?_
    obtain ⟨C, W, D, ds, eM, eK, hv, ha, p⟩ := want
    refine ⟨_, body cd A fr s H E n C.pm room, ?_⟩
    cases ha with
    | cons a1 ha =>
      cases ha with
      | cons a2 ha =>
        cases ha
        rename_i v1 d1 v2 d2
        obtain ⟨rfl, rfl⟩ := a1
        have a2 : Dp K0 W v2 d2 := a2
        have p : (cStep P (run P n) j [hndD, d2] D).Post (fun d S' => ∀ v H' W', Stp C.pm H W H' W' → Vw C W' H' S' → Dp K0 W' v d → Q v H') (fun _ _ _ => False) := p
        unfold cStep at p
        rw [hj] at p
        dsimp only at p
        split at p
        · rw [hb] at p
          dsimp only at p
          cases a2 <;> try exact p.elim
          rename_i t hp1 hp2
          obtain ⟨pc, pg, c⟩ := Cur.begin eM hv
          refine ⟨none :: some t :: List.replicate (N.length - 2) none, D, pc, pg, ⟨rfl, ?_, ?_, fun d h => by cases h⟩, c, ?_⟩
          · unfold L2.start
            simp
          · intro i d hi
            match i with
            | 0 => cases hi
            | 1 => cases hi; rfl
            | i + 2 =>
              exfalso
              simp only [List.getElem?_cons_succ, List.getElem?_replicate] at hi
              split at hi <;> cases hi
          · rw [hz] at p
            dsimp only at p
            unfold zRun at p
            cases e : z (none :: some t :: List.replicate (N.length - 2) none) D with
            | nx Γ S' => rw [e] at p; exact p.elim
            | bad => rw [e] at p; exact p.elim
            | ret i S' =>
              rw [e] at p
              intro H' pc' pg' c'
              obtain ⟨s1, v1⟩ := c'.fin eM hv
              exact p (.int i) H' W s1 v1 (.int i)
        · exact p.elim
end
end PD
/-! P21: the drawing functions' parts by name; a frame's names by looking. -/
namespace PD
open PySem PySem.Spec PyProof.Rows L2
abbrev ZA : ZFn := fun _ S => some S.a
abbrev ZB : ZFn := fun _ S => some S.b
abbrev ZC (i : Int) : ZFn := fun _ _ => some i
abbrev ZV (i : Nat) : ZFn := fun Γ _ => getI Γ i
abbrev ZO (op : Operator) (g h : ZFn) : ZFn := fun Γ S => (g Γ S).bind fun i => (h Γ S).bind fun j => zOp op i j
abbrev ZI (w : Bool) (g : ZFn) : ZFn := fun Γ S => (g Γ S).bind fun i => ixZ (lst w S) i
abbrev ZL (w : Bool) : ZFn := fun _ S => some (lst w S).length
abbrev ZIf (f : ZTst) (g h : ZFn) : ZFn := fun Γ S => (f Γ S).bind fun k => if k then g Γ S else h Γ S
abbrev ZNe (w : Bool) : ZTst := fun _ S => some (!(lst w S).isEmpty)
abbrev ZEq (g : ZFn) (n : Int) : ZTst := fun Γ S => (g Γ S).map fun i => decide (i = n)
abbrev ZGt (g : ZFn) (n : Int) : ZTst := fun Γ S => (g Γ S).map fun i => decide (n < i)
abbrev ZAnd (g h : ZTst) : ZTst := fun Γ S => (g Γ S).bind fun k => if k then h Γ S else some false
abbrev YN : ZSt := fun Γ S => .nx Γ S
abbrev YQ (f g : ZSt) : ZSt := fun Γ S => (f Γ S).seq g
abbrev YA (g : ZFn) : ZSt := fun Γ S => zo (g Γ S) fun j => .nx Γ { S with a := j }
abbrev YB (g : ZFn) : ZSt := fun Γ S => zo (g Γ S) fun j => .nx Γ { S with b := j }
abbrev YV (i : Nat) (g : ZFn) : ZSt := fun Γ S => zo (g Γ S) fun j => .nx (Γ.set i (some j)) S
abbrev YPop : ZSt := fun Γ S => .nx Γ { S with great := S.great.drop 1 }
abbrev YPut (g f : ZFn) : ZSt := fun Γ S => zo (f Γ S) fun j => zo (g Γ S) fun i => zo (setZ S i j) fun S' => .nx Γ S'
abbrev YBoth (i0 : Nat) (g f1 f2 : ZFn) : ZSt := fun Γ S => zo (f1 Γ S) fun u => zo (f2 Γ S) fun v => zo (g (Γ.set i0 (some u)) S) fun i => zo (setZ S i v) fun S' => .nx (Γ.set i0 (some u)) S'
abbrev YIf (f : ZTst) (g h : ZSt) : ZSt := fun Γ S => zo (f Γ S) fun k => if k then g Γ S else h Γ S
abbrev YWh (f : ZTst) (g : ZSt) : ZSt := fun Γ S => zWh f g (S.great.length + 1) Γ S
abbrev YR (g : ZFn) : ZSt := fun Γ S => zo (g Γ S) fun i => .ret i S
/-- the draws of k87 to k99 -/
def layD : Lay := ⟨"cells", "great", "turn", some "sum"⟩
theorem layD_ok : layD.Ok := ⟨by decide +kernel, by decide +kernel, by decide +kernel, fun x h => by cases h; decide +kernel, fun x h => by cases h; decide +kernel, fun x h => by cases h; decide +kernel⟩
abbrev zDa : ZSt := YA (ZO .Add ZA (ZC 1))
abbrev zDb : ZSt := YWh (ZAnd (ZNe false) (ZEq (ZI false (ZC 0)) 0)) (YQ YPop YN)
abbrev zDc : ZSt := YIf (ZNe false) (YQ (YBoth 2 (ZC 0) (ZO .Mod (ZI false (ZC 0)) (ZV 1)) (ZO .FloorDiv (ZI false (ZC 0)) (ZV 1))) (YQ (YR (ZV 2)) YN)) YN
abbrev zDd : ZSt := YV 3 (ZI true (ZO .Mod ZA (ZL true)))
abbrev zDe : ZSt := YB (ZO .Mod (ZO .Add (ZO .Add (ZO .Mult ZB (ZC 75364)) (ZO .Mod (ZV 3) (ZC 2147483587))) (ZO .Mult (ZC 977) ZA)) (ZC 4294967291))
abbrev zDf : ZSt := YR (ZO .Mod (ZO .FloorDiv (ZO .Mod (ZO .Add (ZO .Mult ZB (ZC 40692)) ZA) (ZC 4294967279)) (ZC 128)) (ZV 1))
def zD6 : ZSt := YQ zDf YN
def zD5 : ZSt := YQ zDe zD6
def zD4 : ZSt := YQ zDd zD5
def zD3 : ZSt := YQ zDc zD4
def zD2 : ZSt := YQ zDb zD3
def zD : ZSt := YQ zDa zD2
/-- .. of k41 to k52 -/
def layB : Lay := ⟨"cells", "great", "spot", none⟩
theorem layB_ok : layB.Ok := ⟨by decide +kernel, by decide +kernel, by decide +kernel, fun x h => (by cases h), fun x h => (by cases h), fun x h => (by cases h)⟩
/-- .. of k01 to k13 -/
def layA : Lay := ⟨"cells", "left", "at", none⟩
theorem layA_ok : layA.Ok := ⟨by decide +kernel, by decide +kernel, by decide +kernel, fun x h => (by cases h), fun x h => (by cases h), fun x h => (by cases h)⟩
end PD
/-! P22: a program's world from what its top has left. -/
namespace PD
open PySem PySem.Spec PyProof.Rows L2
section
variable {P : Prg} {gc : List (Str × PyData)} {M : Mch} {prog : Program} {w : World} {K : PySem.W.Frag} {mg : Str → Option Value} {base h : Heap}
/-- a def stands under its name -/
def FAt (K : PySem.W.Frag) (x : Str) (st : Stmt) : Prop := ∃ (f : Addr) (fd : FuncData), PySem.W.nsIn K mainGlobals x = some (some (.ref f)) ∧ Fun K x x st f fd
theorem fAt_mk {x : Str} {st : Stmt} {f : Addr} {oc : Value} {od an : Option Addr} {osl : Array (Option Value)} {kV doc pm cdv ct : Value} (a : PySem.W.nsIn K mainGlobals x = some (some (.ref f))) (l : K.lookup f = some ⟨oc, od, .func (PySem.W.fnOf x x (defArgs st) (defBody st) (defScope st) .none kV doc pm an cdv ct), osl⟩)
    (c : PySem.W.codeIn K cdv x = true) (k : PySem.W.keepIn K (.ref f) = true) : FAt K x st := ⟨f, _, a, fun_mk l c k⟩
/-- a constant stands under its name -/
def CAt (K : PySem.W.Frag) (x : Str) (d : PyData) : Prop := ∃ (v : V) (u : Value), PySem.W.nsIn K mainGlobals x = some (some u) ∧ RelV v u ∧ conV d = some v
theorem cAt_int {x : Str} {i : Int} {t : Tok} (a : PySem.W.nsIn K mainGlobals x = some (some (.int i t))) : CAt K x (.int i) := ⟨.int i, _, a, ⟨t, rfl⟩, rfl⟩
theorem cAt_str {x y : Str} {t : Tok} (a : PySem.W.nsIn K mainGlobals x = some (some (.str y t))) : CAt K x (.str y) := ⟨.str y, _, a, ⟨t, rfl⟩, rfl⟩
/-- arguments by place -/
def Bd (st : Stmt) (x : Str) (ps : List Str) : Prop := ∀ (kV doc pm : Value) (an : Option Addr) (cdv ct : Value) (us : List Value), us.length = ps.length → bindArgs (PySem.W.fnOf x x (defArgs st) (defBody st) (defScope st) .none kV doc pm an cdv ct) ⟨us, []⟩ = pure (ps.zip us)
structure FnIn (P : Prg) (gc : List (Str × PyData)) (M : Mch) (prog : Program) (w : World) (K : PySem.W.Frag) (mg : Str → Option Value) (base : Heap) (j : Nat) (f : FDef) (st : Stmt) (ps : List Str) : Prop where
  at_ : FAt K f.nm st
  sc : FnScope f.N ps (defScope st)
  np : ps.length = (f.kd.take f.np).length
  bd : Bd st f.nm ps
  cd : ∀ b, f.body = some b → (∀ k ∈ f.kd.take f.np, k ≠ .own) ∧ ∃ m, (chk P gc m).s ⟨f.N, f.kd, defScope st, defScope st, true⟩ b (defBody st) = true
  dr : f.body = none → ∀ (fa : Addr) (fd : FuncData), Fun K f.nm f.nm st fa fd → ∀ n, FnG prog w K mg base CX0 n fa fd ps (spF P M K n j (f.kd.take f.np))
open Classical in
theorem wld_of (X : K.In h) (G : h.Ns mainGlobals mg) (hb : ∀ x ∈ bltNames, PySem.W.nsIn K mainGlobals x = some none) (hc : ∀ x d, gc.lookup x = some d → CAt K x d) (hf : ∀ (j : Nat) (f : FDef), P.fs[j]? = some f → ∃ st ps, FnIn P gc M prog w K mg base j f st ps) : Nonempty (Wld P gc M prog w K mg base) := by
  have pick : ∀ j : Nat, ∃ p : Addr × FuncData × List Str, ∀ f, P.fs[j]? = some f → ∃ st, FnIn P gc M prog w K mg base j f st p.2.2 ∧ PySem.W.nsIn K mainGlobals f.nm = some (some (.ref p.1)) ∧ Fun K f.nm f.nm st p.1 p.2.1 := fun j => by
    cases e : P.fs[j]? with
    | none => exact ⟨(0, PySem.W.fnOf "" "" default [] default .none .none .none .none none .none .none, []), fun f z => by cases z⟩
    | some f =>
      obtain ⟨st, ps, hi⟩ := hf j f e
      obtain ⟨fa, fd, a, F⟩ := hi.at_
      exact ⟨(fa, fd, ps), fun f' z => by cases z; exact ⟨st, hi, a, F⟩⟩
  have hp := fun j => Classical.choose_spec (pick j)
  refine ⟨{ blt := fun x hx => PySem.W.mg_none_of X G (hb x hx), con := fun x d e => ?_, fa := fun j => (Classical.choose (pick j)).1, fd := fun j => (Classical.choose (pick j)).2.1, ps := fun j => (Classical.choose (pick j)).2.2, mgf := fun j f hj => ?_, kp := fun j f hj => ?_, bd := fun j f hj => ?_, np := fun j f hj => ?_, cd := fun j f b hj e => ?_, dr := fun j f hj e => ?_ }⟩
  · obtain ⟨v, u, a, r, q⟩ := hc x d e
    exact ⟨v, u, PySem.W.mg_of X G a, r, q⟩
  · obtain ⟨st, hi, a, F⟩ := hp j f hj
    exact PySem.W.mg_of X G a
  · obtain ⟨st, hi, a, F⟩ := hp j f hj
    exact F.kp
  · obtain ⟨st, hi, a, F⟩ := hp j f hj
    exact F.binds hi.bd
  · obtain ⟨st, hi, a, F⟩ := hp j f hj
    exact hi.np
  · obtain ⟨st, hi, a, F⟩ := hp j f hj
    obtain ⟨h1, m, h2⟩ := hi.cd b e
    exact ⟨st, f.nm, m, F, hi.sc, h1, h2⟩
  · obtain ⟨st, hi, a, F⟩ := hp j f hj
    exact hi.dr e _ _ F
end
end PD
/-! P23: reckoning with the evaluation. -/
namespace PD
open PySem L2
theorem run_e (P : Prg) (n : Nat) : (run P (n + 1)).e = evStep (run P n) := rfl
theorem run_s (P : Prg) (n : Nat) (Γ : Env) (S : Draw) (ss : List Sx) : (run P (n + 1)).s Γ S ss = ssStep (run P n) Γ S ss := rfl
theorem run_c (P : Prg) (n : Nat) : (run P (n + 1)).c = cStep P (run P n) := rfl
theorem cmpL_pure {body : PyData → Draw → Res (List PyData)} {f : PyData → List PyData} {S : Draw} : ∀ {xs : List PyData}, (∀ x ∈ xs, body x S = .ok (f x) S) → cmpL body xs S = .ok (xs.flatMap f) S
  | [], _ => rfl
  | x :: xs, h => by
    unfold cmpL
    rw [h x List.mem_cons_self, Res.bind_ok, cmpL_pure fun y hy => h y (List.mem_cons_of_mem _ hy)]
    rfl
theorem cmpL_map {α : Type} {body : PyData → Draw → Res (List PyData)} {f : α → PyData} {g : α → PyData} {S : Draw} {xs : List α} (h : ∀ x ∈ xs, body (f x) S = .ok [g x] S) : cmpL body (xs.map f) S = .ok (xs.map g) S := by
  induction xs with
  | nil => rfl
  | cons x xs ih =>
    rw [List.map_cons]
    unfold cmpL
    rw [h x List.mem_cons_self, Res.bind_ok, ih fun y hy => h y (List.mem_cons_of_mem _ hy)]
    rfl
theorem few_ok' {ys : List PyData} {S : Draw} (h : ys.length ≤ 16777216) : few (noexc (.ok ys S)) = .ok ys S := by
  show (if ys.length ≤ 16777216 then Res.ok ys S else .bad) = _
  rw [if_pos h]
@[simp] theorem out_ok {α : Type} (x : α) (S : Draw) (k : α → Draw → Out) : (Res.ok x S).out k = k x S := rfl
@[simp] theorem seq_nx (Γ : Env) (S : Draw) (k : Env → Draw → Out) : (Out.nx Γ S).seq k = k Γ S := rfl
@[simp] theorem seq_ret (d : PyData) (S : Draw) (k : Env → Draw → Out) : (Out.ret d S).seq k = .ret d S := rfl
@[simp] theorem toB_ok {α : Type} (b : Bool) (S : Draw) (k : Bool → Draw → Res α) : toB (.ok (.bool b) S) k = k b S := rfl
@[simp] theorem noexc_ok {α : Type} (x : α) (S : Draw) : noexc (Res.ok x S) = .ok x S := rfl
theorem call_eq {P : Prg} {j : Nat} {f : FDef} {b : List Sx} (hj : P.fs[j]? = some f) (hb : f.body = some b) (n : Nat) (ds : List PyData) (S : Draw) (hl : ds.length = f.np) : (run P (n + 2)).c j ds S = (match ssStep (run P n) (ds.map some ++ List.replicate (f.N.length - ds.length) none) S b with
    | .nx _ S' => .ok .none S'
    | .ret d S' => .ok d S'
    | .exc c d S' => .exc c d S'
    | _ => .bad) := by
  show cStep P (run P (n + 1)) j ds S = _
  unfold cStep
  rw [hj]
  dsimp only
  rw [if_pos hl, hb]
  rfl
theorem zip_tail_map {α : Type} (f : α → PyData) (xs : List α) : List.zipWith (fun a b => PyData.tuple [a, b]) (xs.map f) ((xs.map f).drop 1) = (xs.zip (xs.drop 1)).map fun p => .tuple [f p.1, f p.2] := by
  rw [← List.map_drop, List.zipWith_map, List.zip, List.map_zipWith]
theorem boolsOf_map' {α : Type} (g : α → Bool) (xs : List α) : boolsOf (xs.map fun x => .bool (g x)) = some (xs.map g) := by
  have := boolsOf_map (xs.map g)
  rwa [List.map_map] at this
/-- [elt for t in it], one for each -/
theorem evComp_map {α : Type} {r : Fns} {Γ : Env} {elt it : Ex} {t : Tg} {own : List Nat} {S : Draw} {xs : List α} {f g : α → PyData} (hI : evI r Γ S it = .ok (xs.map f) S) (hl : xs.length ≤ 16777216) (hb : ∀ x ∈ xs, ∃ Γ', bindT t (f x) (wipeE Γ own) = some Γ' ∧ r.e Γ' S elt = .ok (g x) S) :
    evComp r Γ elt t it [] own S = .ok (xs.map g) S := by
  unfold evComp
  rw [hI, Res.bind_ok, cmpL_map (g := g) fun x hx => ?_]
  · exact few_ok' (by rw [List.length_map]; exact hl)
  · obtain ⟨Γ', h1, h2⟩ := hb x hx
    simp only [h1, evTs, Res.bind_ok, if_true, h2]
theorem cmpL_filter {α : Type} {body : PyData → Draw → Res (List PyData)} {f g : α → PyData} {p : α → Bool} {S : Draw} {xs : List α} (h : ∀ x ∈ xs, body (f x) S = .ok (if p x then [g x] else []) S) : cmpL body (xs.map f) S = .ok ((xs.filter p).map g) S := by
  induction xs with
  | nil => rfl
  | cons x xs ih =>
    rw [List.map_cons]
    unfold cmpL
    rw [h x List.mem_cons_self, Res.bind_ok, ih fun y hy => h y (List.mem_cons_of_mem _ hy)]
    cases e : p x <;> simp [e]
/-- .. with a test -/
theorem evComp_filter {α : Type} {r : Fns} {Γ : Env} {elt it c : Ex} {t : Tg} {own : List Nat} {S : Draw} {xs : List α} {f g : α → PyData} {p : α → Bool} (hI : evI r Γ S it = .ok (xs.map f) S) (hl : xs.length ≤ 16777216) (hb : ∀ x ∈ xs, ∃ Γ', bindT t (f x) (wipeE Γ own) = some Γ' ∧ r.e Γ' S c = .ok (.bool (p x)) S ∧ r.e Γ' S elt = .ok (g x) S) :
    evComp r Γ elt t it [c] own S = .ok ((xs.filter p).map g) S := by
  unfold evComp
  rw [hI, Res.bind_ok, cmpL_filter (g := g) (p := p) fun x hx => ?_]
  · exact few_ok' (by rw [List.length_map]; have := List.length_filter_le p xs; omega)
  · obtain ⟨Γ', h1, h2, h3⟩ := hb x hx
    simp only [h1, evTs, evT, h2, toB_ok, Res.bind_ok]
    cases p x <;> simp [h3]
theorem cut_tail (xs : List PyData) : cutD xs (some 1) none = xs.drop 1 := by
  cases xs with
  | nil => rfl
  | cons x r =>
    unfold cutD
    have h1 : HT.sIx (x :: r).length 0 (some 1) = 1 := by simp [HT.sIx]
    have h2 : HT.sIx (x :: r).length (x :: r).length none = r.length + 1 := by simp [HT.sIx]
    rw [h1, h2]
    simp
theorem bltAll {α : Type} (g : α → Bool) (xs : List α) : bltD .all [.list (xs.map fun x => .bool (g x))] = some (.bool (xs.all g)) := by
  simp [bltD, boolsOf_map', List.all_map]
/-! ### statements, one after another -/
section
variable {r : Fns} {Γ Γ1 : Env} {S S1 : Draw} {s : Sx} {ss a b : List Sx} {d : PyData} {c : Ex}
theorem ss_nx (h : stStep r Γ S s = .nx Γ1 S1) : ssStep r Γ S (s :: ss) = ssStep r Γ1 S1 ss := by
  show (stStep r Γ S s).seq _ = _
  rw [h]; rfl
theorem ss_ret (h : stStep r Γ S s = .ret d S1) : ssStep r Γ S (s :: ss) = .ret d S1 := by
  show (stStep r Γ S s).seq _ = _
  rw [h]; rfl
theorem st_if {k : Bool} (h : evT r Γ S c = .ok k S1) : stStep r Γ S (.ife c a b) = if k then r.s Γ S1 a else r.s Γ S1 b := by
  show (evT r Γ S c).out _ = _
  rw [h]; rfl
theorem st_skip {P : Prg} {n : Nat} (h : evT (run P (n + 1)) Γ S c = .ok false S1) : stStep (run P (n + 1)) Γ S (.ife c a []) = .nx Γ S1 := by rw [st_if h]; rfl
theorem st_return {e : Ex} (h : r.e Γ S e = .ok d S1) : stStep r Γ S (.ret e) = .ret d S1 := by
  show (r.e Γ S e).out _ = _
  rw [h]; rfl
theorem st_asg {i : Nat} {e : Ex} (h : r.e Γ S e = .ok d S1) : stStep r Γ S (.asg (.nm i) e) = .nx (Γ.set i (some d)) S1 := by
  show (r.e Γ S e).out _ = _
  rw [h]; rfl
/-- a call whose body returns -/
theorem call_ret {P : Prg} {j n : Nat} {f : FDef} {b : List Sx} {ds : List PyData} (hj : P.fs[j]? = some f) (hb : f.body = some b) (hl : ds.length = f.np) (h : ssStep (run P n) (ds.map some ++ List.replicate (f.N.length - ds.length) none) S b = .ret d S1) : (run P (n + 2)).c j ds S = .ok d S1 := by
  rw [call_eq hj hb n ds S hl, h]
end
theorem evT_ok {r : Fns} {Γ : Env} {S S1 : Draw} {c : Ex} {k : Bool} (h : r.e Γ S c = .ok (.bool k) S1) : evT r Γ S c = .ok k S1 := by
  unfold evT
  rw [h]; rfl
theorem blt_lenT (xs : List PyData) : bltD .len [.tuple xs] = some (.int xs.length) := rfl
theorem blt_lenL (xs : List PyData) : bltD .len [.list xs] = some (.int xs.length) := rfl
theorem blt_tup (xs : List PyData) : bltD .tuple [.list xs] = some (.tuple xs) := rfl
/-- all([.. for ..]) -/
theorem e_all {α : Type} {P : Prg} {n : Nat} {Γ : Env} {elt it : Ex} {t : Tg} {own : List Nat} {S : Draw} {xs : List α} {f : α → PyData} {p : α → Bool} (hI : evI (run P n) Γ S it = .ok (xs.map f) S) (hl : xs.length ≤ 16777216) (hb : ∀ x ∈ xs, ∃ Γ', bindT t (f x) (wipeE Γ own) = some Γ' ∧ (run P n).e Γ' S elt = .ok (.bool (p x)) S) :
    (run P (n + 2)).e Γ S (.blt .all [.comp elt t it [] own]) = .ok (.bool (xs.all p)) S := by
  show (evs ((run P (n + 1)).e Γ) [.comp elt t it [] own] S).bind (fun xs S1 => lift (bltD .all xs) S1) = _
  have h : (run P (n + 1)).e Γ S (.comp elt t it [] own) = .ok (.list (xs.map fun x => .bool (p x))) S := by
    show (evComp (run P n) Γ elt t it [] own S).bind _ = _
    rw [evComp_map (g := fun x => .bool (p x)) hI hl hb]; rfl
  simp only [evs, h, Res.bind_ok, bltAll]
  rfl
theorem e_not {P : Prg} {n : Nat} {Γ : Env} {e : Ex} {S S1 : Draw} {b : Bool} (h : (run P n).e Γ S e = .ok (.bool b) S1) : (run P (n + 1)).e Γ S (.not e) = .ok (.bool (!b)) S1 := by
  show toB ((run P n).e Γ S e) _ = _
  rw [h]; rfl
/-- a loop, turn by turn -/
theorem forL_to {t : Tg} {body : Env → Draw → Out} (st : Nat → Env × Draw) : ∀ (xs : List PyData) (k : Nat), (∀ i x, xs[i]? = some x → ∃ Γ', bindT t x (st (k + i)).1 = some Γ' ∧ (body Γ' (st (k + i)).2 = .nx (st (k + i + 1)).1 (st (k + i + 1)).2 ∨ body Γ' (st (k + i)).2 = .cnt (st (k + i + 1)).1 (st (k + i + 1)).2)) →
    forL t body xs (st k).1 (st k).2 = .nx (st (k + xs.length)).1 (st (k + xs.length)).2
  | [], k, _ => rfl
  | x :: xs, k, h => by
    obtain ⟨Γ', h1, h2⟩ := h 0 x rfl
    have ih := forL_to st xs (k + 1) fun i y hy => by
      have := h (i + 1) y (by simpa using hy)
      rw [show k + (i + 1) = k + 1 + i by omega] at this
      exact this
    unfold forL
    rw [Nat.add_zero] at h1 h2
    rw [h1]
    dsimp only
    rw [List.length_cons, show k + (xs.length + 1) = k + 1 + xs.length by omega, ← ih]
    rcases h2 with h2 | h2 <;> rw [h2]
theorem st_for {r : Fns} {Γ Γ1 : Env} {S S0 S1 : Draw} {t : Tg} {it : Ex} {b : List Sx} {xs : List PyData} (hI : evI r Γ S it = .ok xs S0) (h : forL t (fun Γ S => r.s Γ S b) xs Γ S0 = .nx Γ1 S1) : stStep r Γ S (.fr t it b) = .nx Γ1 S1 := by
  show (evI r Γ S it).out _ = _
  rw [hI]; exact h
theorem st_par {r : Fns} {Γ Γ1 : Env} {S S1 : Draw} {is : List Nat} {es : List Ex} {xs : List PyData} (h : evs (r.e Γ) es S = .ok xs S1) (hs : setAll is xs Γ = some Γ1) : stStep r Γ S (.par is es) = .nx Γ1 S1 := by
  show (evs (r.e Γ) es S).out _ = _
  rw [h]
  show (match setAll is xs Γ with | some Γ' => Out.nx Γ' S1 | none => .bad) = _
  rw [hs]
theorem st_app {r : Fns} {Γ : Env} {S S1 : Draw} {i : Nat} {e : Ex} {xs : List PyData} {y : PyData} (hg : getV Γ i = some (.list xs)) (h : r.e Γ S e = .ok y S1) (hl : xs.length < 16777216) : stStep r Γ S (.app i e) = .nx (Γ.set i (some (.list (xs ++ [y])))) S1 := by
  show (match getV Γ i with
    | some (.list xs) => (r.e Γ S e).out fun y S1 => if xs.length < 16777216 then .nx (Γ.set i (some (.list (xs ++ [y])))) S1 else .bad
    | _ => .bad) = _
  rw [hg]
  dsimp only
  rw [h]
  show (if xs.length < 16777216 then _ else _) = _
  rw [if_pos hl]
theorem atI_last (xs : List PyData) (y : PyData) : atI (xs ++ [y]) (-1) = some y := by
  unfold atI ixN
  rw [if_neg (by decide), if_pos (by simp; omega), Option.bind_some]
  have e : ((-1 : Int) + ((xs ++ [y]).length : Nat)).toNat = xs.length := by simp; omega
  rw [e]
  simp
theorem atI_last2 (xs : List PyData) (x y : PyData) : atI (xs ++ [x] ++ [y]) (-2) = some x := by
  unfold atI ixN
  rw [if_neg (by decide), if_pos (by simp; omega), Option.bind_some]
  have e : ((-2 : Int) + ((xs ++ [x] ++ [y]).length : Nat)).toNat = xs.length := by simp; omega
  rw [e]
  simp
end PD
/-! P24: how long a shown value is. -/
namespace PD
open PySem L2
mutual
def wt : PyData → Nat
  | .none => 4
  | .bool _ => 5
  | .int _ => 22
  | .str x => 10 * x.length + 2
  | .list xs => 3 + wtAll xs
  | .tuple xs => 3 + wtAll xs
  | .dict _ => 0
def wtAll : List PyData → Nat
  | [] => 0
  | x :: xs => wt x + 2 + wtAll xs
end
mutual
def sml : PyData → Bool
  | .none => true
  | .bool _ => true
  | .int i => decide (i.natAbs < 10 ^ 20)
  | .str x => x.cps.toList.all fun c => decide (c < 16 ^ 8)
  | .list xs => smlAll xs
  | .tuple xs => smlAll xs
  | .dict _ => false
def smlAll : List PyData → Bool
  | [] => true
  | x :: xs => sml x && smlAll xs
end
theorem len_of (s : String) : (Str.ofString s).length = s.toList.length := by
  rw [TL.len_tl, TL.tl_ofString, List.length_map]
theorem nat_len {n : Nat} (h : n < 10 ^ 20) : (toString n).toList.length ≤ 20 := by
  have h1 := TL.tl_num n
  have h2 := TL.numL_len (n := n) (k := 20) (by decide) h
  rw [← h1] at h2
  rw [TL.tl_ofString, List.length_map] at h2
  exact h2
theorem int_len {i : Int} (h : i.natAbs < 10 ^ 20) : (Str.ofString (toString i)).length ≤ 22 := by
  rw [len_of]
  cases i with
  | ofNat n =>
    have := nat_len (n := n) h
    exact Nat.le_trans this (by decide)
  | negSucc m =>
    have := nat_len (n := m + 1) h
    have e : (toString (Int.negSucc m)) = "-" ++ toString (m + 1) := rfl
    rw [e, String.toList_append, List.length_append]
    have e2 : "-".toList.length = 1 := rfl
    omega
theorem from_len : ∀ (ts : List Str) (k : Nat) (acc : Str), (PySem.textFrom k acc ts).length ≤ acc.length + (ts.map fun t => t.length + 2).sum
  | [], k, acc => by simp [PySem.textFrom]
  | t :: r, k, acc => by
    have h := from_len r (k + 1) (acc ++ (if k > 0 then ", " else "" : String) ++ t)
    have e : (acc ++ (if k > 0 then ", " else "" : String) ++ t).length ≤ acc.length + 2 + t.length := by
      rw [strLen_append, strLen_append]
      have : ((if k > 0 then ", " else "" : String) : Str).length ≤ 2 := by split <;> decide +kernel
      omega
    show (PySem.textFrom (k + 1) (acc ++ (if k > 0 then ", " else "" : String) ++ t) r).length ≤ _
    rw [List.map_cons, List.sum_cons]
    omega
theorem sum_shown (xs : List PyData) : ((PyData.shownAll xs).map fun t => t.length + 2).sum = ((PyData.shownAll xs).map (·.length)).sum + 2 * xs.length := by
  induction xs with
  | nil => rfl
  | cons x r ih =>
    simp only [PyData.shownAll, List.map_cons, List.sum_cons, List.length_cons]
    omega
theorem len_shown (xs : List PyData) : (PyData.shownAll xs).length = xs.length := by
  induction xs with
  | nil => rfl
  | cons x r ih => simp [PyData.shownAll, ih]
mutual
theorem shown_le : ∀ {d : PyData}, sml d = true → d.shown.length ≤ wt d ∧ d.showable = true
  | .none, _ => ⟨by decide +kernel, rfl⟩
  | .bool b, _ => by cases b <;> exact ⟨by decide +kernel, rfl⟩
  | .int i, h => by
    have h : i.natAbs < 10 ^ 20 := of_decide_eq_true h
    refine ⟨int_len h, decide_eq_true ?_⟩
    by_cases e : i.natAbs = 0
    · rw [e]; decide
    · exact (Nat.log2_lt e).mpr (Nat.lt_trans h (by decide))
  | .str x, h => by
    refine ⟨StrLaws.reprText_len x fun c hc => ?_, rfl⟩
    have h : (x.cps.toList.all fun c => decide (c < 16 ^ 8)) = true := h
    rw [List.all_eq_true] at h
    exact of_decide_eq_true (h c hc)
  | .list xs, h => by
    obtain ⟨h1, h2⟩ := shownAll_le h
    refine ⟨?_, h2⟩
    show (PySem.listText (PyData.shownAll xs)).length ≤ 3 + wtAll xs
    unfold PySem.listText
    rw [strLen_append]
    have := from_len (PyData.shownAll xs) 0 "["
    have e1 : (("[" : String) : Str).length = 1 := rfl
    have e2 : (("]" : String) : Str).length = 1 := rfl
    omega
  | .tuple xs, h => by
    obtain ⟨h1, h2⟩ := shownAll_le h
    refine ⟨?_, h2⟩
    show (PySem.tupleText (PyData.shownAll xs)).length ≤ 3 + wtAll xs
    unfold PySem.tupleText
    rw [strLen_append, strLen_append]
    have k1 := StrLaws.join_length_le ", " (PyData.shownAll xs)
    have e0 : ((", " : String) : Str).length = 2 := rfl
    have e1 : (("(" : String) : Str).length = 1 := rfl
    have e2 : ((if (PyData.shownAll xs).length == 1 then ",)" else ")" : String) : Str).length ≤ 2 := by split <;> decide +kernel
    rw [sum_shown] at h1
    rw [e0, len_shown] at k1
    omega
  | .dict _, h => by cases h
theorem shownAll_le : ∀ {xs : List PyData}, smlAll xs = true → ((PyData.shownAll xs).map fun t => t.length + 2).sum ≤ wtAll xs ∧ PyData.showableAll xs = true
  | [], _ => ⟨Nat.le_refl _, rfl⟩
  | x :: xs, h => by
    simp only [smlAll, Bool.and_eq_true] at h
    obtain ⟨h1, h2⟩ := shown_le h.1
    obtain ⟨h3, h4⟩ := shownAll_le h.2
    simp only [PyData.shownAll, List.map_cons, List.sum_cons, PyData.showableAll, wtAll, h2, h4]
    exact ⟨by omega, rfl⟩
end
theorem blt_repr {d : PyData} (h : sml d = true) (hw : wt d ≤ 16777216) (hd : d.depth ≤ 100) : bltD .repr [d] = some (.str d.shown) := by
  obtain ⟨h1, h2⟩ := shown_le h
  have h3 : d.shown.length ≤ 16777216 := by omega
  simp only [bltD, h2, h3, hd, decide_true, Bool.and_self, if_true]
end PD
/-! P25: what is drawn lies below the total (k87 to k99). -/
namespace PD
open PySem L2
theorem wh_ok : ∀ (k : Nat) (Γ : ZEnv) (S : Draw), S.great.length ≤ k → ∃ gs, zWh (ZAnd (ZNe false) (ZEq (ZI false (ZC 0)) 0)) (YQ YPop YN) (k + 1) Γ S = .nx Γ { S with great := gs } ∧ (gs = [] ∨ ∃ g r, gs = g :: r)
  | k, Γ, S, h => by
    cases e : S.great with
    | nil =>
      refine ⟨[], ?_, .inl rfl⟩
      simp only [zWh, lst, e, List.isEmpty_nil, Bool.not_true, Option.bind_some, Bool.false_eq_true, if_false, zo]
      rw [← e]
    | cons g r =>
      by_cases hg : g = 0
      · cases k with
        | zero => rw [e] at h; simp at h
        | succ k =>
          obtain ⟨gs, h1, h2⟩ := wh_ok k Γ { S with great := r } (by rw [e] at h; simpa using h)
          refine ⟨gs, ?_, h2⟩
          rw [← h1]
          conv => lhs; unfold zWh
          simp [lst, e, hg, ixZ, zo, ZOut.seq]
      · refine ⟨g :: r, ?_, .inr ⟨g, r, rfl⟩⟩
        simp [zWh, lst, e, hg, ixZ, zo]
        rw [← e]
theorem drawD {S : Draw} {t : Int} (hc : S.cells ≠ []) (h0 : 0 < t) (h1 : t < 1073741824) : ∃ i S', zRun zD 4 S t = some (i, S') ∧ 0 ≤ i ∧ i < t ∧ S'.cells = S.cells := by
  obtain ⟨gs, hw, hg⟩ := wh_ok S.great.length [none, some t, none, none] { S with a := S.a + 1 } (Nat.le_refl _)
  have e0 : zD [none, some t, none, none] S = zD3 [none, some t, none, none] { S with a := S.a + 1, great := gs } := by
    show ((zDa [none, some t, none, none] S).seq zD2) = _
    have : zDa [none, some t, none, none] S = .nx [none, some t, none, none] { S with a := S.a + 1 } := rfl
    rw [this]
    show ((zDb [none, some t, none, none] { S with a := S.a + 1 }).seq zD3) = _
    have : zDb [none, some t, none, none] { S with a := S.a + 1 } = .nx [none, some t, none, none] { S with a := S.a + 1, great := gs } := hw
    rw [this]
    rfl
  have run : zRun zD 4 S t = (match zD3 [none, some t, none, none] { S with a := S.a + 1, great := gs } with | .ret i S' => some (i, S') | _ => none) := by
    unfold zRun
    show (match zD [none, some t, none, none] S with | .ret i S' => some (i, S') | _ => none) = _
    rw [e0]
  rw [run]
  rcases hg with rfl | ⟨g, r, rfl⟩
  · have hlen : (0 : Int) < (S.cells.length : Int) := by
      cases e : S.cells with
      | nil => exact absurd e hc
      | cons a b => simp
    have m1 := Int.emod_nonneg (S.a + 1) (show (S.cells.length : Int) ≠ 0 by omega)
    have m2 := Int.emod_lt_of_pos (S.a + 1) hlen
    obtain ⟨c, hcell⟩ : ∃ c, S.cells[((S.a + 1) % (S.cells.length : Int)).toNat]? = some c := ⟨S.cells[((S.a + 1) % (S.cells.length : Int)).toNat]'(by omega), List.getElem?_eq_getElem _⟩
    have hl2 : 0 < S.cells.length := by omega
    have comp : zD3 [none, some t, none, none] { S with a := S.a + 1, great := [] } = .ret ((((S.b * 75364 + c % 2147483587 + 977 * (S.a + 1)) % 4294967291 * 40692 + (S.a + 1)) % 4294967279 / 128) % t) { S with a := S.a + 1, great := [], b := (S.b * 75364 + c % 2147483587 + 977 * (S.a + 1)) % 4294967291 } := by
      simp [zD3, zD4, zD5, zD6, YQ, zDc, zDd, zDe, zDf, YN, YIf, YV, YB, YR, ZNe, ZI, ZO, ZA, ZB, ZC, ZL, ZV, zOp, zo, lst, ZOut.seq, ixZ, m1, m2, hcell, hl2, getI, h0]
      have hce := (List.getElem?_eq_some_iff.mp hcell).2
      simp [hce]
    rw [comp]
    exact ⟨_, _, rfl, Int.emod_nonneg _ (by omega), Int.emod_lt_of_pos _ h0, rfl⟩
  · have comp : zD3 [none, some t, none, none] { S with a := S.a + 1, great := g :: r } = .ret (g % t) { S with a := S.a + 1, great := (g / t) :: r } := by
      simp [zD3, YQ, zDc, YN, YIf, YBoth, YR, ZNe, ZI, ZO, ZC, ZV, zOp, zo, lst, ZOut.seq, ixZ, getI, h0, h1, setZ]
    rw [comp]
    exact ⟨_, _, rfl, Int.emod_nonneg _ (by omega), Int.emod_lt_of_pos _ h0, rfl⟩
end PD
/-! P26: rows of ints in order. -/
namespace PD
open PySem L2
theorem lexLt_lt : ∀ (a b : List Int), HT.lexLt a b = decide (a < b)
  | [], [] => by simp [HT.lexLt]
  | [], _ :: _ => by simp [HT.lexLt]
  | _ :: _, [] => by simp [HT.lexLt]
  | x :: xs, y :: ys => by
    rw [HT.lexLt_cons, lexLt_lt xs ys]
    by_cases h : x = y
    · subst h
      simp [List.cons_lt_cons_iff]
    · simp [List.cons_lt_cons_iff, h]
theorem lex_three (a b : List Int) (h : ¬ b < a) (hn : a ≠ b) : HT.lexLt a b = true := by
  rw [lexLt_lt]
  refine decide_eq_true ?_
  have : a ≤ b := h
  rcases List.le_iff_lt_or_eq.mp this with z | z
  · exact z
  · exact absurd z hn
theorem alike_ints : ∀ (a b : List Int), PySem.W.alikeAll (a.map .int) (b.map .int) = true
  | [], _ => by simp [PySem.W.alikeAll]
  | _ :: _, [] => by simp [PySem.W.alikeAll]
  | x :: xs, y :: ys => by simp [PySem.W.alikeAll, PySem.W.alike, alike_ints xs ys]
theorem row_depth (ns : List Int) : (rowD ns).depth ≤ 5 := by
  have : ∀ l : List Int, PyData.depthAll (l.map .int) ≤ 2 := fun l => by
    induction l with
    | nil => simp [PyData.depthAll]
    | cons x r ih => simp only [List.map_cons, PyData.depthAll, PyData.depth]; omega
  simp only [rowD, PyData.depth]
  have := this ns
  omega
theorem dataLe_row (a b : List Int) : PySem.W.dataLe false id (rowD a) (rowD b) = decide (a ≤ b) := by
  have := PySem.W.dataLe_rows (β := List Int) (fun x => x)
  have e : PySem.W.dataLe false id (rowD a) (rowD b) = PySem.W.dataLe false (fun b : List Int => .list (b.map .int)) a b := rfl
  rw [e, this]
def leB (a b : List Int) : Bool := decide (a ≤ b)
theorem sort_rows {ls : List (List Int)} (h : ∀ l ∈ ls, l ≠ []) (hl : ls.length ≤ 1000) : bltD .sorted [.list (ls.map rowD)] = some (.list ((ls.mergeSort leB).map rowD)) := by
  have ok : sortOk (ls.map rowD) = true := by
    unfold sortOk
    simp only [Bool.and_eq_true, List.all_eq_true, Bool.or_eq_true, decide_eq_true_eq]
    refine ⟨⟨⟨?_, .inl ?_⟩, ?_⟩, ?_⟩
    · intro x hx y hy
      obtain ⟨a, _, rfl⟩ := List.mem_map.mp hx
      obtain ⟨b, _, rfl⟩ := List.mem_map.mp hy
      exact alike_ints a b
    · intro x hx
      obtain ⟨a, ha, rfl⟩ := List.mem_map.mp hx
      obtain ⟨z, r, rfl⟩ := List.exists_cons_of_ne_nil (h a ha)
      rfl
    · rw [List.length_map]; omega
    · intro x hx
      obtain ⟨a, _, rfl⟩ := List.mem_map.mp hx
      have := row_depth a
      omega
  have e : (ls.mergeSort leB).map rowD = sortD (ls.map rowD) := List.map_mergeSort fun a _ b _ => (dataLe_row a b).symm
  simp only [bltD, ok, if_true, e]
theorem sort_up {ls : List (List Int)} (hn : ls.Nodup) : ((ls.mergeSort leB).zip ((ls.mergeSort leB).drop 1)).all (fun p => HT.lexLt p.1 p.2) = true := by
  have tr : ∀ a b c : List Int, leB a b = true → leB b c = true → leB a c = true := fun a b c h1 h2 => decide_eq_true (List.le_trans (of_decide_eq_true h1) (of_decide_eq_true h2))
  have tt : ∀ a b : List Int, (leB a b || leB b a) = true := fun a b => by
    unfold leB
    rcases List.le_total a b with z | z <;> simp [z]
  have p : (ls.mergeSort leB).Pairwise (fun a b => leB a b = true) := List.pairwise_mergeSort tr tt ls
  have nd : (ls.mergeSort leB).Nodup := (List.mergeSort_perm ls leB).nodup_iff.mpr hn
  generalize ls.mergeSort leB = ms at p nd
  rw [List.all_eq_true]
  intro x hx
  obtain ⟨i, hi⟩ := List.mem_iff_getElem?.mp hx
  rw [List.getElem?_zip_eq_some, List.getElem?_drop] at hi
  obtain ⟨h1, h2⟩ := hi
  obtain ⟨l1, e1⟩ := List.getElem?_eq_some_iff.mp h1
  obtain ⟨l2, e2⟩ := List.getElem?_eq_some_iff.mp h2
  have pw := List.pairwise_iff_getElem.mp p i (1 + i) l1 l2 (by omega)
  have ne := List.pairwise_iff_getElem.mp nd i (1 + i) l1 l2 (by omega)
  rw [e1, e2] at pw ne
  exact lex_three x.1 x.2 (of_decide_eq_true pw) ne
theorem eqv_row : ∀ (a b : List Int), PyData.eqvAll (a.map .int) (b.map .int) = decide (a = b)
  | [], [] => by simp [PyData.eqvAll]
  | [], _ :: _ => by simp [PyData.eqvAll]
  | _ :: _, [] => by simp [PyData.eqvAll]
  | x :: xs, y :: ys => by
    simp only [List.map_cons, PyData.eqvAll, PyData.eqv, eqv_row xs ys]
    by_cases h : x = y <;> simp [h]
theorem in_rows (l : List Int) (ls : List (List Int)) : inD (rowD l) (.list (ls.map rowD)) = some (decide (l ∈ ls)) := by
  have d := row_depth l
  simp only [inD, show (rowD l).depth ≤ 100 by omega, true_or, if_true, List.any_map]
  congr 1
  rw [Bool.eq_iff_iff, List.any_eq_true]
  simp only [Function.comp, rowD, PyData.eqv, eqv_row, decide_eq_true_eq]
  constructor
  · rintro ⟨x, hx, rfl⟩; exact hx
  · intro h; exact ⟨l, h, rfl⟩
end PD
namespace K88
open PySem PySem.Spec PyProof.Rows PD L2
def top (i : Nat) : Stmt := PySem.Challenge.pw_sumsshown_k88_whole_texts_there_and_back.main.body.getD i (.Pass ⟨0, 0, 0, 0⟩)
def f0 : List Sx := [.ife (.or [(.not (.isi (.var 0) .int)), (.isi (.var 0) .bool)]) [.ret (.con (.bool false))] [], .ret (.and [(.or [(.cmp .Is (.var 1) (.con .none)), (.cmp .GtE (.var 0) (.var 1))]), (.or [(.cmp .Is (.var 2) (.con .none)), (.cmp .LtE (.var 0) (.var 2))])])]
def f1 : List Sx := [.ife (.or [(.not (.isi (.var 1) .tuple)), (.cmp .Eq (.var 1) (.tup [])), (.not (.blt .all [(.comp (.call 0 [(.var 2), (.con (.int 0)), (.bin .Sub (.var 0) (.con (.int 1)))]) (.nm 2) (.var 1) [] [2])]))]) [.ret (.con (.bool false))] [], .ret (.blt .all [(.comp (.cmp .Lt (.var 3) (.var 4)) (.tp [(.nm 3), (.nm 4)]) (.zip (.var 1) (.sl (.var 1) (some (.con (.int 1))) none)) [] [3, 4])])]
def f2 : List Sx := [.ife (.or [(.not (.isi (.var 0) .tuple)), (.cmp .NotEq (.blt .len [(.var 0)]) (.con (.int 2)))]) [.rais] [], .ife (.not (.call 0 [(.idx (.var 0) (.con (.int 0))), (.con (.int 1)), (.glb "MOST_CELLS" (.int 8))])) [.rais] [], .ife (.or [(.not (.isi (.idx (.var 0) (.con (.int 1))) .tuple)), (.cmp .Gt (.blt .len [(.idx (.var 0) (.con (.int 1)))]) (.glb "MOST_SUMS" (.int 8)))]) [.rais] [], .ife (.not (.blt .all [(.comp (.call 1 [(.idx (.var 0) (.con (.int 0))), (.var 1)]) (.nm 1) (.idx (.var 0) (.con (.int 1))) [] [1])])) [.rais] [], .ife (.not (.blt .all [(.comp (.cmp .Lt (.var 2) (.var 3)) (.tp [(.nm 2), (.nm 3)]) (.zip (.idx (.var 0) (.con (.int 1))) (.sl (.idx (.var 0) (.con (.int 1))) (some (.con (.int 1))) none)) [] [2, 3])])) [.rais] [], .ret (.var 0)]
def f3 : List Sx := [.ife (.or [(.not (.chn .LtE .LtE (.con (.int 1)) (.blt .len [(.var 0)]) (.glb "MOST_FIGURES" (.int 31)))), (.not (.blt .all [(.comp (.cmp .In (.var 1) (.glb "DIGITS" (.str "0123456789"))) (.nm 1) (.var 0) [] [1])]))]) [.ret (.con .none)] [], .ret (.ite (.cmp .Eq (.blt .str [(.blt .int [(.var 0)])]) (.var 0)) (.blt .int [(.var 0)]) (.con .none))]
def f4 : List Sx := [.ret (.meth .join (.glb "BLANK" (.str " ")) (.comp (.blt .str [(.var 1)]) (.nm 1) (.var 0) [] [1]))]
def f5 : List Sx := [.ret (.bin .Add (.lst [(.blt .str [(.idx (.var 0) (.con (.int 0)))])]) (.comp (.call 4 [(.var 1)]) (.nm 1) (.idx (.var 0) (.con (.int 1))) [] [1]))]
def f6 : List Sx := [.ret (.meth .join (.glb "LINE_END" (.str "\n")) (.call 5 [(.call 2 [(.var 0)])]))]
def f7 : List Sx := [.ret (.blt .tuple [(.comp (.call 3 [(.var 1)]) (.nm 1) (.meth .split (.var 0) (.glb "BLANK" (.str " "))) [] [1])])]
def f8 : List Sx := [.ife (.not (.isi (.var 0) .str)) [.rais] [], .asg (.nm 1) (.meth .split (.var 0) (.glb "LINE_END" (.str "\n"))), .par [2, 3] [(.call 3 [(.idx (.var 1) (.con (.int 0)))]), (.lst [])], .ife (.not (.call 0 [(.var 2), (.con (.int 1)), (.glb "MOST_CELLS" (.int 8))])) [.rais] [], .fr (.tp [(.nm 4), (.nm 5)]) (.enm (.sl (.var 1) (some (.con (.int 1))) none)) [.app 3 (.call 7 [(.var 5)]), .ife (.or [(.cmp .GtE (.var 4) (.glb "MOST_SUMS" (.int 8))), (.not (.call 1 [(.var 2), (.idx (.var 3) (.neg (.con (.int 1))))])), (.and [(.cmp .Gt (.var 4) (.con (.int 0))), (.not (.cmp .Lt (.idx (.var 3) (.neg (.con (.int 2)))) (.idx (.var 3) (.neg (.con (.int 1))))))])]) [.rais] []], .ret (.tup [(.var 2), (.blt .tuple [(.var 3)])])]
def f10 : List Sx := [.asg (.nm 2) (.blt .tuple [(.comp (.var 3) (.nm 3) (.rng [(.var 1)]) [(.cmp .Eq (.call 9 [(.var 0), (.con (.int 2))]) (.con (.int 0)))] [3])]), .ret (.ite (.cmp .NotEq (.var 2) (.tup [])) (.var 2) (.tup [(.call 9 [(.var 0), (.var 1)])]))]
def f11 : List Sx := [.par [3, 4] [(.bin .Add (.con (.int 1)) (.call 9 [(.var 0), (.var 1)])), (.lst [])], .fr (.nm 5) (.rng [(.call 9 [(.var 0), (.bin .Add (.var 2) (.con (.int 1)))])]) [.asg (.nm 6) (.call 10 [(.var 0), (.var 3)]), .asg (.nm 4) (.bin .Add (.var 4) (.bin .Mult (.lst [(.var 6)]) (.blt .int [(.cmp .NotIn (.var 6) (.var 4))])))], .ret (.tup [(.var 3), (.blt .tuple [(.blt .sorted [(.var 4)])])])]
def f12 : List Sx := [.asg (.nm 1) (.bin .Add (.lst [(.blt .str [(.idx (.var 0) (.con (.int 0)))])]) (.comp (.meth .join (.con (.str " ")) (.comp (.blt .str [(.var 5)]) (.nm 5) (.var 4) [] [5])) (.nm 4) (.idx (.var 0) (.con (.int 1))) [] [4])), .asg (.nm 2) (.meth .join (.con (.str "\n")) (.var 1)), .asg (.nm 3) (.lst [(.call 6 [(.var 0)]), (.call 8 [(.var 2)]), (.call 6 [(.var 0)]), (.call 8 [(.var 2)])]), .ret (.cmp .Eq (.blt .repr [(.var 3)]) (.blt .repr [(.bin .Mult (.lst [(.var 2), (.var 0)]) (.con (.int 2)))]))]
def fs : List FDef := [
  ⟨"is_whole", 3, ["thing", "least", "most"], [.nrm, .nrm, .nrm], (some f0)⟩,
  ⟨"is_lot", 2, ["cells", "thing", "cell", "one", "other"], [.nrm, .nrm, .nrm, .nrm, .nrm], (some f1)⟩,
  ⟨"need_shape", 1, ["thing", "lot", "one", "other"], [.nrm, .nrm, .nrm, .nrm], (some f2)⟩,
  ⟨"integer_of", 1, ["word", "sign"], [.nrm, .nrm], (some f3)⟩,
  ⟨"row_text", 1, ["row", "one"], [.nrm, .nrm], (some f4)⟩,
  ⟨"rows_text", 1, ["shape", "lot"], [.nrm, .nrm], (some f5)⟩,
  ⟨"shape_text", 1, ["shape"], [.nrm], (some f6)⟩,
  ⟨"row_of", 1, ["text", "word"], [.nrm, .nrm], (some f7)⟩,
  ⟨"read_shape", 1, ["string", "rows", "cells", "lots", "number", "row"], [.nrm, .nrm, .nrm, .own, .nrm, .nrm], (some f8)⟩,
  ⟨"_law_next", 2, ["_law_m", "_law_total", "_law_found", "_law_cell"], [.hnd, .nrm, .nrm, .nrm], none⟩,
  ⟨"_law_lot", 2, ["_law_m", "_law_total", "_law_found", "_law_k"], [.hnd, .nrm, .nrm, .nrm], (some f10)⟩,
  ⟨"_law_shape", 3, ["_law_m", "_law_most_so", "_law_sums_so", "_law_total", "_law_lots", "_law_k", "_law_one"], [.hnd, .nrm, .nrm, .nrm, .nrm, .nrm, .nrm], (some f11)⟩,
  ⟨"_law_right", 1, ["_law_one", "_law_rows", "_law_due", "_law_heard", "_law_lot_here", "_law_k"], [.nrm, .nrm, .nrm, .nrm, .nrm, .nrm], (some f12)⟩]
def lawN : List Str := ["_law_script", "_law_m", "_law_lap", "_law_one", "_law_other", "_law_eight", "_law_hands", "_law_k"]
def lawK : List Kd := [.scr, .hnd, .nrm, .nrm, .nrm, .nrm, .own, .nrm]
def lawB : List Sx := [.fr (.nm 2) (.rng [(.bin .Add (.con (.int 5)) (.blt .min [(.blt .len [(.var 0)]), (.con (.int 9))]))]) [.par [3, 4] [(.call 11 [(.var 1), (.con (.int 8)), (.con (.int 8))]), (.call 11 [(.var 1), (.con (.int 3)), (.con (.int 2))])], .ife (.or [(.not (.call 12 [(.var 3)])), (.not (.call 12 [(.var 4)]))]) [.ret (.con (.bool false))] [], .ife (.cmp .NotEq (.cmp .Eq (.call 6 [(.var 3)]) (.call 6 [(.var 4)])) (.cmp .Eq (.var 3) (.var 4))) [.ret (.con (.bool false))] []], .asg (.nm 5) (.trng [(.con (.int 8))]), .asgO 6 (.lst [(.tup [(.con (.int 1)), (.tup [])]), (.tup [(.con (.int 8)), (.tup [])]), (.tup [(.con (.int 1)), (.tup [(.tup [(.con (.int 0))])])]), (.tup [(.con (.int 8)), (.tup [(.var 5)])]), (.tup [(.con (.int 8)), (.blt .tuple [(.comp (.tup [(.var 7)]) (.nm 7) (.rng [(.con (.int 8))]) [] [7])])])]), .app 6 (.tup [(.con (.int 8)), (.blt .tuple [(.comp (.sl (.var 5) none (some (.bin .Add (.var 7) (.con (.int 1))))) (.nm 7) (.rng [(.con (.int 8))]) [] [7])])]), .ife (.cmp .NotEq (.comp (.var 3) (.nm 3) (.var 6) [(.not (.call 12 [(.var 3)]))] [3]) (.lst [])) [.ret (.con (.bool false))] [], .ret (.cmp .Eq (.call 6 [(.tup [(.con (.int 4)), (.tup [(.tup [(.con (.int 0)), (.con (.int 1))]), (.tup [(.con (.int 0)), (.con (.int 3))]), (.tup [(.con (.int 2))])])])]) (.con (.str "4\n0 1\n0 3\n2")))]
def gc : List (Str × PyData) := [("MOST_CELLS", (.int 8)), ("MOST_SUMS", (.int 8)), ("LINE_END", (.str "\n")), ("BLANK", (.str " ")), ("DIGITS", (.str "0123456789")), ("MOST_FIGURES", (.int 31))]
def prg : Prg := ⟨fs, zRun zD 4⟩
theorem ok0 : (chk prg gc 24).s ⟨["thing", "least", "most"], [.nrm, .nrm, .nrm], defScope (top 6), defScope (top 6), true⟩ f0 (defBody (top 6)) = true := by decide +kernel
theorem ok1 : (chk prg gc 24).s ⟨["cells", "thing", "cell", "one", "other"], [.nrm, .nrm, .nrm, .nrm, .nrm], defScope (top 7), defScope (top 7), true⟩ f1 (defBody (top 7)) = true := by decide +kernel
theorem ok2 : (chk prg gc 24).s ⟨["thing", "lot", "one", "other"], [.nrm, .nrm, .nrm, .nrm], defScope (top 8), defScope (top 8), true⟩ f2 (defBody (top 8)) = true := by decide +kernel
theorem ok3 : (chk prg gc 24).s ⟨["word", "sign"], [.nrm, .nrm], defScope (top 14), defScope (top 14), true⟩ f3 (defBody (top 14)) = true := by decide +kernel
theorem ok4 : (chk prg gc 24).s ⟨["row", "one"], [.nrm, .nrm], defScope (top 15), defScope (top 15), true⟩ f4 (defBody (top 15)) = true := by decide +kernel
theorem ok5 : (chk prg gc 24).s ⟨["shape", "lot"], [.nrm, .nrm], defScope (top 16), defScope (top 16), true⟩ f5 (defBody (top 16)) = true := by decide +kernel
theorem ok6 : (chk prg gc 24).s ⟨["shape"], [.nrm], defScope (top 17), defScope (top 17), true⟩ f6 (defBody (top 17)) = true := by decide +kernel
theorem ok7 : (chk prg gc 24).s ⟨["text", "word"], [.nrm, .nrm], defScope (top 18), defScope (top 18), true⟩ f7 (defBody (top 18)) = true := by decide +kernel
theorem ok8 : (chk prg gc 24).s ⟨["string", "rows", "cells", "lots", "number", "row"], [.nrm, .nrm, .nrm, .own, .nrm, .nrm], defScope (top 19), defScope (top 19), true⟩ f8 (defBody (top 19)) = true := by decide +kernel
theorem ok10 : (chk prg gc 24).s ⟨["_law_m", "_law_total", "_law_found", "_law_k"], [.hnd, .nrm, .nrm, .nrm], defScope (top 23), defScope (top 23), true⟩ f10 (defBody (top 23)) = true := by decide +kernel
theorem ok11 : (chk prg gc 24).s ⟨["_law_m", "_law_most_so", "_law_sums_so", "_law_total", "_law_lots", "_law_k", "_law_one"], [.hnd, .nrm, .nrm, .nrm, .nrm, .nrm, .nrm], defScope (top 24), defScope (top 24), true⟩ f11 (defBody (top 24)) = true := by decide +kernel
theorem ok12 : (chk prg gc 24).s ⟨["_law_one", "_law_rows", "_law_due", "_law_heard", "_law_lot_here", "_law_k"], [.nrm, .nrm, .nrm, .nrm, .nrm, .nrm], defScope (top 25), defScope (top 25), true⟩ f12 (defBody (top 25)) = true := by decide +kernel
theorem okL : (chk prg gc 24).s ⟨lawN, lawK, defScope (top 26), defScope (top 26), true⟩ lawB (defBody (top 26)).tail = true := by decide +kernel
end K88
namespace K88
open PySem PySem.Spec PyProof.Rows PD L2
section
variable {prog : Program} {w : World} {K : PySem.W.Frag} {mg : Str → Option Value} {base : Heap}
abbrev sNext : Stmt := top 22
theorem scN : FnScope ["_law_m", "_law_total", "_law_found", "_law_cell"] ["_law_m", "_law_total"] (defScope sNext) := ⟨rfl, rfl, rfl, by decide +kernel, rfl, by decide +kernel, by decide +kernel⟩
theorem next_body {fa : Addr} (z1 : mg "int" = none) (z2 : mg "len" = none) (cd : Value) (A : Around) (fr : List PySem.Env) (s : Shared) (H : Hp) (E : XK) (n : Nat) (pm : Addr) (room : Room n (A.deeper (envOfC "_law_next" (defScope sNext) s.heap.objs.size fa cd))) :
    PSs (cxOf CX0 prog w K mg base ["_law_m", "_law_total", "_law_found", "_law_cell"] "_law_next" (defScope sNext) fa cd A fr s H E) (defBody sNext) (zS layD pm H zD) := by
  have hu : (A.deeper (envOfC "_law_next" (defScope sNext) s.heap.objs.size fa cd)).units + 200 < cLine := by have := room.un; omega
  have hm : HNm (cxOf CX0 prog w K mg base ["_law_m", "_law_total", "_law_found", "_law_cell"] "_law_next" (defScope sNext) fa cd A fr s H E) "_law_m" := ⟨rfl, .inl rfl, by decide +kernel, by decide +kernel⟩
  have g0 := fun (p1 p2 p3 p4 p5 : Pos) (k k2 : Nat) => zn_ix (X := cxOf CX0 prog w K mg base ["_law_m", "_law_total", "_law_found", "_law_cell"] "_law_next" (defScope sNext) fa cd A fr s H E) (pm := pm) (H0 := H) (pos := p3) (zl_g (p1 := p1) (p2 := p2) (pos := p4) (k := k) layD_ok hm hu) (zn_con (i := 0) (k := k2) (pos := p5)) (fun _ _ => rfl)
  have nd : (["_law_m", "_law_total", "_law_found", "_law_cell"] : List Str).Nodup := by decide +kernel
  have vr := fun (p : Pos) => zn_var (X := cxOf CX0 prog w K mg base ["_law_m", "_law_total", "_law_found", "_law_cell"] "_law_next" (defScope sNext) fa cd A fr s H E) (L := layD) (pm := pm) (H0 := H) (pos := p) (i := 1) (x := "_law_total") rfl (.inl rfl) (by decide +kernel) (by decide +kernel)
  have vf := fun (p : Pos) => zn_var (X := cxOf CX0 prog w K mg base ["_law_m", "_law_total", "_law_found", "_law_cell"] "_law_next" (defScope sNext) fa cd A fr s H E) (L := layD) (pm := pm) (H0 := H) (pos := p) (i := 2) (x := "_law_found") rfl (.inl rfl) (by decide +kernel) (by decide +kernel)
  have vc := fun (p : Pos) => zn_var (X := cxOf CX0 prog w K mg base ["_law_m", "_law_total", "_law_found", "_law_cell"] "_law_next" (defScope sNext) fa cd A fr s H E) (L := layD) (pm := pm) (H0 := H) (pos := p) (i := 3) (x := "_law_cell") rfl (.inl rfl) (by decide +kernel) (by decide +kernel)
  refine zs_cons (f := zDa) (g := zD2) (zs_a layD_ok hm hu (zn_op (zn_a layD_ok hm hu) zn_con) rfl) ?_
  refine zs_cons (f := zDb) (g := zD3) (zs_while (passes_of rfl) (zt_and (zt_ne hu (zl_g layD_ok hm hu)) (zt_eq (g0 ..))) (zs_cons (zs_pop layD_ok hm hu (zl_g layD_ok hm hu)) zs_nil) (fun _ S => S.great.length + 1)) ?_
  refine zs_cons (f := zDc) (g := zD4) (zs_if (zt_ne hu (zl_g layD_ok hm hu)) (zs_cons (zs_both rfl (by decide) nd rfl (.inl rfl) (.inl rfl) (zl_g layD_ok hm hu) zn_con (zn_op (zn_int rfl z1 (g0 ..) rfl) (vr _)) (zn_op (zn_int rfl z1 (g0 ..) rfl) (vr _)) (fun _ => rfl) rfl rfl rfl rfl) (zs_cons (zs_ret (vf _)) zs_nil)) zs_nil) ?_
  refine zs_cons (f := zDd) (g := zD5) (zs_set (by decide) nd rfl (.inl rfl) (.inl rfl) (zn_ix (zl_c (L := layD) hm hu) (zn_op (zn_int rfl z1 (zn_a layD_ok hm hu) rfl) (zn_len rfl z2 (zl_c (L := layD) hm hu) rfl)) (fun _ _ => rfl)) rfl) ?_
  refine zs_cons (f := zDe) (g := zD6) (zs_b layD_ok hm hu rfl (zn_op (zn_int rfl z1 (zn_op (zn_op (zn_op (zn_b layD_ok hm hu rfl) zn_con) (zn_op (zn_int rfl z1 (vc _) rfl) zn_con)) (zn_op zn_con (zn_a layD_ok hm hu))) rfl) zn_con) rfl) ?_
  exact zs_cons (f := zDf) (g := YN) (zs_ret (zn_op (zn_op (zn_op (zn_int rfl z1 (zn_op (zn_op (zn_b layD_ok hm hu rfl) zn_con) (zn_a layD_ok hm hu)) rfl) zn_con) zn_con) (vr _))) zs_nil

/-! ### the maker -/
abbrev sStart : Stmt := top 21
abbrev nSt : List Str := ["_law_script", "_law_cells", "_law_cell"]
theorem scS : FnScope nSt ["_law_script"] (defScope sStart) := ⟨rfl, rfl, rfl, by decide +kernel, rfl, by decide +kernel, by decide +kernel⟩
def isBig (n : Int) : Bool := decide ((10 : Int) ^ 18 ≤ n)
def initD (ns : List Int) : Draw := ⟨ns ++ [29], ns.filter isBig, 0, (ns.length : Int) + 1⟩
theorem take_filter {ns : List Int} {i : Nat} {n : Int} (h : ns[i]? = some n) : (ns.take (i + 1)).filter isBig = (ns.take i).filter isBig ++ (if isBig n then [n] else []) := by
  have hi := (List.getElem?_eq_some_iff.mp h).1
  rw [List.take_add_one, h, List.filter_append]
  cases e : isBig n <;> simp [e]
theorem start_ok {fa : Addr} {fd : FuncData} (F : Fun K "_law_start" "_law_start" sStart fa fd) (z1 : mg "list" = none) (z2 : mg "len" = none) (n : Nat) : FnG prog w K mg base CX0 (n + 1) fa fd ["_law_script"] (spStart layD.m K initD) := by
  refine fnG_of F scS (fun xs H Q E ⟨a, ns, e, _⟩ => by rw [e]; rfl) fun cd A fr s H xs Q E room gd want => ?_
  obtain ⟨a, ns, rfl, len, sq, hQ⟩ := want
  have nd : nSt.Nodup := by decide +kernel
  have sc := scS
  refine ⟨_, pss_cons (ps_set (i := 1) nd rfl (.inl rfl) (pe_op op_cat (pe_callTy call_list_of rfl z1 (by decide +kernel) (pa_cons (pe_var (i := 0) rfl (.inl rfl) (by decide +kernel) (by decide +kernel)) pa_nil rfl) (by decide) (by decide) rfl rfl) (pe_lst (pa_cons pe_int pa_nil rfl))) rfl (.inl rfl))
    (pss_cons (ps_ret (pe_disp (pps_cons pe_str (pe_var (i := 1) rfl (.inl rfl) (by decide +kernel) (by decide +kernel)) (pps_cons pe_str
      (pe_lc (own := [("_law_cell", 2)]) rfl nd (pi_seq (pe_var (i := 0) rfl (.inl rfl) (by decide +kernel) (by decide +kernel))) (show BlkOk nSt (defScope sStart) _ [("_law_cell", 2)] from blkOk_by (by decide +kernel)) (fun s H C cl fp => pg_name nd (i := 2) rfl (.inl rfl) (.inr rfl)) (fun s H C cl fp => pts_one (pt_cmpR op_ge (pe_var (i := 2) rfl (.inl rfl) (by decide +kernel) (by decide +kernel)) (pe_op op_pow pe_int pe_int) rfl)) (fun s H C cl fp => pe_var (i := 2) rfl (.inl rfl) (by decide +kernel) (by decide +kernel)) (fun _ => rfl))
      (pps_cons pe_str pe_int (pps_cons pe_str (pe_callB call_len_seq rfl z2 (by decide +kernel) (pa_cons (pe_var (i := 1) rfl (.inl rfl) (by decide +kernel) (by decide +kernel)) pa_nil rfl) (by decide) (by decide) rfl rfl) pps_nil)))) rfl rfl (by simp) (by decide))) pss_nil), ?_⟩
  refine ⟨.ref a, rfl, a, ns.map V.int, rfl, .inl sq, fun l hl => ⟨by show 1 ≤ sizeLine; decide, fun l2 hl2 => ?_⟩⟩
  have sq1 : SqL K (upd H l (.lst (ns.map V.int))) a (ns.map V.int) := sqL_mono (fun b o e => by rw [upd_ne (ne_of_none e hl)]; exact e) sq
  have n12 : l ≠ l2 := ne_of_none (upd_same (H := H) (a := l) (o := .lst (ns.map V.int))) hl2
  refine ⟨l, l2, ns.map V.int, [.int 29], rfl, rfl, by rw [upd_ne n12]; exact upd_same, upd_same, by rw [List.length_map, sizeLine_eq]; simp; omega, fun p hp => ?_⟩
  generalize hH3 : upd (upd (upd H l (HO.lst (List.map V.int ns))) l2 (HO.lst [V.int 29])) p (HO.lst (List.map V.int ns ++ [V.int 29])) = H3
  have up3 : ∀ b o, H b = some o → H3 b = some o := fun b o e => by
    have e1 : upd H l (.lst (ns.map V.int)) b = some o := by rw [upd_ne (ne_of_none e hl)]; exact e
    have e2 : upd (upd H l (.lst (ns.map V.int))) l2 (.lst [V.int 29]) b = some o := by rw [upd_ne (ne_of_none e1 hl2)]; exact e1
    rw [← hH3, upd_ne (ne_of_none e2 hp)]
    exact e2
  have hp3 : H3 p = some (.lst (ns.map V.int ++ [V.int 29])) := by rw [← hH3]; exact upd_same
  have down3 : ∀ b, H3 b = none → H b = none := fun b e => by
    cases q : H b with
    | none => rfl
    | some o => rw [up3 b o q] at e; cases e
  have hpH : H p = none := by
    cases q : H p with
    | none => rfl
    | some o =>
      have e1 : upd H l (.lst (ns.map V.int)) p = some o := by rw [upd_ne (ne_of_none q hl)]; exact q
      rw [upd_ne (ne_of_none e1 hl2), e1] at hp
      cases hp
  intro d hd
  have ndp : p ≠ d := ne_of_none hp3 hd
  have up4 : ∀ b o, H3 b = some o → upd H3 d (.dK []) b = some o := fun b o e => by rw [upd_ne (ne_of_none e hd)]; exact e
  have sq4 : SqL K (upd H3 d (.dK [])) a (ns.map V.int) := sqL_mono (fun b o e => up4 b o (up3 b o e)) sq
  refine ⟨.ref p, rfl, .ref a, rfl, .inl ⟨a, ns.map V.int, rfl, sq4, fun D hD => ?_⟩⟩
  have up5 : ∀ b o, upd H3 d (.dK []) b = some o → b ≠ D := fun b o e => ne_of_none e hD
  refine lc_list (K := K) (a := a) (xs := ns.map V.int) (Pv := fun i Hi => (∀ b o, upd H3 d (.dK []) b = some o → Hi b = some o) ∧ Hi D = some (.lst (((ns.take i).filter isBig).map V.int))) ⟨fun b o e => by rw [upd_ne (up5 b o e)]; exact e, upd_same⟩ (fun i Hi _ q => sqL_mono q.1 sq4) (fun i x Hi hx q => ?_) (fun Hi q => ?_)
  · rw [List.getElem?_map, Option.map_eq_some_iff] at hx
    obtain ⟨c, hc, rfl⟩ := hx
    refine ⟨rfl, .int c, rfl, _, _, rfl, rfl, ⟨by decide, by decide, by decide⟩, c, (10 : Int) ^ (18 : Int).toNat, rfl, rfl, _, rfl, ?_⟩
    have hb : decide ((10 : Int) ^ (18 : Int).toNat ≤ c) = isBig c := rfl
    rw [hb]
    have tf := take_filter hc
    cases e : isBig c with
    | true =>
      rw [e] at tf
      dsimp only
      rw [if_pos rfl]
      refine ⟨.int c, rfl, _, q.2, ?_, fun b o z => ?_, ?_⟩
      · rw [List.length_map, sizeLine_eq]
        have h1 := List.length_filter_le isBig (ns.take i)
        have h2 := List.length_take_le' i ns
        omega
      · rw [upd_ne (up5 b o z)]; exact q.1 b o z
      · rw [upd_same, tf]; simp
    | false =>
      rw [e] at tf
      dsimp only
      rw [if_neg Bool.false_ne_true]
      exact ⟨q.1, by rw [tf]; simpa using q.2⟩
  · obtain ⟨k5, e5⟩ := q
    rw [List.length_map, List.take_length] at e5
    have e6 : Hi p = some (.lst (ns.map V.int ++ [V.int 29])) := k5 p _ (up4 p _ hp3)
    have e7 : Hi d = some (.dK []) := k5 d _ upd_same
    have nDp : p ≠ D := up5 p _ (up4 p _ hp3)
    have nDd : d ≠ D := up5 d _ upd_same
    refine ⟨.ref p, rfl, p, _, rfl, .inl (.of e6), e7, [(.inr "cells", .ref p), (.inr "great", .ref D), (.inr "turn", .int 0), (.inr "sum", .int ((ns.length : Int) + 1))], ?_, by simp, ?_⟩
    · rw [show ((List.map V.int ns ++ [V.int 29]).length : Int) = (ns.length : Int) + 1 by simp]
      rfl
    · have c1 : ¬ ("cells" : Str) = "great" := by decide +kernel
      have c2 : ¬ ("cells" : Str) = "turn" := by decide +kernel
      have c3 : ¬ ("cells" : Str) = "sum" := by decide +kernel
      have c4 : ¬ ("great" : Str) = "turn" := by decide +kernel
      have c5 : ¬ ("great" : Str) = "sum" := by decide +kernel
      have c6 : ¬ ("turn" : Str) = "sum" := by decide +kernel
      have em : mergeK [] ([(.inr "cells", .ref p), (.inr "great", .ref D), (.inr "turn", .int 0), (.inr "sum", .int ((ns.length : Int) + 1))] : List (Key × V)) = layD.dct (initD ns) p D := by
        simp [mergeK, putK, Lay.dct, layD, initD, c1, c2, c3, c4, c5, c6]
      rw [em]
      have stt : upd Hi d (.dK (layD.dct (initD ns) p D)) d = some (.dK (layD.dct (initD ns) p D)) := upd_same
      refine hQ d _ (fun b o e => ?_) ⟨p, D, nDp, stt, by rw [upd_ne ndp, e6]; simp [initD], by rw [upd_ne nDd.symm]; exact e5⟩ fun b m => ?_
      · rw [upd_ne (ne_of_none (up3 b o e) hd)]
        exact k5 b o (up4 b o (up3 b o e))
      · rcases m with rfl | ⟨kvs, k, h1, h2⟩
        · exact down3 _ hd
        · rw [stt] at h1
          cases h1
          rcases layD.m.refs _ _ _ _ _ h2 with rfl | rfl
          · exact hpH
          · refine down3 _ ?_
            rw [upd_ne nDd.symm] at hD
            exact hD
end
end K88
namespace K88
open PySem PySem.Spec PyProof.Rows PD L2
structure AtAll (K : PySem.W.Frag) : Prop where
  a0 : FAt K "is_whole" (top 6)
  a1 : FAt K "is_lot" (top 7)
  a2 : FAt K "need_shape" (top 8)
  a3 : FAt K "integer_of" (top 14)
  a4 : FAt K "row_text" (top 15)
  a5 : FAt K "rows_text" (top 16)
  a6 : FAt K "shape_text" (top 17)
  a7 : FAt K "row_of" (top 18)
  a8 : FAt K "read_shape" (top 19)
  a9 : FAt K "_law_next" (top 22)
  a10 : FAt K "_law_lot" (top 23)
  a11 : FAt K "_law_shape" (top 24)
  a12 : FAt K "_law_right" (top 25)
  aS : FAt K "_law_start" (top 21)
  aL : FAt K "law" (top 26)
  c_MOST_CELLS : CAt K "MOST_CELLS" (.int 8)
  c_MOST_SUMS : CAt K "MOST_SUMS" (.int 8)
  c_LINE_END : CAt K "LINE_END" (.str "\n")
  c_BLANK : CAt K "BLANK" (.str " ")
  c_DIGITS : CAt K "DIGITS" (.str "0123456789")
  c_MOST_FIGURES : CAt K "MOST_FIGURES" (.int 31)
  b_len : PySem.W.nsIn K mainGlobals "len" = some none
  b_abs : PySem.W.nsIn K mainGlobals "abs" = some none
  b_min : PySem.W.nsIn K mainGlobals "min" = some none
  b_max : PySem.W.nsIn K mainGlobals "max" = some none
  b_sum : PySem.W.nsIn K mainGlobals "sum" = some none
  b_all : PySem.W.nsIn K mainGlobals "all" = some none
  b_any : PySem.W.nsIn K mainGlobals "any" = some none
  b_int : PySem.W.nsIn K mainGlobals "int" = some none
  b_str : PySem.W.nsIn K mainGlobals "str" = some none
  b_list : PySem.W.nsIn K mainGlobals "list" = some none
  b_tuple : PySem.W.nsIn K mainGlobals "tuple" = some none
  b_sorted : PySem.W.nsIn K mainGlobals "sorted" = some none
  b_repr : PySem.W.nsIn K mainGlobals "repr" = some none
  b_range : PySem.W.nsIn K mainGlobals "range" = some none
  b_zip : PySem.W.nsIn K mainGlobals "zip" = some none
  b_enumerate : PySem.W.nsIn K mainGlobals "enumerate" = some none
  b_isinstance : PySem.W.nsIn K mainGlobals "isinstance" = some none
  b_bool : PySem.W.nsIn K mainGlobals "bool" = some none
section
variable {prog : Program} {w : World} {K : PySem.W.Frag} {mg : Str → Option Value} {base h : Heap}
theorem fns_in (T : AtAll K) (X : K.In h) (G : h.Ns mainGlobals mg) : ∀ (j : Nat) (f : FDef), prg.fs[j]? = some f → ∃ st ps, FnIn prg gc layD.m prog w K mg base j f st ps
  | 0, _, rfl => ⟨top 6, ["thing", "least", "most"], T.a0, ⟨rfl, rfl, rfl, by decide +kernel, rfl, by decide +kernel, by decide +kernel⟩, rfl, fun _ _ _ _ _ _ us hl => match us, hl with | [_, _, _], _ => rfl, fun b e => ⟨by decide, 24, by cases e; exact ok0⟩, (fun e => nomatch e)⟩
  | 1, _, rfl => ⟨top 7, ["cells", "thing"], T.a1, ⟨rfl, rfl, rfl, by decide +kernel, rfl, by decide +kernel, by decide +kernel⟩, rfl, fun _ _ _ _ _ _ us hl => match us, hl with | [_, _], _ => rfl, fun b e => ⟨by decide, 24, by cases e; exact ok1⟩, (fun e => nomatch e)⟩
  | 2, _, rfl => ⟨top 8, ["thing"], T.a2, ⟨rfl, rfl, rfl, by decide +kernel, rfl, by decide +kernel, by decide +kernel⟩, rfl, fun _ _ _ _ _ _ us hl => match us, hl with | [_], _ => rfl, fun b e => ⟨by decide, 24, by cases e; exact ok2⟩, (fun e => nomatch e)⟩
  | 3, _, rfl => ⟨top 14, ["word"], T.a3, ⟨rfl, rfl, rfl, by decide +kernel, rfl, by decide +kernel, by decide +kernel⟩, rfl, fun _ _ _ _ _ _ us hl => match us, hl with | [_], _ => rfl, fun b e => ⟨by decide, 24, by cases e; exact ok3⟩, (fun e => nomatch e)⟩
  | 4, _, rfl => ⟨top 15, ["row"], T.a4, ⟨rfl, rfl, rfl, by decide +kernel, rfl, by decide +kernel, by decide +kernel⟩, rfl, fun _ _ _ _ _ _ us hl => match us, hl with | [_], _ => rfl, fun b e => ⟨by decide, 24, by cases e; exact ok4⟩, (fun e => nomatch e)⟩
  | 5, _, rfl => ⟨top 16, ["shape"], T.a5, ⟨rfl, rfl, rfl, by decide +kernel, rfl, by decide +kernel, by decide +kernel⟩, rfl, fun _ _ _ _ _ _ us hl => match us, hl with | [_], _ => rfl, fun b e => ⟨by decide, 24, by cases e; exact ok5⟩, (fun e => nomatch e)⟩
  | 6, _, rfl => ⟨top 17, ["shape"], T.a6, ⟨rfl, rfl, rfl, by decide +kernel, rfl, by decide +kernel, by decide +kernel⟩, rfl, fun _ _ _ _ _ _ us hl => match us, hl with | [_], _ => rfl, fun b e => ⟨by decide, 24, by cases e; exact ok6⟩, (fun e => nomatch e)⟩
  | 7, _, rfl => ⟨top 18, ["text"], T.a7, ⟨rfl, rfl, rfl, by decide +kernel, rfl, by decide +kernel, by decide +kernel⟩, rfl, fun _ _ _ _ _ _ us hl => match us, hl with | [_], _ => rfl, fun b e => ⟨by decide, 24, by cases e; exact ok7⟩, (fun e => nomatch e)⟩
  | 8, _, rfl => ⟨top 19, ["string"], T.a8, ⟨rfl, rfl, rfl, by decide +kernel, rfl, by decide +kernel, by decide +kernel⟩, rfl, fun _ _ _ _ _ _ us hl => match us, hl with | [_], _ => rfl, fun b e => ⟨by decide, 24, by cases e; exact ok8⟩, (fun e => nomatch e)⟩
  | 9, _, rfl => ⟨top 22, ["_law_m", "_law_total"], T.a9, ⟨rfl, rfl, rfl, by decide +kernel, rfl, by decide +kernel, by decide +kernel⟩, rfl, fun _ _ _ _ _ _ us hl => match us, hl with | [_, _], _ => rfl, (fun b e => nomatch e), fun _ fa fd F n => draw_fn rfl rfl rfl F ⟨rfl, rfl, rfl, by decide +kernel, rfl, by decide +kernel, by decide +kernel⟩ rfl (by decide) rfl (fun cd A fr s H E n pm room => next_body (PySem.W.mg_none_of X G T.b_int) (PySem.W.mg_none_of X G T.b_len) cd A fr s H E n pm room) n⟩
  | 10, _, rfl => ⟨top 23, ["_law_m", "_law_total"], T.a10, ⟨rfl, rfl, rfl, by decide +kernel, rfl, by decide +kernel, by decide +kernel⟩, rfl, fun _ _ _ _ _ _ us hl => match us, hl with | [_, _], _ => rfl, fun b e => ⟨by decide, 24, by cases e; exact ok10⟩, (fun e => nomatch e)⟩
  | 11, _, rfl => ⟨top 24, ["_law_m", "_law_most_so", "_law_sums_so"], T.a11, ⟨rfl, rfl, rfl, by decide +kernel, rfl, by decide +kernel, by decide +kernel⟩, rfl, fun _ _ _ _ _ _ us hl => match us, hl with | [_, _, _], _ => rfl, fun b e => ⟨by decide, 24, by cases e; exact ok11⟩, (fun e => nomatch e)⟩
  | 12, _, rfl => ⟨top 25, ["_law_one"], T.a12, ⟨rfl, rfl, rfl, by decide +kernel, rfl, by decide +kernel, by decide +kernel⟩, rfl, fun _ _ _ _ _ _ us hl => match us, hl with | [_], _ => rfl, fun b e => ⟨by decide, 24, by cases e; exact ok12⟩, (fun e => nomatch e)⟩
  | n + 13, f, e => by exact absurd e (by rw [List.getElem?_eq_none (by show 13 ≤ n + 13; omega)]; exact fun z => nomatch z)
theorem consts_in (T : AtAll K) : ∀ x d, gc.lookup x = some d → CAt K x d := by
  intro x d e
  unfold gc at e
  rw [List.lookup_cons] at e
  split at e
  · rename_i q
    cases eq_of_beq q
    cases e
    exact T.c_MOST_CELLS
  rw [List.lookup_cons] at e
  split at e
  · rename_i q
    cases eq_of_beq q
    cases e
    exact T.c_MOST_SUMS
  rw [List.lookup_cons] at e
  split at e
  · rename_i q
    cases eq_of_beq q
    cases e
    exact T.c_LINE_END
  rw [List.lookup_cons] at e
  split at e
  · rename_i q
    cases eq_of_beq q
    cases e
    exact T.c_BLANK
  rw [List.lookup_cons] at e
  split at e
  · rename_i q
    cases eq_of_beq q
    cases e
    exact T.c_DIGITS
  rw [List.lookup_cons] at e
  split at e
  · rename_i q
    cases eq_of_beq q
    cases e
    exact T.c_MOST_FIGURES
  cases e
theorem blt_in (T : AtAll K) : ∀ x ∈ bltNames, PySem.W.nsIn K mainGlobals x = some none := by
  intro x hx
  simp only [bltNames, List.mem_cons, List.not_mem_nil, or_false] at hx
  rcases hx with rfl | rfl | rfl | rfl | rfl | rfl | rfl | rfl | rfl | rfl | rfl | rfl | rfl | rfl | rfl | rfl | rfl | rfl
  · exact T.b_len
  · exact T.b_abs
  · exact T.b_min
  · exact T.b_max
  · exact T.b_sum
  · exact T.b_all
  · exact T.b_any
  · exact T.b_int
  · exact T.b_str
  · exact T.b_list
  · exact T.b_tuple
  · exact T.b_sorted
  · exact T.b_repr
  · exact T.b_range
  · exact T.b_zip
  · exact T.b_enumerate
  · exact T.b_isinstance
  · exact T.b_bool
theorem law_all (T : AtAll K) (X : K.In h) (G : h.Ns mainGlobals mg) {fa : Addr} (hfa : mg "law" = some (.ref fa)) (n : Nat) (go : ∀ ns : List Int, ns.length ≤ 63 → ∃ S', (run prg (n + 1)).s (lawEnv lawN ns) (initD ns) lawB = .ret (.bool true) S') :
    ∃ fd : FuncData, (∀ (s : Shared) (u : Value), BindsTo s fd ⟨[u], []⟩ [("_law_script", u)]) ∧ ∀ base : Heap, K.In base → base.Ns mainGlobals mg → FnG prog w K mg base CX0 (n + 2) fa fd ["_law_script"] (spLaw K 63) := by
  obtain ⟨f, fd, a, F⟩ := T.aL
  have e := hfa.symm.trans (PySem.W.mg_of X G a)
  cases e
  have F' := F
  obtain ⟨oc, od, kV, doc, pm, an, cd, ct, osl, rfl, at_, code⟩ := F.ex
  refine ⟨PySem.W.fnOf "law" "law" (defArgs (top 26)) (defBody (top 26)) (defScope (top 26)) .none kV doc pm an cd ct, fun s u => .of_eq rfl, fun base _ _ => ?_⟩
  obtain ⟨w'⟩ := wld_of (M := layD.m) (prog := prog) (w := w) (base := base) X G (blt_in T) (consts_in T) (fns_in T X G)
  obtain ⟨fS, fdS, aS, FS⟩ := T.aS
  have bdS : Binds K fdS ["_law_script"] [] := FS.binds fun _ _ _ _ _ _ us hl => match us, hl with | [_], _ => rfl
  exact law_fn w' F' ⟨rfl, rfl, rfl, by decide +kernel, rfl, by decide +kernel, by decide +kernel⟩ rfl rfl rfl (by decide) (ys := "_law_start") (by decide +kernel) (start_ok FS (PySem.W.mg_none_of X G T.b_list) (PySem.W.mg_none_of X G T.b_len) n) (PySem.W.mg_of X G aS) FS.kp bdS okL go
end
end K88
namespace K88
open PySem PD L2
theorem whole_ok (n : Nat) (i lo hi : Int) (S : Draw) : (run prg (n + 8)).c 0 [.int i, .int lo, .int hi] S = .ok (.bool (decide (lo ≤ i) && decide (i ≤ hi))) S := by
  rw [call_eq (j := 0) rfl rfl _ _ _ rfl]
  simp [f0, ssStep, stStep, evT, run_s, run_e, evStep, evOr, evAnd, evs, getV, lift, isiD, PyData.isInt, PyData.isBool, cmpB, cmpD, isD, ltD]
  by_cases h1 : lo ≤ i <;> by_cases h2 : i ≤ hi <;> simp [h1, h2]
def asc (ns : List Int) : Bool := (ns.zip (ns.drop 1)).all fun p => decide (p.1 < p.2)
/-- a good lot of c cells -/
structure Lot (c : Int) (ns : List Int) : Prop where
  ne : ns ≠ []
  low : ∀ i ∈ ns, 0 ≤ i ∧ i ≤ c - 1
  up : asc ns = true
  len : ns.length ≤ 8
theorem lot_ok (n : Nat) (c : Int) (ns : List Int) (S : Draw) (h : Lot c ns) : (run prg (n + 16)).c 1 [.int c, rowD ns] S = .ok (.bool true) S := by
  obtain ⟨a, r, rfl⟩ := List.exists_cons_of_ne_nil h.ne
  have hl := h.len
  rw [call_eq (j := 1) rfl rfl _ _ _ rfl]
  simp [f1, ssStep, stStep, evT, run_e, evStep, evOr, evs, getV, lift, isiD, PyData.isTuple, cmpB, cmpD, rowD, dpt, PyData.depth, PyData.depthAll, PyData.eqv, PyData.eqvAll]
  rw [evComp_map (xs := a :: r) (f := .int) (g := fun _ => .bool true) (by simp [evI, run_e, evStep, getV, itemsOf]) (by omega) (fun x hx => ⟨_, rfl, ?_⟩)]
  · have b1 := bltAll (fun _ : Int => true) (a :: r)
    simp only [Res.bind_ok, b1]
    simp [run_s, ssStep]
    rw [evComp_map (xs := (a :: r).zip ((a :: r).drop 1)) (f := fun p => .tuple [.int p.1, .int p.2]) (g := fun p => .bool (decide (p.1 < p.2)))]
    · have b2 := bltAll (fun p : Int × Int => decide (p.1 < p.2)) ((a :: r).zip ((a :: r).drop 1))
      simp only [Res.bind_ok, b2]
      have hup := h.up
      unfold asc at hup
      simp only [hup]
      rfl
    · have z := zip_tail_map PyData.int (a :: r)
      simp [evI, run_e, evStep, getV, evOpt, slD, cut_tail, zipD, seqOf, lift] at z ⊢
      exact z
    · rw [List.length_zip]; omega
    · intro p hp
      exact ⟨_, rfl, by simp [run_e, evStep, getV, lift, wipeE, cmpB, cmpD, ltD]⟩
  · obtain ⟨h1, h2⟩ := h.low x hx
    have w : (run prg (n + 9)).c 0 [.int x, .int 0, .int (c - 1)] S = _ := whole_ok (n + 1) x 0 (c - 1) S
    simp [run_e, evStep, evs, getV, lift, wipeE, binD, w, h1, h2]

def ascL (ls : List (List Int)) : Bool := (ls.zip (ls.drop 1)).all fun p => HT.lexLt p.1 p.2
def shpD (c : Int) (ls : List (List Int)) : PyData := .tuple [.int c, .tuple (ls.map rowD)]
structure Shp (c : Int) (ls : List (List Int)) : Prop where
  c1 : 1 ≤ c
  c8 : c ≤ 8
  len : ls.length ≤ 8
  lot : ∀ l ∈ ls, Lot c l
  up : ascL ls = true
theorem intsOf_row (ns : List Int) : intsOf (ns.map .int) = some ns := intsOf_map ns
theorem need_ok (n : Nat) (c : Int) (ls : List (List Int)) (S : Draw) (h : Shp c ls) : (run prg (n + 24)).c 2 [shpD c ls] S = .ok (shpD c ls) S := by
  have hl := h.len
  refine call_ret (n := n + 22) rfl rfl rfl ?_
  have w : (run prg (n + 20)).c 0 [.int c, .int 1, .int 8] S = _ := whole_ok (n + 12) c 1 8 S
  refine (ss_nx (Γ1 := _) (S1 := S) (st_skip (evT_ok ?_))).trans ?_
  · simp [evT, run_e, evStep, evOr, evs, getV, lift, isiD, PyData.isTuple, cmpB, cmpD, shpD, dpt, PyData.depth, PyData.eqv, blt_lenT]
  refine (ss_nx (Γ1 := _) (S1 := S) (st_skip (evT_ok ?_))).trans ?_
  · simp [run_e, evStep, evs, getV, lift, shpD, ixD, atI, ixN, w, h.c1, h.c8]
  refine (ss_nx (Γ1 := _) (S1 := S) (st_skip (evT_ok ?_))).trans ?_
  · simp [evT, run_e, evStep, evOr, evs, getV, lift, isiD, PyData.isTuple, cmpB, cmpD, shpD, ixD, atI, ixN, blt_lenT, ltD]
    omega
  refine (ss_nx (Γ1 := _) (S1 := S) (st_skip (evT_ok (e_not (b := true) ?_)))).trans ?_
  · have k := e_all (P := prg) (n := n + 19) (Γ := [some (shpD c ls), none, none, none]) (S := S) (elt := .call 1 [(.idx (.var 0) (.con (.int 0))), (.var 1)]) (it := .idx (.var 0) (.con (.int 1))) (t := .nm 1) (own := [1]) (xs := ls) (f := rowD) (p := fun _ => true) (by simp [evI, run_e, evStep, getV, lift, shpD, ixD, atI, ixN, itemsOf]) (by omega) (fun l hm => ⟨_, rfl, by
      have q : (run prg (n + 18)).c 1 [.int c, rowD l] S = _ := lot_ok (n + 2) c l S (h.lot l hm)
      simp [run_e, evStep, evs, getV, lift, shpD, ixD, atI, ixN, wipeE, q]⟩)
    rw [show (ls.all fun _ => true) = true by simp] at k
    exact k
  refine (ss_nx (Γ1 := _) (S1 := S) (st_skip (evT_ok (e_not (b := true) ?_)))).trans ?_
  · have k := e_all (P := prg) (n := n + 19) (Γ := [some (shpD c ls), none, none, none]) (S := S) (elt := .cmp .Lt (.var 2) (.var 3)) (it := .zip (.idx (.var 0) (.con (.int 1))) (.sl (.idx (.var 0) (.con (.int 1))) (some (.con (.int 1))) none)) (t := .tp [(.nm 2), (.nm 3)]) (own := [2, 3]) (xs := ls.zip (ls.drop 1)) (f := fun p => .tuple [rowD p.1, rowD p.2]) (p := fun p => HT.lexLt p.1 p.2)
      (by
        have z := zip_tail_map rowD ls
        simp [evI, run_e, evStep, getV, lift, shpD, ixD, atI, ixN, evOpt, slD, cut_tail, zipD, seqOf] at z ⊢
        exact z) (by rw [List.length_zip]; omega) (fun p hm => ⟨_, rfl, by
      simp [run_e, evStep, getV, lift, wipeE, cmpB, cmpD, ltD, rowD, intsOf_map]⟩)
    have u := h.up
    unfold ascL at u
    rw [u] at k
    exact k
  exact ss_ret (st_return rfl)

/-! ### texts -/
def num (i : Int) : Str := Str.ofString (toString i)
theorem ten {P : Int → Prop} (h : ∀ k : Fin 10, P k.val) {i : Int} (h0 : 0 ≤ i) (h9 : i ≤ 9) : P i := by
  have := h ⟨i.toNat, by omega⟩
  simpa [Int.toNat_of_nonneg h0] using this
theorem num_dig {i : Int} (h0 : 0 ≤ i) (h9 : i ≤ 9) : num i = ⟨#[48 + i.toNat]⟩ := ten (P := fun i => num i = ⟨#[48 + i.toNat]⟩) (by decide +kernel) h0 h9
theorem blt_num {i : Int} (h0 : 0 ≤ i) (h9 : i ≤ 9) : bltD .str [.int i] = some (.str (num i)) := by
  have : i.natAbs.log2 < 1920 := ten (P := fun i => i.natAbs.log2 < 1920) (by decide +kernel) h0 h9
  simp only [bltD, if_pos this]
  rfl
def rowT (ns : List Int) : Str := Txt.join " " (ns.map num)
theorem num_len {i : Int} (h0 : 0 ≤ i) (h9 : i ≤ 9) : (num i).length = 1 := by rw [num_dig h0 h9]; rfl
theorem sum_one {α : Type} (g : α → Str) (k : Nat) : ∀ (l : List α), (∀ x ∈ l, (g x).length ≤ k) → ((l.map g).map (·.length)).sum ≤ l.length * k
  | [], _ => by simp
  | x :: r, h => by
    have h1 := sum_one g k r fun y hy => h y (List.mem_cons_of_mem _ hy)
    have h2 := h x List.mem_cons_self
    simp only [List.map_cons, List.sum_cons, List.length_cons]
    rw [Nat.add_mul]
    omega
theorem strsOf_map {α : Type} (g : α → Str) (l : List α) : strsOf (l.map fun x => .str (g x)) = some (l.map g) := by
  induction l with
  | nil => rfl
  | cons x r ih => simp [strsOf, ih]
theorem rowT_len {c : Int} {ns : List Int} (h : Lot c ns) (hc : c ≤ 8) : (rowT ns).length ≤ 16 := by
  unfold rowT
  rw [TL.join_eq]
  refine Nat.le_trans (StrLaws.join_length_le _ _) ?_
  have h1 := sum_one num 1 ns fun x hx => Nat.le_of_eq (num_len (h.low x hx).1 (by have := (h.low x hx).2; omega))
  have h2 := h.len
  have h3 : (" " : Str).length = 1 := by decide +kernel
  rw [h3, List.length_map]
  omega
theorem row_ok (n : Nat) (c : Int) (ns : List Int) (S : Draw) (h : Lot c ns) (hc : c ≤ 8) : (run prg (n + 8)).c 4 [rowD ns] S = .ok (.str (rowT ns)) S := by
  refine call_ret (n := n + 6) rfl rfl rfl ?_
  refine ss_ret (st_return ?_)
  have k := evComp_map (r := run prg (n + 4)) (Γ := [some (rowD ns), none]) (S := S) (elt := .blt .str [(.var 1)]) (it := .var 0) (t := .nm 1) (own := [1]) (xs := ns) (f := .int) (g := fun i => .str (num i)) (by simp [evI, run_e, evStep, getV, lift, rowD, itemsOf]) (by have := h.len; omega) (fun x hx => ⟨_, rfl, by
    have hx' := h.low x hx
    simp [run_e, evStep, evs, getV, wipeE, lift, blt_num hx'.1 (by omega)]⟩)
  have hj : joinLen " " (ns.map num) ≤ 16777216 := by
    unfold joinLen
    have h1 := sum_one num 1 ns fun x hx => Nat.le_of_eq (num_len (h.low x hx).1 (by have := (h.low x hx).2; omega))
    have h2 := h.len
    have h3 : (" " : Str).length = 1 := by decide +kernel
    rw [h3, List.length_map]
    omega
  simp [run_e, evStep, PyData.isStr, k, lift, methD, strsOf_map, hj]
  rfl
def rowsT (c : Int) (ls : List (List Int)) : List Str := num c :: ls.map rowT
def txt (c : Int) (ls : List (List Int)) : Str := Txt.join "\n" (rowsT c ls)
theorem rows_ok (n : Nat) (c : Int) (ls : List (List Int)) (S : Draw) (h : Shp c ls) : (run prg (n + 14)).c 5 [shpD c ls] S = .ok (.list ((rowsT c ls).map .str)) S := by
  refine call_ret (n := n + 12) rfl rfl rfl ?_
  refine ss_ret (st_return ?_)
  have hl := h.len
  have k := evComp_map (r := run prg (n + 10)) (Γ := [some (shpD c ls), none]) (S := S) (elt := .call 4 [(.var 1)]) (it := .idx (.var 0) (.con (.int 1))) (t := .nm 1) (own := [1]) (xs := ls) (f := rowD) (g := fun l => .str (rowT l)) (by simp [evI, run_e, evStep, getV, lift, shpD, ixD, atI, ixN, itemsOf]) (by omega) (fun x hx => ⟨_, rfl, by
    have q : (run prg (n + 9)).c 4 [rowD x] S = _ := row_ok (n + 1) c x S (h.lot x hx) h.c8
    simp [run_e, evStep, evs, getV, wipeE, lift, q]⟩)
  have b := blt_num (i := c) (by have := h.c1; omega) (by have := h.c8; omega)
  have e2 : 1 + ls.length ≤ 16777216 := by omega
  simp [run_e, evStep, evs, getV, lift, shpD, ixD, atI, ixN, b] at k ⊢
  simp [k, binD, e2, rowsT]
theorem text_len {c : Int} {ls : List (List Int)} (h : Shp c ls) : joinLen "\n" (rowsT c ls) ≤ 200 := by
  unfold joinLen rowsT
  have h1 := sum_one rowT 16 ls fun x hx => rowT_len (h.lot x hx) h.c8
  have h2 := h.len
  have h3 : ("\n" : Str).length = 1 := by decide +kernel
  have h4 := num_len (i := c) (by have := h.c1; omega) (by have := h.c8; omega)
  simp only [List.map_cons, List.sum_cons, List.length_cons, List.length_map, h3, h4]
  omega
theorem text_ok (n : Nat) (c : Int) (ls : List (List Int)) (S : Draw) (h : Shp c ls) : (run prg (n + 30)).c 6 [shpD c ls] S = .ok (.str (txt c ls)) S := by
  refine call_ret (n := n + 28) rfl rfl rfl ?_
  refine ss_ret (st_return ?_)
  have q1 : (run prg (n + 25)).c 2 [shpD c ls] S = _ := need_ok (n + 1) c ls S h
  have q2 : (run prg (n + 26)).c 5 [shpD c ls] S = _ := rows_ok (n + 12) c ls S h
  have hj := text_len h
  have hj' : joinLen "\n" (rowsT c ls) ≤ 16777216 := by omega
  have st := strsOf_map (fun x : Str => x) (rowsT c ls)
  simp [run_e, evStep, evs, getV, lift, PyData.isStr, q1, q2, methD]
  rw [show strsOf (List.map PyData.str (rowsT c ls)) = some (rowsT c ls) by simpa using st]
  simp [hj']
  rfl
/-! ### reading -/
theorem int_ok (n : Nat) {i : Int} (h0 : 0 ≤ i) (h9 : i ≤ 9) (S : Draw) : (run prg (n + 12)).c 3 [.str (num i)] S = .ok (.int i) S :=
  ten (P := fun i => (run prg (n + 12)).c 3 [.str (num i)] S = .ok (.int i) S) (fun k => by
    match k with
    | 0 => kernel_rfl | 1 => kernel_rfl | 2 => kernel_rfl | 3 => kernel_rfl | 4 => kernel_rfl | 5 => kernel_rfl | 6 => kernel_rfl | 7 => kernel_rfl | 8 => kernel_rfl | 9 => kernel_rfl) h0 h9
theorem num_free {i : Int} (h0 : 0 ≤ i) (h9 : i ≤ 9) {s : Nat} (hs : s < 48) : s ∉ TL.tl (num i) := by
  rw [num_dig h0 h9]
  simp [TL.tl]
  omega
theorem split_row {c : Int} {ns : List Int} (h : Lot c ns) (hc : c ≤ 8) : Txt.split (rowT ns) " " = ns.map num := by
  refine TL.split_join (s := 32) (S := []) (by decide +kernel) (by decide +kernel) (by simpa using h.ne) fun p hp => ?_
  obtain ⟨x, hx, rfl⟩ := List.mem_map.mp hp
  exact num_free (h.low x hx).1 (by have := (h.low x hx).2; omega) (by decide)
theorem joinL_mem {s : Nat} {x : Nat} : ∀ {ps : List (List Nat)}, x ∈ TL.joinL [s] ps → x = s ∨ ∃ p ∈ ps, x ∈ p
  | [], h => by simp [TL.joinL] at h
  | [p], h => .inr ⟨p, by simp, by simpa [TL.joinL] using h⟩
  | p :: q :: r, h => by
    simp only [TL.joinL, List.mem_append] at h
    rcases h with h | h | h
    · exact .inr ⟨p, by simp, h⟩
    · exact .inl (by simpa using h)
    · rcases joinL_mem h with e | ⟨z, hz, e⟩
      · exact .inl e
      · exact .inr ⟨z, List.mem_cons_of_mem _ hz, e⟩
theorem row_free {c : Int} {ns : List Int} (h : Lot c ns) (hc : c ≤ 8) : 10 ∉ TL.tl (rowT ns) := by
  unfold rowT
  rw [TL.join_eq, TL.tl_join]
  intro hm
  have e : TL.tl (" " : Str) = [32] := by decide +kernel
  rw [e] at hm
  rcases joinL_mem hm with z | ⟨p, hp, hx⟩
  · cases z
  · rw [List.map_map] at hp
    obtain ⟨x, hx', rfl⟩ := List.mem_map.mp hp
    exact num_free (h.low x hx').1 (by have := (h.low x hx').2; omega) (by decide) hx
theorem split_txt {c : Int} {ls : List (List Int)} (h : Shp c ls) : Txt.split (txt c ls) "\n" = rowsT c ls := by
  refine TL.split_join (s := 10) (S := []) (by decide +kernel) (by decide +kernel) (by simp [rowsT]) fun p hp => ?_
  unfold rowsT at hp
  rcases List.mem_cons.mp hp with rfl | hp
  · exact num_free (by have := h.c1; omega) (by have := h.c8; omega) (by decide)
  · obtain ⟨x, hx, rfl⟩ := List.mem_map.mp hp
    exact row_free (h.lot x hx) h.c8
theorem rowof_ok (n : Nat) {c : Int} {ns : List Int} (h : Lot c ns) (hc : c ≤ 8) (S : Draw) : (run prg (n + 20)).c 7 [.str (rowT ns)] S = .ok (rowD ns) S := by
  refine call_ret (n := n + 18) rfl rfl rfl ?_
  refine ss_ret (st_return ?_)
  have hl := h.len
  have hr := rowT_len h hc
  have sp := split_row h hc
  have hb : (" " : Str).length = 1 := by decide +kernel
  have k := evComp_map (r := run prg (n + 16)) (Γ := [some (.str (rowT ns)), none]) (S := S) (elt := .call 3 [(.var 1)]) (it := .meth .split (.var 0) (.glb "BLANK" (.str " "))) (t := .nm 1) (own := [1]) (xs := ns) (f := fun i => .str (num i)) (g := .int) (by
      have hz : (rowT ns).length + 2 ≤ 16777216 := by omega
      simp [evI, run_e, evStep, getV, lift, PyData.isStr, methD, hb, sp, itemsOf, hz, show (rowT ns).length ≤ 16777214 by omega]) (by omega) (fun x hx => ⟨_, rfl, by
    have hx' := h.low x hx
    have q : (run prg (n + 15)).c 3 [.str (num x)] S = _ := int_ok (n + 3) hx'.1 (by omega) S
    simp [run_e, evStep, evs, getV, wipeE, lift, q]⟩)
  simp [run_e, evStep, evs, k, lift, blt_tup, rowD]
/-- the frame of read_shape behind i rows -/
def stR (c : Int) (ls : List (List Int)) (i : Nat) : PD.Env :=
  [some (.str (txt c ls)), some (.list ((rowsT c ls).map .str)), some (.int c), some (.list ((ls.take i).map rowD)), (match i with | 0 => none | k + 1 => some (PyData.int k)), (match i with | 0 => none | k + 1 => some (PyData.str (rowT (ls.getD k []))))]
theorem asc_at {ls : List (List Int)} (h : ascL ls = true) {i : Nat} {x y : List Int} (h1 : ls[i]? = some x) (h2 : ls[i + 1]? = some y) : HT.lexLt x y = true := by
  unfold ascL at h
  rw [List.all_eq_true] at h
  refine h (x, y) (List.mem_iff_getElem?.mpr ⟨i, ?_⟩)
  rw [List.getElem?_zip_eq_some]
  exact ⟨h1, by rw [List.getElem?_drop, Nat.add_comm]; exact h2⟩
theorem read_turn (n : Nat) {c : Int} {ls : List (List Int)} (h : Shp c ls) (S : Draw) (i : Nat) (l : List Int) (hl : ls[i]? = some l) :
    ssStep (run prg (n + 24)) [some (.str (txt c ls)), some (.list ((rowsT c ls).map .str)), some (.int c), some (.list ((ls.take i).map rowD)), some (.int i), some (.str (rowT l))] S [.app 3 (.call 7 [(.var 5)]), .ife (.or [(.cmp .GtE (.var 4) (.glb "MOST_SUMS" (.int 8))), (.not (.call 1 [(.var 2), (.idx (.var 3) (.neg (.con (.int 1))))])), (.and [(.cmp .Gt (.var 4) (.con (.int 0))), (.not (.cmp .Lt (.idx (.var 3) (.neg (.con (.int 2)))) (.idx (.var 3) (.neg (.con (.int 1))))))])]) [.rais] []] =
      .nx (stR c ls (i + 1)) S := by
  have hi := (List.getElem?_eq_some_iff.mp hl).1
  have h8 := h.len
  have hlot := h.lot l (List.mem_of_getElem? hl)
  have q7 : (run prg (n + 23)).c 7 [.str (rowT l)] S = _ := rowof_ok (n + 3) hlot h.c8 S
  have tk : (ls.take (i + 1)) = ls.take i ++ [l] := by rw [List.take_add_one, hl]; rfl
  refine (ss_nx (Γ1 := _) (S1 := S) (st_app (xs := (ls.take i).map rowD) (y := rowD l) rfl (by simp [run_e, evStep, evs, getV, lift, q7]) (by rw [List.length_map, List.length_take]; omega))).trans ?_
  have fin : [some (PyData.str (txt c ls)), some (.list ((rowsT c ls).map .str)), some (.int c), some (.list ((ls.take i).map rowD ++ [rowD l])), some (.int i), some (.str (rowT l))] = stR c ls (i + 1) := by
    unfold stR
    rw [tk, List.map_append]
    simp [List.getD_eq_getElem?_getD, hl]
  have q1 : (run prg (n + 21)).c 1 [.int c, rowD l] S = _ := lot_ok (n + 5) c l S hlot
  refine (ss_nx (Γ1 := _) (S1 := S) (st_skip (evT_ok ?_))).trans (congrArg (fun Γ => Out.nx Γ S) fin)
  have i8 : ¬ (8 : Int) ≤ (i : Int) := by omega
  cases i with
  | zero => simp [-List.map_take, run_e, evStep, evOr, evAnd, evs, getV, lift, cmpB, cmpD, ltD, ixD, atI, ixN, q1]
  | succ k =>
    obtain ⟨x, hx⟩ : ∃ x, ls[k]? = some x := ⟨ls[k]'(by omega), List.getElem?_eq_getElem (by omega)⟩
    have lt := asc_at h.up hx hl
    have tk2 : (ls.take (k + 1)) = ls.take k ++ [x] := by rw [List.take_add_one, hx]; rfl
    have a1 := PD.atI_last ((ls.take (k + 1)).map rowD) (rowD l)
    have a2 : atI ((ls.take (k + 1)).map rowD ++ [rowD l]) (-2) = some (rowD x) := by
      rw [tk2, List.map_append]
      exact PD.atI_last2 ((ls.take k).map rowD) (rowD x) (rowD l)
    have i9 : ¬ (8 : Int) ≤ (k : Int) + 1 := by omega
    have k0 : (0 : Int) < (k : Int) + 1 := by omega
    simp [-List.map_take, run_e, evStep, evOr, evAnd, evs, getV, lift, cmpB, cmpD, ltD, ixD, a1, a2, q1, i9, k0]
    simp [rowD, intsOf_map, lt]
theorem read_ok (n : Nat) {c : Int} {ls : List (List Int)} (h : Shp c ls) (S : Draw) : (run prg (n + 30)).c 8 [.str (txt c ls)] S = .ok (shpD c ls) S := by
  have h8 := h.len
  have c1 := h.c1
  have c8 := h.c8
  have sp := split_txt h
  have hb : ("\n" : Str).length = 1 := by decide +kernel
  have tl : (txt c ls).length ≤ 200 := by
    unfold txt
    rw [TL.join_eq]
    exact Nat.le_trans (StrLaws.join_length_le _ _) (text_len h)
  refine call_ret (n := n + 28) rfl rfl rfl ?_
  refine (ss_nx (Γ1 := _) (S1 := S) (st_skip (evT_ok ?_))).trans ?_
  · simp [run_e, evStep, getV, lift, isiD, PyData.isStr]
  refine (ss_nx (Γ1 := _) (S1 := S) (st_asg (d := .list ((rowsT c ls).map .str)) ?_)).trans ?_
  · simp [run_e, evStep, getV, lift, PyData.isStr, methD, hb, sp, show (txt c ls).length ≤ 16777214 by omega]
  have q3 : (run prg (n + 27)).c 3 [.str (num c)] S = _ := int_ok (n + 15) (by omega) (by omega) S
  refine (ss_nx (Γ1 := stR c ls 0) (S1 := S) (st_par (xs := [.int c, .list []]) ?_ ?_)).trans ?_
  · simp [run_e, evStep, evs, getV, lift, ixD, atI, ixN, rowsT, q3]
  · rfl
  have q0 : (run prg (n + 26)).c 0 [.int c, .int 1, .int 8] S = _ := whole_ok (n + 18) c 1 8 S
  refine (ss_nx (Γ1 := stR c ls 0) (S1 := S) (st_skip (evT_ok ?_))).trans ?_
  · simp [stR, run_e, evStep, evs, getV, lift, q0, c1, c8]
  refine (ss_nx (Γ1 := stR c ls ls.length) (S1 := S) (st_for (xs := (ls.map fun l => PyData.str (rowT l)).zipIdx.map fun p => .tuple [.int p.2, p.1]) (S0 := S) ?_ ?_)).trans ?_
  · simp [stR, evI, run_e, evStep, evs, getV, evOpt, lift, slD, cut_tail, rowsT, enmD, seqOf]
    rfl
  · have k := forL_to (t := .tp [(.nm 4), (.nm 5)]) (body := fun Γ S => (run prg (n + 28)).s Γ S [.app 3 (.call 7 [(.var 5)]), .ife (.or [(.cmp .GtE (.var 4) (.glb "MOST_SUMS" (.int 8))), (.not (.call 1 [(.var 2), (.idx (.var 3) (.neg (.con (.int 1))))])), (.and [(.cmp .Gt (.var 4) (.con (.int 0))), (.not (.cmp .Lt (.idx (.var 3) (.neg (.con (.int 2)))) (.idx (.var 3) (.neg (.con (.int 1))))))])]) [.rais] []])
      (fun i => (stR c ls i, S)) ((ls.map fun l => PyData.str (rowT l)).zipIdx.map fun p => .tuple [.int p.2, p.1]) 0 fun i x hx => ?_
    · simpa using k
    · rw [List.getElem?_map, List.getElem?_zipIdx, Option.map_map, Option.map_eq_some_iff] at hx
      obtain ⟨y, hy, rfl⟩ := hx
      rw [List.getElem?_map, Option.map_eq_some_iff] at hy
      obtain ⟨l, hl, rfl⟩ := hy
      rw [Nat.zero_add]
      refine ⟨[some (.str (txt c ls)), some (.list ((rowsT c ls).map .str)), some (.int c), some (.list ((ls.take i).map rowD)), some (.int i), some (.str (rowT l))], ?_, .inl ?_⟩
      · simp [stR, bindT, bindTs]
      · exact read_turn (n + 3) h S i l hl
  · refine ss_ret (st_return ?_)
    simp [stR, run_e, evStep, evs, getV, lift, blt_tup, shpD]
end K88
namespace K88
open PySem PD L2
/-! ### the law's own look -/
theorem smlAll_map {α : Type} (f : α → PyData) : ∀ (xs : List α), (∀ x ∈ xs, sml (f x) = true) → smlAll (xs.map f) = true
  | [], _ => rfl
  | x :: r, h => by
    show (sml (f x) && smlAll (r.map f)) = true
    rw [h x List.mem_cons_self, smlAll_map f r fun y hy => h y (List.mem_cons_of_mem _ hy)]
    rfl
theorem wtAll_map {α : Type} (f : α → PyData) (k : Nat) : ∀ (xs : List α), (∀ x ∈ xs, wt (f x) ≤ k) → wtAll (xs.map f) ≤ xs.length * (k + 2)
  | [], _ => by simp [wtAll]
  | x :: r, h => by
    have h1 := wtAll_map f k r fun y hy => h y (List.mem_cons_of_mem _ hy)
    have h2 := h x List.mem_cons_self
    show wt (f x) + 2 + wtAll (r.map f) ≤ (r.length + 1) * (k + 2)
    rw [Nat.add_mul]
    omega
theorem depthAll_map {α : Type} (f : α → PyData) (k : Nat) : ∀ (xs : List α), (∀ x ∈ xs, (f x).depth ≤ k) → PyData.depthAll (xs.map f) ≤ k
  | [], _ => by simp [PyData.depthAll]
  | x :: r, h => by
    have h1 := depthAll_map f k r fun y hy => h y (List.mem_cons_of_mem _ hy)
    have h2 := h x List.mem_cons_self
    show PyData.depthAll (f x :: r.map f) ≤ k
    simp only [PyData.depthAll]
    omega
theorem row_sml {c : Int} {ns : List Int} (h : Lot c ns) (hc : c ≤ 8) : sml (rowD ns) = true ∧ wt (rowD ns) ≤ 195 ∧ (rowD ns).depth ≤ 5 := by
  refine ⟨smlAll_map _ _ fun x hx => decide_eq_true ?_, ?_, ?_⟩
  · have := h.low x hx
    omega
  · have := wtAll_map PyData.int 22 ns fun _ _ => Nat.le_refl _
    have h8 := h.len
    show 3 + wtAll (ns.map .int) ≤ 195
    omega
  · have := depthAll_map PyData.int 2 ns fun _ _ => by simp [PyData.depth]
    simp only [rowD, PyData.depth]
    omega
theorem shp_sml {c : Int} {ls : List (List Int)} (h : Shp c ls) : sml (shpD c ls) = true ∧ wt (shpD c ls) ≤ 1700 ∧ (shpD c ls).depth ≤ 10 := by
  have c1 := h.c1
  have c8 := h.c8
  have h8 := h.len
  have a := smlAll_map rowD ls fun x hx => (row_sml (h.lot x hx) c8).1
  have b := wtAll_map rowD 195 ls fun x hx => (row_sml (h.lot x hx) c8).2.1
  have d := depthAll_map rowD 5 ls fun x hx => (row_sml (h.lot x hx) c8).2.2
  refine ⟨?_, ?_, ?_⟩
  · simp only [shpD, sml, smlAll, a, Bool.and_true]
    exact decide_eq_true (by omega)
  · simp only [shpD, wt, wtAll]
    omega
  · simp only [shpD, PyData.depth, PyData.depthAll]
    omega
theorem txt_char {c : Int} {ls : List (List Int)} (h : Shp c ls) : sml (.str (txt c ls)) = true := by
  have dig : ∀ i : Int, 0 ≤ i → i ≤ 9 → ∀ x ∈ TL.tl (num i), x < 256 := fun i h0 h9 x hx => by
    rw [num_dig h0 h9] at hx
    simp [TL.tl] at hx
    omega
  show ((txt c ls).cps.toList.all fun c => decide (c < 16 ^ 8)) = true
  rw [List.all_eq_true]
  intro x hx
  refine decide_eq_true (Nat.lt_trans (m := 256) ?_ (by decide))
  have hx : x ∈ TL.tl (txt c ls) := hx
  unfold txt at hx
  rw [TL.join_eq, TL.tl_join] at hx
  have e : TL.tl ("\n" : Str) = [10] := by decide +kernel
  rw [e] at hx
  rcases joinL_mem hx with z | ⟨p, hp, hx⟩
  · omega
  · obtain ⟨y, hy, rfl⟩ := List.mem_map.mp hp
    unfold rowsT at hy
    rcases List.mem_cons.mp hy with rfl | hy
    · exact dig c (by have := h.c1; omega) (by have := h.c8; omega) x hx
    · obtain ⟨l, hl, rfl⟩ := List.mem_map.mp hy
      unfold rowT at hx
      rw [TL.join_eq, TL.tl_join] at hx
      have e : TL.tl (" " : Str) = [32] := by decide +kernel
      rw [e] at hx
      rcases joinL_mem hx with z | ⟨p, hp, hx⟩
      · omega
      · obtain ⟨y, hy, rfl⟩ := List.mem_map.mp hp
        obtain ⟨i, hi, rfl⟩ := List.mem_map.mp hy
        have := (h.lot l hl).low i hi
        exact dig i this.1 (by have := h.c8; omega) x hx
theorem txt_len {c : Int} {ls : List (List Int)} (h : Shp c ls) : (txt c ls).length ≤ 200 := by
  unfold txt
  rw [TL.join_eq]
  exact Nat.le_trans (StrLaws.join_length_le _ _) (text_len h)
theorem right_ok (n : Nat) {c : Int} {ls : List (List Int)} (h : Shp c ls) (S : Draw) : (run prg (n + 40)).c 12 [shpD c ls] S = .ok (.bool true) S := by
  have c1 := h.c1
  have c8 := h.c8
  have h8 := h.len
  refine call_ret (n := n + 38) rfl rfl rfl ?_
  refine (ss_nx (Γ1 := _) (S1 := S) (st_asg (d := .list ((rowsT c ls).map .str)) ?_)).trans ?_
  · have k := evComp_map (r := run prg (n + 36)) (Γ := [some (shpD c ls), none, none, none, none, none]) (S := S) (elt := .meth .join (.con (.str " ")) (.comp (.blt .str [(.var 5)]) (.nm 5) (.var 4) [] [5])) (it := .idx (.var 0) (.con (.int 1))) (t := .nm 4) (own := [4]) (xs := ls) (f := rowD) (g := fun l => .str (rowT l)) (by simp [evI, run_e, evStep, getV, lift, shpD, ixD, atI, ixN, itemsOf]) (by omega) (fun l hl => ⟨_, rfl, by
      have hl' := h.lot l hl
      have k2 := evComp_map (r := run prg (n + 34)) (Γ := [some (shpD c ls), none, none, none, some (rowD l), none]) (S := S) (elt := .blt .str [(.var 5)]) (it := .var 4) (t := .nm 5) (own := [5]) (xs := l) (f := .int) (g := fun i => .str (num i)) (by simp [evI, run_e, evStep, getV, lift, rowD, itemsOf]) (by have := hl'.len; omega) (fun x hx => ⟨_, rfl, by
        have hx' := hl'.low x hx
        simp [run_e, evStep, evs, getV, wipeE, lift, blt_num hx'.1 (by omega)]⟩)
      have hj : joinLen " " (l.map num) ≤ 16777216 := by
        unfold joinLen
        have h1 := sum_one num 1 l fun x hx => Nat.le_of_eq (num_len (hl'.low x hx).1 (by have := (hl'.low x hx).2; omega))
        have h2 := hl'.len
        have h3 : (" " : Str).length = 1 := by decide +kernel
        rw [h3, List.length_map]
        omega
      simp [run_e, evStep, wipeE, PyData.isStr, k2, lift, methD, strsOf_map, hj]
      rfl⟩)
    have b := blt_num (i := c) (by omega) (by omega)
    have e2 : 1 + ls.length ≤ 16777216 := by omega
    simp [run_e, evStep, evs, getV, lift, shpD, ixD, atI, ixN, b] at k ⊢
    simp [k, binD, e2, rowsT]
  refine (ss_nx (Γ1 := _) (S1 := S) (st_asg (d := .str (txt c ls)) ?_)).trans ?_
  · have hj := text_len h
    have hj' : joinLen "\n" (rowsT c ls) ≤ 16777216 := by omega
    have st := strsOf_map (fun x : Str => x) (rowsT c ls)
    simp [run_e, evStep, getV, lift, PyData.isStr, methD]
    rw [show strsOf (List.map PyData.str (rowsT c ls)) = some (rowsT c ls) by simpa using st]
    simp [hj']
    rfl
  refine (ss_nx (Γ1 := _) (S1 := S) (st_asg (d := .list [.str (txt c ls), shpD c ls, .str (txt c ls), shpD c ls]) ?_)).trans ?_
  · have q6 : (run prg (n + 36)).c 6 [shpD c ls] S = _ := text_ok (n + 6) c ls S h
    have q8 : (run prg (n + 36)).c 8 [.str (txt c ls)] S = _ := read_ok (n + 6) h S
    simp [run_e, evStep, evs, getV, lift, q6, q8]
  refine ss_ret (st_return ?_)
  obtain ⟨s1, s2, s3⟩ := shp_sml h
  have t1 := txt_char h
  have t2 := txt_len h
  have rp := blt_repr (d := .list [.str (txt c ls), shpD c ls, .str (txt c ls), shpD c ls]) (by simp [sml, smlAll] at t1 ⊢; simp [t1, s1]) (by simp only [wt, wtAll]; omega) (by simp only [PyData.depth, PyData.depthAll]; omega)
  simp [run_e, evStep, evs, getV, lift, rp, binD, cmpB, cmpD, dpt, PyData.depth, PyData.eqv]
end K88
namespace K88
open PySem PD L2
/-! ### what is drawn -/
theorem next_ok (n : Nat) {S : Draw} {t : Int} (hc : S.cells ≠ []) (h0 : 0 < t) (h1 : t < 1073741824) : ∃ i S', (run prg (n + 1)).c 9 [hndD, .int t] S = .ok (.int i) S' ∧ 0 ≤ i ∧ i < t ∧ S'.cells ≠ [] := by
  obtain ⟨i, S', e, k1, k2, k3⟩ := drawD hc h0 h1
  refine ⟨i, S', ?_, k1, k2, by rw [k3]; exact hc⟩
  show (match zRun zD 4 S t with | some (i, S') => Res.ok (PyData.int i) S' | none => .bad) = _
  rw [e]
theorem asc_pw : ∀ {ns : List Int}, ns.Pairwise (· < ·) → asc ns = true
  | [], _ => rfl
  | [_], _ => rfl
  | a :: b :: r, h => by
    have h1 := (List.pairwise_cons.mp h).1 b List.mem_cons_self
    have h2 := asc_pw (List.pairwise_cons.mp h).2
    unfold asc at h2 ⊢
    simp only [List.drop_succ_cons, List.drop_zero, List.zip_cons_cons, List.all_cons, decide_eq_true h1, Bool.true_and] at h2 ⊢
    exact h2
theorem cmpL_sub {body : PyData → Draw → Res (List PyData)} (hb : ∀ (x : Int) (S : Draw), S.cells ≠ [] → ∃ (b : Bool) (S' : Draw), body (.int x) S = .ok (if b then [.int x] else []) S' ∧ S'.cells ≠ []) : ∀ (xs : List Int) (S : Draw), S.cells ≠ [] → ∃ (ys : List Int) (S' : Draw), cmpL body (xs.map .int) S = .ok (ys.map .int) S' ∧ ys.Sublist xs ∧ S'.cells ≠ []
  | [], S, h => ⟨[], S, rfl, .slnil, h⟩
  | x :: xs, S, h => by
    obtain ⟨b, S1, e, k⟩ := hb x S h
    obtain ⟨ys, S', e2, sb, k4⟩ := cmpL_sub hb xs S1 k
    cases b with
    | true => exact ⟨x :: ys, S', by rw [List.map_cons]; unfold cmpL; rw [e, Res.bind_ok, e2]; rfl, sb.cons₂ x, k4⟩
    | false => exact ⟨ys, S', by rw [List.map_cons]; unfold cmpL; rw [e, Res.bind_ok, e2]; rfl, sb.cons x, k4⟩
theorem evComp_sub {r : Fns} {Γ : PD.Env} {elt it c : Ex} {t : Tg} {own : List Nat} {S S0 : Draw} {xs : List Int} (hI : evI r Γ S it = .ok (xs.map .int) S0) (hl : xs.length ≤ 16777216) (h0 : S0.cells ≠ [])
    (hb : ∀ (x : Int) (S : Draw), S.cells ≠ [] → ∃ (b : Bool) (S' : Draw) (Γ' : PD.Env), bindT t (.int x) (wipeE Γ own) = some Γ' ∧ r.e Γ' S c = .ok (.bool b) S' ∧ r.e Γ' S' elt = .ok (.int x) S' ∧ S'.cells ≠ []) :
    ∃ (ys : List Int) (S' : Draw), evComp r Γ elt t it [c] own S = .ok (ys.map .int) S' ∧ ys.Sublist xs ∧ S'.cells ≠ [] := by
  have key : ∀ body : PyData → Draw → Res (List PyData), (∀ (x : Int) (S : Draw), S.cells ≠ [] → ∃ (b : Bool) (S' : Draw), body (.int x) S = .ok (if b then [.int x] else []) S' ∧ S'.cells ≠ []) → ∃ (ys : List Int) (S' : Draw), few (noexc (cmpL body (xs.map .int) S0)) = .ok (ys.map .int) S' ∧ ys.Sublist xs ∧ S'.cells ≠ [] := fun body hb => by
    obtain ⟨ys, S', e, sb, k⟩ := cmpL_sub hb xs S0 h0
    refine ⟨ys, S', ?_, sb, k⟩
    rw [e]
    exact few_ok' (by rw [List.length_map]; have := sb.length_le; omega)
  unfold evComp
  rw [hI, Res.bind_ok]
  refine key _ fun x S h => ?_
  obtain ⟨b, S', Γ', k1, k2, k3, k4⟩ := hb x S h
  refine ⟨b, S', ?_, k4⟩
  simp only [k1, evTs, evT, k2, toB_ok, Res.bind_ok]
  cases b <;> simp [k3]
def upTo (t : Int) : List Int := (List.range t.toNat).map fun (i : Nat) => (i : Int)
theorem upTo_rng (t : Int) : rngL 0 t.toNat = (upTo t).map PyData.int := by
  unfold rngL upTo
  rw [List.map_map]
  refine List.map_congr_left fun i _ => ?_
  simp
theorem upTo_pw (t : Int) : (upTo t).Pairwise (· < ·) := by
  unfold upTo
  rw [List.pairwise_map]
  exact (List.pairwise_lt_range).imp fun h => by omega
theorem upTo_mem {t i : Int} (h : i ∈ upTo t) : 0 ≤ i ∧ i ≤ t - 1 := by
  unfold upTo at h
  obtain ⟨k, hk, rfl⟩ := List.mem_map.mp h
  have := List.mem_range.mp hk
  omega
theorem lot_drawn (n : Nat) {t : Int} {S : Draw} (hc : S.cells ≠ []) (h0 : 1 ≤ t) (h8 : t ≤ 8) : ∃ (ns : List Int) (S' : Draw), (run prg (n + 12)).c 10 [hndD, .int t] S = .ok (rowD ns) S' ∧ Lot t ns ∧ S'.cells ≠ [] := by
  have okt : okI t = true := decide_eq_true (by omega)
  have hI : evI (run prg (n + 8)) [some hndD, some (.int t), none, none] S (.rng [(.var 1)]) = .ok ((upTo t).map .int) S := by
    simp [evI, run_e, evStep, evs, getV, lift, rngD, okt, upTo_rng]
  obtain ⟨ys, S1, comp, sb, k1⟩ := evComp_sub (elt := .var 3) (t := .nm 3) (own := [3]) (c := .cmp .Eq (.call 9 [(.var 0), (.con (.int 2))]) (.con (.int 0))) hI (by simp [upTo]; omega) hc (fun x S h => by
    obtain ⟨i, S1, e, k1, k2, k3⟩ := next_ok (n + 5) (S := S) (t := 2) h (by decide) (by decide)
    have e' : (run prg (n + 6)).c 9 [hndD, .int 2] S = .ok (.int i) S1 := e
    refine ⟨decide (i = 0), S1, _, rfl, ?_, ?_, k3⟩
    · by_cases hi : i = 0
      · simp [wipeE, run_e, evStep, evs, getV, lift, e', cmpB, cmpD, dpt, PyData.depth, PyData.eqv, hi]
      · simp [wipeE, run_e, evStep, evs, getV, lift, e', cmpB, cmpD, dpt, PyData.depth, PyData.eqv, hi]
    · simp [wipeE, run_e, evStep, getV])
  have len : ys.length ≤ 8 := by
    have := sb.length_le
    have h2 : (upTo t).length = t.toNat := by simp [upTo]
    omega
  cases ys with
  | cons a r =>
    refine ⟨a :: r, S1, ?_, ⟨by simp, fun i hi => upTo_mem (sb.subset hi), asc_pw ((upTo_pw t).sublist sb), len⟩, k1⟩
    refine call_ret (n := n + 10) rfl rfl rfl ?_
    refine (ss_nx (Γ1 := _) (S1 := S1) (st_asg (d := rowD (a :: r)) ?_)).trans (ss_ret (st_return ?_))
    · simp [run_e, evStep, evs, comp, lift, blt_tup, rowD]
    · simp [evT, run_e, evStep, evs, getV, lift, cmpB, cmpD, dpt, PyData.depth, PyData.depthAll, rowD, PyData.eqv, PyData.eqvAll]
  | nil =>
    obtain ⟨i, S2, e, k2, k3, k4⟩ := next_ok (n + 6) (S := S1) (t := t) k1 (by omega) (by omega)
    have e' : (run prg (n + 7)).c 9 [hndD, .int t] S1 = .ok (.int i) S2 := e
    refine ⟨[i], S2, ?_, ⟨by simp, fun j hj => by simp at hj; omega, rfl, by simp⟩, k4⟩
    refine call_ret (n := n + 10) rfl rfl rfl ?_
    refine (ss_nx (Γ1 := _) (S1 := S1) (st_asg (d := .tuple []) ?_)).trans (ss_ret (st_return ?_))
    · simp [run_e, evStep, evs, comp, lift, blt_tup]
    · simp [evT, run_e, evStep, evs, getV, lift, cmpB, cmpD, dpt, PyData.depth, PyData.depthAll, rowD, PyData.eqv, PyData.eqvAll, e']
end K88
namespace K88
open PySem PD L2
theorem forL_ex {t : Tg} {body : PD.Env → Draw → Out} (I : Nat → PD.Env → Draw → Prop) (N : Nat) : ∀ (xs : List PyData) (k : Nat) (Γ : PD.Env) (S : Draw), k + xs.length ≤ N → (∀ i x Γ S, i < N → x ∈ xs → I i Γ S → ∃ Γ' Γ2 S2, bindT t x Γ = some Γ' ∧ body Γ' S = .nx Γ2 S2 ∧ I (i + 1) Γ2 S2) → I k Γ S → ∃ Γ2 S2, forL t body xs Γ S = .nx Γ2 S2 ∧ I (k + xs.length) Γ2 S2
  | [], k, Γ, S, _, _, h => ⟨Γ, S, rfl, h⟩
  | x :: xs, k, Γ, S, hN, hb, h => by
    rw [List.length_cons] at hN
    obtain ⟨Γ', Γ2, S2, h1, h2, h3⟩ := hb k x Γ S (by omega) List.mem_cons_self h
    obtain ⟨Γ3, S3, h4, h5⟩ := forL_ex I N xs (k + 1) Γ2 S2 (by omega) (fun i y Γ S hi hy => hb i y Γ S hi (List.mem_cons_of_mem _ hy)) h3
    refine ⟨Γ3, S3, ?_, by rw [List.length_cons, show k + (xs.length + 1) = k + 1 + xs.length by omega]; exact h5⟩
    unfold forL
    rw [h1]
    dsimp only
    rw [h2]
    exact h4
theorem shape_drawn (n : Nat) {m s : Int} {S : Draw} (hc : S.cells ≠ []) (m1 : 1 ≤ m) (m8 : m ≤ 8) (s0 : 0 ≤ s) (s8 : s ≤ 8) : ∃ (c : Int) (ls : List (List Int)) (S' : Draw), (run prg (n + 20)).c 11 [hndD, .int m, .int s] S = .ok (shpD c ls) S' ∧ Shp c ls ∧ S'.cells ≠ [] := by
  obtain ⟨i, S1, e1, k1, k2, k3⟩ := next_ok (n + 15) (S := S) (t := m) hc (by omega) (by omega)
  have e1' : (run prg (n + 16)).c 9 [hndD, .int m] S = .ok (.int i) S1 := e1
  obtain ⟨j, S2, e2, k4, k5, k6⟩ := next_ok (n + 16) (S := S1) (t := s + 1) k3 (by omega) (by omega)
  have e2' : (run prg (n + 17)).c 9 [hndD, .int (s + 1)] S1 = .ok (.int j) S2 := e2
  have okj : okI j = true := decide_eq_true (by omega)
  obtain ⟨Γ3, S3, e3, k7, ls, a, b, rfl, k8, k9, k10⟩ := forL_ex (t := .nm 5) (body := fun Γ S => (run prg (n + 18)).s Γ S [.asg (.nm 6) (.call 10 [(.var 0), (.var 3)]), .asg (.nm 4) (.bin .Add (.var 4) (.bin .Mult (.lst [(.var 6)]) (.blt .int [(.cmp .NotIn (.var 6) (.var 4))])))])
    (fun q Γ S => S.cells ≠ [] ∧ ∃ (ls : List (List Int)) (a b : Option PyData), Γ = [some hndD, some (.int m), some (.int s), some (.int (1 + i)), some (.list (ls.map rowD)), a, b] ∧ ls.length ≤ q ∧ ls.Nodup ∧ ∀ l ∈ ls, Lot (1 + i) l) 63
    ((upTo j).map .int) 0 [some hndD, some (.int m), some (.int s), some (.int (1 + i)), some (.list []), none, none] S2 (by simp [upTo]; omega) (fun q x Γ S hq hx hI => by
      obtain ⟨hS, ls, a, b, rfl, h1, h2, h3⟩ := hI
      obtain ⟨l, S4, e4, hl, h4⟩ := lot_drawn (n + 4) (t := 1 + i) hS (by omega) (by omega)
      have e4' : (run prg (n + 16)).c 10 [hndD, .int (1 + i)] S = .ok (rowD l) S4 := e4
      have ir := in_rows l ls
      have big : ls.length ≤ 16777216 := by omega
      have big1 : ls.length + 1 ≤ 16777216 := by omega
      by_cases hm : l ∈ ls
      · refine ⟨_, [some hndD, some (.int m), some (.int s), some (.int (1 + i)), some (.list (ls.map rowD)), some x, some (rowD l)], S4, rfl, ?_, h4, ls, some x, some (rowD l), rfl, by omega, h2, h3⟩
        refine (ss_nx (Γ1 := _) (S1 := S4) (st_asg (d := rowD l) ?_)).trans ((ss_nx (Γ1 := _) (S1 := S4) (st_asg (d := .list (ls.map rowD)) ?_)).trans rfl)
        · simp [run_e, evStep, evs, getV, lift, e4']
        · simp [run_e, evStep, evs, getV, lift, cmpB, cmpD, ir, hm, bltD, binD, big]
      · refine ⟨_, [some hndD, some (.int m), some (.int s), some (.int (1 + i)), some (.list ((ls ++ [l]).map rowD)), some x, some (rowD l)], S4, rfl, ?_, h4, ls ++ [l], some x, some (rowD l), rfl, by simp; omega, ?_, ?_⟩
        · refine (ss_nx (Γ1 := _) (S1 := S4) (st_asg (d := rowD l) ?_)).trans ((ss_nx (Γ1 := _) (S1 := S4) (st_asg (d := .list ((ls ++ [l]).map rowD)) ?_)).trans rfl)
          · simp [run_e, evStep, evs, getV, lift, e4']
          · simp [run_e, evStep, evs, getV, lift, cmpB, cmpD, ir, hm, bltD, binD, big1]
        · rw [List.nodup_append]
          exact ⟨h2, by simp, fun y hy z hz => by simp at hz; rintro rfl; exact hm (hz ▸ hy)⟩
        · intro y hy
          rcases List.mem_append.mp hy with hy | hy
          · exact h3 y hy
          · simp at hy; exact hy ▸ hl) ⟨k6, [], none, none, rfl, Nat.le_refl _, by simp, by simp⟩
  have len : (upTo j).length = j.toNat := by simp [upTo]
  have hlen : ls.length ≤ 8 := by rw [List.length_map, len] at k8; omega
  have perm := List.mergeSort_perm ls leB
  refine ⟨1 + i, ls.mergeSort leB, S3, ?_, ⟨by omega, by omega, by rw [perm.length_eq]; exact hlen, fun l hl => k10 l (perm.mem_iff.mp hl), sort_up k9⟩, k7⟩
  refine call_ret (n := n + 18) rfl rfl rfl ?_
  refine (ss_nx (Γ1 := [some hndD, some (.int m), some (.int s), some (.int (1 + i)), some (.list []), none, none]) (S1 := S1) (st_par (xs := [.int (1 + i), .list []]) ?_ rfl)).trans ?_
  · simp [run_e, evStep, evs, getV, lift, e1', binD]
  refine (ss_nx (Γ1 := _) (S1 := S3) (st_for (xs := (upTo j).map .int) (S0 := S2) ?_ e3)).trans ?_
  · simp [evI, run_e, evStep, evs, getV, lift, binD, e2', rngD, okj, upTo_rng]
  refine ss_ret (st_return ?_)
  have sr := sort_rows (ls := ls) (fun l hl => (k10 l hl).ne) (by omega)
  simp [run_e, evStep, evs, getV, lift, sr, blt_tup, shpD]
end K88
namespace K88
open PySem PD L2
theorem eqv_rows : ∀ (a b : List (List Int)), PyData.eqvAll (a.map rowD) (b.map rowD) = decide (a = b)
  | [], [] => by simp [PyData.eqvAll]
  | [], _ :: _ => by simp [PyData.eqvAll]
  | _ :: _, [] => by simp [PyData.eqvAll]
  | x :: xs, y :: ys => by
    simp only [List.map_cons, PyData.eqvAll, PyData.eqv, rowD, eqv_row]
    rw [eqv_rows xs ys]
    by_cases h : x = y <;> simp [h]
theorem eqv_shp (c d : Int) (a b : List (List Int)) : PyData.eqv (shpD c a) (shpD d b) = (decide (c = d) && decide (a = b)) := by
  simp only [shpD, PyData.eqv, PyData.eqvAll, eqv_rows, Bool.and_true]
  by_cases h : c = d <;> simp [h]
theorem shp_inj {c d : Int} {a b : List (List Int)} (h : shpD c a = shpD d b) : c = d ∧ a = b := by
  have e := eqv_shp c d a b
  have e2 := eqv_shp d d b b
  rw [h, e2] at e
  simp at e
  exact ⟨e.1, e.2⟩
theorem txt_inj {c d : Int} {a b : List (List Int)} (h1 : Shp c a) (h2 : Shp d b) (h : txt c a = txt d b) : c = d ∧ a = b := by
  have r1 := read_ok 0 h1 ⟨[], [], 0, 0⟩
  have r2 := read_ok 0 h2 ⟨[], [], 0, 0⟩
  rw [h, r2] at r1
  injection r1 with e
  obtain ⟨z1, z2⟩ := shp_inj e
  exact ⟨z1.symm, z2.symm⟩
def lotB (c : Int) (ns : List Int) : Bool := !ns.isEmpty && (ns.all fun i => decide (0 ≤ i ∧ i ≤ c - 1)) && asc ns && decide (ns.length ≤ 8)
def shpB (c : Int) (ls : List (List Int)) : Bool := decide (1 ≤ c) && decide (c ≤ 8) && decide (ls.length ≤ 8) && (ls.all fun l => lotB c l) && ascL ls
theorem shp_of {c : Int} {ls : List (List Int)} (h : shpB c ls = true) : Shp c ls := by
  unfold shpB at h
  simp only [Bool.and_eq_true, decide_eq_true_eq, List.all_eq_true] at h
  obtain ⟨⟨⟨⟨h1, h2⟩, h3⟩, h4⟩, h5⟩ := h
  refine ⟨h1, h2, h3, fun l hl => ?_, h5⟩
  have k := h4 l hl
  unfold lotB at k
  simp only [Bool.and_eq_true, decide_eq_true_eq, List.all_eq_true] at k
  obtain ⟨⟨⟨k1, k2⟩, k3⟩, k4⟩ := k
  exact ⟨(by rintro rfl; cases k1), k2, k3, k4⟩
def hands5 : List (Int × List (List Int)) := [(1, []), (8, []), (1, [[0]]), (8, [[0, 1, 2, 3, 4, 5, 6, 7]]), (8, [[0], [1], [2], [3], [4], [5], [6], [7]])]
def hand6 : Int × List (List Int) := (8, [[0], [0, 1], [0, 1, 2], [0, 1, 2, 3], [0, 1, 2, 3, 4], [0, 1, 2, 3, 4, 5], [0, 1, 2, 3, 4, 5, 6], [0, 1, 2, 3, 4, 5, 6, 7]])
def hD (p : Int × List (List Int)) : PyData := shpD p.1 p.2
theorem hands_ok : ∀ p ∈ hands5 ++ [hand6], Shp p.1 p.2 := fun p hp => shp_of ((List.all_eq_true.mp (show ((hands5 ++ [hand6]).all fun p => shpB p.1 p.2) = true by decide +kernel)) p hp)
def lap : List Sx := [.par [3, 4] [(.call 11 [(.var 1), (.con (.int 8)), (.con (.int 8))]), (.call 11 [(.var 1), (.con (.int 3)), (.con (.int 2))])], .ife (.or [(.not (.call 12 [(.var 3)])), (.not (.call 12 [(.var 4)]))]) [.ret (.con (.bool false))] [], .ife (.cmp .NotEq (.cmp .Eq (.call 6 [(.var 3)]) (.call 6 [(.var 4)])) (.cmp .Eq (.var 3) (.var 4))) [.ret (.con (.bool false))] []]
theorem lap_ok (n : Nat) (sc : PyData) (a b c : Option PyData) {S : Draw} (hc : S.cells ≠ []) : ∃ (b' c' : Option PyData) (S' : Draw), ssStep (run prg (n + 50)) [some sc, some hndD, a, b, c, none, none, none] S lap = .nx [some sc, some hndD, a, b', c', none, none, none] S' ∧ S'.cells ≠ [] := by
  obtain ⟨c1, l1, S1, e1, h1, k1⟩ := shape_drawn (n + 29) (m := 8) (s := 8) hc (by decide) (by decide) (by decide) (by decide)
  have e1' : (run prg (n + 49)).c 11 [hndD, .int 8, .int 8] S = .ok (shpD c1 l1) S1 := e1
  obtain ⟨c2, l2, S2, e2, h2, k2⟩ := shape_drawn (n + 29) (m := 3) (s := 2) k1 (by decide) (by decide) (by decide) (by decide)
  have e2' : (run prg (n + 49)).c 11 [hndD, .int 3, .int 2] S1 = .ok (shpD c2 l2) S2 := e2
  refine ⟨some (shpD c1 l1), some (shpD c2 l2), S2, ?_, k2⟩
  unfold lap
  refine (ss_nx (Γ1 := [some sc, some hndD, a, some (shpD c1 l1), some (shpD c2 l2), none, none, none]) (S1 := S2) (st_par (xs := [shpD c1 l1, shpD c2 l2]) ?_ rfl)).trans ?_
  · simp [run_e, evStep, evs, getV, lift, e1', e2']
  have r1 : (run prg (n + 47)).c 12 [shpD c1 l1] S2 = _ := right_ok (n + 7) h1 S2
  have r2 : (run prg (n + 47)).c 12 [shpD c2 l2] S2 = _ := right_ok (n + 7) h2 S2
  refine (ss_nx (Γ1 := _) (S1 := S2) (st_skip (evT_ok ?_))).trans ?_
  · simp [run_e, evStep, evOr, evs, getV, lift, r1, r2]
  have t1 : (run prg (n + 47)).c 6 [shpD c1 l1] S2 = _ := text_ok (n + 17) c1 l1 S2 h1
  have t2 : (run prg (n + 47)).c 6 [shpD c2 l2] S2 = _ := text_ok (n + 17) c2 l2 S2 h2
  refine (ss_nx (Γ1 := _) (S1 := S2) (st_skip (evT_ok ?_))).trans rfl
  obtain ⟨_, _, d1⟩ := shp_sml h1
  have dd : dpt (shpD c1 l1) (shpD c2 l2) = true := by
    unfold dpt
    rw [Bool.or_eq_true]
    exact .inr (decide_eq_true (by omega))
  have eq : (txt c1 l1 == txt c2 l2) = PyData.eqv (shpD c1 l1) (shpD c2 l2) := by
    rw [eqv_shp, Bool.eq_iff_iff]
    simp only [beq_iff_eq, Bool.and_eq_true, decide_eq_true_eq]
    exact ⟨fun e => txt_inj h1 h2 e, fun ⟨p, q⟩ => by rw [p, q]⟩
  have d0 : dpt (.str (txt c1 l1)) (.str (txt c2 l2)) = true := by simp [dpt, PyData.depth]
  have v1 : PyData.eqv (.str (txt c1 l1)) (.str (txt c2 l2)) = PyData.eqv (shpD c1 l1) (shpD c2 l2) := by rw [← eq]; rfl
  have d3 : ∀ x y : Bool, dpt (.bool x) (.bool y) = true := fun x y => by simp [dpt, PyData.depth]
  have x1 : (run prg (n + 49)).e [some sc, some hndD, a, some (shpD c1 l1), some (shpD c2 l2), none, none, none] S2 (.cmp .Eq (.call 6 [(.var 3)]) (.call 6 [(.var 4)])) = .ok (.bool (PyData.eqv (shpD c1 l1) (shpD c2 l2))) S2 := by
    simp only [run_e, evStep, evs, getV, List.getElem?_cons_succ, List.getElem?_cons_zero, lift, Res.bind_ok, t1, t2, noexc_ok, cmpB, cmpD, d0, if_true, Option.map_some, v1]
  have x2 : (run prg (n + 49)).e [some sc, some hndD, a, some (shpD c1 l1), some (shpD c2 l2), none, none, none] S2 (.cmp .Eq (.var 3) (.var 4)) = .ok (.bool (PyData.eqv (shpD c1 l1) (shpD c2 l2))) S2 := by
    simp only [run_e, evStep, getV, List.getElem?_cons_succ, List.getElem?_cons_zero, lift, Res.bind_ok, cmpB, cmpD, dd, if_true, Option.map_some]
  show (((run prg (n + 49)).e [some sc, some hndD, a, some (shpD c1 l1), some (shpD c2 l2), none, none, none] S2 (.cmp .Eq (.call 6 [(.var 3)]) (.call 6 [(.var 4)]))).bind fun x S1 => ((run prg (n + 49)).e [some sc, some hndD, a, some (shpD c1 l1), some (shpD c2 l2), none, none, none] S1 (.cmp .Eq (.var 3) (.var 4))).bind fun y S2 => lift (cmpB .NotEq x y) S2) = _
  rw [x1, Res.bind_ok, x2, Res.bind_ok]
  cases PyData.eqv (shpD c1 l1) (shpD c2 l2) <;> rfl
theorem go_law (n : Nat) (ns : List Int) (hn : ns.length ≤ 63) : ∃ S', ssStep (run prg (n + 60)) (lawEnv lawN ns) (initD ns) lawB = .ret (.bool true) S' := by
  have hc : (initD ns).cells ≠ [] := by simp [initD]
  have env : lawEnv lawN ns = [some (.list (ns.map .int)), some hndD, none, none, none, none, none, none] := rfl
  rw [env]
  have mn : ∃ K : Int, 5 ≤ K ∧ K ≤ 14 ∧ bltD .min [.int (ns.map PyData.int).length, .int 9] = some (.int (K - 5)) := by
    by_cases h : (9 : Int) < ((ns.map PyData.int).length : Int)
    · refine ⟨14, by decide, by decide, ?_⟩
      show some (PyData.int (if (9 : Int) < ((ns.map PyData.int).length : Int) then 9 else ((ns.map PyData.int).length : Int))) = _
      rw [if_pos h]; rfl
    · refine ⟨(ns.map PyData.int).length + 5, by omega, by omega, ?_⟩
      show some (PyData.int (if (9 : Int) < ((ns.map PyData.int).length : Int) then 9 else ((ns.map PyData.int).length : Int))) = _
      rw [if_neg h]
      congr 2
      omega
  obtain ⟨K, K5, K14, hK⟩ := mn
  have okK : okI K = true := decide_eq_true (by omega)
  obtain ⟨Γ2, S2, e2, k2, a, b, c, rfl⟩ := forL_ex (t := .nm 2) (body := fun Γ S => (run prg (n + 60)).s Γ S lap)
    (fun q Γ S => S.cells ≠ [] ∧ ∃ a b c : Option PyData, Γ = [some (.list (ns.map .int)), some hndD, a, b, c, none, none, none]) 63
    ((upTo K).map .int) 0 [some (.list (ns.map .int)), some hndD, none, none, none, none, none, none] (initD ns) (by simp [upTo]; omega) (fun q x Γ S hq hx hI => by
      obtain ⟨hS, a, b, c, rfl⟩ := hI
      obtain ⟨b', c', S', e, k⟩ := lap_ok (n + 9) (.list (ns.map .int)) (some x) b c hS
      exact ⟨_, _, S', rfl, e, k, some x, b', c', rfl⟩) ⟨hc, none, none, none, rfl⟩
  refine ⟨S2, ?_⟩
  unfold lawB
  refine (ss_nx (Γ1 := _) (S1 := S2) (st_for (xs := (upTo K).map .int) (S0 := initD ns) ?_ e2)).trans ?_
  · have K' : (5 : Int) + (K - 5) = K := by omega
    simp only [evI, run_e, evStep, evs, getV, blt_lenL, List.getElem?_cons_zero, lift, Res.bind_ok, hK, binD, K', rngD, okK, if_true, upTo_rng]
  refine (ss_nx (Γ1 := _) (S1 := S2) (st_asg (d := rowD [0, 1, 2, 3, 4, 5, 6, 7]) (by kernel_rfl))).trans ?_
  refine (ss_nx (Γ1 := [some (.list (ns.map .int)), some hndD, a, b, c, some (rowD [0, 1, 2, 3, 4, 5, 6, 7]), some (.list (hands5.map hD)), none]) (S1 := S2) (by kernel_rfl)).trans ?_
  refine (ss_nx (Γ1 := [some (.list (ns.map .int)), some hndD, a, b, c, some (rowD [0, 1, 2, 3, 4, 5, 6, 7]), some (.list ((hands5 ++ [hand6]).map hD)), none]) (S1 := S2) (by kernel_rfl)).trans ?_
  have cmp := evComp_filter (r := run prg (n + 58)) (Γ := [some (.list (ns.map .int)), some hndD, a, b, c, some (rowD [0, 1, 2, 3, 4, 5, 6, 7]), some (.list ((hands5 ++ [hand6]).map hD)), none]) (S := S2) (elt := .var 3) (it := .var 6) (t := .nm 3) (own := [3]) (c := .not (.call 12 [(.var 3)])) (xs := hands5 ++ [hand6]) (f := hD) (g := hD) (p := fun _ => false)
    (by simp [evI, run_e, evStep, getV, lift, itemsOf]) (by decide) (fun p hp => ⟨_, rfl, by
      have r : (run prg (n + 56)).c 12 [hD p] S2 = .ok (.bool true) S2 := right_ok (n + 16) (hands_ok p hp) S2
      simp [wipeE, run_e, evStep, evs, getV, lift, r], by simp [wipeE, run_e, evStep, getV, lift]⟩)
  refine (ss_nx (Γ1 := _) (S1 := S2) (st_skip (evT_ok ?_))).trans ?_
  · rw [show (hands5 ++ [hand6]).filter (fun _ => false) = [] by simp] at cmp
    show (((evComp (run prg (n + 58)) [some (.list (ns.map .int)), some hndD, a, b, c, some (rowD [0, 1, 2, 3, 4, 5, 6, 7]), some (.list ((hands5 ++ [hand6]).map hD)), none] (.var 3) (.nm 3) (.var 6) [.not (.call 12 [(.var 3)])] [3] S2).bind fun ys S1 => Res.ok (PyData.list ys) S1).bind fun x S1 => ((run prg (n + 59)).e [some (.list (ns.map .int)), some hndD, a, b, c, some (rowD [0, 1, 2, 3, 4, 5, 6, 7]), some (.list ((hands5 ++ [hand6]).map hD)), none] S1 (.lst [])).bind fun y S2 => lift (cmpB .NotEq x y) S2) = _
    rw [cmp]
    kernel_rfl
  refine ss_ret (st_return (by kernel_rfl))
def depth : Nat := 150
theorem go : ∀ ns : List Int, ns.length ≤ 63 → ∃ S', (run prg (depth + 1)).s (lawEnv lawN ns) (initD ns) lawB = .ret (.bool true) S' := fun ns hn => go_law 90 ns hn
end K88
open PySem PySem.W PyProof.Rows
set_option maxRecDepth 100000 in
set_option maxHeartbeats 0 in
theorem PySem.Challenge.cw_sumsshown_k88_whole_texts_there_and_back_holds : PySem.Challenge.rw_sumsshown_k88_whole_texts_there_and_back.Holds := by
  w_on; o_law; k_head; (case hw => w_witness2)
  k_fill
  refine PD.walk_pd (l := PySem.Challenge.rw_sumsshown_k88_whole_texts_there_and_back) (n := 63) (k := K88.depth + 2) (x := "_law_script") (sp := fun w => PD.spLaw _ 63) rfl (by decide) rfl ⟨rfl, by decide +kernel, by decide +kernel⟩ (fun w h Y => PySem.W.kIn_of Y) ?F (fun w H a ns hl _ hS _ => ⟨a, ns, rfl, hS, hl, fun _ => rfl⟩)
  case F =>
    intro w mg fa h KX G hmg
    refine K88.law_all ?T KX G hmg K88.depth K88.go
    case T =>
      constructor
      · refine' PD.fAt_mk ?a ?l ?c ?k; (case a => k_is); (case l => k_is); (case c => k_is); (case k => k_is)
      · refine' PD.fAt_mk ?a ?l ?c ?k; (case a => k_is); (case l => k_is); (case c => k_is); (case k => k_is)
      · refine' PD.fAt_mk ?a ?l ?c ?k; (case a => k_is); (case l => k_is); (case c => k_is); (case k => k_is)
      · refine' PD.fAt_mk ?a ?l ?c ?k; (case a => k_is); (case l => k_is); (case c => k_is); (case k => k_is)
      · refine' PD.fAt_mk ?a ?l ?c ?k; (case a => k_is); (case l => k_is); (case c => k_is); (case k => k_is)
      · refine' PD.fAt_mk ?a ?l ?c ?k; (case a => k_is); (case l => k_is); (case c => k_is); (case k => k_is)
      · refine' PD.fAt_mk ?a ?l ?c ?k; (case a => k_is); (case l => k_is); (case c => k_is); (case k => k_is)
      · refine' PD.fAt_mk ?a ?l ?c ?k; (case a => k_is); (case l => k_is); (case c => k_is); (case k => k_is)
      · refine' PD.fAt_mk ?a ?l ?c ?k; (case a => k_is); (case l => k_is); (case c => k_is); (case k => k_is)
      · refine' PD.fAt_mk ?a ?l ?c ?k; (case a => k_is); (case l => k_is); (case c => k_is); (case k => k_is)
      · refine' PD.fAt_mk ?a ?l ?c ?k; (case a => k_is); (case l => k_is); (case c => k_is); (case k => k_is)
      · refine' PD.fAt_mk ?a ?l ?c ?k; (case a => k_is); (case l => k_is); (case c => k_is); (case k => k_is)
      · refine' PD.fAt_mk ?a ?l ?c ?k; (case a => k_is); (case l => k_is); (case c => k_is); (case k => k_is)
      · refine' PD.fAt_mk ?a ?l ?c ?k; (case a => k_is); (case l => k_is); (case c => k_is); (case k => k_is)
      · refine' PD.fAt_mk ?a ?l ?c ?k; (case a => k_is); (case l => k_is); (case c => k_is); (case k => k_is)
      · refine' PD.cAt_int ?a; (case a => k_is)
      · refine' PD.cAt_int ?a; (case a => k_is)
      · refine' PD.cAt_str ?a; (case a => k_is)
      · refine' PD.cAt_str ?a; (case a => k_is)
      · refine' PD.cAt_str ?a; (case a => k_is)
      · refine' PD.cAt_int ?a; (case a => k_is)
      all_goals k_is
