import PyProof.Rows.All
import Wide.All
import OpenK.AllK
import Wide.FinOn
import HandS.ForMost
import HandS.ForExc
import HandS.TupSets
import HandS.TupAny
import HandS.IsInst
import HandS.Gcd
import HandS.Wide
import HandS.Deep
import HandS.Flow
import HandS.Zip
import HandS.Lambda
import HandS.TryMany
import HandS.ExcIs
import HandS.ExcInit
import HandS.Defaults
import HandS.HeadHook1
import KE.IntBitsLaws
import HandS.Style
import KE.KeyNested
import KE.SortData
import HandS.Head0
import HandS.Head1
import HandS.Head2
import HandS.Head3
import HandS.HeadEnd
import HandS.HeadHook2
import HandS.HeadHook3
import HandS.HeadHook4
import HandS.HeadWalk
import HandS.EndTab
import KE.KStateDown
import PySem.Challenge.RW_screwshop_k30_whole_nuts_on_stopped_and
set_option Elab.async false
set_option linter.all false
set_option maxRecDepth 100000
set_option maxHeartbeats 4000000
/-! A layer of data over the readings: what a slot holds is told as PyData; lists that a def grows for itself stand apart. -/
namespace SC
open PySem PySem.Spec PyProof.Rows L2

/-! ### facts of Dp, Same -/
theorem Same.tup {K : PySem.W.Frag} {H H' : Hp} {a : Addr} {xs : List V} (e : Same H H') (h : SqT K H a xs) : SqT K H' a xs := by
  rcases h with (h | ⟨o, h⟩) | h
  · exact .inl (.inl (e _ _ h))
  · exact .inl (.inr ⟨o, e _ _ h⟩)
  · exact .inr h
theorem same_new {H : Hp} {p : Addr} {o : HO} (h : H p = none) : Same H (upd H p o) := fun b x e => by
  rw [upd_ne (ne_of_none e h)]
  exact e
mutual
theorem dp_up {K : PySem.W.Frag} {H H' : Hp} (s : Same H H') : ∀ {v : V} {d : PyData}, Dp K H v d → Dp K H' v d
  | _, _, .non => .non
  | _, _, .bl b => .bl b
  | _, _, .int i => .int i
  | _, _, .str x => .str x
  | _, _, .lst h a => .lst (s.seq h) (dpall_up s a)
  | _, _, .tup h a => .tup (Same.tup s h) (dpall_up s a)
theorem dpall_up {K : PySem.W.Frag} {H H' : Hp} (s : Same H H') : ∀ {vs : List V} {ds : List PyData}, DpAll K H vs ds → DpAll K H' vs ds
  | _, _, .nil => .nil
  | _, _, .cons a b => .cons (dp_up s a) (dpall_up s b)
end
section
variable {K : PySem.W.Frag} {H : Hp}
theorem dpa_len : ∀ {vs : List V} {ds : List PyData}, DpAll K H vs ds → vs.length = ds.length
  | _, _, .nil => rfl
  | _, _, .cons _ t => congrArg Nat.succ (dpa_len t)
theorem dpa_get : ∀ {vs : List V} {ds : List PyData} {i : Nat} {d : PyData}, DpAll K H vs ds → ds[i]? = some d → ∃ v, vs[i]? = some v ∧ Dp K H v d
  | _, _, _, _, .nil, e => by simp at e
  | _, _, 0, _, .cons h _, e => by
    simp at e
    subst e
    exact ⟨_, rfl, h⟩
  | _, _, i + 1, _, .cons _ t, e => by
    obtain ⟨v, a, b⟩ := dpa_get (i := i) t (by simpa using e)
    exact ⟨v, by simpa using a, b⟩
theorem dpa_getv : ∀ {vs : List V} {ds : List PyData} {i : Nat} {v : V}, DpAll K H vs ds → vs[i]? = some v → ∃ d, ds[i]? = some d ∧ Dp K H v d
  | _, _, _, _, .nil, e => by simp at e
  | _, _, 0, _, .cons h _, e => by
    simp at e
    subst e
    exact ⟨_, rfl, h⟩
  | _, _, i + 1, _, .cons _ t, e => by
    obtain ⟨v, a, b⟩ := dpa_getv (i := i) t (by simpa using e)
    exact ⟨v, by simpa using a, b⟩
theorem dpa_app : ∀ {vs ws : List V} {ds es : List PyData}, DpAll K H vs ds → DpAll K H ws es → DpAll K H (vs ++ ws) (ds ++ es)
  | _, _, _, _, .nil, h => h
  | _, _, _, _, .cons a t, h => .cons a (dpa_app t h)
theorem dpa_take : ∀ {vs : List V} {ds : List PyData} (n : Nat), DpAll K H vs ds → DpAll K H (vs.take n) (ds.take n)
  | _, _, 0, _ => by simpa using DpAll.nil
  | _, _, _ + 1, .nil => .nil
  | _, _, n + 1, .cons a t => .cons a (dpa_take n t)
theorem dpa_drop : ∀ {vs : List V} {ds : List PyData} (n : Nat), DpAll K H vs ds → DpAll K H (vs.drop n) (ds.drop n)
  | _, _, 0, h => h
  | _, _, _ + 1, .nil => .nil
  | _, _, n + 1, .cons _ t => dpa_drop n t
theorem dpa_set {v : V} {d : PyData} (h : Dp K H v d) : ∀ {vs : List V} {ds : List PyData} (n : Nat), DpAll K H vs ds → DpAll K H (vs.set n v) (ds.set n d)
  | _, _, _, .nil => .nil
  | _, _, 0, .cons _ t => .cons h t
  | _, _, n + 1, .cons a t => .cons a (dpa_set h n t)
theorem dpa_erase : ∀ {vs : List V} {ds : List PyData} (n : Nat), DpAll K H vs ds → DpAll K H (vs.eraseIdx n) (ds.eraseIdx n)
  | _, _, _, .nil => .nil
  | _, _, 0, .cons _ t => t
  | _, _, n + 1, .cons a t => .cons a (dpa_erase n t)
theorem dp_int {v : V} {i : Int} (h : Dp K H v (.int i)) : v = .int i := by
  cases h
  rfl
theorem dp_bool {v : V} {b : Bool} (h : Dp K H v (.bool b)) : v = .bl b := by
  cases h
  rfl
theorem dp_tup {v : V} {ds : List PyData} (h : Dp K H v (.tuple ds)) : ∃ a xs, v = .ref a ∧ SqT K H a xs ∧ DpAll K H xs ds := by
  cases h with
  | tup a b => exact ⟨_, _, rfl, a, b⟩
theorem dp_lst {v : V} {ds : List PyData} (h : Dp K H v (.list ds)) : ∃ a xs, v = .ref a ∧ SqL K H a xs ∧ DpAll K H xs ds := by
  cases h with
  | lst a b => exact ⟨_, _, rfl, a, b⟩
theorem dp_non {v : V} (h : Dp K H v .none) : v = .non := by
  cases h
  rfl
theorem dpa_ints : ∀ (is : List Int), DpAll K H (is.map V.int) (is.map PyData.int)
  | [] => .nil
  | i :: r => .cons (.int i) (dpa_ints r)
theorem dpa_ints_inv : ∀ {is : List Int} {vs : List V}, DpAll K H vs (is.map PyData.int) → vs = is.map V.int
  | [], _, .nil => rfl
  | i :: r, _, .cons a t => by
    rw [dp_int a, dpa_ints_inv t]
    rfl
end

/-! ### what the slots hold -/
inductive Sl where
  /-- nothing is said -/
  | un
  /-- data that stands for good -/
  | dat (d : PyData)
  /-- a list of the def's own, still growing -/
  | own (ds : List PyData)
  /-- a list that stands for good, and is known to -/
  | std (ds : List PyData)
  /-- the source of draws, drawn from at most n times -/
  | tin (n : Nat)
abbrev Rho := List Sl

def TinAt (H : Hp) (a : Addr) (n : Nat) : Prop := ∃ x y z : Int, H a = some (.lst [.int x, .int y, .int z]) ∧ 0 ≤ x ∧ 0 ≤ y ∧ y < 2 ^ 62 ∧ 0 ≤ z ∧ z ≤ n

/-- what is known of the written part, the tables of code objects -/
structure Cn where
  K : PySem.W.Frag
  T : List (Addr × Str)
/-- where the def began: the standing heap, the heap, the addresses that it may write -/
structure Bs where
  G : Hp
  H : Hp
  t : Addr → Prop

def SlOk (C : Cn) (B : Bs) (G H : Hp) (v : Option (Option V)) : Sl → Prop
  | .un => True
  | .dat d => ∃ x, v = some (some x) ∧ Dp C.K G x d
  | .own ds => ∃ a vs, v = some (some (.ref a)) ∧ G a = none ∧ B.H a = none ∧ H a = some (.lst vs) ∧ DpAll C.K G vs ds
  | .std ds => ∃ a vs, v = some (some (.ref a)) ∧ G a = some (.lst vs) ∧ DpAll C.K G vs ds
  | .tin n => ∃ a, v = some (some (.ref a)) ∧ B.t a ∧ TinAt H a n

structure Ok (C : Cn) (B : Bs) (G H : Hp) (σ : L2.St) (ρ : Rho) : Prop where
  len : σ.length = ρ.length
  gh : Same G H
  g0 : Same B.G G
  h0 : ∀ a o, ¬ B.t a → B.H a = some o → H a = some o
  h1 : ∀ a, B.H a ≠ none → H a ≠ none
  new : ∀ a, B.H a ≠ none → B.G a = none → G a = none
  tb : ∀ a, B.t a → B.H a ≠ none ∧ B.G a = none
  tab : LamX.Tabs C.T H
  tabt : ∀ p ∈ C.T, B.t p.1
  sl : ∀ (i : Nat) (s : Sl), ρ[i]? = some s → SlOk C B G H σ[i]? s
  t0 : ∀ (i n : Nat), ρ[i]? = some (.tin n) → i = 0
  sep : ∀ (i j : Nat) (a : Addr) (ds es : List PyData), i ≠ j → ρ[i]? = some (.own ds) → ρ[j]? = some (.own es) → σ[i]? = some (some (.ref a)) → σ[j]? ≠ some (some (.ref a))

section
variable {C : Cn} {B : Bs} {G H G' H' : Hp} {σ σ' : L2.St} {ρ ρ' : Rho}
theorem Ok.gnone (k : Ok C B G H σ ρ) {p : Addr} (h : H p = none) : G p = none := k.gh.free h
theorem Ok.bnone (k : Ok C B G H σ ρ) {p : Addr} (h : H p = none) : B.H p = none := by
  cases q : B.H p with
  | none => rfl
  | some o => exact absurd h (k.h1 p (by rw [q]; simp))
theorem Ok.tnone (k : Ok C B G H σ ρ) {p : Addr} (h : H p = none) : ¬ B.t p := fun z => (k.tb p z).1 (k.bnone h)
theorem Ok.tG (k : Ok C B G H σ ρ) {p : Addr} (h : B.t p) : G p = none := k.new p (k.tb p h).1 (k.tb p h).2
theorem SlOk.up {v : Option (Option V)} {s : Sl} (h : SlOk C B G H v s) (g : Same G G') (hh : ∀ a, (∃ vs, H a = some (.lst vs)) → H' a = H a) (hg : ∀ a, H a ≠ none → G a = none → G' a = none) : SlOk C B G' H' v s := by
  cases s with
  | un => trivial
  | dat d =>
    obtain ⟨x, e, d⟩ := h
    exact ⟨x, e, dp_up g d⟩
  | own ds =>
    obtain ⟨a, vs, e, e1, e2, e3, e4⟩ := h
    exact ⟨a, vs, e, hg a (by rw [e3]; simp) e1, e2, (hh a ⟨_, e3⟩).trans e3, dpall_up g e4⟩
  | std ds =>
    obtain ⟨a, vs, e, e1, e2⟩ := h
    exact ⟨a, vs, e, g _ _ e1, dpall_up g e2⟩
  | tin n =>
    obtain ⟨a, e, t, x, y, z, e1, r⟩ := h
    exact ⟨a, e, t, x, y, z, (hh a ⟨_, e1⟩).trans e1, r⟩
/-- all stands, something new beside it -/
theorem Ok.ext (k : Ok C B G H σ ρ) (g : Same G G') (h : Same H H') (gh : Same G' H') (n : ∀ a, H a ≠ none → G a = none → G' a = none) : Ok C B G' H' σ ρ where
  len := k.len
  gh := gh
  g0 := k.g0.trans g
  h0 := fun a o t e => h a o (k.h0 a o t e)
  h1 := fun a e z => k.h1 a e (h.free z)
  new := fun a e1 e2 => n a (k.h1 a e1) (k.new a e1 e2)
  tb := k.tb
  tab := k.tab.ext h
  tabt := k.tabt
  sl := fun i s e => (k.sl i s e).up g (fun a ⟨vs, q⟩ => (h a _ q).trans q.symm) n
  t0 := k.t0
  sep := k.sep
theorem Ok.new1 (k : Ok C B G H σ ρ) {p : Addr} {o : HO} (h : H p = none) : Ok C B (upd G p o) (upd H p o) σ ρ ∧ Same G (upd G p o) := by
  have hg := k.gnone h
  refine ⟨k.ext (same_new hg) (same_new h) (fun b u e => ?_) (fun b e1 e2 => ?_), same_new hg⟩
  · by_cases hb : b = p
    · subst hb
      rw [upd_same] at e ⊢
      exact e
    · rw [upd_ne hb] at e ⊢
      exact k.gh b u e
  · rw [upd_ne (fun z => e1 (by rw [z]; exact h))]
    exact e2
/-- new, not standing yet -/
theorem Ok.new0 (k : Ok C B G H σ ρ) {p : Addr} {o : HO} (h : H p = none) : Ok C B G (upd H p o) σ ρ :=
  k.ext (Same.refl G) (same_new h) (k.gh.trans (same_new h)) (fun _ _ e => e)
theorem getset {α : Type} {l : List α} {i j : Nat} {x y : α} (h : (l.set i x)[j]? = some y) : (j = i ∧ y = x ∧ i < l.length) ∨ (j ≠ i ∧ l[j]? = some y) := by
  by_cases e : i = j
  · subst e
    rw [List.getElem?_set] at h
    simp at h
    exact .inl ⟨rfl, h.2.symm, h.1⟩
  · rw [List.getElem?_set_ne e] at h
    exact .inr ⟨fun z => e z.symm, h⟩
/-- a slot is stored that is no list of one's own -/
theorem Ok.set (k : Ok C B G H σ ρ) (j : Nat) (x : Option V) (s : Sl) (ns : ∀ ds, s ≠ .own ds) (nt : ∀ n, s = .tin n → j = 0) (h : SlOk C B G H (some x) s) : Ok C B G H (σ.set j x) (ρ.set j s) where
  len := by rw [List.length_set, List.length_set, k.len]
  gh := k.gh
  g0 := k.g0
  h0 := k.h0
  h1 := k.h1
  new := k.new
  tb := k.tb
  tab := k.tab
  tabt := k.tabt
  sl := fun i u e => by
    rcases getset e with ⟨e1, e2, e3⟩ | ⟨e1, e2⟩
    · subst e1 e2
      rw [List.getElem?_set_self (by rw [k.len]; exact e3)]
      exact h
    · rw [List.getElem?_set_ne (Ne.symm e1)]
      exact k.sl i u e2
  t0 := fun i n e => by
    rcases getset e with ⟨e1, e2, e3⟩ | ⟨e1, e2⟩
    · rw [e1]
      exact nt n e2.symm
    · exact k.t0 i n e2
  sep := fun i l a ds es ne e1 e2 e3 => by
    rcases getset e1 with ⟨_, z, _⟩ | ⟨n1, e1⟩
    · exact absurd z.symm (ns ds)
    · rcases getset e2 with ⟨_, z, _⟩ | ⟨n2, e2⟩
      · exact absurd z.symm (ns es)
      · rw [List.getElem?_set_ne (Ne.symm n1)] at e3
        rw [List.getElem?_set_ne (Ne.symm n2)]
        exact k.sep i l a ds es ne e1 e2 e3
theorem Ok.setd (k : Ok C B G H σ ρ) (j : Nat) {x : V} {d : PyData} (h : Dp C.K G x d) : Ok C B G H (σ.set j (some x)) (ρ.set j (.dat d)) :=
  k.set j (some x) (.dat d) (fun _ z => nomatch z) (fun _ z => nomatch z) ⟨x, rfl, h⟩
theorem Ok.setn (k : Ok C B G H σ ρ) (j : Nat) : Ok C B G H (σ.set j none) (ρ.set j .un) := k.set j none .un (fun _ z => nomatch z) (fun _ z => nomatch z) trivial
/-- a slot is forgotten -/
theorem Ok.drop (k : Ok C B G H σ ρ) (j : Nat) : Ok C B G H σ (ρ.set j .un) where
  len := by rw [List.length_set, k.len]
  gh := k.gh
  g0 := k.g0
  h0 := k.h0
  h1 := k.h1
  new := k.new
  tb := k.tb
  tab := k.tab
  tabt := k.tabt
  sl := fun i u e => by
    rcases getset e with ⟨e1, e2, e3⟩ | ⟨e1, e2⟩
    · subst e2
      trivial
    · exact k.sl i u e2
  t0 := fun i n e => by
    rcases getset e with ⟨e1, e2, e3⟩ | ⟨e1, e2⟩
    · cases e2
    · exact k.t0 i n e2
  sep := fun i l a ds es ne e1 e2 e3 => by
    rcases getset e1 with ⟨_, z, _⟩ | ⟨n1, e1⟩
    · cases z
    · rcases getset e2 with ⟨_, z, _⟩ | ⟨n2, e2⟩
      · cases z
      · exact k.sep i l a ds es ne e1 e2 e3
/-- a new list of one's own -/
theorem Ok.setown (k : Ok C B G H σ ρ) (j : Nat) {p : Addr} {vs : List V} {ds : List PyData} (h : H p = none) (d : DpAll C.K G vs ds) : Ok C B G (upd H p (.lst vs)) (σ.set j (some (.ref p))) (ρ.set j (.own ds)) := by
  have k2 := k.new0 (o := .lst vs) h
  have far : ∀ (i : Nat) (es : List PyData), ρ[i]? = some (.own es) → σ[i]? ≠ some (some (.ref p)) := fun i es e z => by
    obtain ⟨a, ws, q, _, _, q3, _⟩ := k.sl i _ e
    rw [z] at q
    injection q with q
    injection q with q
    injection q with q
    rw [← q, h] at q3
    cases q3
  refine ⟨by rw [List.length_set, List.length_set, k.len], k2.gh, k2.g0, k2.h0, k2.h1, k2.new, k2.tb, k2.tab, k2.tabt, fun i u e => ?_, fun i n e => ?_, fun i l a ds' es ne e1 e2 e3 => ?_⟩
  · rcases getset e with ⟨e1, e2, e3⟩ | ⟨e1, e2⟩
    · subst e1 e2
      rw [List.getElem?_set_self (by rw [k.len]; exact e3)]
      exact ⟨p, vs, rfl, k.gnone h, k.bnone h, upd_same, d⟩
    · rw [List.getElem?_set_ne (Ne.symm e1)]
      exact k2.sl i u e2
  · rcases getset e with ⟨e1, e2, e3⟩ | ⟨e1, e2⟩
    · cases e2
    · exact k.t0 i n e2
  · rcases getset e1 with ⟨i1, z1, q1⟩ | ⟨n1, f1⟩
    · rcases getset e2 with ⟨i2, z2, q2⟩ | ⟨n2, f2⟩
      · exact absurd (i1.trans i2.symm) ne
      · subst i1
        rw [List.getElem?_set_self (by rw [k.len]; exact q1)] at e3
        rw [List.getElem?_set_ne (Ne.symm n2)]
        injection e3 with e3
        injection e3 with e3
        injection e3 with e3
        rw [← e3]
        exact far l es f2
    · rw [List.getElem?_set_ne (Ne.symm n1)] at e3
      rcases getset e2 with ⟨i2, z2, q2⟩ | ⟨n2, f2⟩
      · subst i2
        rw [List.getElem?_set_self (by rw [k.len]; exact q2)]
        intro z
        injection z with z
        injection z with z
        injection z with z
        rw [← z] at e3
        exact far i ds' f1 e3
      · rw [List.getElem?_set_ne (Ne.symm n2)]
        exact k.sep i l a ds' es ne f1 f2 e3
/-- a list of one's own is changed -/
theorem Ok.putown (k : Ok C B G H σ ρ) {j : Nat} {a : Addr} {vs : List V} {ds es : List PyData} (e : ρ[j]? = some (.own es)) (ea : σ[j]? = some (some (.ref a))) (d : DpAll C.K G vs ds) : Ok C B G (upd H a (.lst vs)) σ (ρ.set j (.own ds)) := by
  obtain ⟨a', ws, q, q1, q2, q3, q4⟩ := k.sl j _ e
  rw [ea] at q
  injection q with q
  injection q with q
  injection q with q
  subst q
  have nt : ¬ B.t a := fun z => (k.tb a z).1 q2
  have jl : j < ρ.length := (List.getElem?_eq_some_iff.mp e).1
  refine ⟨by rw [List.length_set, k.len], fun b o eb => ?_, k.g0, fun b o t eb => ?_, fun b eb => ?_, k.new, k.tb, fun p hp => ?_, k.tabt, fun i u eu => ?_, fun i n e => ?_, fun i l c ds' es' ne e1 e2 e3 => ?_⟩
  · rw [upd_ne (fun z => by rw [z, q1] at eb; cases eb)]
    exact k.gh b o eb
  · rw [upd_ne (fun z => by rw [z, q2] at eb; cases eb)]
    exact k.h0 b o t eb
  · rw [upd_ne (fun z => eb (by rw [z]; exact q2))]
    exact k.h1 b eb
  · obtain ⟨ps, t1, t2, t3⟩ := k.tab p hp
    have np : p.1 ≠ a := fun z => nt (by rw [← z]; exact k.tabt p hp)
    refine ⟨ps, (by rw [upd_ne np]; exact t1), t2, fun pos cv hc => ?_⟩
    obtain ⟨c, c1, c2⟩ := t3 pos cv hc
    refine ⟨c, c1, ?_⟩
    rw [upd_ne (fun z => by rw [z, q3] at c2; cases c2)]
    exact c2
  · rcases getset eu with ⟨i1, z1, _⟩ | ⟨n1, eu⟩
    · subst i1 z1
      exact ⟨a, vs, ea, q1, q2, upd_same, d⟩
    · have s := k.sl i u eu
      cases u with
      | un => trivial
      | dat d => exact s
      | own ds' =>
        obtain ⟨b, xs, f, f1, f2, f3, f4⟩ := s
        have nb : b ≠ a := fun z => k.sep i j a ds' es n1 eu e (by rw [f, z]) ea
        exact ⟨b, xs, f, f1, f2, by rw [upd_ne nb]; exact f3, f4⟩
      | std ds' => exact s
      | tin n =>
        obtain ⟨b, f, t, x, y, z, f1, f2⟩ := s
        have nb : b ≠ a := fun z => nt (by rw [← z]; exact t)
        exact ⟨b, f, t, x, y, z, by rw [upd_ne nb]; exact f1, f2⟩
  · rcases getset e with ⟨_, e2, _⟩ | ⟨_, e2⟩
    · cases e2
    · exact k.t0 i n e2
  · have h1 : ∃ d, ρ[i]? = some (.own d) := by
      rcases getset e1 with ⟨i1, _, _⟩ | ⟨_, e1⟩
      · exact ⟨es, by rw [i1]; exact e⟩
      · exact ⟨_, e1⟩
    have h2 : ∃ d, ρ[l]? = some (.own d) := by
      rcases getset e2 with ⟨i1, _, _⟩ | ⟨_, e2⟩
      · exact ⟨es, by rw [i1]; exact e⟩
      · exact ⟨_, e2⟩
    obtain ⟨d1, h1⟩ := h1
    obtain ⟨d2, h2⟩ := h2
    exact k.sep i l c d1 d2 ne h1 h2 e3
/-- a list of one's own stands from now on -/
theorem Ok.freezeS (k : Ok C B G H σ ρ) {j : Nat} {a : Addr} {vs : List V} {ds : List PyData} (e : ρ[j]? = some (.own ds)) (q : σ[j]? = some (some (.ref a))) (q3 : H a = some (.lst vs)) (q4 : DpAll C.K G vs ds) :
    Ok C B (upd G a (.lst vs)) H σ (ρ.set j (.std ds)) ∧ Same G (upd G a (.lst vs)) := by
  obtain ⟨a', ws, r, q1, q2, r3, r4⟩ := k.sl j _ e
  rw [q] at r
  injection r with r
  injection r with r
  injection r with r
  subst r
  have sm : Same G (upd G a (.lst vs)) := same_new q1
  refine ⟨⟨by rw [List.length_set, k.len], fun b o eb => ?_, k.g0.trans sm, k.h0, k.h1, fun b e1 e2 => ?_, k.tb, k.tab, k.tabt, fun i u eu => ?_, fun i n e => ?_, fun i l c ds' es' ne e1 e2 e3 => ?_⟩, sm⟩
  · by_cases hb : b = a
    · subst hb
      rw [upd_same] at eb
      rw [q3]
      exact eb
    · rw [upd_ne hb] at eb
      exact k.gh b o eb
  · rw [upd_ne (fun z => e1 (by rw [z]; exact q2))]
    exact k.new b e1 e2
  · rcases getset eu with ⟨i1, z1, _⟩ | ⟨n1, eu⟩
    · subst i1 z1
      exact ⟨a, vs, q, upd_same, dpall_up sm q4⟩
    · have s := k.sl i u eu
      cases u with
      | un => trivial
      | dat d =>
        obtain ⟨x, f, f1⟩ := s
        exact ⟨x, f, dp_up sm f1⟩
      | own ds' =>
        obtain ⟨b, xs, f, f1, f2, f3, f4⟩ := s
        have nb : b ≠ a := fun z => k.sep i j a ds' ds n1 eu e (by rw [f, z]) q
        exact ⟨b, xs, f, by rw [upd_ne nb]; exact f1, f2, f3, dpall_up sm f4⟩
      | std ds' =>
        obtain ⟨b, xs, f, f1, f2⟩ := s
        exact ⟨b, xs, f, sm _ _ f1, dpall_up sm f2⟩
      | tin n => exact s
  · rcases getset e with ⟨_, e2, _⟩ | ⟨_, e2⟩
    · cases e2
    · exact k.t0 i n e2
  · rcases getset e1 with ⟨_, z, _⟩ | ⟨n1, e1⟩
    · cases z
    · rcases getset e2 with ⟨_, z, _⟩ | ⟨n2, e2⟩
      · cases z
      · exact k.sep i l c ds' es' ne e1 e2 e3
theorem set_back {α : Type} {l : List α} {j : Nat} {x : α} (h : l[j]? = some x) : l.set j x = l := by
  apply List.ext_getElem?
  intro i
  by_cases e : j = i
  · subst e
    rw [List.getElem?_set_self (List.getElem?_eq_some_iff.mp h).1, h]
  · rw [List.getElem?_set_ne e]
theorem Ok.freeze (k : Ok C B G H σ ρ) {j : Nat} {a : Addr} {vs : List V} {ds : List PyData} (e : ρ[j]? = some (.own ds)) (q : σ[j]? = some (some (.ref a))) (q3 : H a = some (.lst vs)) (q4 : DpAll C.K G vs ds) :
    Ok C B (upd G a (.lst vs)) H σ (ρ.set j (.dat (.list ds))) ∧ Same G (upd G a (.lst vs)) := by
  obtain ⟨k1, s⟩ := k.freezeS e q q3 q4
  refine ⟨?_, s⟩
  have k2 := k1.setd j (x := .ref a) (d := .list ds) (.lst (.inl (.inl upd_same)) (dpall_up s q4))
  rw [set_back q, List.set_set] at k2
  exact k2
end
end SC
namespace SC
open PySem PySem.Spec PyProof.Rows L2

/-! ### what expressions, tests, arguments give -/
structure Ext (G H G' H' : Hp) : Prop where
  g : Same G G'
  h : Same H H'
  gh : Same G' H'
  n : ∀ a, H a ≠ none → G a = none → G' a = none
theorem Ext.refl {G H : Hp} (s : Same G H) : Ext G H G H := ⟨Same.refl _, Same.refl _, s, fun _ _ e => e⟩
theorem Ext.trans {G H G1 H1 G2 H2 : Hp} (a : Ext G H G1 H1) (b : Ext G1 H1 G2 H2) : Ext G H G2 H2 :=
  ⟨a.g.trans b.g, a.h.trans b.h, b.gh, fun c e1 e2 => b.n c (fun z => e1 (a.h.free z)) (a.n c e1 e2)⟩
theorem Ext.new {G H : Hp} {p : Addr} {o : HO} (s : Same G H) (h : H p = none) : Ext G H (upd G p o) (upd H p o) := by
  have hg := s.free h
  refine ⟨same_new hg, same_new h, fun b u e => ?_, fun b e1 e2 => ?_⟩
  · by_cases hb : b = p
    · subst hb
      rw [upd_same] at e ⊢
      exact e
    · rw [upd_ne hb] at e ⊢
      exact s b u e
  · rw [upd_ne (fun z => e1 (by rw [z]; exact h))]
    exact e2
theorem Ok.on {C : Cn} {B : Bs} {G H G' H' : Hp} {σ : L2.St} {ρ : Rho} (k : Ok C B G H σ ρ) (e : Ext G H G' H') : Ok C B G' H' σ ρ := k.ext e.g e.h e.gh e.n

/-- behind an expression: what the def may not write is as it was -/
structure Sx (B : Bs) (G H G' H' : Hp) : Prop where
  g : Same G G'
  h : ∀ a o, ¬ B.t a → H a = some o → H' a = some o
  h1 : ∀ a, H a ≠ none → H' a ≠ none
  n : ∀ a, H a ≠ none → G a = none → G' a = none
theorem Sx.refl {B : Bs} {G H : Hp} : Sx B G H G H := ⟨Same.refl _, fun _ _ _ e => e, fun _ e => e, fun _ _ e => e⟩
theorem Sx.trans {B : Bs} {G H G1 H1 G2 H2 : Hp} (a : Sx B G H G1 H1) (b : Sx B G1 H1 G2 H2) : Sx B G H G2 H2 :=
  ⟨a.g.trans b.g, fun c o t e => b.h c o t (a.h c o t e), fun c e => b.h1 c (a.h1 c e), fun c e1 e2 => b.n c (a.h1 c e1) (a.n c e1 e2)⟩
theorem Ext.sx {B : Bs} {G H G' H' : Hp} (e : Ext G H G' H') : Sx B G H G' H' := ⟨e.g, fun a o _ q => e.h a o q, fun _ q z => q (e.h.free z), e.n⟩
theorem Ok.newx {C : Cn} {B : Bs} {G H : Hp} {σ : L2.St} {ρ : Rho} (k : Ok C B G H σ ρ) {p : Addr} {o : HO} (h : H p = none) : Ok C B (upd G p o) (upd H p o) σ ρ ∧ Sx B G H (upd G p o) (upd H p o) :=
  ⟨k.on (Ext.new k.gh h), (Ext.new k.gh h).sx⟩
section
variable (C : Cn)
def DX (te : TE) (ρ : Rho) (P : PyData → Rho → Prop) : Prop := ∀ (B : Bs) (G H : Hp) (σ : L2.St), Ok C B G H σ ρ → ∀ Q : VK, (∀ v d ρ' G' H', P d ρ' → Ok C B G' H' σ ρ' → Sx B G H G' H' → Dp C.K G' v d → Q v H') → te σ H Q
def AX (ta : TA) (ρ : Rho) (P : List PyData → Rho → Prop) : Prop := ∀ (B : Bs) (G H : Hp) (σ : L2.St), Ok C B G H σ ρ → ∀ Q : List V → Hp → Prop, (∀ vs ds ρ' G' H', P ds ρ' → Ok C B G' H' σ ρ' → Sx B G H G' H' → DpAll C.K G' vs ds → Q vs H') → ta σ H Q
def TX (tt : TT) (ρ : Rho) (P : Bool → Rho → Prop) : Prop := ∀ (B : Bs) (G H : Hp) (σ : L2.St), Ok C B G H σ ρ → ∀ Q : Bool → Hp → Prop, (∀ b ρ' G' H', P b ρ' → Ok C B G' H' σ ρ' → Sx B G H G' H' → Q b H') → tt σ H Q
abbrev DE (te : TE) (ρ : Rho) (d : PyData) : Prop := DX C te ρ fun d' ρ' => d' = d ∧ ρ' = ρ
abbrev DA (ta : TA) (ρ : Rho) (ds : List PyData) : Prop := AX C ta ρ fun d' ρ' => d' = ds ∧ ρ' = ρ
abbrev DT (tt : TT) (ρ : Rho) (b : Bool) : Prop := TX C tt ρ fun d' ρ' => d' = b ∧ ρ' = ρ
/-- operations by values -/
def RD (r : R2) (d e f : PyData) : Prop := ∀ (G H : Hp) (x y : V), Same G H → Dp C.K G x d → Dp C.K G y e → ∀ Q : VK, (∀ v G' H', Ext G H G' H' → Dp C.K G' v f → Q v H') → r x y H Q
def RU (r : V → Hp → VK → Prop) (d f : PyData) : Prop := ∀ (G H : Hp) (x : V), Same G H → Dp C.K G x d → ∀ Q : VK, (∀ v G' H', Ext G H G' H' → Dp C.K G' v f → Q v H') → r x H Q
def RC (r : List V → Hp → VK → Prop) (ds : List PyData) (f : PyData) : Prop := ∀ (G H : Hp) (xs : List V), Same G H → DpAll C.K G xs ds → ∀ Q : VK, (∀ v G' H', Ext G H G' H' → Dp C.K G' v f → Q v H') → r xs H Q
end

section
variable {C : Cn} {ρ ρ1 : Rho} {ta tb tc te : TE} {d e f : PyData} {P P' : PyData → Rho → Prop} {t u : TT} {r r' : R2} {as : TA}
theorem DX.mono (h : DX C te ρ P) (k : ∀ d ρ', P d ρ' → P' d ρ') : DX C te ρ P' := fun B G H σ o Q q => h B G H σ o Q fun v d ρ' G' H' p => q v d ρ' G' H' (k d ρ' p)
theorem DX.of (h : DE C te ρ d) (p : P d ρ) : DX C te ρ P := h.mono fun _ _ ⟨e1, e2⟩ => by
  subst e1 e2
  exact p
theorem DE.cast (h : DE C te ρ d) (e1 : d = e) : DE C te ρ e := e1 ▸ h
theorem DT.cast {b c : Bool} (h : DT C t ρ b) (e1 : b = c) : DT C t ρ c := e1 ▸ h
theorem TX.mono {P P' : Bool → Rho → Prop} (h : TX C t ρ P) (k : ∀ d ρ', P d ρ' → P' d ρ') : TX C t ρ P' := fun B G H σ o Q q => h B G H σ o Q fun d ρ' G' H' p => q d ρ' G' H' (k d ρ' p)
theorem TX.of {b : Bool} {P : Bool → Rho → Prop} (h : DT C t ρ b) (p : P b ρ) : TX C t ρ P := h.mono fun _ _ ⟨e1, e2⟩ => by
  subst e1 e2
  exact p
theorem AX.mono {P P' : List PyData → Rho → Prop} (h : AX C as ρ P) (k : ∀ d ρ', P d ρ' → P' d ρ') : AX C as ρ P' := fun B G H σ o Q q => h B G H σ o Q fun v d ρ' G' H' p => q v d ρ' G' H' (k d ρ' p)
theorem AX.of {ds : List PyData} {P : List PyData → Rho → Prop} (h : DA C as ρ ds) (p : P ds ρ) : AX C as ρ P := h.mono fun _ _ ⟨e1, e2⟩ => by
  subst e1 e2
  exact p
theorem AX.cast {ds es : List PyData} (h : DA C as ρ ds) (e1 : ds = es) : DA C as ρ es := e1 ▸ h
/-! names, constants -/
theorem de_var {i : Nat} (h : ρ[i]? = some (.dat d)) : DE C (tVar i) ρ d := fun B G H σ o Q q => by
  obtain ⟨x, e, hx⟩ := o.sl i _ h
  exact ⟨x, e, q x d ρ G H ⟨rfl, rfl⟩ o Sx.refl hx⟩
theorem de_int {i : Int} : DE C (tC (.int i)) ρ (.int i) := fun B G H σ o Q q => q _ _ ρ G H ⟨rfl, rfl⟩ o Sx.refl (.int i)
theorem de_bl {i : Bool} : DE C (tC (.bl i)) ρ (.bool i) := fun B G H σ o Q q => q _ _ ρ G H ⟨rfl, rfl⟩ o Sx.refl (.bl i)
theorem de_str {i : Str} : DE C (tC (.str i)) ρ (.str i) := fun B G H σ o Q q => q _ _ ρ G H ⟨rfl, rfl⟩ o Sx.refl (.str i)
theorem de_non : DE C (tC .non) ρ .none := fun B G H σ o Q q => q _ _ ρ G H ⟨rfl, rfl⟩ o Sx.refl .non
/-- a constant of the module -/
theorem de_con {v : V} (h : ∀ G, Dp C.K G v d) : DE C (tC v) ρ d := fun B G H σ o Q q => q _ _ ρ G H ⟨rfl, rfl⟩ o Sx.refl (h G)
/-! operators -/
theorem dx_op (h : DX C ta ρ fun d ρ1 => DX C tb ρ1 fun e ρ2 => ∃ f, RD C r d e f ∧ P f ρ2) : DX C (tOp r ta tb) ρ P := fun B G H σ o Q q => by
  refine h B G H σ o _ fun x d ρ1 G1 H1 p1 o1 s1 dx => ?_
  refine p1 B G1 H1 σ o1 _ fun y e ρ2 G2 H2 p2 o2 s2 dy => ?_
  obtain ⟨f, rd, pf⟩ := p2
  exact rd G2 H2 x y o2.gh (dp_up s2.g dx) dy Q fun v G3 H3 ex dv => q v f ρ2 G3 H3 pf (o2.on ex) ((s1.trans s2).trans ex.sx) dv
theorem de_op (ha : DE C ta ρ d) (hb : DE C tb ρ e) (hr : RD C r d e f) : DE C (tOp r ta tb) ρ f := dx_op (ha.of (hb.of ⟨f, hr, rfl, rfl⟩))
theorem dx_un {r : V → Hp → VK → Prop} (h : DX C ta ρ fun d ρ1 => ∃ f, RU C r d f ∧ P f ρ1) : DX C (tUn r ta) ρ P := fun B G H σ o Q q => by
  refine h B G H σ o _ fun x d ρ1 G1 H1 p1 o1 s1 dx => ?_
  obtain ⟨f, rd, pf⟩ := p1
  exact rd G1 H1 x o1.gh dx Q fun v G3 H3 ex dv => q v f ρ1 G3 H3 pf (o1.on ex) (s1.trans ex.sx) dv
theorem de_un {r : V → Hp → VK → Prop} (ha : DE C ta ρ d) (hr : RU C r d f) : DE C (tUn r ta) ρ f := dx_un (ha.of ⟨f, hr, rfl, rfl⟩)
theorem RD.val {g : PyData} (h : ∀ (G H : Hp) (x y : V), Same G H → Dp C.K G x d → Dp C.K G y e → ∃ v, Dp C.K G v f ∧ ∀ Q : VK, Q v H → r x y H Q) : RD C r d e f := fun G H x y s dx dy Q q => by
  obtain ⟨v, dv, k⟩ := h G H x y s dx dy
  exact k Q (q v G H (Ext.refl s) dv)
theorem rd_I0 {g : Int → Int → Int} {i j : Int} : RD C (rI0 fun i j => .int (g i j)) (.int i) (.int j) (.int (g i j)) := fun G H x y s dx dy Q q =>
  ⟨i, j, dp_int dx, dp_int dy, q _ G H (Ext.refl s) (.int _)⟩
theorem rd_I {c : Int → Int → Prop} {g : Int → Int → Int} {i j : Int} (h : c i j) : RD C (rI c fun i j => .int (g i j)) (.int i) (.int j) (.int (g i j)) := fun G H x y s dx dy Q q =>
  ⟨i, j, dp_int dx, dp_int dy, h, q _ G H (Ext.refl s) (.int _)⟩
theorem rd_B0 {g : Int → Int → Bool} {i j : Int} : RD C (rI0 fun i j => .bl (g i j)) (.int i) (.int j) (.bool (g i j)) := fun G H x y s dx dy Q q =>
  ⟨i, j, dp_int dx, dp_int dy, q _ G H (Ext.refl s) (.bl _)⟩
theorem rd_eqD (hd : SeqAt.shaped d = true) (he : SeqAt.shaped e = true) : RD C (rEqD C.K) d e (.bool (PyData.eqv d e)) := fun G H x y s dx dy Q q =>
  ⟨d, e, dp_up s dx, dp_up s dy, hd, he, q _ G H (Ext.refl s) (.bl _)⟩
theorem rd_neD (hd : SeqAt.shaped d = true) (he : SeqAt.shaped e = true) : RD C (rNeD C.K) d e (.bool (!PyData.eqv d e)) := fun G H x y s dx dy Q q =>
  ⟨d, e, dp_up s dx, dp_up s dy, hd, he, q _ G H (Ext.refl s) (.bl _)⟩
theorem rd_inD {ds : List PyData} (hd : SeqAt.shaped d = true) (he : SeqAt.shaped (.list ds) = true) : RD C (rInD C.K) d (.list ds) (.bool (ds.any fun z => PyData.eqv z d)) := fun G H x y s dx dy Q q =>
  ⟨d, ds, dp_up s dx, dp_up s dy, hd, he, q _ G H (Ext.refl s) (.bl _)⟩
theorem rd_notInD {ds : List PyData} (hd : SeqAt.shaped d = true) (he : SeqAt.shaped (.list ds) = true) : RD C (rNotInD C.K) d (.list ds) (.bool (!ds.any fun z => PyData.eqv z d)) := fun G H x y s dx dy Q q =>
  ⟨d, ds, dp_up s dx, dp_up s dy, hd, he, q _ G H (Ext.refl s) (.bl _)⟩
theorem atI_dp {K : PySem.W.Frag} {G : Hp} {vs : List V} {ds : List PyData} {i : Int} (a : DpAll K G vs ds) (h : atI ds i = some d) : ∃ v, atI vs i = some v ∧ Dp K G v d := by
  unfold atI at h ⊢
  rw [dpa_len a]
  cases q : ixN ds.length i with
  | none =>
    rw [q] at h
    cases h
  | some j =>
    rw [q] at h
    exact dpa_get a h
theorem rd_ixT {ds : List PyData} {i : Int} (h : atI ds i = some d) : RD C (rIxT C.K) (.tuple ds) (.int i) d := fun G H x y s dx dy Q q => by
  obtain ⟨a, xs, rfl, hs, ha⟩ := dp_tup dx
  obtain ⟨v, hv, dv⟩ := atI_dp ha h
  exact ⟨a, xs, i, v, rfl, dp_int dy, Same.tup s hs, hv, q v G H (Ext.refl s) dv⟩
theorem rd_ixL {ds : List PyData} {i : Int} (h : atI ds i = some d) : RD C (rIxL C.K) (.list ds) (.int i) d := fun G H x y s dx dy Q q => by
  obtain ⟨a, xs, rfl, hs, ha⟩ := dp_lst dx
  obtain ⟨v, hv, dv⟩ := atI_dp ha h
  exact ⟨a, xs, i, v, rfl, dp_int dy, s.seq hs, hv, q v G H (Ext.refl s) dv⟩
theorem ru_int {g : Int → Int} {i : Int} : RU C (rU fun i => .int (g i)) (.int i) (.int (g i)) := fun G H x s dx Q q => ⟨i, dp_int dx, q _ G H (Ext.refl s) (.int _)⟩
/-- is None -/
def isNonD : PyData → Bool
  | .none => true
  | _ => false
theorem dp_isNon {K : PySem.W.Frag} {G : Hp} {x : V} (h : Dp K G x d) : decide (x = .non) = isNonD d := by
  cases h <;> rfl
abbrev rIsN : R2 := fun x y H Q => y = .non ∧ Q (.bl (decide (x = .non))) H
theorem rd_isN : RD C rIsN d .none (.bool (isNonD d)) := fun G H x y s dx dy Q q => by
  refine ⟨dp_non dy, ?_⟩
  rw [dp_isNon dx]
  exact q _ G H (Ext.refl s) (.bl _)
/-! displays, arguments -/
theorem da_nil : DA C tNil ρ [] := fun B G H σ o Q q => q _ _ ρ G H ⟨rfl, rfl⟩ o Sx.refl .nil
theorem ax_nil {P : List PyData → Rho → Prop} (h : P [] ρ) : AX C tNil ρ P := da_nil.of h
theorem ax_cons {P : List PyData → Rho → Prop} (h : DX C ta ρ fun d ρ1 => AX C as ρ1 fun ds ρ2 => P (d :: ds) ρ2) : AX C (tCons ta as) ρ P := fun B G H σ o Q q => by
  refine h B G H σ o _ fun x d ρ1 G1 H1 p1 o1 s1 dx => ?_
  refine p1 B G1 H1 σ o1 _ fun y e ρ2 G2 H2 p2 o2 s2 dy => ?_
  exact q (x :: y) (d :: e) ρ2 G2 H2 p2 o2 (s1.trans s2) (.cons (dp_up s2.g dx) dy)
theorem da_cons {ds : List PyData} (h : DE C ta ρ d) (hr : DA C as ρ ds) : DA C (tCons ta as) ρ (d :: ds) := ax_cons (h.of (hr.of ⟨rfl, rfl⟩))
theorem sz1000 {n : Nat} (h : n ≤ 100000) : n ≤ sizeLine := Nat.le_trans h (by decide)
theorem dx_tup (h : AX C as ρ fun ds ρ1 => ds.length ≤ 100000 ∧ P (.tuple ds) ρ1) : DX C (tTup as) ρ P := fun B G H σ o Q q => by
  refine h B G H σ o _ fun xs ds ρ1 G1 H1 p1 o1 s1 dx => ⟨?_, fun p hp => ?_⟩
  · rw [dpa_len dx]
    exact sz1000 p1.1
  · obtain ⟨o2, s2⟩ := o1.newx (o := .tup xs) hp
    exact q _ _ ρ1 _ _ p1.2 o2 (s1.trans s2) (.tup (.inl (.inl upd_same)) (dpall_up s2.g dx))
theorem dx_lst (h : AX C as ρ fun ds ρ1 => ds.length ≤ 100000 ∧ P (.list ds) ρ1) : DX C (tLst as) ρ P := fun B G H σ o Q q => by
  refine h B G H σ o _ fun xs ds ρ1 G1 H1 p1 o1 s1 dx => ⟨?_, fun p hp => ?_⟩
  · rw [dpa_len dx]
    exact sz1000 p1.1
  · obtain ⟨o2, s2⟩ := o1.newx (o := .lst xs) hp
    exact q _ _ ρ1 _ _ p1.2 o2 (s1.trans s2) (.lst (.inl (.inl upd_same)) (dpall_up s2.g dx))
theorem de_tup {ds : List PyData} (h : DA C as ρ ds) (hl : ds.length ≤ 100000 := by exact Nat.le_of_ble_eq_true rfl) : DE C (tTup as) ρ (.tuple ds) := dx_tup (h.of ⟨hl, rfl, rfl⟩)
theorem de_lst {ds : List PyData} (h : DA C as ρ ds) (hl : ds.length ≤ 100000 := by exact Nat.le_of_ble_eq_true rfl) : DE C (tLst as) ρ (.list ds) := dx_lst (h.of ⟨hl, rfl, rfl⟩)
/-! calls of built-ins -/
theorem dx_cb {r : List V → Hp → VK → Prop} (h : AX C as ρ fun ds ρ1 => ∃ f, RC C r ds f ∧ P f ρ1) : DX C (tCB r as) ρ P := fun B G H σ o Q q => by
  refine h B G H σ o _ fun x d ρ1 G1 H1 p1 o1 s1 dx => ?_
  obtain ⟨f, rd, pf⟩ := p1
  exact rd G1 H1 x o1.gh dx Q fun v G3 H3 ex dv => q v f ρ1 G3 H3 pf (o1.on ex) (s1.trans ex.sx) dv
theorem de_cb {r : List V → Hp → VK → Prop} {ds : List PyData} (ha : DA C as ρ ds) (hr : RC C r ds f) : DE C (tCB r as) ρ f := dx_cb (ha.of ⟨f, hr, rfl, rfl⟩)
abbrev rAbs : List V → Hp → VK → Prop := fun xs H Q => ∃ i, xs = [.int i] ∧ Q (.int (if i < 0 then -i else i)) H
theorem dpa_one {K : PySem.W.Frag} {G : Hp} {xs : List V} (h : DpAll K G xs [d]) : ∃ x, xs = [x] ∧ Dp K G x d := by
  cases h with
  | cons a t =>
    cases t
    exact ⟨_, rfl, a⟩
theorem dpa_two {K : PySem.W.Frag} {G : Hp} {xs : List V} (h : DpAll K G xs [d, e]) : ∃ x y, xs = [x, y] ∧ Dp K G x d ∧ Dp K G y e := by
  cases h with
  | cons a t =>
    obtain ⟨y, rfl, b⟩ := dpa_one t
    exact ⟨_, y, rfl, a, b⟩
theorem abs_if (i : Int) : (if i < 0 then -i else i) = (i.natAbs : Int) := by
  split <;> omega
theorem rc_abs {i : Int} : RC C rAbs [.int i] (.int i.natAbs) := fun G H xs s a Q q => by
  obtain ⟨x, rfl, dx⟩ := dpa_one a
  refine ⟨i, by rw [dp_int dx], ?_⟩
  rw [abs_if]
  exact q _ G H (Ext.refl s) (.int _)
theorem rc_gcd {i j : Int} : RC C rGcd [.int i, .int j] (.int (Nat.gcd i.natAbs j.natAbs : Nat)) := fun G H xs s a Q q => by
  obtain ⟨x, y, rfl, dx, dy⟩ := dpa_two a
  exact ⟨i, j, by rw [dp_int dx, dp_int dy], q _ G H (Ext.refl s) (.int _)⟩
abbrev rInt1 : List V → Hp → VK → Prop := fun xs H Q => (∃ i, xs = [.int i] ∧ Q (.int i) H) ∨ ∃ k, xs = [.bl k] ∧ Q (.int (if k then 1 else 0)) H
theorem rc_int {i : Int} : RC C rInt1 [.int i] (.int i) := fun G H xs s a Q q => by
  obtain ⟨x, rfl, dx⟩ := dpa_one a
  exact .inl ⟨i, by rw [dp_int dx], q _ G H (Ext.refl s) (.int _)⟩
theorem rc_intb {i : Bool} : RC C rInt1 [.bool i] (.int (if i then 1 else 0)) := fun G H xs s a Q q => by
  obtain ⟨x, rfl, dx⟩ := dpa_one a
  exact .inr ⟨i, by rw [dp_bool dx], q _ G H (Ext.refl s) (.int _)⟩
abbrev rMin2 : List V → Hp → VK → Prop := fun xs H Q => ∃ i j, xs = [.int i, .int j] ∧ Q (.int (if j < i then j else i)) H
theorem rc_min {i j : Int} : RC C rMin2 [.int i, .int j] (.int (if j < i then j else i)) := fun G H xs s a Q q => by
  obtain ⟨x, y, rfl, dx, dy⟩ := dpa_two a
  exact ⟨i, j, by rw [dp_int dx, dp_int dy], q _ G H (Ext.refl s) (.int _)⟩
abbrev rLenQ (K : PySem.W.Frag) : List V → Hp → VK → Prop := fun xs H Q => ∃ p ys, xs = [.ref p] ∧ (SqL K H p ys ∨ SqT K H p ys) ∧ Q (.int ys.length) H
theorem rc_lenL {ds : List PyData} : RC C (rLenQ C.K) [.list ds] (.int ds.length) := fun G H xs s a Q q => by
  obtain ⟨x, rfl, dx⟩ := dpa_one a
  obtain ⟨p, ys, rfl, hs, ha⟩ := dp_lst dx
  refine ⟨p, ys, rfl, .inl (s.seq hs), ?_⟩
  rw [dpa_len ha]
  exact q _ G H (Ext.refl s) (.int _)
theorem rc_lenT {ds : List PyData} : RC C (rLenQ C.K) [.tuple ds] (.int ds.length) := fun G H xs s a Q q => by
  obtain ⟨x, rfl, dx⟩ := dpa_one a
  obtain ⟨p, ys, rfl, hs, ha⟩ := dp_tup dx
  refine ⟨p, ys, rfl, .inr (Same.tup s hs), ?_⟩
  rw [dpa_len ha]
  exact q _ G H (Ext.refl s) (.int _)
abbrev rTupOf (K : PySem.W.Frag) : List V → Hp → VK → Prop := fun xs H Q => ∃ p ys, xs = [.ref p] ∧ ((SqL K H p ys ∧ ∀ l, H l = none → Q (.ref l) (upd H l (.tup ys))) ∨ (SqT K H p ys ∧ Q (.ref p) H))
theorem rc_tupL {ds : List PyData} : RC C (rTupOf C.K) [.list ds] (.tuple ds) := fun G H xs s a Q q => by
  obtain ⟨x, rfl, dx⟩ := dpa_one a
  obtain ⟨p, ys, rfl, hs, ha⟩ := dp_lst dx
  refine ⟨p, ys, rfl, .inl ⟨s.seq hs, fun l hl => ?_⟩⟩
  have ex := Ext.new (o := .tup ys) s hl
  exact q _ _ _ ex (.tup (.inl (.inl upd_same)) (dpall_up ex.g ha))
abbrev rLstOf (K : PySem.W.Frag) : List V → Hp → VK → Prop := fun xs H Q => ∃ p ys, xs = [.ref p] ∧ (SqL K H p ys ∨ SqT K H p ys) ∧ ∀ l, H l = none → Q (.ref l) (upd H l (.lst ys))
theorem rc_lstT {ds : List PyData} : RC C (rLstOf C.K) [.tuple ds] (.list ds) := fun G H xs s a Q q => by
  obtain ⟨x, rfl, dx⟩ := dpa_one a
  obtain ⟨p, ys, rfl, hs, ha⟩ := dp_tup dx
  refine ⟨p, ys, rfl, .inr (Same.tup s hs), fun l hl => ?_⟩
  have ex := Ext.new (o := .lst ys) s hl
  exact q _ _ _ ex (.lst (.inl (.inl upd_same)) (dpall_up ex.g ha))
theorem rc_lstL {ds : List PyData} : RC C (rLstOf C.K) [.list ds] (.list ds) := fun G H xs s a Q q => by
  obtain ⟨x, rfl, dx⟩ := dpa_one a
  obtain ⟨p, ys, rfl, hs, ha⟩ := dp_lst dx
  refine ⟨p, ys, rfl, .inl (s.seq hs), fun l hl => ?_⟩
  have ex := Ext.new (o := .lst ys) s hl
  exact q _ _ _ ex (.lst (.inl (.inl upd_same)) (dpall_up ex.g ha))
/-! slices -/
def cutD (ds : List PyData) (lo hi : Option Int) : List PyData := (ds.drop (HT.sIx ds.length 0 lo)).take (HT.sIx ds.length ds.length hi - HT.sIx ds.length 0 lo)
theorem dpa_cut {K : PySem.W.Frag} {G : Hp} {xs : List V} {ds : List PyData} {lo hi : Option Int} (h : DpAll K G xs ds) : DpAll K G (cutV xs lo hi) (cutD ds lo hi) := by
  unfold cutV cutD
  rw [dpa_len h]
  exact dpa_take _ (dpa_drop _ h)
def OX (C : Cn) (to : TO) (ρ : Rho) (i : Option Int) : Prop := ∀ (B : Bs) (G H : Hp) (σ : L2.St), Ok C B G H σ ρ → ∀ Q : Option Int → Hp → Prop, (∀ G' H', Ok C B G' H' σ ρ → Sx B G H G' H' → Q i H') → to σ H Q
theorem ox_part {i : Int} (h : DE C te ρ (.int i)) : OX C (tPart te) ρ (some i) := fun B G H σ o Q q => h B G H σ o _ fun v d ρ' G' H' ⟨e1, e2⟩ o' s dv => by
  subst e1 e2
  exact ⟨i, dp_int dv, q G' H' o' s⟩
theorem ox_none : OX C (fun _ H Q => Q none H) ρ none := fun B G H σ o Q q => q G H o Sx.refl
theorem de_slT {lo hi : Option Int} {tl th : TO} {ds : List PyData} (h : DE C te ρ (.tuple ds)) (hl : OX C tl ρ lo) (hh : OX C th ρ hi) : DE C (tSl (rSlA C.K) te tl th) ρ (.tuple (cutD ds lo hi)) := fun B G H σ o Q q => by
  refine h B G H σ o _ fun x d ρ' G1 H1 p o1 s1 dx => ?_
  obtain ⟨rfl, rfl⟩ := p
  refine hl B G1 H1 σ o1 _ fun G2 H2 o2 s2 => hh B G2 H2 σ o2 _ fun G3 H3 o3 s3 => ?_
  obtain ⟨a, xs, rfl, hs, ha⟩ := dp_tup dx
  have sm := s2.trans s3
  refine ⟨a, xs, rfl, Same.tup (sm.g.trans o3.gh) hs, fun hw => ?_, fun _ p hp => ?_⟩
  · refine q _ _ _ G3 H3 ⟨rfl, rfl⟩ o3 (s1.trans sm) ?_
    have e : cutD ds lo hi = ds := by
      unfold cutD
      rw [← dpa_len ha, hw.1, hw.2, dpa_len ha, List.drop_zero, Nat.sub_zero, List.take_length]
    rw [e]
    exact .tup (Same.tup sm.g hs) (dpall_up sm.g ha)
  · obtain ⟨o4, s4⟩ := o3.newx (o := .tup (cutV xs lo hi)) hp
    exact q _ _ _ _ _ ⟨rfl, rfl⟩ o4 ((s1.trans sm).trans s4) (.tup (.inl (.inl upd_same)) (dpall_up (sm.g.trans s4.g) (dpa_cut ha)))
theorem de_slL {lo hi : Option Int} {tl th : TO} {ds : List PyData} (h : DE C te ρ (.list ds)) (hl : OX C tl ρ lo) (hh : OX C th ρ hi) : DE C (tSl (rSlL C.K) te tl th) ρ (.list (cutD ds lo hi)) := fun B G H σ o Q q => by
  refine h B G H σ o _ fun x d ρ' G1 H1 p o1 s1 dx => ?_
  obtain ⟨rfl, rfl⟩ := p
  refine hl B G1 H1 σ o1 _ fun G2 H2 o2 s2 => hh B G2 H2 σ o2 _ fun G3 H3 o3 s3 => ?_
  obtain ⟨a, xs, rfl, hs, ha⟩ := dp_lst dx
  have sm := s2.trans s3
  refine ⟨a, xs, rfl, (sm.g.trans o3.gh).seq hs, fun p hp => ?_⟩
  obtain ⟨o4, s4⟩ := o3.newx (o := .lst (cutV xs lo hi)) hp
  exact q _ _ _ _ _ ⟨rfl, rfl⟩ o4 ((s1.trans sm).trans s4) (.lst (.inl (.inl upd_same)) (dpall_up (sm.g.trans s4.g) (dpa_cut ha)))
/-! tests, ifs -/
theorem tx_B {P : Bool → Rho → Prop} (h : DX C te ρ fun d ρ1 => ∃ b, d = .bool b ∧ P b ρ1) : TX C (tB te) ρ P := fun B G H σ o Q q => h B G H σ o _ fun v d ρ' G' H' p o' s dv => by
  obtain ⟨b, rfl, p⟩ := p
  exact ⟨b, dp_bool dv, q b ρ' G' H' p o' s⟩
theorem dt_B {b : Bool} (h : DE C te ρ (.bool b)) : DT C (tB te) ρ b := tx_B (h.of ⟨b, rfl, rfl, rfl⟩)
theorem tx_test {P : Bool → Rho → Prop} (h : DX C te ρ fun d ρ1 => ∃ b, d = .bool b ∧ P b ρ1) : TX C (tTest te) ρ P := fun B G H σ o Q q => h B G H σ o _ fun v d ρ' G' H' p o' s dv => by
  obtain ⟨b, rfl, p⟩ := p
  exact ⟨b, dp_bool dv, q b ρ' G' H' p o' s⟩
theorem dt_test {b : Bool} (h : DE C te ρ (.bool b)) : DT C (tTest te) ρ b := tx_test (h.of ⟨b, rfl, rfl, rfl⟩)
theorem tx_and {P : Bool → Rho → Prop} (h : TX C t ρ fun a ρ1 => (a = true → TX C u ρ1 P) ∧ (a = false → P false ρ1)) : TX C (tAnd t u) ρ P := fun B G H σ o Q q => h B G H σ o _ fun a ρ1 G1 H1 p o1 s1 => by
  cases a with
  | true => exact p.1 rfl B G1 H1 σ o1 Q fun b ρ2 G2 H2 p2 o2 s2 => q b ρ2 G2 H2 p2 o2 (s1.trans s2)
  | false => exact q false ρ1 G1 H1 (p.2 rfl) o1 s1
theorem dt_and {a b : Bool} (h : DT C t ρ a) (h2 : a = true → DT C u ρ b) : DT C (tAnd t u) ρ (a && b) := tx_and (h.of ⟨fun e => (h2 e).of ⟨by rw [e]; rfl, rfl⟩, fun e => ⟨by rw [e]; rfl, rfl⟩⟩)
theorem tx_or {P : Bool → Rho → Prop} (h : TX C t ρ fun a ρ1 => (a = false → TX C u ρ1 P) ∧ (a = true → P true ρ1)) : TX C (tOr t u) ρ P := fun B G H σ o Q q => h B G H σ o _ fun a ρ1 G1 H1 p o1 s1 => by
  cases a with
  | false => exact p.1 rfl B G1 H1 σ o1 Q fun b ρ2 G2 H2 p2 o2 s2 => q b ρ2 G2 H2 p2 o2 (s1.trans s2)
  | true => exact q true ρ1 G1 H1 (p.2 rfl) o1 s1
theorem dt_or {a b : Bool} (h : DT C t ρ a) (h2 : a = false → DT C u ρ b) : DT C (tOr t u) ρ (a || b) := tx_or (h.of ⟨fun e => (h2 e).of ⟨by rw [e]; rfl, rfl⟩, fun e => ⟨by rw [e]; rfl, rfl⟩⟩)
theorem dt_not {a : Bool} (h : DT C t ρ a) : DT C (tNot t) ρ (!a) := fun B G H σ o Q q => h B G H σ o _ fun a' ρ1 G1 H1 p o1 s1 => by
  obtain ⟨rfl, rfl⟩ := p
  exact q _ _ G1 H1 ⟨rfl, rfl⟩ o1 s1
theorem dx_if (h : TX C t ρ fun b ρ1 => (b = true → DX C ta ρ1 P) ∧ (b = false → DX C tb ρ1 P)) : DX C (tIf t ta tb) ρ P := fun B G H σ o Q q => h B G H σ o _ fun b ρ1 G1 H1 p o1 s1 => by
  cases b with
  | true => exact p.1 rfl B G1 H1 σ o1 Q fun v d ρ2 G2 H2 p2 o2 s2 => q v d ρ2 G2 H2 p2 o2 (s1.trans s2)
  | false => exact p.2 rfl B G1 H1 σ o1 Q fun v d ρ2 G2 H2 p2 o2 s2 => q v d ρ2 G2 H2 p2 o2 (s1.trans s2)
theorem de_if {b : Bool} (h : DT C t ρ b) (h1 : b = true → DE C ta ρ d) (h2 : b = false → DE C tb ρ d) : DE C (tIf t ta tb) ρ d := dx_if (h.of ⟨fun e => h1 e, fun e => h2 e⟩)
theorem de_andV {a b : Bool} (h1 : DE C ta ρ (.bool a)) (h2 : a = true → DE C tb ρ (.bool b)) : DE C (tAndV ta tb) ρ (.bool (a && b)) := fun B G H σ o Q q => h1 B G H σ o _ fun v d ρ' G1 H1 p o1 s1 dv => by
  obtain ⟨rfl, rfl⟩ := p
  refine ⟨a, dp_bool dv, ?_⟩
  cases a with
  | true => exact h2 rfl B G1 H1 σ o1 Q fun v d ρ2 G2 H2 p2 o2 s2 => q v d ρ2 G2 H2 p2 o2 (s1.trans s2)
  | false => exact q _ _ _ G1 H1 ⟨rfl, rfl⟩ o1 s1 (.bl false)
theorem de_orV {a b : Bool} (h1 : DE C ta ρ (.bool a)) (h2 : a = false → DE C tb ρ (.bool b)) : DE C (tOrV ta tb) ρ (.bool (a || b)) := fun B G H σ o Q q => h1 B G H σ o _ fun v d ρ' G1 H1 p o1 s1 dv => by
  obtain ⟨rfl, rfl⟩ := p
  refine ⟨a, dp_bool dv, ?_⟩
  cases a with
  | false => exact h2 rfl B G1 H1 σ o1 Q fun v d ρ2 G2 H2 p2 o2 s2 => q v d ρ2 G2 H2 p2 o2 (s1.trans s2)
  | true => exact q _ _ _ G1 H1 ⟨rfl, rfl⟩ o1 s1 (.bl true)
theorem de_notV {a : Bool} (h1 : DE C ta ρ (.bool a)) : DE C (tNotV ta) ρ (.bool (!a)) := fun B G H σ o Q q => h1 B G H σ o _ fun v d ρ' G1 H1 p o1 s1 dv => by
  obtain ⟨rfl, rfl⟩ := p
  exact ⟨a, dp_bool dv, q _ _ _ G1 H1 ⟨rfl, rfl⟩ o1 s1 (.bl _)⟩
end
end SC
namespace SC
open PySem PySem.Spec PyProof.Rows L2

/-! ### promises -/
/-- a def that changes nothing: of the data ds it gives d -/
def spP (K : PySem.W.Frag) (Pre : List PyData → PyData → Prop) : Sp := fun vs H Q _ => ∃ G ds d, Pre ds d ∧ Same G H ∧ DpAll K G vs ds ∧ ∀ v G' H', Ext G H G' H' → Dp K G' v d → Q v H'
/-- a def that draws at most c times from its first argument -/
def spN (K : PySem.W.Frag) (c : Nat) (pre : List PyData → Prop) (post : List PyData → PyData → Prop) : Sp := fun vs H Q _ => ∃ G a vs' ds n, vs = .ref a :: vs' ∧ pre ds ∧ Same G H ∧ G a = none ∧ TinAt H a n ∧ n + c ≤ 1000000 ∧ DpAll K G vs' ds ∧
  ∀ v d G' H', post ds d → Same G G' → Same G' H' → (∀ b o, b ≠ a → H b = some o → H' b = some o) → (∀ b, H b ≠ none → G b = none → G' b = none) → TinAt H' a (n + c) → Dp K G' v d → Q v H'

section
variable {C : Cn} {ρ ρ1 : Rho} {ta tb tc te : TE} {d e f : PyData} {P P' : PyData → Rho → Prop} {t u : TT} {r r' : R2} {as : TA} {E : XK}
theorem dx_call {Pre : List PyData → PyData → Prop} (h : AX C as ρ fun ds ρ1 => ∃ d, Pre ds d ∧ P d ρ1) : DX C (tCall (spP C.K Pre) [] E as) ρ P := fun B G H σ o Q q => by
  refine h B G H σ o _ fun vs ds ρ1 G1 H1 p1 o1 s1 dx => ?_
  obtain ⟨d, pre, p⟩ := p1
  refine ⟨G1, ds, d, pre, o1.gh, ?_, fun v G2 H2 ex dv => q v d ρ1 G2 H2 p (o1.on ex) (s1.trans ex.sx) dv⟩
  rw [List.append_nil]
  exact dx
theorem de_call {Pre : List PyData → PyData → Prop} {ds : List PyData} (h : DA C as ρ ds) (pre : Pre ds d) : DE C (tCall (spP C.K Pre) [] E as) ρ d := dx_call (h.of ⟨d, pre, rfl, rfl⟩)
theorem Ok.drawn {B : Bs} {G H G' H' : Hp} {σ : L2.St} {n m : Nat} {a : Addr} (k : Ok C B G H σ ρ) (e : ρ[0]? = some (.tin n)) (ea : σ[0]? = some (some (.ref a))) (g : Same G G') (gh : Same G' H')
    (hh : ∀ b o, b ≠ a → H b = some o → H' b = some o) (nw : ∀ b, H b ≠ none → G b = none → G' b = none) (t : TinAt H' a m) : Ok C B G' H' σ (ρ.set 0 (.tin m)) := by
  obtain ⟨a', q, bt, x0, y0, z0, ht, _⟩ := k.sl 0 _ e
  rw [ea] at q
  injection q with q
  injection q with q
  injection q with q
  subst q
  have hl : ∀ b o, H b = some o → (∀ xs, o ≠ .lst xs) → b ≠ a := fun b o eb no z => by
    rw [z, ht] at eb
    exact no _ (Option.some.inj eb).symm
  refine ⟨by rw [List.length_set, k.len], gh, k.g0.trans g, fun b o nt eb => hh b o (fun z => nt (by rw [z]; exact bt)) (k.h0 b o nt eb), fun b eb z => ?_, fun b e1 e2 => nw b (k.h1 b e1) (k.new b e1 e2), k.tb, fun p hp => ?_, k.tabt, fun i u eu => ?_, fun i n' eu => ?_, fun i l c ds es ne e1 e2 e3 => ?_⟩
  · by_cases hb : b = a
    · obtain ⟨x, y, w, h1, _⟩ := t
      rw [hb, h1] at z
      cases z
    · cases q : H b with
      | none => exact k.h1 b eb q
      | some o =>
        rw [hh b o hb q] at z
        cases z
  · obtain ⟨ps, t1, t2, t3⟩ := k.tab p hp
    refine ⟨ps, hh _ _ (hl _ _ t1 (fun _ z => nomatch z)) t1, t2, fun pos cv hc => ?_⟩
    obtain ⟨c, c1, c2⟩ := t3 pos cv hc
    exact ⟨c, c1, hh _ _ (hl _ _ c2 (fun _ z => by unfold LamX.CodeO at z; cases z)) c2⟩
  · rcases getset eu with ⟨i1, z1, _⟩ | ⟨n1, eu⟩
    · subst i1 z1
      exact ⟨a, ea, bt, t⟩
    · have s := k.sl i u eu
      cases u with
      | un => trivial
      | dat d =>
        obtain ⟨x, f, f1⟩ := s
        exact ⟨x, f, dp_up g f1⟩
      | own ds' =>
        obtain ⟨b, xs, f, f1, f2, f3, f4⟩ := s
        have nb : b ≠ a := fun z => (k.tb a bt).1 (by rw [← z]; exact f2)
        exact ⟨b, xs, f, nw b (by rw [f3]; simp) f1, f2, hh b _ nb f3, dpall_up g f4⟩
      | std ds' =>
        obtain ⟨b, xs, f, f1, f2⟩ := s
        exact ⟨b, xs, f, g _ _ f1, dpall_up g f2⟩
      | tin n => exact absurd (k.t0 i n eu) n1
  · rcases getset eu with ⟨e1, _, _⟩ | ⟨_, e2⟩
    · exact e1
    · exact k.t0 i n' e2
  · rcases getset e1 with ⟨_, z, _⟩ | ⟨n1, e1⟩
    · cases z
    · rcases getset e2 with ⟨_, z, _⟩ | ⟨n2, e2⟩
      · cases z
      · exact k.sep i l c ds es ne e1 e2 e3
/-- a draw -/
theorem dx_draw {c n : Nat} {pre : List PyData → Prop} {post : List PyData → PyData → Prop} (hi : ρ[0]? = some (.tin n)) (h : AX C as ρ fun ds ρ1 => ∃ m, ρ1[0]? = some (.tin m) ∧ m + c ≤ 1000000 ∧ pre ds ∧ ∀ d, post ds d → P d (ρ1.set 0 (.tin (m + c)))) :
    DX C (tCall (spN C.K c pre post) [] E (tCons (tVar 0) as)) ρ P := fun B G H σ o Q q => by
  obtain ⟨a, ea, bt, _⟩ := o.sl 0 _ hi
  refine ⟨.ref a, ea, ?_⟩
  refine h B G H σ o _ fun vs ds ρ1 G1 H1 p1 o1 s1 dx => ?_
  obtain ⟨m, hm, hc, hp, k⟩ := p1
  obtain ⟨a', ea', bt', ht⟩ := o1.sl 0 _ hm
  rw [ea] at ea'
  injection ea' with ea'
  injection ea' with ea'
  injection ea' with ea'
  subst ea'
  refine ⟨G1, a, vs, ds, m, ?_, hp, o1.gh, o1.tG bt, ht, hc, dx, fun v d G2 H2 pd g gh hh nw ht2 dv => ?_⟩
  · rw [List.append_nil]
  · refine q v d _ G2 H2 (k d pd) (o1.drawn hm ea g gh hh nw ht2) (s1.trans ⟨g, fun b o nt eb => hh b o (fun z => nt (by rw [z]; exact bt)) eb, fun b eb z => ?_, nw⟩) dv
    by_cases hb : b = a
    · obtain ⟨x, y, w, t1, _⟩ := ht2
      rw [hb, t1] at z
      cases z
    · cases q1 : H1 b with
      | none => exact eb q1
      | some o2 =>
        rw [hh b o2 hb q1] at z
        cases z

/-! ### statements -/
structure Post where
  nx : Rho → Prop
  rt : PyData → Rho → Prop := fun _ _ => False
  bk : Rho → Prop := fun _ => False
  ct : Rho → Prop := fun _ => False
def DS (C : Cn) (ts : TS) (ρ : Rho) (Z : Post) : Prop := ∀ (B : Bs) (G H : Hp) (σ : L2.St) (D : Ends), Ok C B G H σ ρ →
  (∀ ρ' G' H' σ', Z.nx ρ' → Ok C B G' H' σ' ρ' → Same G G' → D.nx σ' H') → (∀ v d ρ' G' H' σ', Z.rt d ρ' → Ok C B G' H' σ' ρ' → Same G G' → Dp C.K G' v d → D.rt v H') →
  (∀ ρ' G' H' σ', Z.bk ρ' → Ok C B G' H' σ' ρ' → Same G G' → D.bk σ' H') → (∀ ρ' G' H' σ', Z.ct ρ' → Ok C B G' H' σ' ρ' → Same G G' → D.ct σ' H') → ts D σ H
variable {ts us : TS} {Z Z' : Post}
theorem DS.mono (h : DS C ts ρ Z) (h1 : ∀ ρ', Z.nx ρ' → Z'.nx ρ') (h2 : ∀ d ρ', Z.rt d ρ' → Z'.rt d ρ') (h3 : ∀ ρ', Z.bk ρ' → Z'.bk ρ') (h4 : ∀ ρ', Z.ct ρ' → Z'.ct ρ') : DS C ts ρ Z' := fun B G H σ D o k1 k2 k3 k4 =>
  h B G H σ D o (fun ρ' G' H' σ' p => k1 ρ' G' H' σ' (h1 ρ' p)) (fun v d ρ' G' H' σ' p => k2 v d ρ' G' H' σ' (h2 d ρ' p)) (fun ρ' G' H' σ' p => k3 ρ' G' H' σ' (h3 ρ' p)) (fun ρ' G' H' σ' p => k4 ρ' G' H' σ' (h4 ρ' p))
theorem ds_seq (h : DS C ts ρ { Z with nx := fun ρ' => DS C us ρ' Z }) : DS C (tSeq ts us) ρ Z := fun B G H σ D o k1 k2 k3 k4 =>
  h B G H σ { D with nx := us D } o (fun ρ' G' H' σ' p o' s => p B G' H' σ' D o' (fun ρ2 G2 H2 σ2 p2 o2 s2 => k1 ρ2 G2 H2 σ2 p2 o2 (s.trans s2)) (fun v d ρ2 G2 H2 σ2 p2 o2 s2 => k2 v d ρ2 G2 H2 σ2 p2 o2 (s.trans s2))
    (fun ρ2 G2 H2 σ2 p2 o2 s2 => k3 ρ2 G2 H2 σ2 p2 o2 (s.trans s2)) (fun ρ2 G2 H2 σ2 p2 o2 s2 => k4 ρ2 G2 H2 σ2 p2 o2 (s.trans s2))) k2 k3 k4
theorem ds_next (h : Z.nx ρ) : DS C tNext ρ Z := fun B G H σ D o k1 _ _ _ => k1 ρ G H σ h o (Same.refl _)
theorem ds_ret (h : DX C te ρ Z.rt) : DS C (tRet te) ρ Z := fun B G H σ D o k1 k2 k3 k4 => h B G H σ o D.rt fun v d ρ' G' H' p o' s dv => k2 v d ρ' G' H' σ p o' s.g dv
theorem ds_retD (h : DE C te ρ d) (p : Z.rt d ρ) : DS C (tRet te) ρ Z := ds_ret (h.of p)
theorem ds_if (h : TX C t ρ fun b ρ1 => (b = true → DS C ts ρ1 Z) ∧ (b = false → DS C us ρ1 Z)) : DS C (tIfS t ts us) ρ Z := fun B G H σ D o k1 k2 k3 k4 => by
  refine h B G H σ o _ fun b ρ1 G1 H1 p o1 s => ?_
  have j1 : ∀ ρ' G' H' σ', Z.nx ρ' → Ok C B G' H' σ' ρ' → Same G1 G' → D.nx σ' H' := fun ρ2 G2 H2 σ2 p2 o2 s2 => k1 ρ2 G2 H2 σ2 p2 o2 (s.g.trans s2)
  have j2 : ∀ v d ρ' G' H' σ', Z.rt d ρ' → Ok C B G' H' σ' ρ' → Same G1 G' → Dp C.K G' v d → D.rt v H' := fun v d ρ2 G2 H2 σ2 p2 o2 s2 => k2 v d ρ2 G2 H2 σ2 p2 o2 (s.g.trans s2)
  have j3 : ∀ ρ' G' H' σ', Z.bk ρ' → Ok C B G' H' σ' ρ' → Same G1 G' → D.bk σ' H' := fun ρ2 G2 H2 σ2 p2 o2 s2 => k3 ρ2 G2 H2 σ2 p2 o2 (s.g.trans s2)
  have j4 : ∀ ρ' G' H' σ', Z.ct ρ' → Ok C B G' H' σ' ρ' → Same G1 G' → D.ct σ' H' := fun ρ2 G2 H2 σ2 p2 o2 s2 => k4 ρ2 G2 H2 σ2 p2 o2 (s.g.trans s2)
  cases b with
  | true => exact p.1 rfl B G1 H1 σ D o1 j1 j2 j3 j4
  | false => exact p.2 rfl B G1 H1 σ D o1 j1 j2 j3 j4
theorem ds_ifD {b : Bool} (h : DT C t ρ b) (h1 : b = true → DS C ts ρ Z) (h2 : b = false → DS C us ρ Z) : DS C (tIfS t ts us) ρ Z := ds_if (h.of ⟨h1, h2⟩)
theorem ds_asg {i : Nat} (h : DX C te ρ fun d ρ1 => Z.nx (ρ1.set i (.dat d))) : DS C (tAsg te (gName i)) ρ Z := fun B G H σ D o k1 k2 k3 k4 => h B G H σ o _ fun v d ρ' G' H' p o' s dv => k1 _ G' H' _ p (o'.setd i dv) s.g
theorem ds_asgD {i : Nat} (h : DE C te ρ d) (k : Z.nx (ρ.set i (.dat d))) : DS C (tAsg te (gName i)) ρ Z := ds_asg (h.of k)
theorem ds_drop (h : DX C te ρ fun _ ρ1 => Z.nx ρ1) : DS C (tDrop te) ρ Z := fun B G H σ D o k1 k2 k3 k4 => h B G H σ o _ fun v d ρ' G' H' p o' s dv => k1 _ G' H' _ p o' s.g
theorem ds_par {i j : Nat} (h : AX C as ρ fun ds ρ1 => ∃ d e, ds = [d, e] ∧ Z.nx ((ρ1.set i (.dat d)).set j (.dat e))) : DS C (tPar i j as) ρ Z := fun B G H σ D o k1 k2 k3 k4 => h B G H σ o _ fun vs ds ρ' G' H' p o' s dv => by
  obtain ⟨d, e, rfl, p⟩ := p
  obtain ⟨x, y, rfl, dx, dy⟩ := dpa_two dv
  exact ⟨x, y, rfl, k1 _ G' H' _ p ((o'.setd i dx).setd j dy) s.g⟩
theorem ds_parD {i j : Nat} (h : DA C as ρ [d, e]) (k : Z.nx ((ρ.set i (.dat d)).set j (.dat e))) : DS C (tPar i j as) ρ Z := ds_par (h.of ⟨d, e, rfl, k⟩)
/-- a slot is forgotten; a list of one's own stands -/
theorem ds_forget (i : Nat) (h : DS C ts (ρ.set i .un) Z) : DS C ts ρ Z := fun B G H σ D o k1 k2 k3 k4 => h B G H σ D (o.drop i) k1 k2 k3 k4
theorem ds_freeze {i : Nat} {ds : List PyData} (e : ρ[i]? = some (.own ds)) (h : DS C ts (ρ.set i (.dat (.list ds))) Z) : DS C ts ρ Z := fun B G H σ D o k1 k2 k3 k4 => by
  obtain ⟨a, vs, ea, _, _, e3, e4⟩ := o.sl i _ e
  obtain ⟨o1, s⟩ := o.freeze e ea e3 e4
  exact h B _ H σ D o1 (fun ρ2 G2 H2 σ2 p2 o2 s2 => k1 ρ2 G2 H2 σ2 p2 o2 (s.trans s2)) (fun v d ρ2 G2 H2 σ2 p2 o2 s2 => k2 v d ρ2 G2 H2 σ2 p2 o2 (s.trans s2))
    (fun ρ2 G2 H2 σ2 p2 o2 s2 => k3 ρ2 G2 H2 σ2 p2 o2 (s.trans s2)) (fun ρ2 G2 H2 σ2 p2 o2 s2 => k4 ρ2 G2 H2 σ2 p2 o2 (s.trans s2))
/-! ### lists of one's own -/
theorem ds_asgOwn {i : Nat} (h : AX C as ρ fun ds ρ1 => ds.length ≤ 100000 ∧ Z.nx (ρ1.set i (.own ds))) : DS C (tAsg (tLst as) (gName i)) ρ Z := fun B G H σ D o k1 k2 k3 k4 => h B G H σ o _ fun xs ds ρ' G' H' p o' s dv => by
  refine ⟨?_, fun q hq => k1 _ G' _ _ p.2 (o'.setown i hq dv) s.g⟩
  rw [dpa_len dv]
  exact sz1000 p.1
theorem ds_asgOwnD {i : Nat} {ds : List PyData} (h : DA C as ρ ds) (hl : ds.length ≤ 100000) (k : Z.nx (ρ.set i (.own ds))) : DS C (tAsg (tLst as) (gName i)) ρ Z := ds_asgOwn (h.of ⟨hl, k⟩)
theorem ref_inj {v : Option (Option V)} {a b : Addr} (h : v = some (some (.ref a))) (h2 : v = some (some (.ref b))) : a = b := by
  rw [h] at h2
  injection h2 with h2
  injection h2 with h2
  injection h2
theorem ds_append {i : Nat} {ds : List PyData} (hi : ρ[i]? = some (.own ds)) (h : DX C te ρ fun d ρ1 => ∃ es, ρ1[i]? = some (.own es) ∧ es.length < 100000 ∧ Z.nx (ρ1.set i (.own (es ++ [d])))) :
    DS C (tDrop (tBM C.K "list" rAppend (tVar i) (tCons te tNil))) ρ Z := fun B G H σ D o k1 k2 k3 k4 => by
  obtain ⟨a, vs, ea, _, _, e3, _⟩ := o.sl i _ hi
  refine ⟨.ref a, ea, .inl ⟨rfl, vs, .inl (.inl e3)⟩, ?_⟩
  refine h B G H σ o _ fun v d ρ1 G1 H1 p o1 s dv => ?_
  obtain ⟨es, he, hl, k⟩ := p
  obtain ⟨a', ws, ea', f1, f2, f3, f4⟩ := o1.sl i _ he
  have e := ref_inj ea' ea
  subst e
  refine ⟨a', ws, v, rfl, rfl, f3, ?_, ?_⟩
  · rw [dpa_len f4]
    exact Nat.lt_of_lt_of_le hl (by decide)
  · exact k1 _ G1 _ σ k (o1.putown he ea (dpa_app f4 (.cons dv .nil))) s.g
theorem ds_appendD {i : Nat} {ds : List PyData} (hi : ρ[i]? = some (.own ds)) (h : DE C te ρ d) (hl : ds.length < 100000) (k : Z.nx (ρ.set i (.own (ds ++ [d])))) : DS C (tDrop (tBM C.K "list" rAppend (tVar i) (tCons te tNil))) ρ Z :=
  ds_append hi (h.of ⟨ds, hi, hl, k⟩)
theorem ds_setitem {i : Nat} {ds : List PyData} {k : Int} {j : Nat} (hi : ρ[i]? = some (.own ds)) (h : DE C te ρ d) (hk : DE C tb ρ (.int k)) (hj : ixN ds.length k = some j) (z : Z.nx (ρ.set i (.own (ds.set j d)))) :
    DS C (tAsg te (gSub (tVar i) tb rSetL)) ρ Z := fun B G H σ D o k1 k2 k3 k4 => by
  refine h B G H σ o _ fun v d' ρ1 G1 H1 p o1 s dv => ?_
  obtain ⟨rfl, rfl⟩ := p
  obtain ⟨a, vs, ea, e1, e2, e3, e4⟩ := o1.sl i _ hi
  refine ⟨.ref a, ea, ?_⟩
  refine hk B G1 H1 σ o1 _ fun w d2 ρ2 G2 H2 p2 o2 s2 dw => ?_
  obtain ⟨rfl, rfl⟩ := p2
  obtain ⟨a', ws, ea', f1, f2, f3, f4⟩ := o2.sl i _ hi
  have e := ref_inj ea' ea
  subst e
  refine ⟨a', ws, k, j, rfl, dp_int dw, f3, ?_, ?_⟩
  · rw [dpa_len f4]
    exact hj
  · exact k1 _ G2 _ σ z (o2.putown hi ea (dpa_set (dp_up s2.g dv) j f4)) (s.g.trans s2.g)
/-- an item of a list of one's own -/
theorem de_ixOwn {i : Nat} {ds : List PyData} {k : Int} (hi : ρ[i]? = some (.own ds)) (hk : DE C tb ρ (.int k)) (ha : atI ds k = some d) : DE C (tOp (rIxL C.K) (tVar i) tb) ρ d := fun B G H σ o Q q => by
  obtain ⟨a, vs, ea, e1, e2, e3, e4⟩ := o.sl i _ hi
  refine ⟨.ref a, ea, ?_⟩
  refine hk B G H σ o _ fun w d2 ρ2 G2 H2 p2 o2 s2 dw => ?_
  obtain ⟨rfl, rfl⟩ := p2
  obtain ⟨a', ws, ea', f1, f2, f3, f4⟩ := o2.sl i _ hi
  have e := ref_inj ea' ea
  subst e
  obtain ⟨x, hx, dx⟩ := atI_dp f4 ha
  exact ⟨a', ws, k, x, rfl, dp_int dw, .inl (.inl f3), hx, q _ _ _ G2 H2 ⟨rfl, rfl⟩ o2 s2 dx⟩
def scalD : PyData → Bool
  | .none => true
  | .bool _ => true
  | .int _ => true
  | .str _ => true
  | _ => false
theorem dp_scal {K : PySem.W.Frag} {G G' : Hp} {v : V} (h : Dp K G v d) (s : scalD d = true) : Dp K G' v d := by
  cases h with
  | non => exact .non
  | bl b => exact .bl b
  | int b => exact .int b
  | str b => exact .str b
  | lst _ _ => cases s
  | tup _ _ => cases s
/-- a number or a truth reckoned with a list of one's own in sight -/
theorem look_ok {B : Bs} {G H G2 H2 : Hp} {σ : L2.St} {i : Nat} {a : Addr} {vs : List V} {ds : List PyData} (o : Ok C B G H σ ρ) (e : ρ[i]? = some (.own ds)) (ea : σ[i]? = some (some (.ref a))) (e3 : H a = some (.lst vs)) (e4 : DpAll C.K G vs ds)
    (o2 : Ok C B G2 H2 σ (ρ.set i (.dat (.list ds)))) (s : Sx B (upd G a (.lst vs)) H G2 H2) : ∃ G3, Ok C B G3 H2 σ ρ ∧ Sx B G H G3 H2 := by
  obtain ⟨a', ws, r, q1, q2, r3, r4⟩ := o.sl i _ e
  have ee := ref_inj r ea
  subst ee
  have na : ∀ b o', G b = some o' → b ≠ a' := fun b o' q z => by rw [z, q1] at q; cases q
  have nt : ¬ B.t a' := fun z => (o.tb a' z).1 q2
  have h2 : H2 a' = some (.lst vs) := s.h a' _ nt e3
  have sm : Same G (upd G a' (.lst vs)) := same_new q1
  have hn : ∀ b, H b ≠ none → G b = none → (fun b => if b = a' then none else G b) b = none := fun b _ q => by
    show (if b = a' then none else G b) = none
    split
    · rfl
    · exact q
  refine ⟨G, ⟨o.len, (sm.trans s.g).trans o2.gh, o.g0, o2.h0, o2.h1, o.new, o2.tb, o2.tab, o2.tabt, fun j u eu => ?_, o.t0, o.sep⟩, ⟨Same.refl _, s.h, s.h1, fun b _ q => q⟩⟩
  have w := o.sl j u eu
  cases u with
  | un => trivial
  | dat d => exact w
  | own es =>
    obtain ⟨b, xs, f, f1, f2, f3, f4⟩ := w
    exact ⟨b, xs, f, f1, f2, s.h b _ (fun z => (o.tb b z).1 f2) f3, f4⟩
  | std d => exact w
  | tin n =>
    by_cases hj : j = i
    · rw [hj, e] at eu
      cases eu
    · exact o2.sl j _ (by rw [List.getElem?_set_ne (Ne.symm hj)]; exact eu)
theorem de_look {i : Nat} {ds : List PyData} (e : ρ[i]? = some (.own ds)) (h : DE C te (ρ.set i (.dat (.list ds))) d) (sc : scalD d = true := by rfl) : DE C te ρ d := fun B G H σ o Q q => by
  obtain ⟨a, vs, ea, e1, e2, e3, e4⟩ := o.sl i _ e
  obtain ⟨o1, s⟩ := o.freeze e ea e3 e4
  refine h B _ H σ o1 Q fun v d' ρ' G2 H2 p o2 s2 dv => ?_
  obtain ⟨rfl, rfl⟩ := p
  obtain ⟨G3, o3, s3⟩ := look_ok o e ea e3 e4 o2 s2
  exact q v d' ρ G3 H2 ⟨rfl, rfl⟩ o3 s3 (dp_scal dv sc)
theorem dt_look {i : Nat} {ds : List PyData} {b : Bool} (e : ρ[i]? = some (.own ds)) (h : DT C t (ρ.set i (.dat (.list ds))) b) : DT C t ρ b := fun B G H σ o Q q => by
  obtain ⟨a, vs, ea, e1, e2, e3, e4⟩ := o.sl i _ e
  obtain ⟨o1, s⟩ := o.freeze e ea e3 e4
  refine h B _ H σ o1 Q fun d' ρ' G2 H2 p o2 s2 => ?_
  obtain ⟨rfl, rfl⟩ := p
  obtain ⟨G3, o3, s3⟩ := look_ok o e ea e3 e4 o2 s2
  exact q d' ρ G3 H2 ⟨rfl, rfl⟩ o3 s3
end
end SC
namespace SC
open PySem PySem.Spec PyProof.Rows L2

/-! ### what is walked -/
structure WalkOk (C : Cn) (J : It) (G : Hp) (ys : List PyData) : Prop where
  stop : ∀ i G1 H1, Same G G1 → Same G1 H1 → ys.length ≤ i → J.stop i H1
  go : ∀ i G1 H1, Same G G1 → Same G1 H1 → i < ys.length → J.go i H1
  yld : ∀ i G1 H1 x H2 y, Same G G1 → Same G1 H1 → J.yld i H1 x H2 → ys[i]? = some y → ∃ G2, Ext G1 H1 G2 H2 ∧ Dp C.K G2 x y
def WX (C : Cn) (wi : TI) (ρ : Rho) (P : List PyData → Rho → Prop) : Prop := ∀ (B : Bs) (G H : Hp) (σ : L2.St), Ok C B G H σ ρ → ∀ R : It → Hp → Prop, (∀ J ys ρ' G' H', P ys ρ' → Ok C B G' H' σ ρ' → Sx B G H G' H' → WalkOk C J G' ys → R J H') → wi σ H R
abbrev DW (C : Cn) (wi : TI) (ρ : Rho) (ys : List PyData) : Prop := WX C wi ρ fun ys' ρ' => ys' = ys ∧ ρ' = ρ
section
variable {C : Cn} {ρ ρ1 : Rho} {ta tb tc te : TE} {d e f : PyData} {P P' : PyData → Rho → Prop} {t u : TT} {r r' : R2} {as : TA} {E : XK} {ts us : TS} {Z Z' : Post} {wi : TI} {ys ds : List PyData} {g : TG}
theorem WX.mono {P P' : List PyData → Rho → Prop} (h : WX C wi ρ P) (k : ∀ d ρ', P d ρ' → P' d ρ') : WX C wi ρ P' := fun B G H σ o Q q => h B G H σ o Q fun J d ρ' G' H' p => q J d ρ' G' H' (k d ρ' p)
theorem WX.of {P : List PyData → Rho → Prop} (h : DW C wi ρ ys) (p : P ys ρ) : WX C wi ρ P := h.mono fun _ _ ⟨e1, e2⟩ => by
  subst e1 e2
  exact p
theorem getlt {α : Type} {l : List α} {i : Nat} (h : i < l.length) : ∃ x, l[i]? = some x := ⟨l[i], List.getElem?_eq_getElem h⟩
theorem walk_lst {C : Cn} {G1 : Hp} {a : Addr} {xs : List V} {ds : List PyData} (hs : SqL C.K G1 a xs) (ha : DpAll C.K G1 xs ds) : WalkOk C (Itl C.K a) G1 ds := by
  refine ⟨fun i G2 H2 g h hi => ⟨xs, (g.trans h).seq hs, by rw [dpa_len ha]; exact hi⟩, fun i G2 H2 g h hi => ?_, fun i G2 H2 x H3 y g h hy ey => ?_⟩
  · obtain ⟨y, ey⟩ := getlt hi
    obtain ⟨v, hv, _⟩ := dpa_get ha ey
    exact ⟨xs, v, (g.trans h).seq hs, hv⟩
  · obtain ⟨rfl, hx⟩ := hy
    have hv := hx xs ((g.trans h).seq hs)
    obtain ⟨d', e1, e2⟩ := dpa_getv ha hv
    rw [ey] at e1
    cases e1
    exact ⟨G2, Ext.refl h, dp_up g e2⟩
theorem walk_tup {C : Cn} {G1 : Hp} {a : Addr} {xs : List V} {ds : List PyData} (hs : SqT C.K G1 a xs) (ha : DpAll C.K G1 xs ds) : WalkOk C (Itt C.K a) G1 ds := by
  refine ⟨fun i G2 H2 g h hi => ⟨xs, Same.tup (g.trans h) hs, by rw [dpa_len ha]; exact hi⟩, fun i G2 H2 g h hi => ?_, fun i G2 H2 x H3 y g h hy ey => ?_⟩
  · obtain ⟨y, ey⟩ := getlt hi
    obtain ⟨v, hv, _⟩ := dpa_get ha ey
    exact ⟨xs, v, Same.tup (g.trans h) hs, hv⟩
  · obtain ⟨rfl, hx⟩ := hy
    have hv := hx xs (Same.tup (g.trans h) hs)
    obtain ⟨d', e1, e2⟩ := dpa_getv ha hv
    rw [ey] at e1
    cases e1
    exact ⟨G2, Ext.refl h, dp_up g e2⟩
theorem dw_list (h : DE C te ρ (.list ds)) : DW C (iList C.K te) ρ ds := fun B G H σ o R q => h B G H σ o _ fun v d ρ' G1 H1 p o1 s dv => by
  obtain ⟨rfl, rfl⟩ := p
  obtain ⟨a, xs, rfl, hs, ha⟩ := dp_lst dv
  exact ⟨a, rfl, ⟨xs, o1.gh.seq hs⟩, q _ ds _ G1 H1 ⟨rfl, rfl⟩ o1 s (walk_lst hs ha)⟩
theorem dw_tup (h : DE C te ρ (.tuple ds)) : DW C (iTup C.K te) ρ ds := fun B G H σ o R q => h B G H σ o _ fun v d ρ' G1 H1 p o1 s dv => by
  obtain ⟨rfl, rfl⟩ := p
  obtain ⟨a, xs, rfl, hs, ha⟩ := dp_tup dv
  exact ⟨a, rfl, ⟨xs, Same.tup o1.gh hs⟩, q _ ds _ G1 H1 ⟨rfl, rfl⟩ o1 s (walk_tup hs ha)⟩
/-- lo, lo + 1, .. (n of them) -/
def rngD (lo : Int) (n : Nat) : List PyData := (List.range n).map fun i : Nat => .int (lo + (i : Int))
theorem rngD_len {lo : Int} {n : Nat} : (rngD lo n).length = n := by simp [rngD]
theorem rngD_get {lo : Int} {n i : Nat} {y : PyData} (h : (rngD lo n)[i]? = some y) : i < n ∧ y = .int (lo + (i : Int)) := by
  have hl : i < (rngD lo n).length := (List.getElem?_eq_some_iff.mp h).1
  rw [rngD_len] at hl
  unfold rngD at h
  rw [List.getElem?_map, List.getElem?_range hl] at h
  simp at h
  exact ⟨hl, h.symm⟩
theorem walk_rng {G : Hp} {lo : Int} {n : Nat} : WalkOk C (Itr lo n) G (rngD lo n) := ⟨fun i _ _ _ _ hi => by rw [rngD_len] at hi; exact hi, fun i _ _ _ _ hi => by rw [rngD_len] at hi; exact hi, fun i G2 H2 x H3 y g h hy ey => by
  obtain ⟨rfl, rfl⟩ := hy
  obtain ⟨_, rfl⟩ := rngD_get ey
  exact ⟨G2, Ext.refl h, .int _⟩⟩
theorem wx_rng1 {P : List PyData → Rho → Prop} (h : AX C as ρ fun ds ρ1 => ∃ n : Int, ds = [.int n] ∧ -(2 ^ 62) ≤ n ∧ n < 2 ^ 62 ∧ P (rngD 0 n.toNat) ρ1) : WX C (iRng1 as) ρ P := fun B G H σ o R q => h B G H σ o _ fun vs ds ρ' G1 H1 p o1 s dv => by
  obtain ⟨n, rfl, h1, h2, p⟩ := p
  obtain ⟨x, rfl, dx⟩ := dpa_one dv
  exact ⟨n, by rw [dp_int dx], h1, h2, q _ _ _ G1 H1 p o1 s walk_rng⟩
theorem dw_rng1 {n : Nat} (h : DA C as ρ [.int (n : Int)]) (h2 : n < 2 ^ 62) : DW C (iRng1 as) ρ (rngD 0 n) := wx_rng1 (h.of ⟨n, rfl, by omega, by omega, by simp, rfl⟩)
theorem dw_rng2 {lo hi : Int} (h : DA C as ρ [.int lo, .int hi]) (h2 : -(2 ^ 62) ≤ lo ∧ lo < 2 ^ 62 ∧ -(2 ^ 62) ≤ hi ∧ hi < 2 ^ 62) : DW C (iRng2 as) ρ (rngD lo (hi - lo).toNat) := fun B G H σ o R q => h B G H σ o _ fun vs ds ρ' G1 H1 p o1 s dv => by
  obtain ⟨rfl, rfl⟩ := p
  obtain ⟨x, y, rfl, dx, dy⟩ := dpa_two dv
  exact ⟨lo, hi, by rw [dp_int dx, dp_int dy], h2, q _ _ _ G1 H1 ⟨rfl, rfl⟩ o1 s walk_rng⟩
def enumD (ds : List PyData) : List PyData := ds.mapIdx fun i d => .tuple [.int (i : Int), d]
theorem enumD_len : (enumD ds).length = ds.length := by simp [enumD]
theorem enumD_get {i : Nat} {y : PyData} (h : (enumD ds)[i]? = some y) : ∃ d, ds[i]? = some d ∧ y = .tuple [.int (i : Int), d] := by
  unfold enumD at h
  rw [List.getElem?_mapIdx] at h
  cases q : ds[i]? with
  | none =>
    rw [q] at h
    cases h
  | some d =>
    rw [q] at h
    exact ⟨d, rfl, (Option.some.inj h).symm⟩
theorem dw_enum (h : DA C as ρ [.list ds]) : DW C (iEnum C.K as) ρ (enumD ds) := fun B G H σ o R q => h B G H σ o _ fun vs ds' ρ' G1 H1 p o1 s dv => by
  obtain ⟨rfl, rfl⟩ := p
  obtain ⟨x, rfl, dx⟩ := dpa_one dv
  obtain ⟨a, xs, rfl, hs, ha⟩ := dp_lst dx
  refine ⟨a, xs, rfl, o1.gh.seq hs, q _ _ _ G1 H1 ⟨rfl, rfl⟩ o1 s ⟨fun i G2 H2 g h hi => ⟨xs, (g.trans h).seq hs, ?_⟩, fun i G2 H2 g h hi => ?_, fun i G2 H2 x H3 y g h hy ey => ?_⟩⟩
  · rw [enumD_len] at hi
    rw [dpa_len ha]
    exact hi
  · rw [enumD_len] at hi
    obtain ⟨y, ey⟩ := getlt hi
    obtain ⟨v, hv, _⟩ := dpa_get ha ey
    exact ⟨xs, v, (g.trans h).seq hs, hv⟩
  · obtain ⟨T, x', rfl, nT, rfl, hx⟩ := hy
    obtain ⟨d, ed, rfl⟩ := enumD_get ey
    have hv := hx xs ((g.trans h).seq hs)
    obtain ⟨d', e1, e2⟩ := dpa_getv ha hv
    rw [ed] at e1
    cases e1
    have ex := Ext.new (o := .tup [.int (i : Nat), x']) h nT
    exact ⟨_, ex, .tup (.inl (.inl upd_same)) (.cons (.int _) (.cons (dp_up (g.trans ex.g) e2) .nil))⟩
/-! ### targets -/
def setv (σ : L2.St) : List Nat → List V → L2.St
  | j :: js, x :: xs => setv (σ.set j (some x)) js xs
  | _, _ => σ
def setd (ρ : Rho) : List Nat → List PyData → Rho
  | j :: js, x :: xs => setd (ρ.set j (.dat x)) js xs
  | _, _ => ρ
theorem Ok.setv {B : Bs} {G H : Hp} : ∀ {js : List Nat} {xs : List V} {es : List PyData} {σ : L2.St} {ρ : Rho}, Ok C B G H σ ρ → DpAll C.K G xs es → Ok C B G H (SC.setv σ js xs) (SC.setd ρ js es)
  | [], [], [], _, _, o, _ => o
  | [], _ :: _, _ :: _, _, _, o, _ => o
  | _ :: _, [], [], _, _, o, _ => o
  | j :: js, x :: xs, d :: es, _, _, o, .cons h t => Ok.setv (js := js) (o.setd j h) t
def GT (C : Cn) (g : TG) (js : List Nat) (d : PyData) (es : List PyData) : Prop := ∀ (G H : Hp) (σ : L2.St) (v : V), Same G H → Dp C.K G v d → ∀ Q : L2.St → Hp → Prop, (∀ xs, DpAll C.K G xs es → Q (setv σ js xs) H) → g v σ H Q
theorem gt_name {j : Nat} : GT C (gName j) [j] d [d] := fun G H σ v s dv Q q => q [v] (.cons dv .nil)
inductive GNs : TGs → List Nat → Prop
  | nil : GNs gNil []
  | cons {u : TGs} {js : List Nat} (j : Nat) (h : GNs u js) : GNs (gCons (gName j) u) (j :: js)
theorem GNs.run {u : TGs} {js : List Nat} (h : GNs u js) : ∀ (xs : List V) (σ : L2.St) (H : Hp) (Q : L2.St → Hp → Prop), xs.length = js.length → Q (setv σ js xs) H → u xs σ H Q := by
  induction h with
  | nil =>
    intro xs σ H Q hl q
    cases xs with
    | nil => exact ⟨rfl, q⟩
    | cons _ _ => cases hl
  | cons j h ih =>
    intro xs σ H Q hl q
    cases xs with
    | nil => cases hl
    | cons x xs => exact ⟨x, xs, rfl, ih xs _ H Q (Nat.succ.inj hl) q⟩
theorem gt_tup {u : TGs} {js : List Nat} {n : Nat} (h : GNs u js) (hl : es.length = n) (hj : js.length = n) : GT C (gTup C.K n u) js (.tuple es) es := fun G H σ v s dv Q q => by
  obtain ⟨a, xs, rfl, hs, ha⟩ := dp_tup dv
  have hx := dpa_len ha
  exact ⟨a, xs, rfl, Same.tup s hs, hx.trans hl, h.run xs σ H Q (by omega) (q xs ha)⟩
theorem ds_asgT {js : List Nat} (h : DX C te ρ fun d ρ1 => ∃ es, GT C g js d es ∧ Z.nx (setd ρ1 js es)) : DS C (tAsg te g) ρ Z := fun B G H σ D o k1 k2 k3 k4 => h B G H σ o _ fun v d ρ' G' H' p o' s dv => by
  obtain ⟨es, gt, p⟩ := p
  exact gt G' H' σ v o'.gh dv _ fun xs ha => k1 _ G' H' _ p (o'.setv ha) s.g
/-! ### for -/
theorem ds_for {js : List Nat} (Iv : Nat → Rho → Prop) (h : WX C wi ρ fun ys ρ1 => Iv 0 ρ1 ∧ (∀ i y ρ', ys[i]? = some y → Iv i ρ' → ∃ es, GT C g js y es ∧ DS C ts (setd ρ' js es) { nx := Iv (i + 1), ct := Iv (i + 1), bk := Z.nx, rt := Z.rt }) ∧ ∀ ρ', Iv ys.length ρ' → Z.nx ρ') :
    DS C (tFor wi g ts) ρ Z := fun B G H σ D o k1 k2 k3 k4 => h B G H σ o _ fun J ys ρ1 G1 H1 p o1 s1 wk => by
  obtain ⟨i0, step, fin⟩ := p
  refine ⟨fun i m σ' H' => m = ys.length - i ∧ i ≤ ys.length ∧ ∃ ρ' G', Iv i ρ' ∧ Ok C B G' H' σ' ρ' ∧ Same G1 G', ⟨ys.length, by simp, Nat.zero_le _, ρ1, G1, i0, o1, Same.refl _⟩, ?_⟩
  rintro i m σ' H' ⟨rfl, hi, ρ', G', iv, o', g'⟩
  by_cases hlt : i < ys.length
  · refine .inr ⟨wk.go i G' H' g' o'.gh hlt, fun σ2 H2 => ∃ ρ2 G2, Iv (i + 1) ρ2 ∧ Ok C B G2 H2 σ2 ρ2 ∧ Same G1 G2, fun σ2 H2 ⟨ρ2, G2, a, b, c⟩ => ⟨ys.length - (i + 1), by omega, rfl, hlt, ρ2, G2, a, b, c⟩, fun x H2 hy => ?_⟩
    obtain ⟨y, ey⟩ := getlt hlt
    obtain ⟨G2, ex, dx⟩ := wk.yld i G' H' x H2 y g' o'.gh hy ey
    obtain ⟨es, gt, body⟩ := step i y ρ' ey iv
    refine gt G2 H2 σ' x ex.gh dx _ fun xs ha => ?_
    have o2 := (o'.on ex).setv (js := js) ha
    have far : Same G1 G2 := g'.trans ex.g
    exact body B G2 H2 _ _ o2 (fun ρ3 G3 H3 σ3 p3 o3 s3 => ⟨ρ3, G3, p3, o3, far.trans s3⟩) (fun v d ρ3 G3 H3 σ3 p3 o3 s3 dv => k2 v d ρ3 G3 H3 σ3 p3 o3 ((s1.g.trans far).trans s3) dv)
      (fun ρ3 G3 H3 σ3 p3 o3 s3 => k1 ρ3 G3 H3 σ3 p3 o3 ((s1.g.trans far).trans s3)) (fun ρ3 G3 H3 σ3 p3 o3 s3 => ⟨ρ3, G3, p3, o3, far.trans s3⟩)
  · have e : i = ys.length := by omega
    subst e
    exact .inl ⟨wk.stop _ G' H' g' o'.gh (Nat.le_refl _), k1 ρ' G' H' σ' (fin ρ' iv) o' (s1.g.trans g')⟩
theorem ds_forD {js : List Nat} (Iv : Nat → Rho → Prop) (h : DW C wi ρ ys) (h0 : Iv 0 ρ) (hs : ∀ i y ρ', ys[i]? = some y → Iv i ρ' → ∃ es, GT C g js y es ∧ DS C ts (setd ρ' js es) { nx := Iv (i + 1), ct := Iv (i + 1), bk := Z.nx, rt := Z.rt }) (hd : ∀ ρ', Iv ys.length ρ' → Z.nx ρ') :
    DS C (tFor wi g ts) ρ Z := ds_for Iv (h.of ⟨h0, hs, hd⟩)
theorem ds_while (Iv : Nat → Rho → Prop) (m0 : Nat) (h0 : Iv m0 ρ) (hs : ∀ m ρ', Iv m ρ' → TX C t ρ' fun b ρ1 => (b = true → DS C ts ρ1 { nx := fun ρ2 => ∃ m', m' < m ∧ Iv m' ρ2, ct := fun ρ2 => ∃ m', m' < m ∧ Iv m' ρ2, bk := Z.nx, rt := Z.rt }) ∧ (b = false → Z.nx ρ1)) :
    DS C (tWhile t ts) ρ Z := fun B G H σ D o k1 k2 k3 k4 => by
  refine ⟨fun m σ' H' => ∃ ρ' G', Iv m ρ' ∧ Ok C B G' H' σ' ρ' ∧ Same G G', ⟨m0, ρ, G, h0, o, Same.refl _⟩, ?_⟩
  rintro m σ' H' ⟨ρ', G', iv, o', g'⟩
  refine hs m ρ' iv B G' H' σ' o' _ fun b ρ1 G1 H1 p o1 s1 => ?_
  have far : Same G G1 := g'.trans s1.g
  cases b with
  | true =>
    exact ⟨fun σ2 H2 => ∃ m', m' < m ∧ ∃ ρ2 G2, Iv m' ρ2 ∧ Ok C B G2 H2 σ2 ρ2 ∧ Same G G2, fun σ2 H2 h => h,
      p.1 rfl B G1 H1 σ' _ o1 (fun ρ3 G3 H3 σ3 ⟨m', hm, p3⟩ o3 s3 => ⟨m', hm, ρ3, G3, p3, o3, far.trans s3⟩) (fun v d ρ3 G3 H3 σ3 p3 o3 s3 dv => k2 v d ρ3 G3 H3 σ3 p3 o3 (far.trans s3) dv)
        (fun ρ3 G3 H3 σ3 p3 o3 s3 => k1 ρ3 G3 H3 σ3 p3 o3 (far.trans s3)) (fun ρ3 G3 H3 σ3 ⟨m', hm, p3⟩ o3 s3 => ⟨m', hm, ρ3, G3, p3, o3, far.trans s3⟩)⟩
  | false => exact k1 ρ1 G1 H1 σ' (p.2 rfl) o1 far
/-! ### comprehensions -/
def wipeR (ρ : Rho) : List Nat → Rho
  | [] => ρ
  | v :: vs => (wipeR ρ vs).set v .un
theorem Ok.wipe {B : Bs} {G H : Hp} {σ : L2.St} (o : Ok C B G H σ ρ) : ∀ vs : List Nat, Ok C B G H (L2.wipe σ vs) (wipeR ρ vs)
  | [] => o
  | v :: vs => (Ok.wipe o vs).setn v
theorem wipeR_out {i : Nat} : ∀ {vs : List Nat}, i ∉ vs → (wipeR ρ vs)[i]? = ρ[i]?
  | [], _ => rfl
  | v :: vs, h => by
    have h1 : v ≠ i := fun e => h (by rw [e]; exact List.mem_cons_self)
    have h2 : i ∉ vs := fun m => h (List.mem_cons_of_mem _ m)
    unfold wipeR
    rw [List.getElem?_set_ne h1]
    exact wipeR_out h2
theorem wipeR_len : ∀ vs : List Nat, (wipeR ρ vs).length = ρ.length
  | [] => rfl
  | v :: vs => by
    unfold wipeR
    rw [List.length_set]
    exact wipeR_len vs
theorem wipe_in {σ : L2.St} {i : Nat} : ∀ {vs : List Nat}, i ∈ vs → i < σ.length → (L2.wipe σ vs)[i]? = some none
  | v :: vs, h, hl => by
    unfold L2.wipe
    by_cases e : v = i
    · subst e
      rw [List.getElem?_set_self (by rw [wipe_length]; exact hl)]
    · rw [List.getElem?_set_ne e]
      exact wipe_in ((List.mem_cons.mp h).resolve_left (fun z => e z.symm)) hl
theorem setv_len : ∀ {js : List Nat} {xs : List V} {σ : L2.St}, (setv σ js xs).length = σ.length
  | [], _, _ => by simp [setv]
  | _ :: _, [], _ => rfl
  | j :: js, x :: xs, σ => by
    unfold setv
    rw [setv_len, List.length_set]
theorem setv_out {i : Nat} : ∀ {js : List Nat} {xs : List V} {σ : L2.St}, i ∉ js → (setv σ js xs)[i]? = σ[i]?
  | [], _, _, _ => by simp [setv]
  | _ :: _, [], _, _ => rfl
  | j :: js, x :: xs, σ, h => by
    unfold setv
    rw [setv_out fun m => h (List.mem_cons_of_mem _ m), List.getElem?_set_ne fun e => h (by rw [e]; exact List.mem_cons_self)]
theorem wipe_setv {σ : L2.St} {js vs : List Nat} {xs : List V} (h : ∀ j ∈ js, j ∈ vs) : L2.wipe (setv (L2.wipe σ vs) js xs) vs = L2.wipe σ vs := by
  apply List.ext_getElem?
  intro i
  by_cases hl : i < σ.length
  · by_cases hi : i ∈ vs
    · rw [wipe_in hi (by rw [setv_len, wipe_length]; exact hl), wipe_in hi hl]
    · rw [wipe_out hi, setv_out fun m => hi (h i m)]
  · rw [List.getElem?_eq_none (by rw [wipe_length, setv_len, wipe_length]; omega), List.getElem?_eq_none (by rw [wipe_length]; omega)]
/-- behind a comprehension: its own names hold what they held -/
def keepS : Option Sl → Sl
  | some (.dat d) => .dat d
  | _ => .un
def unw (ρ : Rho) : List Nat → Rho → Rho
  | [], ρ' => ρ'
  | v :: vs, ρ' => (unw ρ vs ρ').set v (keepS ρ[v]?)
theorem unw_len : ∀ {vs : List Nat} {ρ' : Rho}, (unw ρ vs ρ').length = ρ'.length
  | [], _ => rfl
  | v :: vs, ρ' => by
    unfold unw
    rw [List.length_set, unw_len]
theorem unw_out {i : Nat} {ρ' : Rho} : ∀ {vs : List Nat}, i ∉ vs → (unw ρ vs ρ')[i]? = ρ'[i]?
  | [], _ => rfl
  | v :: vs, h => by
    unfold unw
    rw [List.getElem?_set_ne fun e => h (by rw [e]; exact List.mem_cons_self)]
    exact unw_out fun m => h (List.mem_cons_of_mem _ m)
theorem unw_in {i : Nat} {ρ' : Rho} : ∀ {vs : List Nat}, i ∈ vs → i < ρ'.length → (unw ρ vs ρ')[i]? = some (keepS ρ[i]?)
  | v :: vs, h, hl => by
    unfold unw
    by_cases e : v = i
    · subst e
      rw [List.getElem?_set_self (by rw [unw_len]; exact hl)]
    · rw [List.getElem?_set_ne e]
      exact unw_in ((List.mem_cons.mp h).resolve_left (fun z => e z.symm)) hl
theorem unw_self {vs : List Nat} (h : ∀ i ∈ vs, ∃ s, ρ[i]? = some s ∧ keepS (some s) = s) : unw ρ vs (wipeR ρ vs) = ρ := by
  apply List.ext_getElem?
  intro i
  by_cases hi : i ∈ vs
  · obtain ⟨s, e1, e2⟩ := h i hi
    rw [unw_in hi (by rw [wipeR_len]; exact (List.getElem?_eq_some_iff.mp e1).1), e1, e2]
  · rw [unw_out hi, wipeR_out hi]
theorem Ok.hide {B : Bs} {G H : Hp} {σ : L2.St} {p : Addr} {o : HO} (k : Ok C B G H σ ρ) (h : H p = none) : Ok C { B with H := upd B.H p o } G (upd H p o) σ ρ := by
  have nt : ¬ B.t p := k.tnone h
  have k2 := k.new0 (o := o) h
  refine ⟨k.len, k2.gh, k.g0, fun a u t e => ?_, fun a e => ?_, fun a e1 e2 => ?_, fun a t => ⟨?_, (k.tb a t).2⟩, k2.tab, k.tabt, fun i s e => ?_, k.t0, k.sep⟩
  · by_cases ha : a = p
    · subst ha
      have e' : (upd B.H a o) a = some u := e
      rw [upd_same] at e' ⊢
      exact e'
    · have e' : (upd B.H p o) a = some u := e
      rw [upd_ne ha] at e' ⊢
      exact k.h0 a u t e'
  · by_cases ha : a = p
    · rw [ha, upd_same]
      simp
    · have e' : (upd B.H p o) a ≠ none := e
      rw [upd_ne ha] at e' ⊢
      exact k.h1 a e'
  · by_cases ha : a = p
    · rw [ha]
      exact k.gnone h
    · have e' : (upd B.H p o) a ≠ none := e1
      rw [upd_ne ha] at e'
      exact k.new a e' e2
  · show (upd B.H p o) a ≠ none
    rw [upd_ne fun z => nt (by rw [← z]; exact t)]
    exact (k.tb a t).1
  · have w := k2.sl i s e
    cases s with
    | un => trivial
    | dat d => exact w
    | own es =>
      obtain ⟨b, xs, f, f1, f2, f3, f4⟩ := k.sl i _ e
      have nb : b ≠ p := fun z => by rw [z, h] at f3; cases f3
      exact ⟨b, xs, f, f1, by show (upd B.H p o) b = none; rw [upd_ne nb]; exact f2, by rw [upd_ne nb]; exact f3, f4⟩
    | std d => exact w
    | tin n => exact w
theorem Ok.rehide {B : Bs} {G H : Hp} {σ : L2.St} {p : Addr} {xs ys : List V} (k : Ok C { B with H := upd B.H p (.lst xs) } G H σ ρ) (h : H p = some (.lst xs)) (hg : G p = none) (nt : ¬ B.t p) : Ok C { B with H := upd B.H p (.lst ys) } G (upd H p (.lst ys)) σ ρ := by
  have up : ∀ a, (upd B.H p (.lst ys)) a ≠ none → (upd B.H p (.lst xs)) a ≠ none := fun a e => by
    by_cases ha : a = p
    · rw [ha, upd_same]
      simp
    · rw [upd_ne ha] at e ⊢
      exact e
  refine ⟨k.len, fun a u e => ?_, k.g0, fun a u t e => ?_, fun a e => ?_, fun a e1 e2 => k.new a (up a e1) e2, fun a t => ⟨?_, (k.tb a t).2⟩, fun q hq => ?_, k.tabt, fun i s e => ?_, k.t0, k.sep⟩
  · rw [upd_ne fun z => by rw [z, hg] at e; cases e]
    exact k.gh a u e
  · have e' : (upd B.H p (.lst ys)) a = some u := e
    by_cases ha : a = p
    · subst ha
      rw [upd_same] at e' ⊢
      exact e'
    · rw [upd_ne ha] at e' ⊢
      exact k.h0 a u t (by show (upd B.H p (.lst xs)) a = some u; rw [upd_ne ha]; exact e')
  · by_cases ha : a = p
    · rw [ha, upd_same]
      simp
    · rw [upd_ne ha]
      exact k.h1 a (up a e)
  · have q := (k.tb a t).1
    by_cases ha : a = p
    · exact absurd t (by rw [ha]; exact nt)
    · have q' : (upd B.H p (.lst xs)) a ≠ none := q
      rw [upd_ne ha] at q'
      show (upd B.H p (.lst ys)) a ≠ none
      rw [upd_ne ha]
      exact q'
  · obtain ⟨ps, t1, t2, t3⟩ := k.tab q hq
    have np : q.1 ≠ p := fun z => by rw [z, h] at t1; cases t1
    refine ⟨ps, (by rw [upd_ne np]; exact t1), t2, fun pos cv hc => ?_⟩
    obtain ⟨c, c1, c2⟩ := t3 pos cv hc
    refine ⟨c, c1, ?_⟩
    rw [upd_ne (fun z => by rw [z, h] at c2; unfold LamX.CodeO at c2; cases c2)]
    exact c2
  · have w := k.sl i s e
    cases s with
    | un => trivial
    | dat d => exact w
    | own es =>
      obtain ⟨b, zs, f, f1, f2, f3, f4⟩ := w
      have f2' : (upd B.H p (.lst xs)) b = none := f2
      have nb : b ≠ p := fun z => by rw [z, upd_same] at f2'; cases f2'
      refine ⟨b, zs, f, f1, ?_, by rw [upd_ne nb]; exact f3, f4⟩
      rw [upd_ne nb] at f2'
      show (upd B.H p (.lst ys)) b = none
      rw [upd_ne nb]
      exact f2'
    | std d => exact w
    | tin n =>
      obtain ⟨b, f, t, x, y, z, f1, f2⟩ := w
      have nb : b ≠ p := fun z => nt (by rw [← z]; exact t)
      exact ⟨b, f, t, x, y, z, by rw [upd_ne nb]; exact f1, f2⟩
/-- the comprehension's list stands, its names hold what they held -/
theorem Ok.unhide {B : Bs} {G G1 H : Hp} {σ : L2.St} {ρ0 : Rho} {p : Addr} {xs : List V} {vs : List Nat} (k : Ok C { B with H := upd B.H p (.lst xs) } G H (L2.wipe σ vs) ρ) (h : H p = some (.lst xs)) (hg : G p = none) (hb : B.H p = none) (nt : ¬ B.t p) (hl : σ.length = ρ0.length)
    (h1 : ∀ (i : Nat) (d : PyData), ρ0[i]? = some (Sl.dat d) → ∃ x, σ[i]? = some (some x) ∧ Dp C.K G1 x d) (g : Same G1 G) : Ok C B (upd G p (.lst xs)) H σ (unw ρ0 vs ρ) := by
  have lr : ρ.length = ρ0.length := by rw [← k.len, wipe_length, hl]
  have sm : Same G (upd G p (.lst xs)) := same_new hg
  have out : ∀ {i : Nat} {s : Sl}, (unw ρ0 vs ρ)[i]? = some s → (i ∈ vs ∧ s = keepS ρ0[i]?) ∨ (i ∉ vs ∧ ρ[i]? = some s) := fun {i s} e => by
    by_cases hi : i ∈ vs
    · have hl' : i < ρ.length := by
        have := (List.getElem?_eq_some_iff.mp e).1
        rw [unw_len] at this
        exact this
      rw [unw_in hi hl'] at e
      exact .inl ⟨hi, (Option.some.inj e).symm⟩
    · rw [unw_out hi] at e
      exact .inr ⟨hi, e⟩
  have nown : ∀ o ds, keepS o ≠ .own ds := fun o ds z => by
    unfold keepS at z
    split at z <;> cases z
  refine ⟨by rw [unw_len, lr, hl], fun a u e => ?_, (show Same B.G G from k.g0).trans sm, fun a u t e => ?_, fun a e => ?_, fun a e1 e2 => ?_, fun a t => ⟨?_, (k.tb a t).2⟩, k.tab, k.tabt, fun i s e => ?_, fun i n e => ?_, fun i l c ds es ne e1 e2 e3 => ?_⟩
  · by_cases ha : a = p
    · rw [ha, upd_same] at e
      rw [ha, h]
      exact e
    · rw [upd_ne ha] at e
      exact k.gh a u e
  · have ha : a ≠ p := fun z => by rw [z, hb] at e; cases e
    exact k.h0 a u t (by show (upd B.H p (.lst xs)) a = some u; rw [upd_ne ha]; exact e)
  · have ha : a ≠ p := fun z => e (by rw [z]; exact hb)
    exact k.h1 a (by show (upd B.H p (.lst xs)) a ≠ none; rw [upd_ne ha]; exact e)
  · have ha : a ≠ p := fun z => e1 (by rw [z]; exact hb)
    rw [upd_ne ha]
    exact k.new a (by show (upd B.H p (.lst xs)) a ≠ none; rw [upd_ne ha]; exact e1) e2
  · have q : (upd B.H p (.lst xs)) a ≠ none := (k.tb a t).1
    rw [upd_ne fun z => nt (by rw [← z]; exact t)] at q
    exact q
  · rcases out e with ⟨hi, rfl⟩ | ⟨hi, e⟩
    · cases q : ρ0[i]? with
      | none => trivial
      | some u =>
        cases u with
        | dat d =>
          obtain ⟨x, e1, e2⟩ := h1 i d q
          exact ⟨x, e1, dp_up (g.trans sm) e2⟩
        | _ => trivial
    · have w := k.sl i s e
      rw [wipe_out hi] at w
      cases s with
      | un => trivial
      | dat d =>
        obtain ⟨x, e1, e2⟩ := w
        exact ⟨x, e1, dp_up sm e2⟩
      | own es =>
        obtain ⟨b, zs, f, f1, f2, f3, f4⟩ := w
        have f2' : (upd B.H p (.lst xs)) b = none := f2
        have nb : b ≠ p := fun z => by rw [z, upd_same] at f2'; cases f2'
        rw [upd_ne nb] at f2'
        exact ⟨b, zs, f, by rw [upd_ne nb]; exact f1, f2', f3, dpall_up sm f4⟩
      | std d =>
        obtain ⟨a, zs, e1, e2, e3⟩ := w
        exact ⟨a, zs, e1, sm _ _ e2, dpall_up sm e3⟩
      | tin n => exact w
  · rcases out e with ⟨hi, z⟩ | ⟨hi, e⟩
    · unfold keepS at z
      split at z <;> cases z
    · exact k.t0 i n e
  · rcases out e1 with ⟨_, z⟩ | ⟨hi, e1⟩
    · exact absurd z.symm (nown _ _)
    · rcases out e2 with ⟨_, z⟩ | ⟨hj, e2⟩
      · exact absurd z.symm (nown _ _)
      · have q := k.sep i l c ds es ne e1 e2
        rw [wipe_out hi, wipe_out hj] at q
        exact q e3
/-- what gives a list that stands, and is known to -/
def LX (C : Cn) (te : TE) (ρ : Rho) (P : List PyData → Rho → Prop) : Prop := ∀ (B : Bs) (G H : Hp) (σ : L2.St), Ok C B G H σ ρ → ∀ Q : VK, (∀ a vs ds ρ' G' H', P ds ρ' → Ok C B G' H' σ ρ' → Sx B G H G' H' → G' a = some (.lst vs) → DpAll C.K G' vs ds → Q (.ref a) H') → te σ H Q
abbrev LE (C : Cn) (te : TE) (ρ : Rho) (ds : List PyData) : Prop := LX C te ρ fun ds' ρ' => ds' = ds ∧ ρ' = ρ
theorem LX.dx {te : TE} (h : LX C te ρ fun ds ρ' => P (.list ds) ρ') : DX C te ρ P := fun B G H σ o Q q => h B G H σ o Q fun a vs ds ρ' G' H' p o' s e d => q _ _ _ _ _ p o' s (.lst (.inl (.inl e)) d)
theorem LE.de {te : TE} {ds : List PyData} (h : LE C te ρ ds) : DE C te ρ (.list ds) := LX.dx (fun B G H σ o Q q => h B G H σ o Q fun a vs ds' ρ' G' H' p => q a vs ds' ρ' G' H' ⟨by rw [p.1], p.2⟩)
/-- a comprehension: Iv turn made slots -/
theorem lx_lc {PL : List PyData → Rho → Prop} {js vs : List Nat} (hjs : ∀ j ∈ js, j ∈ vs) (Iv : Nat → List PyData → Rho → Prop) (h : WX C wi ρ fun ys ρ0 => ys.length ≤ 100000 ∧ Iv 0 [] (wipeR ρ0 vs) ∧
      (∀ i y acc ρ', ys[i]? = some y → Iv i acc ρ' → ∃ es, GT C g js y es ∧ TX C t (setd ρ' js es) fun b ρ1 => (b = true → DX C te ρ1 fun d ρ2 => Iv (i + 1) (acc ++ [d]) (wipeR ρ2 vs)) ∧ (b = false → Iv (i + 1) acc (wipeR ρ1 vs))) ∧
      ∀ acc ρ', Iv ys.length acc ρ' → PL acc (unw ρ0 vs ρ')) : LX C (tLc wi g t te vs) ρ PL := fun B G H σ o Q q => h B G H σ o _ fun J ys ρ0 G1 H1 p o1 s1 wk => by
  obtain ⟨hz, i0, step, fin⟩ := p
  intro D hD
  have nt : ¬ B.t D := o1.tnone hD
  have hbD : B.H D = none := o1.bnone hD
  have hGD : B.G D = none := o1.g0.free (o1.gnone hD)
  have sx : ∀ {b : Bs}, True := fun {b} => trivial
  refine ⟨fun i m H' => m = ys.length - i ∧ i ≤ ys.length ∧ ∃ acc xs ρ' G', acc.length ≤ i ∧ Iv i acc ρ' ∧ Ok C { B with H := upd B.H D (.lst xs) } G' H' (L2.wipe σ vs) ρ' ∧ Same G1 G' ∧ H' D = some (.lst xs) ∧ DpAll C.K G' xs acc ∧ (∀ a o, ¬ B.t a → H1 a = some o → H' a = some o) ∧ (∀ a, H1 a ≠ none → H' a ≠ none) ∧ (∀ a, H1 a ≠ none → G1 a = none → G' a = none),
    ⟨ys.length, by simp, Nat.zero_le _, [], [], _, G1, Nat.le_refl _, i0, (o1.hide hD).wipe vs, Same.refl _, upd_same, .nil, fun a o _ e => same_new hD a o e, fun a e z => e ((same_new hD).free z), fun _ _ e => e⟩, ?_⟩
  rintro i m H' ⟨rfl, hi, acc, xs, ρ', G', hacc, iv, k, g', hx, da, f1, f2, f3⟩
  have gD : ∀ {G2 H2 : Hp} {σ2 : L2.St} {ρ2 : Rho}, Ok C { B with H := upd B.H D (.lst xs) } G2 H2 σ2 ρ2 → G2 D = none := fun k2 => k2.new D (by show (upd B.H D (.lst xs)) D ≠ none; rw [upd_same]; simp) hGD
  have hDx : ∀ {G2 H2 : Hp} {σ2 : L2.St} {ρ2 : Rho}, Ok C { B with H := upd B.H D (.lst xs) } G2 H2 σ2 ρ2 → H2 D = some (.lst xs) := fun k2 => k2.h0 D _ nt (by show (upd B.H D (.lst xs)) D = _; rw [upd_same])
  by_cases hlt : i < ys.length
  · refine .inr ⟨wk.go i G' H' g' k.gh hlt, fun H2 => ∃ acc xs ρ2 G2, acc.length ≤ i + 1 ∧ Iv (i + 1) acc ρ2 ∧ Ok C { B with H := upd B.H D (.lst xs) } G2 H2 (L2.wipe σ vs) ρ2 ∧ Same G1 G2 ∧ H2 D = some (.lst xs) ∧ DpAll C.K G2 xs acc ∧ (∀ a o, ¬ B.t a → H1 a = some o → H2 a = some o) ∧ (∀ a, H1 a ≠ none → H2 a ≠ none) ∧ (∀ a, H1 a ≠ none → G1 a = none → G2 a = none),
      fun H2 r => ⟨ys.length - (i + 1), by omega, rfl, hlt, r⟩, fun x H2 hy => ?_⟩
    obtain ⟨y, ey⟩ := getlt hlt
    obtain ⟨G2, ex, dx⟩ := wk.yld i G' H' x H2 y g' k.gh hy ey
    obtain ⟨es, gt, body⟩ := step i y acc ρ' ey iv
    refine gt G2 H2 _ x ex.gh dx _ fun zs ha => ⟨wipe_setv hjs, ?_⟩
    have k2 := (k.on ex).setv (js := js) ha
    have nD : ∀ {a : Addr} {o : HO}, H1 a = some o → a ≠ D := fun e z => by rw [z, hD] at e; cases e
    refine body _ G2 H2 _ k2 _ fun b ρ3 G3 H3 p3 k3 s3 => ?_
    have j1 : ∀ a o, ¬ B.t a → H1 a = some o → H3 a = some o := fun a o ta e => s3.h a o ta (ex.h a o (f1 a o ta e))
    have j2 : ∀ a, H1 a ≠ none → H3 a ≠ none := fun a e => s3.h1 a fun z => f2 a e (ex.h.free z)
    have j3 : ∀ a, H1 a ≠ none → G1 a = none → G3 a = none := fun a e1 e2 => s3.n a (fun z => f2 a e1 (ex.h.free z)) (ex.n a (f2 a e1) (f3 a e1 e2))
    have g3 : Same G1 G3 := (g'.trans ex.g).trans s3.g
    cases b with
    | true =>
      refine p3.1 rfl _ G3 H3 _ k3 _ fun v d ρ4 G4 H4 p4 k4 s4 dv => ?_
      have da4 : DpAll C.K G4 (xs ++ [v]) (acc ++ [d]) := dpa_app (dpall_up ((ex.g.trans s3.g).trans s4.g) da) (.cons dv .nil)
      have hl4 : xs.length = acc.length := dpa_len da
      refine ⟨xs, hDx k4, Nat.lt_of_lt_of_le (show xs.length < 200000 by omega) (by decide), acc ++ [d], xs ++ [v], wipeR ρ4 vs, G4, by simp; omega, p4, ?_, g3.trans s4.g, upd_same, da4, fun a o ta e => ?_, fun a e => ?_, fun a e1 e2 => s4.n a (j2 a e1) (j3 a e1 e2)⟩
      · have k5 := (k4.rehide (ys := xs ++ [v]) (hDx k4) (gD k4) nt).wipe vs
        rw [wipe_setv hjs] at k5
        exact k5
      · rw [upd_ne (nD e)]
        exact s4.h a o ta (j1 a o ta e)
      · by_cases hb : a = D
        · rw [hb, upd_same]
          simp
        · rw [upd_ne hb]
          exact s4.h1 a (j2 a e)
    | false =>
      refine ⟨acc, xs, wipeR ρ3 vs, G3, by omega, p3.2 rfl, ?_, g3, hDx k3, dpall_up (ex.g.trans s3.g) da, j1, j2, j3⟩
      have k5 := k3.wipe vs
      rw [wipe_setv hjs] at k5
      exact k5
  · have e : i = ys.length := by omega
    subst e
    have o5 := k.unhide (σ := σ) (ρ0 := ρ0) (G1 := G1) hx (gD k) hbD nt o1.len (fun i d e => o1.sl i _ e) g'
    have ex : Same G' (upd G' D (.lst xs)) := same_new (gD k)
    refine .inl ⟨wk.stop _ G' H' g' k.gh (Nat.le_refl _), q _ _ _ _ _ H' (fin acc ρ' iv) o5 (s1.trans ⟨g'.trans ex, f1, f2, fun a e1 e2 => ?_⟩) upd_same (dpall_up ex da)⟩
    rw [upd_ne fun z => by rw [z, hD] at e1; exact e1 rfl]
    exact f3 a e1 e2
end
end SC
namespace SC
open PySem PySem.Spec PyProof.Rows L2
section
variable {C : Cn} {ρ ρ1 : Rho} {ta tb tc te : TE} {d e f : PyData} {P P' : PyData → Rho → Prop} {t u : TT} {r r' : R2} {as : TA} {E : XK} {ts us : TS} {Z Z' : Post} {wi : TI} {ys ds : List PyData} {g : TG}
/-! ### pure comprehensions -/
theorem dt_yes : DT C tYes ρ true := fun B G H σ o Q q => q _ ρ G H ⟨rfl, rfl⟩ o Sx.refl
/-- own names hold nothing of one's own -/
def plainR (ρ : Rho) (vs : List Nat) : Prop := ∀ i ∈ vs, ∃ s, ρ[i]? = some s ∧ keepS (some s) = s
theorem plainR_nil : plainR ρ [] := fun i h => nomatch h
theorem plainR_un {v : Nat} {vs : List Nat} (h : ρ[v]? = some .un) (r : plainR ρ vs) : plainR ρ (v :: vs) := fun i hi => by
  rcases List.mem_cons.mp hi with rfl | hi
  · exact ⟨_, h, rfl⟩
  · exact r i hi
theorem plainR_dat {v : Nat} {vs : List Nat} (h : ρ[v]? = some (.dat d)) (r : plainR ρ vs) : plainR ρ (v :: vs) := fun i hi => by
  rcases List.mem_cons.mp hi with rfl | hi
  · exact ⟨_, h, rfl⟩
  · exact r i hi
theorem setd_get_out {i : Nat} : ∀ {js : List Nat} {es : List PyData} {ρ : Rho}, i ∉ js → (setd ρ js es)[i]? = ρ[i]?
  | [], _, _, _ => by simp [setd]
  | _ :: _, [], _, _ => rfl
  | j :: js, x :: xs, ρ, h => by
    unfold setd
    rw [setd_get_out fun m => h (List.mem_cons_of_mem _ m), List.getElem?_set_ne fun e => h (by rw [e]; exact List.mem_cons_self)]
theorem setd_len : ∀ {js : List Nat} {es : List PyData} {ρ : Rho}, (setd ρ js es).length = ρ.length
  | [], _, _ => by simp [setd]
  | _ :: _, [], _ => rfl
  | j :: js, x :: xs, ρ => by
    unfold setd
    rw [setd_len, List.length_set]
theorem wipeR_in {i : Nat} : ∀ {vs : List Nat}, i ∈ vs → i < ρ.length → (wipeR ρ vs)[i]? = some .un
  | v :: vs, h, hl => by
    unfold wipeR
    by_cases e : v = i
    · subst e
      rw [List.getElem?_set_self (by rw [wipeR_len]; exact hl)]
    · rw [List.getElem?_set_ne e]
      exact wipeR_in ((List.mem_cons.mp h).resolve_left (fun z => e z.symm)) hl
theorem wipeR_setd {js vs : List Nat} {es : List PyData} (h : ∀ j ∈ js, j ∈ vs) : wipeR (setd (wipeR ρ vs) js es) vs = wipeR ρ vs := by
  apply List.ext_getElem?
  intro i
  by_cases hl : i < ρ.length
  · by_cases hi : i ∈ vs
    · rw [wipeR_in hi (by rw [setd_len, wipeR_len]; exact hl), wipeR_in hi hl]
    · rw [wipeR_out hi, setd_get_out fun m => hi (h i m)]
  · rw [List.getElem?_eq_none (by rw [wipeR_len, setd_len, wipeR_len]; omega), List.getElem?_eq_none (by rw [wipeR_len]; omega)]
theorem lx_lcO {js vs : List Nat} (res : List (Option PyData)) (h : DW C wi ρ ys) (hz : ys.length ≤ 100000) (hl : res.length = ys.length) (hjs : ∀ j ∈ js, j ∈ vs) (hp : plainR ρ vs)
    (hs : ∀ (i : Nat) y o, ys[i]? = some y → res[i]? = some o → ∃ es, GT C g js y es ∧ ((o = none ∧ DT C t (setd (wipeR ρ vs) js es) false) ∨ ∃ d, o = some d ∧ DT C t (setd (wipeR ρ vs) js es) true ∧ DE C te (setd (wipeR ρ vs) js es) d)) :
    LE C (tLc wi g t te vs) ρ (res.filterMap id) := by
  refine lx_lc hjs (fun i acc ρ' => acc = (res.take i).filterMap id ∧ ρ' = wipeR ρ vs) (h.of ⟨hz, ⟨rfl, rfl⟩, fun i y acc ρ' ey iv => ?_, fun acc ρ' iv => ?_⟩)
  · obtain ⟨rfl, rfl⟩ := iv
    have hi : i < res.length := by
      rw [hl]
      exact (List.getElem?_eq_some_iff.mp ey).1
    obtain ⟨o, eo⟩ := getlt hi
    obtain ⟨es, gt, k⟩ := hs i y o ey eo
    have et : res.take (i + 1) = res.take i ++ [o] := by rw [List.take_add_one, eo]; rfl
    refine ⟨es, gt, ?_⟩
    show TX C t _ _
    rcases k with ⟨rfl, k⟩ | ⟨d, rfl, k1, k2⟩
    · refine k.of ⟨fun z => (nomatch z), fun _ => ⟨?_, wipeR_setd hjs⟩⟩
      rw [et]
      simp
    · refine k1.of ⟨fun _ => k2.of ⟨?_, wipeR_setd hjs⟩, fun z => nomatch z⟩
      rw [et]
      simp
  · obtain ⟨rfl, rfl⟩ := iv
    rw [← hl, List.take_length]
    exact ⟨rfl, unw_self hp⟩
theorem de_lcO {js vs : List Nat} (res : List (Option PyData)) (h : DW C wi ρ ys) (hz : ys.length ≤ 100000) (hl : res.length = ys.length) (hjs : ∀ j ∈ js, j ∈ vs) (hp : plainR ρ vs)
    (hs : ∀ (i : Nat) y o, ys[i]? = some y → res[i]? = some o → ∃ es, GT C g js y es ∧ ((o = none ∧ DT C t (setd (wipeR ρ vs) js es) false) ∨ ∃ d, o = some d ∧ DT C t (setd (wipeR ρ vs) js es) true ∧ DE C te (setd (wipeR ρ vs) js es) d)) :
    DE C (tLc wi g t te vs) ρ (.list (res.filterMap id)) := (lx_lcO res h hz hl hjs hp hs).de
/-- [e for x in xs] -/
theorem de_lcM {js vs : List Nat} (res : List PyData) (h : DW C wi ρ ys) (hz : ys.length ≤ 100000) (hl : res.length = ys.length) (hjs : ∀ j ∈ js, j ∈ vs) (hp : plainR ρ vs)
    (hs : ∀ (i : Nat) y d, ys[i]? = some y → res[i]? = some d → ∃ es, GT C g js y es ∧ DE C te (setd (wipeR ρ vs) js es) d) : DE C (tLc wi g tYes te vs) ρ (.list res) := by
  have e : (res.map some).filterMap id = res := by simp
  have k := de_lcO (C := C) (ρ := ρ) (wi := wi) (g := g) (t := tYes) (te := te) (js := js) (vs := vs) (res.map some) h hz (by simpa using hl) hjs hp fun i y o ey eo => by
    rw [List.getElem?_map] at eo
    cases q : res[i]? with
    | none =>
      rw [q] at eo
      cases eo
    | some d =>
      rw [q] at eo
      obtain ⟨es, gt, k⟩ := hs i y d ey q
      exact ⟨es, gt, .inr ⟨d, (Option.some.inj eo).symm, dt_yes, k⟩⟩
  rw [e] at k
  exact k
end
/-! ### defs -/
structure Md where
  P : Program
  w : World
  K : PySem.W.Frag
  mg : Str → Option Value
  base : Heap
def OkF (M : Md) (x : Str) (ps : List Str) (k : Nat) (sp : Sp) : Prop := ∃ f fd, M.mg x = some (.ref f) ∧ PySem.W.keepIn M.K (.ref f) = true ∧ Binds M.K fd ps [] ∧ FnOk M.P M.w M.K M.mg M.base CX0 k f fd ps sp
def DefAt (M : Md) (x : Str) (st : Stmt) : Prop := ∃ f fd, M.mg x = some (.ref f) ∧ FunD M.K x x (defArgs st) (defBody st) (defScope st) [] [] f fd
def BindOk (x : Str) (st : Stmt) (ps : List Str) : Prop := ∀ (kV doc pm : Value) (an : Option Addr) (cdv ct : Value) (us : List Value), us.length = ps.length → bindArgs (PySem.W.fnOf x x (defArgs st) (defBody st) (defScope st) .none kV doc pm an cdv ct) ⟨us, []⟩ = pure (ps.zip us)
theorem pe_fn {X : Cx} {M : Md} {x : Str} {ps : List Str} {k : Nat} {sp : Sp} {e : Expr} {es : List Expr} {t : TA} {p pos : Pos} (F : OkF M x ps k sp) (hr : Room k X.A) (ha : PA X (e :: es) t)
    (hM : M = ⟨X.prog, X.w, X.K, X.mg, X.base⟩ := by rfl) (hg : Gl X x := by rfl) (hdb : (x == ("__debug__" : Str)) = false := by decide) (he : starEach (e :: es) X.env = (false, eval e X.env) :: starEach es X.env := by rfl) (hpl : (backTo pos (starEach es X.env)).any (·.1) = false := by rfl) :
    PE X (.Call (.Name x p) (e :: es) [] pos) (tCall sp [] E0 t) := by
  obtain ⟨f, fd, h1, h2, h3, h4⟩ := F
  subst hM
  exact pe_call h4 hr hg h1 h2 h3 .nil pass0 ha hdb he hpl
theorem okf_mk {M : Md} {x : Str} {st : Stmt} {N ps : List Str} {k : Nat} {sp : Sp} (F : DefAt M x st) (S : FnScope N ps (defScope st)) (hb : BindOk x st ps) (len : ∀ vs H Q E, sp vs H Q E → vs.length = ps.length)
    (body : ∀ (f : Addr) (cdv : Value) (A : Around) (outer : List Env) (s : Shared) (H : Hp) (vs : List V) (Q : VK) (E : XK), Room k (A.deeper (envOfC x (defScope st) s.heap.objs.size f cdv)) → sp vs H Q E →
      ∃ t, PSs (cxOf CX0 M.P M.w M.K M.mg M.base N x (defScope st) f cdv A outer s H E).nox (defBody st) t ∧ t { nx := fun _ H' => Q .non H', rt := Q } (L2.start N vs) H) : OkF M x ps (k + 1) sp := by
  obtain ⟨f, fd, h1, h2⟩ := F
  refine ⟨f, fd, h1, h2.kp, ?_, ?_⟩
  · exact h2.bindsN hb
  · refine h2.ok S len fun cdv A outer s H vs Q E hr h => ?_
    obtain ⟨t, a, b⟩ := body f cdv A outer s H vs Q E hr h
    exact ⟨t, a.nox, b⟩
def initR (N : List Str) (ds : List PyData) : Rho := ds.map .dat ++ List.replicate (N.length - ds.length) .un
theorem start_slots {K : PySem.W.Frag} {G : Hp} {N : List Str} {vs : List V} {ds : List PyData} (ha : DpAll K G vs ds) (i : Nat) (s : Sl) (e : (initR N ds)[i]? = some s) :
    match s with
    | .dat d => ∃ x, (L2.start N vs)[i]? = some (some x) ∧ Dp K G x d
    | .un => True
    | _ => False := by
  unfold initR at e
  by_cases hi : i < ds.length
  · rw [List.getElem?_append_left (by simpa using hi), List.getElem?_map] at e
    obtain ⟨d, ed⟩ := getlt hi
    rw [ed] at e
    have e' : s = .dat d := (Option.some.inj e).symm
    subst e'
    obtain ⟨v, ev, dv⟩ := dpa_get ha ed
    refine ⟨v, ?_, dv⟩
    unfold L2.start
    rw [List.getElem?_append_left (by simpa [dpa_len ha] using hi), List.getElem?_map, ev]
    rfl
  · rw [List.getElem?_append_right (by simpa using hi)] at e
    have := List.mem_of_getElem? e
    have z := List.eq_of_mem_replicate this
    subst z
    trivial
theorem start_len {K : PySem.W.Frag} {G : Hp} {N : List Str} {vs : List V} {ds : List PyData} (ha : DpAll K G vs ds) : (L2.start N vs).length = (initR N ds).length := by
  unfold L2.start initR
  simp [dpa_len ha]
theorem run_pure {K : PySem.W.Frag} {Pre : List PyData → PyData → Prop} {N : List Str} {vs : List V} {H : Hp} {Q : VK} {E : XK} {t : TS} (h : spP K Pre vs H Q E)
    (body : ∀ ds d, Pre ds d → DS ⟨K, []⟩ t (initR N ds) { nx := fun _ => False, rt := fun d' _ => d' = d }) : t { nx := fun _ H' => Q .non H', rt := Q } (L2.start N vs) H := by
  obtain ⟨G, ds, d, pre, gh, ha, q⟩ := h
  refine body ds d pre ⟨G, H, fun _ => False⟩ G H (L2.start N vs) _ ⟨start_len ha, gh, Same.refl _, fun a o _ e => e, fun a e => e, fun a _ e => e, fun a z => z.elim, fun p hp => (by cases hp), fun p hp => (by cases hp), fun i s e => ?_, fun i n e => ?_, fun i j a ds' es ne e1 e2 e3 => ?_⟩
    (fun _ _ _ _ z => z.elim) (fun v d' ρ' G' H' σ' z o s dv => ?_) (fun _ _ _ _ z => z.elim) (fun _ _ _ _ z => z.elim)
  · have w := start_slots ha i s e
    cases s with
    | dat d => exact w
    | un => trivial
    | own _ => exact w.elim
    | std _ => exact w.elim
    | tin _ => exact w.elim
  · exact (start_slots (N := N) ha i _ e).elim
  · exact (start_slots (N := N) ha i _ e1).elim
  · subst z
    exact q v G' H' ⟨o.g0, fun a o' e => o.h0 a o' (fun z => z) e, o.gh, fun a e1 e2 => o.new a e1 e2⟩ dv
/-- a pure def of the text -/
theorem okf_pure {M : Md} {x : Str} {st : Stmt} {N ps : List Str} {k : Nat} {Pre : List PyData → PyData → Prop} (F : DefAt M x st) (S : FnScope N ps (defScope st)) (hb : BindOk x st ps) (len : ∀ ds d, Pre ds d → ds.length = ps.length)
    (body : ∀ (f : Addr) (cdv : Value) (A : Around) (outer : List Env) (s : Shared) (H : Hp) (E : XK), Room k (A.deeper (envOfC x (defScope st) s.heap.objs.size f cdv)) →
      ∃ t, PSs (cxOf CX0 M.P M.w M.K M.mg M.base N x (defScope st) f cdv A outer s H E).nox (defBody st) t ∧ ∀ ds d, Pre ds d → DS ⟨M.K, []⟩ t (initR N ds) { nx := fun _ => False, rt := fun d' _ => d' = d }) : OkF M x ps (k + 1) (spP M.K Pre) :=
  okf_mk F S hb (fun vs H Q E ⟨G, ds, d, pre, _, ha, _⟩ => (dpa_len ha).trans (len ds d pre)) fun f cdv A outer s H vs Q E hr h => by
    obtain ⟨t, h1, h2⟩ := body f cdv A outer s H E hr
    exact ⟨t, h1, run_pure h h2⟩
def initN (N : List Str) (n : Nat) (ds : List PyData) : Rho := .tin n :: (ds.map .dat ++ List.replicate (N.length - (ds.length + 1)) .un)
theorem initN_eq {N : List Str} {n : Nat} {ds : List PyData} (h : 0 < N.length) : initN N n ds = (initR N (.none :: ds)).set 0 (.tin n) := by
  unfold initN initR
  rfl
theorem run_draw {K : PySem.W.Frag} {c : Nat} {pre : List PyData → Prop} {post : List PyData → PyData → Prop} {N : List Str} {vs : List V} {H : Hp} {Q : VK} {E : XK} {t : TS} (h : spN K c pre post vs H Q E)
    (body : ∀ n ds, pre ds → n + c ≤ 1000000 → DS ⟨K, []⟩ t (initN N n ds) { nx := fun _ => False, rt := fun d ρ' => post ds d ∧ ∃ m, m ≤ n + c ∧ ρ'[0]? = some (.tin m) }) : t { nx := fun _ H' => Q .non H', rt := Q } (L2.start N vs) H := by
  obtain ⟨G, a, vs', ds, n, rfl, hp, gh, ga, ht, hc, ha, q⟩ := h
  have hHa : H a ≠ none := by
    obtain ⟨x, y, z, e, _⟩ := ht
    rw [e]
    simp
  have at1 : ∀ (i : Nat) (s : Sl), (initN N n ds)[i + 1]? = some s → match s with
    | .dat d => ∃ x, (L2.start N (V.ref a :: vs'))[i + 1]? = some (some x) ∧ Dp K G x d
    | .un => True
    | _ => False := fun i s e => by
    have e' : (ds.map Sl.dat ++ List.replicate (N.length - (ds.length + 1)) .un)[i]? = some s := e
    by_cases hi : i < ds.length
    · rw [List.getElem?_append_left (by simpa using hi), List.getElem?_map] at e'
      obtain ⟨d, ed⟩ := getlt hi
      rw [ed] at e'
      have e2 : s = .dat d := (Option.some.inj e').symm
      subst e2
      obtain ⟨v, ev, dv⟩ := dpa_get ha ed
      refine ⟨v, ?_, dv⟩
      show (vs'.map some ++ List.replicate (N.length - (vs'.length + 1)) none)[i]? = some (some v)
      rw [List.getElem?_append_left (by simpa [dpa_len ha] using hi), List.getElem?_map, ev]
      rfl
    · rw [List.getElem?_append_right (by simpa using hi)] at e'
      have z := List.eq_of_mem_replicate (List.mem_of_getElem? e')
      subst z
      trivial
  refine body n ds hp hc ⟨G, H, fun b => b = a⟩ G H (L2.start N (.ref a :: vs')) _ ⟨?_, gh, Same.refl _, fun b o _ e => e, fun b e => e, fun b _ e => e, fun b z => ?_, fun p hp => (by cases hp), fun p hp => (by cases hp), fun i s e => ?_, fun i m e => ?_, fun i j b ds' es ne e1 e2 e3 => ?_⟩
    (fun _ _ _ _ z => z.elim) (fun v d' ρ' G' H' σ' z o s dv => ?_) (fun _ _ _ _ z => z.elim) (fun _ _ _ _ z => z.elim)
  · unfold L2.start initN
    simp [dpa_len ha]
  · have z' : b = a := z
    subst z'
    exact ⟨hHa, ga⟩
  · cases i with
    | zero =>
      have e' : s = .tin n := (Option.some.inj e).symm
      subst e'
      exact ⟨a, rfl, rfl, ht⟩
    | succ i =>
      have w := at1 i s e
      cases s with
      | dat d => exact w
      | un => trivial
      | own _ => exact w.elim
      | std _ => exact w.elim
      | tin _ => exact w.elim
  · cases i with
    | zero => rfl
    | succ i => exact (at1 i _ e).elim
  · cases i with
    | zero => cases Option.some.inj e1
    | succ i => exact (at1 i _ e1).elim
  · obtain ⟨pd, m, hm, e0⟩ := z
    obtain ⟨b, eb, tb, x, y, w, t1, t2, t3, t4, t5, t6⟩ := o.sl 0 _ e0
    have tb' : b = a := tb
    subst tb'
    exact q v d' G' H' pd o.g0 o.gh (fun c u ne e => o.h0 c u ne e) (fun c e1 e2 => o.new c e1 e2) ⟨x, y, w, t1, t2, t3, t4, t5, by omega⟩ dv
theorem okf_draw {M : Md} {x : Str} {st : Stmt} {N ps : List Str} {k c : Nat} {pre : List PyData → Prop} {post : List PyData → PyData → Prop} (F : DefAt M x st) (S : FnScope N ps (defScope st)) (hb : BindOk x st ps) (len : ∀ ds, pre ds → ds.length + 1 = ps.length)
    (body : ∀ (f : Addr) (cdv : Value) (A : Around) (outer : List Env) (s : Shared) (H : Hp) (E : XK), Room k (A.deeper (envOfC x (defScope st) s.heap.objs.size f cdv)) →
      ∃ t, PSs (cxOf CX0 M.P M.w M.K M.mg M.base N x (defScope st) f cdv A outer s H E).nox (defBody st) t ∧ ∀ n ds, pre ds → n + c ≤ 1000000 → DS ⟨M.K, []⟩ t (initN N n ds) { nx := fun _ => False, rt := fun d ρ' => post ds d ∧ ∃ m, m ≤ n + c ∧ ρ'[0]? = some (.tin m) }) :
    OkF M x ps (k + 1) (spN M.K c pre post) :=
  okf_mk F S hb (fun vs H Q E ⟨G, a, vs', ds, n, e, pre, _, _, _, _, ha, _⟩ => by
    rw [e, List.length_cons, dpa_len ha]
    exact len ds pre) fun f cdv A outer s H vs Q E hr h => by
    obtain ⟨t, h1, h2⟩ := body f cdv A outer s H E hr
    exact ⟨t, h1, run_draw h h2⟩
end SC
namespace SC
open PySem PySem.Spec PyProof.Rows L2
/-! ### division by any number but 0 -/
def CDivX (_ j : Int) : Prop := j ≠ 0 ∧ j.natAbs.log2 < 9000
theorem op_fdivX {X : Cx} : OpR X (binaryOp .FloorDiv) (rI CDivX fun i j => .int (i.fdiv j)) := opI fun i j _ _ _ _ _ hc q => floordiv_int hc.1 q (.inl (PyProof.noPylong_of_log2 hc.2))
theorem divx {i j : Int} {b : Nat} (h : j ≠ 0) (hb : j.natAbs < 2 ^ b) (h0 : 0 < b) (h9 : b ≤ 9000) : CDivX i j := ⟨h, Nat.lt_of_lt_of_le (PySem.Flt.log2_lt_of h0 hb) h9⟩
theorem hu65 {A : Around} {k : Nat} (hr : Room k A) : A.units + 65 < cLine := by
  have := hr.un
  omega
/-! ### the one sorted list of some int lists -/
def lexle : List Int → List Int → Bool
  | [], _ => true
  | _ :: _, [] => false
  | x :: xs, y :: ys => if x = y then lexle xs ys else decide (x < y)
theorem lexle_refl : ∀ a, lexle a a = true
  | [] => rfl
  | x :: xs => by simp [lexle, lexle_refl xs]
theorem lexle_total : ∀ a b, (lexle a b || lexle b a) = true
  | [], _ => rfl
  | _ :: _, [] => rfl
  | x :: xs, y :: ys => by
    unfold lexle
    by_cases e : x = y
    · subst e
      simp only [if_true]
      exact lexle_total xs ys
    · rw [if_neg e, if_neg (Ne.symm e)]
      simp
      omega
theorem lexle_trans : ∀ a b c, lexle a b = true → lexle b c = true → lexle a c = true
  | [], _, _, _, _ => rfl
  | _ :: _, [], _, h, _ => by cases h
  | x :: xs, y :: ys, [], _, h => by cases h
  | x :: xs, y :: ys, z :: zs, h1, h2 => by
    unfold lexle at h1 h2 ⊢
    by_cases e : x = y
    · subst e
      rw [if_pos rfl] at h1
      by_cases e2 : x = z
      · rw [if_pos e2] at h2 ⊢
        exact lexle_trans xs ys zs h1 h2
      · rw [if_neg e2] at h2 ⊢
        exact h2
    · rw [if_neg e] at h1
      have h1 := of_decide_eq_true h1
      by_cases e2 : y = z
      · subst e2
        rw [if_neg e]
        exact decide_eq_true h1
      · rw [if_neg e2] at h2
        have h2 := of_decide_eq_true h2
        rw [if_neg (by omega)]
        exact decide_eq_true (by omega)
theorem lexle_anti : ∀ a b, lexle a b = true → lexle b a = true → a = b
  | [], [], _, _ => rfl
  | [], _ :: _, _, h => by cases h
  | _ :: _, [], h, _ => by cases h
  | x :: xs, y :: ys, h1, h2 => by
    unfold lexle at h1 h2
    by_cases e : x = y
    · subst e
      rw [if_pos rfl] at h1 h2
      rw [lexle_anti xs ys h1 h2]
    · rw [if_neg e] at h1
      rw [if_neg (Ne.symm e)] at h2
      have h1 := of_decide_eq_true h1
      have h2 := of_decide_eq_true h2
      omega
theorem lexle_of_code {B : Int} : ∀ {a b : List Int}, a.length = b.length → TS.Bd B a → TS.Bd B b → TS.code B a ≤ TS.code B b → lexle a b = true
  | [], _, _, _, _, _ => rfl
  | _ :: _, [], h, _, _, _ => by cases h
  | x :: xs, y :: ys, hl, h1, h2, hc => by
    have hl' : xs.length = ys.length := by simpa using hl
    unfold lexle
    by_cases e : x = y
    · subst e
      rw [if_pos rfl]
      refine lexle_of_code hl' h1.tail h2.tail ?_
      by_cases q : TS.code B ys < TS.code B xs
      · have := (TS.code_same (d := x) hl'.symm).mpr q
        omega
      · omega
    · rw [if_neg e]
      refine decide_eq_true ?_
      by_cases q : y < x
      · have := TS.code_lt hl'.symm h2.tail h1.tail q
        omega
      · omega
theorem nodup_dedup {α : Type} [BEq α] [LawfulBEq α] : ∀ (n : Nat) (l : List α), l.length ≤ n → l.eraseDups.Nodup
  | 0, [], _ => by simp
  | _ + 1, [], _ => by simp
  | n + 1, a :: l, h => by
    rw [List.eraseDups_cons]
    refine List.nodup_cons.mpr ⟨fun m => ?_, nodup_dedup n _ ?_⟩
    · have := List.mem_filter.mp (List.mem_eraseDups.mp m)
      simp at this
    · refine Nat.le_trans (List.length_filter_le _ _) ?_
      simpa using h
def canonI (ks : List (List Int)) : List (List Int) := ks.eraseDups.mergeSort lexle
theorem mem_canonI {ks : List (List Int)} {a : List Int} : a ∈ canonI ks ↔ a ∈ ks := by
  unfold canonI
  rw [(List.mergeSort_perm _ _).mem_iff, List.mem_eraseDups]
theorem canonI_nodup (ks : List (List Int)) : (canonI ks).Nodup := ((List.mergeSort_perm _ _).nodup_iff).mpr (nodup_dedup _ _ (Nat.le_refl _))
theorem canonI_pair (ks : List (List Int)) : (canonI ks).Pairwise fun a b => lexle a b = true := List.pairwise_mergeSort lexle_trans lexle_total _
theorem canonI_the {ks L : List (List Int)} (nd : L.Nodup) (hm : ∀ a, a ∈ L ↔ a ∈ ks) (hp : L.Pairwise fun a b => lexle a b = true) : L = canonI ks :=
  List.Perm.eq_of_pairwise (fun a b _ _ h1 h2 => lexle_anti a b h1 h2) hp (canonI_pair ks) ((List.perm_ext_iff_of_nodup nd (canonI_nodup ks)).mpr fun a => (hm a).trans mem_canonI.symm)
theorem canonI_congr {ks ls : List (List Int)} (h : ∀ a, a ∈ ks ↔ a ∈ ls) : canonI ks = canonI ls := canonI_the (canonI_nodup ks) (fun a => mem_canonI.trans (h a)) (canonI_pair ks)
theorem canonI_len (ks : List (List Int)) : (canonI ks).length ≤ ks.length := by
  unfold canonI
  rw [List.length_mergeSort]
  exact dedup_len ks.length ks (Nat.le_refl _)
where dedup_len : ∀ (n : Nat) (l : List (List Int)), l.length ≤ n → l.eraseDups.length ≤ l.length
  | 0, [], _ => by simp
  | _ + 1, [], _ => by simp
  | n + 1, a :: l, h => by
    rw [List.eraseDups_cons]
    have h1 := List.length_filter_le (fun b => !b == a) l
    have h2 : l.length ≤ n := by simpa using h
    have h3 := dedup_len n (l.filter fun b => !b == a) (by omega)
    simp only [List.length_cons]
    omega
/-! ### data -/
def tupI (ns : List Int) : PyData := .tuple (ns.map .int)
theorem keys_of {K : PySem.W.Frag} {G : Hp} : ∀ {xs : List V} {kss : List (List Int)}, DpAll K G xs (kss.map tupI) → ∃ ks : List (Addr × List Int), xs = ks.map (fun p => V.ref p.1) ∧ ks.map (·.2) = kss ∧ ∀ p ∈ ks, SqT K G p.1 (p.2.map V.int)
  | _, [], .nil => ⟨[], rfl, rfl, fun p h => nomatch h⟩
  | _, k :: kss, .cons h t => by
    obtain ⟨ks, e1, e2, e3⟩ := keys_of t
    obtain ⟨a, vs, rfl, hs, ha⟩ := dp_tup h
    have ev := dpa_ints_inv ha
    subst ev
    refine ⟨(a, k) :: ks, by rw [e1]; rfl, by rw [← e2]; rfl, fun p hp => ?_⟩
    rcases List.mem_cons.mp hp with rfl | hp
    · exact hs
    · exact e3 p hp
theorem of_keys {K : PySem.W.Frag} {G : Hp} : ∀ {ks : List (Addr × List Int)}, (∀ p ∈ ks, SqT K G p.1 (p.2.map V.int)) → DpAll K G (ks.map fun p => V.ref p.1) ((ks.map (·.2)).map tupI)
  | [], _ => .nil
  | p :: ks, h => .cons (.tup (h p List.mem_cons_self) (dpa_ints p.2)) (of_keys fun q hq => h q (List.mem_cons_of_mem _ hq))
section
variable {C : Cn} {ρ : Rho} {te : TE} {P : Program} {w : World}
/-- sorted(set(xs)), tuples of d ints from 0 -/
theorem de_sortset {kss : List (List Int)} {d : Nat} {Bd : Int} (h : DE C te ρ (.list (kss.map tupI))) (hf : kss.length < 64) (hd : 1 ≤ d) (hb : ∀ k ∈ kss, k.length = d ∧ TS.Bd Bd k) :
    DE C (tCB (rSortedT C.K P w) (tCons (tCB (rSetOfT C.K P w) (tCons te tNil)) tNil)) ρ (.list ((canonI kss).map tupI)) := fun B G H σ o Q q => h B G H σ o _ fun v d' ρ' G1 H1 p o1 s1 dv => by
  obtain ⟨rfl, rfl⟩ := p
  obtain ⟨l, xs, rfl, hs, ha⟩ := dp_lst dv
  obtain ⟨ks, rfl, e2, hk⟩ := keys_of ha
  refine ⟨l, ks, rfl, o1.gh.seq hs, fun p hp => Same.tup o1.gh (hk p hp), by rw [← e2] at hf; simpa using hf, fun a L na hL hall => ?_⟩
  have sa : Same H1 (upd H1 a (SetTO P w a L)) := same_new na
  have kL : ∀ p ∈ L, SqT C.K G1 p.1 (p.2.map V.int) := fun p hp => hk p (hL p hp)
  have inK : ∀ p ∈ L, p.2 ∈ kss := fun p hp => by
    rw [← e2]
    exact List.mem_map.mpr ⟨p, hL p hp, rfl⟩
  refine ⟨a, L, d, Bd, rfl, upd_same, fun p hp => Same.tup (o1.gh.trans sa) (kL p hp), hd, fun p hp => hb _ (inK p hp), fun L' p pm nd _ pw np => ?_⟩
  have nH : H1 p = none := by
    cases z : H1 p with
    | none => rfl
    | some u =>
      rw [sa p u z] at np
      cases np
  have nG := o1.gh.free nH
  have sG : Same G1 (upd G1 p (.lst (L'.map fun q => V.ref q.1))) := same_new nG
  have nap : p ≠ a := fun z => by rw [z, upd_same] at np; cases np
  have hL' : L'.map (·.2) = canonI kss := by
    refine canonI_the nd (fun k => ?_) ?_
    · rw [(pm.map (·.2)).mem_iff]
      constructor
      · intro m
        obtain ⟨p, hp, rfl⟩ := List.mem_map.mp m
        exact inK p hp
      · intro m
        rw [← e2] at m
        obtain ⟨p, hp, rfl⟩ := List.mem_map.mp m
        exact hall p hp
    · refine List.pairwise_map.mpr (List.Pairwise.imp_of_mem (fun {x y} hx hy hc => ?_) pw)
      have bx := hb _ (inK x (pm.mem_iff.mp hx))
      have by' := hb _ (inK y (pm.mem_iff.mp hy))
      exact lexle_of_code (bx.1.trans by'.1.symm) bx.2 by'.2 hc
  refine q _ _ _ (upd G1 p (.lst (L'.map fun q => V.ref q.1))) _ ⟨rfl, rfl⟩ (o1.on ?_) (s1.trans (Ext.sx ?_)) ?_
  rotate_left 2
  · rw [← hL']
    exact .lst (.inl (.inl upd_same)) (dpall_up sG (of_keys fun q hq => kL q (pm.mem_iff.mp hq)))
  all_goals
    refine ⟨sG, sa.trans (same_new np), fun b u e => ?_, fun b e1 e2 => ?_⟩
    · by_cases hb : b = p
      · rw [hb, upd_same] at e ⊢
        exact e
      · rw [upd_ne hb] at e ⊢
        exact sa b u (o1.gh b u e)
    · rw [upd_ne fun z => e1 (by rw [z]; exact nH)]
      exact e2
/-! ### isinstance -/
def tyD : PyData → String
  | .none => "NoneType"
  | .bool _ => "bool"
  | .int _ => "int"
  | .str _ => "str"
  | .list _ => "list"
  | .tuple _ => "tuple"
  | .dict _ => "dict"
theorem dp_ty {K : PySem.W.Frag} {H : Hp} {v : V} {d : PyData} (h : Dp K H v d) : TyX K H v (.type (tyD d)) := by
  cases h with
  | non => exact .base .non
  | bl b => exact .base (.bl b)
  | int i => exact .base (.int i)
  | str i => exact .base (.str i)
  | lst h _ =>
    rcases h with (h | ⟨o, h⟩) | ⟨o, its, n, e, c, _⟩
    · exact .base (.lst h)
    · exact .base (.frz h)
    · exact .kList e c
  | tup h _ =>
    rcases h with (h | ⟨o, h⟩) | ⟨o, its, n, e, c, _⟩
    · exact .base (.tup h)
    · exact .fTuple h
    · exact .kTuple e c
theorem rc_isi {d : PyData} {n : String} {b : Bool} (h : kitB (tyD d) n = some b) {te : TE} (hd : DE C te ρ d) : DE C (tCB (rIsi C.K) (tCons te (tCons (tC (.ty n)) tNil))) ρ (.bool b) := fun B G H σ o Q q => hd B G H σ o _ fun v d' ρ' G1 H1 p o1 s1 dv => by
  obtain ⟨rfl, rfl⟩ := p
  exact ⟨v, .ty n, .type (tyD d'), .type n, b, rfl, .ty n, dp_ty (dp_up o1.gh dv), kit_ty h, q _ _ _ G1 H1 ⟨rfl, rfl⟩ o1 s1 (.bl b)⟩
theorem rc_isi2 {d : PyData} {m n : String} {b c : Bool} (h : kitB (tyD d) m = some b) (h2 : kitB (tyD d) n = some c) {te : TE} (hd : DE C te ρ d) :
    DE C (tCB (rIsiT C.K) (tCons te (tCons (tTup (tCons (tC (.ty m)) (tCons (tC (.ty n)) tNil))) tNil))) ρ (.bool (b || c)) := fun B G H σ o Q q => hd B G H σ o _ fun v d' ρ' G1 H1 p o1 s1 dv => by
  obtain ⟨rfl, rfl⟩ := p
  refine ⟨by show 2 ≤ sizeLine; decide, fun a na => ?_⟩
  have o2 := o1.new0 (o := .tup [.ty m, .ty n]) na
  refine ⟨v, a, [.ty m, .ty n], .type (tyD d'), [.type m, .type n], b || c, rfl, upd_same, .cons (.ty m) (.cons (.ty n) .nil), dp_ty (dp_up (o1.gh.trans (same_new na)) dv), ?_, ?_⟩
  · refine kitAny_cons (kit_ty h) (fun e => ?_) (fun e => by rw [e]; rfl)
    refine kitAny_cons (kit_ty h2) (fun e2 => ?_) (fun e2 => by rw [e2, Bool.or_true])
    rw [e, e2]
    rfl
  · refine q _ _ _ G1 _ ⟨rfl, rfl⟩ o2 (s1.trans ⟨Same.refl _, fun b o' _ e => same_new na b o' e, fun b e z => e ((same_new na).free z), fun _ _ e => e⟩) (.bl _)
end
end SC
/-! Numbers: what the pairs reckon, over Rat. Core Lean alone. -/
namespace SC
theorem part_num {a b : Int} (hb : b ≠ 0) : a.fdiv (if b < 0 then -((Nat.gcd a.natAbs b.natAbs : Nat) : Int) else ((Nat.gcd a.natAbs b.natAbs : Nat) : Int)) = (Rat.divInt a b).num ∧
    b.fdiv (if b < 0 then -((Nat.gcd a.natAbs b.natAbs : Nat) : Int) else ((Nat.gcd a.natAbs b.natAbs : Nat) : Int)) = ((Rat.divInt a b).den : Int) := by
  have hg0 : 0 < Nat.gcd a.natAbs b.natAbs := Nat.gcd_pos_of_pos_right _ (by omega)
  have ge : b.gcd a = Nat.gcd a.natAbs b.natAbs := by
    rw [Int.gcd, Nat.gcd_comm]
  have da : ((Nat.gcd a.natAbs b.natAbs : Nat) : Int) ∣ a := Int.ofNat_dvd_left.mpr (Nat.gcd_dvd_left _ _)
  have db : ((Nat.gcd a.natAbs b.natAbs : Nat) : Int) ∣ b := Int.ofNat_dvd_left.mpr (Nat.gcd_dvd_right _ _)
  rw [Rat.num_divInt, Rat.den_divInt, ge, if_neg hb]
  generalize Nat.gcd a.natAbs b.natAbs = g at *
  obtain ⟨k, hk⟩ := da
  obtain ⟨m, hm⟩ := db
  have gne : (g : Int) ≠ 0 := by omega
  have gne' : -(g : Int) ≠ 0 := by omega
  have hbn : b.natAbs / g = m.natAbs := by
    rw [hm, Int.natAbs_mul, Int.natAbs_natCast, Nat.mul_div_cancel_left _ hg0]
  by_cases h : b < 0
  · have hm0 : m < 0 := by
      by_cases q : m < 0
      · exact q
      · have : 0 ≤ (g : Int) * m := Int.mul_nonneg (by omega) (by omega)
        omega
    rw [if_pos h, Int.sign_eq_neg_one_of_neg h, hbn]
    constructor
    · have e1 : a.fdiv (-(g : Int)) = -k := by
        rw [hk, show (g : Int) * k = -(g : Int) * (-k) by rw [Int.neg_mul_neg]]
        exact Int.mul_fdiv_cancel_left _ gne'
      have e2 : -1 * a / (g : Int) = -k := by
        rw [hk, show -1 * ((g : Int) * k) = (g : Int) * (-k) by rw [Int.mul_neg]; omega]
        exact Int.mul_ediv_cancel_left _ gne
      rw [e1, e2]
    · have e1 : b.fdiv (-(g : Int)) = -m := by
        rw [hm, show (g : Int) * m = -(g : Int) * (-m) by rw [Int.neg_mul_neg]]
        exact Int.mul_fdiv_cancel_left _ gne'
      rw [e1]
      omega
  · have hm0 : 0 < m := by
      by_cases q : 0 < m
      · exact q
      · have : (g : Int) * m ≤ 0 := by
          have := Int.mul_nonneg (a := (g : Int)) (b := -m) (by omega) (by omega)
          rw [Int.mul_neg] at this
          omega
        omega
    rw [if_neg h, Int.sign_eq_one_of_pos (by omega), hbn]
    constructor
    · have e1 : a.fdiv (g : Int) = k := by
        rw [hk]
        exact Int.mul_fdiv_cancel_left _ gne
      have e2 : 1 * a / (g : Int) = k := by
        rw [Int.one_mul, hk]
        exact Int.mul_ediv_cancel_left _ gne
      rw [e1, e2]
    · have e1 : b.fdiv (g : Int) = m := by
        rw [hm]
        exact Int.mul_fdiv_cancel_left _ gne
      rw [e1]
      omega
theorem q_add (a b : Rat) : a + b = Rat.divInt (a.num * b.den + b.num * a.den) ((a.den : Int) * b.den) := by
  rw [Rat.add_def', ← Rat.divInt_ofNat, Int.natCast_mul]
theorem q_mul (a b : Rat) : a * b = Rat.divInt (a.num * b.num) ((a.den : Int) * b.den) := by
  rw [Rat.mul_def', ← Rat.divInt_ofNat, Int.natCast_mul]
theorem q_div (a b : Rat) : a / b = Rat.divInt (a.num * b.den) ((a.den : Int) * b.num) := by
  rw [Rat.div_def, Rat.inv_def, ← Rat.divInt_mul_divInt, Rat.num_divInt_den]
theorem den_int_ne (a : Rat) : (a.den : Int) ≠ 0 := by
  have := a.den_pos
  omega
def absQ (a : Rat) : Rat := if 0 ≤ a then a else -a
theorem absQ_num (a : Rat) : (absQ a).num = (a.num.natAbs : Int) := by
  unfold absQ
  split
  · rename_i h
    have := Rat.num_nonneg.mpr h
    omega
  · rename_i h
    have : ¬ 0 ≤ a.num := fun z => h (Rat.num_nonneg.mp z)
    rw [Rat.neg_num]
    omega
theorem absQ_den (a : Rat) : (absQ a).den = a.den := by
  unfold absQ
  split
  · rfl
  · exact Rat.neg_den a
def fracQ (a : Rat) : Rat := a - (a.floor : Int)
theorem fracQ_eq (a : Rat) : (fracQ a).num = a.num % (a.den : Int) ∧ (fracQ a).den = a.den := by
  have hd := a.den_pos
  have red : (a.num % (a.den : Int)).natAbs.Coprime a.den := by
    refine Nat.dvd_one.mp ?_
    have g1 : ((Nat.gcd (a.num % (a.den : Int)).natAbs a.den : Nat) : Int) ∣ a.num % (a.den : Int) := Int.ofNat_dvd_left.mpr (Nat.gcd_dvd_left _ _)
    have g2 : ((Nat.gcd (a.num % (a.den : Int)).natAbs a.den : Nat) : Int) ∣ (a.den : Int) := Int.natCast_dvd_natCast.mpr (Nat.gcd_dvd_right _ _)
    have g3 : ((Nat.gcd (a.num % (a.den : Int)).natAbs a.den : Nat) : Int) ∣ a.num := by
      have e : a.num % (a.den : Int) + (a.den : Int) * (a.num / (a.den : Int)) = a.num := Int.emod_add_mul_ediv _ _
      have := Int.dvd_add g1 (Int.dvd_trans g2 (Int.dvd_mul_right (a.den : Int) (a.num / (a.den : Int))))
      rw [e] at this
      exact this
    have g4 := Nat.dvd_gcd (Int.ofNat_dvd_left.mp g3) (Nat.gcd_dvd_right (a.num % (a.den : Int)).natAbs a.den)
    have red := a.reduced
    rw [Nat.Coprime] at red
    rw [red] at g4
    exact g4
  let r : Rat := ⟨a.num % (a.den : Int), a.den, by omega, red⟩
  have hr : r = fracQ a := by
    have e1 : r + (a.floor : Int) = a := by
      have h1 : r = Rat.divInt (a.num % (a.den : Int)) (a.den : Int) := (Rat.num_divInt_den r).symm
      have h2 : ((a.floor : Int) : Rat) = Rat.divInt a.floor 1 := by
        rw [Rat.divInt_eq_div]
        grind
      have h3 : Rat.divInt a.num (a.den : Int) = a := Rat.num_divInt_den a
      rw [h1, h2, Rat.divInt_add_divInt _ _ (den_int_ne a) (by decide), Int.mul_one, Int.mul_one, Rat.floor_def]
      have e : a.num % (a.den : Int) + a.num / (a.den : Int) * (a.den : Int) = a.num := by
        rw [Int.mul_comm]
        exact Int.emod_add_mul_ediv _ _
      rw [e, h3]
    unfold fracQ
    grind
  rw [← hr]
  exact ⟨rfl, rfl⟩
/-! sizes -/
def Sz (n : Nat) (q : Rat) : Prop := q.num.natAbs < 2 ^ n ∧ q.den < 2 ^ n
theorem Sz.mono {n m : Nat} {q : Rat} (h : Sz n q) (k : n ≤ m) : Sz m q :=
  ⟨Nat.lt_of_lt_of_le h.1 (Nat.pow_le_pow_right (by decide) k), Nat.lt_of_lt_of_le h.2 (Nat.pow_le_pow_right (by decide) k)⟩
theorem divInt_small (a b : Int) (hb : b ≠ 0) : (Rat.divInt a b).num.natAbs ≤ a.natAbs ∧ (Rat.divInt a b).den ≤ b.natAbs := by
  constructor
  · rw [Rat.num_divInt]
    have h1 : (b.sign * a).natAbs ≤ a.natAbs := by
      rw [Int.natAbs_mul]
      have : b.sign.natAbs = 1 := Int.natAbs_sign_of_ne_zero hb
      rw [this]
      omega
    exact Nat.le_trans (by rw [Int.natAbs_ediv_of_dvd]; exact Nat.div_le_self _ _; exact Int.dvd_trans (Int.ofNat_dvd_left.mpr (by rw [Int.gcd]; exact Nat.gcd_dvd_right _ _)) (Int.dvd_mul_left _ _)) h1
  · rw [Rat.den_divInt, if_neg hb]
    exact Nat.div_le_self _ _
theorem two_mul_lt {x y n m : Nat} (h1 : x < 2 ^ n) (h2 : y < 2 ^ m) : x * y < 2 ^ (n + m) := by
  rw [Nat.pow_add]
  exact Nat.mul_lt_mul'' h1 h2
theorem Sz.add {n m : Nat} {a b : Rat} (ha : Sz n a) (hb : Sz m b) : Sz (n + m + 1) (a + b) := by
  have hd : ((a.den : Int) * b.den) ≠ 0 := Int.mul_ne_zero (den_int_ne a) (den_int_ne b)
  have s := divInt_small (a.num * b.den + b.num * a.den) ((a.den : Int) * b.den) hd
  rw [← q_add] at s
  have h1 := two_mul_lt ha.1 hb.2
  have h2 := two_mul_lt hb.1 ha.2
  have h3 := two_mul_lt ha.2 hb.2
  have h4 : 2 ^ (n + m + 1) = 2 ^ (n + m) * 2 := Nat.pow_succ ..
  constructor
  · have t := Int.natAbs_add_le (a.num * b.den) (b.num * a.den)
    rw [Int.natAbs_mul, Int.natAbs_mul, Int.natAbs_natCast, Int.natAbs_natCast] at t
    rw [Nat.add_comm m n] at h2
    omega
  · have t := s.2
    rw [Int.natAbs_mul, Int.natAbs_natCast, Int.natAbs_natCast] at t
    omega
theorem Sz.mul {n m : Nat} {a b : Rat} (ha : Sz n a) (hb : Sz m b) : Sz (n + m) (a * b) := by
  have hd : ((a.den : Int) * b.den) ≠ 0 := Int.mul_ne_zero (den_int_ne a) (den_int_ne b)
  have s := divInt_small (a.num * b.num) ((a.den : Int) * b.den) hd
  rw [← q_mul, Int.natAbs_mul, Int.natAbs_mul, Int.natAbs_natCast, Int.natAbs_natCast] at s
  exact ⟨Nat.lt_of_le_of_lt s.1 (two_mul_lt ha.1 hb.1), Nat.lt_of_le_of_lt s.2 (two_mul_lt ha.2 hb.2)⟩
theorem num_ne {b : Rat} (h : b ≠ 0) : b.num ≠ 0 := fun z => h (Rat.num_eq_zero.mp z)
theorem Sz.div {n m : Nat} {a b : Rat} (ha : Sz n a) (hb : Sz m b) (h0 : b ≠ 0) : Sz (n + m) (a / b) := by
  have hd : ((a.den : Int) * b.num) ≠ 0 := Int.mul_ne_zero (den_int_ne a) (num_ne h0)
  have s := divInt_small (a.num * b.den) ((a.den : Int) * b.num) hd
  rw [← q_div, Int.natAbs_mul, Int.natAbs_mul, Int.natAbs_natCast, Int.natAbs_natCast] at s
  exact ⟨Nat.lt_of_le_of_lt s.1 (two_mul_lt ha.1 hb.2), Nat.lt_of_le_of_lt s.2 (two_mul_lt ha.2 hb.1)⟩
theorem Sz.neg {n : Nat} {a : Rat} (ha : Sz n a) : Sz n (-a) := by
  unfold Sz
  rw [Rat.neg_num, Rat.neg_den, Int.natAbs_neg]
  exact ha
theorem Sz.sub {n m : Nat} {a b : Rat} (ha : Sz n a) (hb : Sz m b) : Sz (n + m + 1) (a - b) := by
  rw [Rat.sub_eq_add_neg]
  exact ha.add hb.neg
theorem Sz.abs {n : Nat} {a : Rat} (ha : Sz n a) : Sz n (absQ a) := by
  unfold Sz
  rw [absQ_num, absQ_den, Int.natAbs_natCast]
  exact ha
theorem Sz.floor {n : Nat} {a : Rat} (ha : Sz n a) : a.floor.natAbs < 2 ^ n + 1 := by
  rw [Rat.floor_def]
  have hd := a.den_pos
  have h := ha.1
  have := Int.natAbs_ediv_le_natAbs a.num (a.den : Int)
  omega
theorem Sz.int {n : Nat} {i : Int} (h : i.natAbs < 2 ^ n) (h0 : 0 < n) : Sz n (i : Rat) := by
  refine ⟨by simpa using h, ?_⟩
  have : (1 : Nat) < 2 ^ n := Nat.one_lt_two_pow (by omega)
  simpa using this
theorem Sz.frac {n : Nat} {a : Rat} (ha : Sz n a) : Sz n (fracQ a) := by
  obtain ⟨h1, h2⟩ := fracQ_eq a
  unfold Sz
  rw [h1, h2]
  refine ⟨?_, ha.2⟩
  have := Int.emod_lt_of_pos a.num (show (0 : Int) < a.den by have := a.den_pos; omega)
  have := Int.emod_nonneg a.num (den_int_ne a)
  have := ha.2
  omega
/-- a round by b -/
def roundQ (a b : Rat) : Rat := a - (((a / absQ b).floor : Int) : Rat) * absQ b
theorem absQ_ne {b : Rat} (h : b ≠ 0) : absQ b ≠ 0 := by
  unfold absQ
  split <;> grind
theorem absQ_pos {b : Rat} (h : b ≠ 0) : 0 < absQ b := by
  unfold absQ
  split <;> grind
theorem Sz.round {n m : Nat} {a b : Rat} (ha : Sz n a) (hb : Sz m b) (h0 : b ≠ 0) : Sz (n + (n + m + 1 + m) + 1) (roundQ a b) := by
  have h1 := ha.div hb.abs (absQ_ne h0)
  have h2 := h1.floor
  have h3 : (a / absQ b).floor.natAbs < 2 ^ (n + m + 1) := by
    have : 2 ^ (n + m + 1) = 2 ^ (n + m) * 2 := Nat.pow_succ ..
    have : 0 < 2 ^ (n + m) := Nat.two_pow_pos _
    omega
  exact ha.sub ((Sz.int h3 (by omega)).mul hb.abs)
end SC
namespace SC
open PySem PySem.Spec PyProof.Rows L2
/-! the text by places -/
def topS (i : Nat) : Stmt := PySem.Challenge.pw_screwshop_k30_whole_nuts_on_stopped_and.main.body.getD i (.Pass ⟨0, 0, 0, 0⟩)
/-- the built-in names that the text leaves as they are -/
structure Bi (mg : Str → Option Value) : Prop where
  len : mg "len" = none
  abs : mg "abs" = none
  int : mg "int" = none
  min : mg "min" = none
  all : mg "all" = none
  tuple : mg "tuple" = none
  list : mg "list" = none
  set : mg "set" = none
  sorted : mg "sorted" = none
  range : mg "range" = none
  enumerate : mg "enumerate" = none
  zip : mg "zip" = none
  isinstance : mg "isinstance" = none
  bool : mg "bool" = none
  str : mg "str" = none
  gcd : mg "gcd" = some (.builtin "math.gcd")
def dQ (q : Rat) : PyData := .tuple [.int q.num, .int (q.den : Int)]
theorem pe_none {X : Cx} {a : Addr} {pos : Pos} (h : X.mg "NONE" = some (.ref a)) (hg : Gl X "NONE" := by rfl) : PE X (.Name "NONE" pos) (tC (.ref a)) := pe_glob hg h rfl
/-! ### the rules that lean on the written part, told which it is -/
section
variable {X : Cx}
theorem kixT (K : PySem.W.Frag) (h : X.K = K := by rfl) : IxR X (rIxT K) := by subst h; exact ix_tup
theorem kixL (K : PySem.W.Frag) (h : X.K = K := by rfl) : IxR X (rIxL K) := by subst h; exact ix_list
theorem keqD (K : PySem.W.Frag) {k : Nat} (hr : Room k X.A) (h : X.K = K := by rfl) : OpR X (compareOp .Eq) (rEqD K) := by subst h; exact op_eqD hr.units
theorem kneD (K : PySem.W.Frag) {k : Nat} (hr : Room k X.A) (h : X.K = K := by rfl) : OpR X (compareOp .NotEq) (rNeD K) := by subst h; exact op_neD hr.units
theorem kinD (K : PySem.W.Frag) {k : Nat} (hr : Room k X.A) (h : X.K = K := by rfl) : OpR X (compareOp .In) (rInD K) := by subst h; exact op_inD (hu65 hr)
theorem knotInD (K : PySem.W.Frag) {k : Nat} (hr : Room k X.A) (h : X.K = K := by rfl) : OpR X (compareOp .NotIn) (rNotInD K) := by subst h; exact op_notInD (hu65 hr)
theorem klen (K : PySem.W.Frag) (h : X.K = K := by rfl) : CallR X (.builtin "len") (rLenQ K) := by subst h; exact call_len_seq
theorem ktupOf (K : PySem.W.Frag) (h : X.K = K := by rfl) : CallR X (.type "tuple") (rTupOf K) := by subst h; exact call_tuple_of
theorem klstOf (K : PySem.W.Frag) (h : X.K = K := by rfl) : CallR X (.type "list") (rLstOf K) := by subst h; exact call_list_of
theorem kslT (K : PySem.W.Frag) (h : X.K = K := by rfl) : SlR X (rSlA K) := by subst h; exact sl_tupA
theorem kslL (K : PySem.W.Frag) (h : X.K = K := by rfl) : SlR X (rSlL K) := by subst h; exact sl_list
theorem piT (K : PySem.W.Frag) {tg l : Expr} {tl : TE} (hl : PE X l tl) (h : X.K = K := by rfl) : PI X tg l (iTup K tl) := by subst h; exact pi_tup hl
theorem piL (K : PySem.W.Frag) {tg l : Expr} {tl : TE} (hl : PE X l tl) (h : X.K = K := by rfl) : PI X tg l (iList K tl) := by subst h; exact pi_list hl
theorem piE (K : PySem.W.Frag) {e : Expr} {ta : TA} {p pos tpos : Pos} {elts : List Expr} {kk : Nat} (hm : X.mg "enumerate" = none) (ha : PA X [e] ta) (hg : Gl X "enumerate" := by rfl) (hs : starEach [e] X.env = [(false, eval e X.env)] := by rfl) (h : X.K = K := by rfl) :
    PI X (.Tuple elts kk tpos) (.Call (.Name "enumerate" p) [e] [] pos) (iEnum K ta) := by subst h; exact pi_enum hg hm ha hs
theorem piZ (K : PySem.W.Frag) {e e2 : Expr} {ta : TA} {p pos tpos : Pos} {elts : List Expr} {kk : Nat} (hm : X.mg "zip" = none) (ha : PA X [e, e2] ta) (hg : Gl X "zip" := by rfl)
    (hs : starEach [e, e2] X.env = (false, eval e X.env) :: starEach [e2] X.env := by rfl) (hpl : (backTo pos (starEach [e2] X.env)).any (·.1) = false := by rfl) (h : X.K = K := by rfl) :
    PI X (.Tuple elts kk tpos) (.Call (.Name "zip" p) [e, e2] [] pos) (RZ.iZipA K ta) := by subst h; exact RZ.pi_zipA hg hm ha hs hpl
theorem pgT (K : PySem.W.Frag) (n : Nat) {es : List Expr} {k : Nat} {pos : Pos} {t : TGs} (h : PGs X es t) (hc : X.calm = true := by rfl) (hn : (assignEach es X.env).length = n := by rfl) (hst : (assignEach es X.env).findIdx? (·.1) = none := by rfl) (hK : X.K = K := by rfl) :
    PG X (.Tuple es k pos) (gTup K n t) := by subst hK; exact pg_tup hc h hn hst
theorem kall (K : PySem.W.Frag) (hc : X.calm = true := by rfl) (h : X.K = K := by rfl) : CallR X (.builtin "all") (rAll K) := by subst h; exact cr_all hc
theorem kset (K : PySem.W.Frag) (P : Program) (w : World) {k : Nat} (hr : Room k X.A) (hc : X.calm = true := by rfl) (h : X.K = K := by rfl) (hP : X.prog = P := by rfl) (hw : X.w = w := by rfl) : CallR X (.type "set") (rSetOfT K P w) := by subst h hP hw; exact cr_setOfT hc hr.units
theorem ksorted (K : PySem.W.Frag) (P : Program) (w : World) (hc : X.calm = true := by rfl) (h : X.K = K := by rfl) (hP : X.prog = P := by rfl) (hw : X.w = w := by rfl) : CallR X (.builtin "sorted") (rSortedT K P w) := by subst h hP hw; exact cr_sortedT hc
theorem kisi (K : PySem.W.Frag) (h : X.K = K := by rfl) : CallR X (.builtin "isinstance") (rIsi K) := by subst h; exact call_isi
theorem kisiT (K : PySem.W.Frag) (h : X.K = K := by rfl) : CallR X (.builtin "isinstance") (rIsiT K) := by subst h; exact call_isiT
theorem kapp (K : PySem.W.Frag) {o e : Expr} {to te : TE} {apos cpos : Pos} (ho : PE X o to) (ha : PE X e te) (h : X.K = K := by rfl) (hbase : attributeBase o "append" X.env (eval o X.env) = eval o X.env := by rfl)
    (hfew : ((backTo cpos (starEach [e] X.env)).all (fun x => !x.1) && (backToKw cpos (keywordEach [] X.env)).all (fun x => x.1.isSome) && decide ([e].length + ([] : List Keyword).length + (if ([] : List Keyword).isEmpty then 0 else 1) < 30)) = true := by rfl)
    (hline : (apos.endLine == cpos.line) = true := by rfl) (hs : starEach [e] X.env = (false, eval e X.env) :: starEach [] X.env := by rfl) :
    PE X (.Call (.Attribute o "append" apos) [e] [] cpos) (tBM K "list" rAppend to (tCons te tNil)) := by
  subst h
  exact pe_bm PySem.F.plainAttrs_list PySem.F.slot_list_append PySem.F.type_list_append mt_append ho (pa_cons ha pa_nil hs) hbase hfew hline hs
end
/-- the constant NONE -/
structure NoneAt (K : PySem.W.Frag) (mg : Str → Option Value) (a : Addr) : Prop where
  at_ : mg "NONE" = some (.ref a)
  val : ∀ H, SqT K H a [.int 0, .int 1]
theorem NoneAt.de {C : Cn} {ρ : Rho} {mg : Str → Option Value} {a : Addr} (h : NoneAt C.K mg a) : DE C (tC (.ref a)) ρ (dQ 0) := de_con fun G => .tup (h.val G) (.cons (.int 0) (.cons (.int 1) .nil))
/-! ### numbers as pairs -/
section
variable {C : Cn} {ρ : Rho} {te : TE} {q : Rat}
theorem de_num (h : DE C te ρ (dQ q)) : DE C (tOp (rIxT C.K) te (tC (.int 0))) ρ (.int q.num) := de_op h de_int (rd_ixT rfl)
theorem de_den (h : DE C te ρ (dQ q)) : DE C (tOp (rIxT C.K) te (tC (.int 1))) ρ (.int (q.den : Int)) := de_op h de_int (rd_ixT rfl)
end
/-! part_of -/
abbrev s_part_of : Stmt := topS 7
abbrev n_part_of : List Str := ["top", "bottom", "common"]
theorem sc_part_of : FnScope n_part_of ["top", "bottom"] (defScope s_part_of) := ⟨rfl, rfl, rfl, by decide +kernel, rfl, by decide +kernel, by decide +kernel⟩
def Pre_part (ds : List PyData) (d : PyData) : Prop := ∃ a b : Int, ds = [.int a, .int b] ∧ b ≠ 0 ∧ b.natAbs < 2 ^ 8000 ∧ d = dQ (Rat.divInt a b)
theorem gcd_lt {a b : Int} {n : Nat} (hb : b ≠ 0) (h : b.natAbs < 2 ^ n) : Nat.gcd a.natAbs b.natAbs < 2 ^ n := Nat.lt_of_le_of_lt (Nat.le_of_dvd (by omega) (Nat.gcd_dvd_right _ _)) h
theorem ok_part_of {M : Md} (bi : Bi M.mg) (F : DefAt M "part_of" s_part_of) : OkF M "part_of" ["top", "bottom"] 1 (spP M.K Pre_part) := by
  refine okf_pure F sc_part_of (fun _ _ _ _ _ _ us hl => match us, hl with | [_, _], _ => rfl) (fun ds d ⟨a, b, h, _⟩ => by rw [h]; rfl) fun f cdv A outer s H E hr =>
    ⟨_, (pss_cons (ps_set (i := 2) sc_part_of.nd rfl (.inl rfl) (pe_callBfun cr_gcd (by rfl) bi.gcd (pa_cons (pv 0) (pa_cons (pv 1) pa_nil))))
      (pss_cons (ps_if (pt_cmpR op_lt (pv 1) pe_int (nomark _)) (pss_one (ps_set (i := 2) sc_part_of.nd rfl (.inl rfl) (pe_un un_neg (pv 2)))) pss_nil)
      (pss_one (ps_ret (pe_tup (pa_cons (pe_op op_fdivX (pv 0) (pv 2)) (pa_cons (pe_op op_fdivX (pv 1) (pv 2)) pa_nil))))))), fun ds d h => ?_⟩
  obtain ⟨a, b, rfl, hb, hs, rfl⟩ := h
  have hg := gcd_lt (a := a) hb hs
  have hg0 : 0 < Nat.gcd a.natAbs b.natAbs := Nat.gcd_pos_of_pos_right _ (by omega)
  obtain ⟨e1, e2⟩ := part_num (a := a) hb
  refine ds_seq (ds_asgD (de_cb (da_cons (de_var rfl) (da_cons (de_var rfl) da_nil)) rc_gcd) ?_)
  refine ds_seq (ds_ifD (dt_test (de_op (de_var rfl) de_int rd_B0)) (fun h => ?_) fun h => ?_)
  · have h := of_decide_eq_true h
    rw [if_pos h] at e1 e2
    refine ds_asgD (de_un (de_var rfl) ru_int) ?_
    refine ds_retD (de_tup (da_cons (de_op (de_var rfl) (de_var rfl) (rd_I (divx (b := 8000) ?_ ?_ (by decide) (by decide)))) (da_cons (de_op (de_var rfl) (de_var rfl) (rd_I (divx (b := 8000) ?_ ?_ (by decide) (by decide)))) da_nil))) ?_
    · omega
    · rw [Int.natAbs_neg]; exact hg
    · omega
    · rw [Int.natAbs_neg]; exact hg
    · rw [e1, e2]; rfl
  · have h := of_decide_eq_false h
    rw [if_neg h] at e1 e2
    refine ds_next ?_
    refine ds_retD (de_tup (da_cons (de_op (de_var rfl) (de_var rfl) (rd_I (divx (b := 8000) ?_ ?_ (by decide) (by decide)))) (da_cons (de_op (de_var rfl) (de_var rfl) (rd_I (divx (b := 8000) ?_ ?_ (by decide) (by decide)))) da_nil))) ?_
    · omega
    · exact hg
    · omega
    · exact hg
    · rw [e1, e2]; rfl
end SC
/-! The mirror: bars, nuts, motions over Rat; how they stand as data. -/
namespace SC
open PySem
/-! ### sets of numbers -/
def keyQ (q : Rat) : List Int := [q.num, (q.den : Int)]
def unkey : List Int → Rat
  | [a, b] => Rat.divInt a b
  | _ => 0
theorem unkey_key (q : Rat) : unkey (keyQ q) = q := Rat.num_divInt_den q
theorem keyQ_inj {a b : Rat} (h : keyQ a = keyQ b) : a = b := by rw [← unkey_key a, h, unkey_key]
/-- the one ascending list (by Python's comparison of the pairs) -/
def canonQ (qs : List Rat) : List Rat := (canonI (qs.map keyQ)).map unkey
theorem canonQ_key (qs : List Rat) : (canonQ qs).map keyQ = canonI (qs.map keyQ) := by
  unfold canonQ
  rw [List.map_map]
  have : ∀ k ∈ canonI (qs.map keyQ), (keyQ ∘ unkey) k = k := fun k hk => by
    obtain ⟨q, _, rfl⟩ := List.mem_map.mp (mem_canonI.mp hk)
    show keyQ (unkey (keyQ q)) = keyQ q
    rw [unkey_key]
  rw [List.map_congr_left this, List.map_id']
theorem mem_canonQ {qs : List Rat} {q : Rat} : q ∈ canonQ qs ↔ q ∈ qs := by
  constructor
  · intro h
    have h2 : keyQ q ∈ (canonQ qs).map keyQ := List.mem_map.mpr ⟨q, h, rfl⟩
    rw [canonQ_key, mem_canonI] at h2
    obtain ⟨p, hp, e⟩ := List.mem_map.mp h2
    rw [← keyQ_inj e]
    exact hp
  · intro h
    have h2 : keyQ q ∈ canonI (qs.map keyQ) := mem_canonI.mpr (List.mem_map.mpr ⟨q, h, rfl⟩)
    rw [← canonQ_key] at h2
    obtain ⟨p, hp, e⟩ := List.mem_map.mp h2
    rw [← keyQ_inj e]
    exact hp
theorem canonQ_congr {ps qs : List Rat} (h : ∀ q, q ∈ ps ↔ q ∈ qs) : canonQ ps = canonQ qs := by
  unfold canonQ
  rw [canonI_congr (ls := qs.map keyQ) fun a => ?_]
  constructor
  · intro m
    obtain ⟨q, hq, rfl⟩ := List.mem_map.mp m
    exact List.mem_map.mpr ⟨q, (h q).mp hq, rfl⟩
  · intro m
    obtain ⟨q, hq, rfl⟩ := List.mem_map.mp m
    exact List.mem_map.mpr ⟨q, (h q).mpr hq, rfl⟩
theorem canonQ_len (qs : List Rat) : (canonQ qs).length ≤ qs.length := by
  unfold canonQ
  rw [List.length_map]
  have := canonI_len (qs.map keyQ)
  rw [List.length_map] at this
  exact this
/-! ### lines, grooves, bars, nuts, motions -/
inductive Line where
  | ring (p : Rat)
  | flute (a : Rat)
  | lead (l p : Rat)
  deriving DecidableEq
structure Groove where
  line : Line
  s : Rat
  e : Rat
  dep : Int
  deriving DecidableEq
structure Bar where
  len : Rat
  gs : List Groove
structure Nut where
  lead : Rat
  phs : List Rat
  h : Int
abbrev Mo := Rat × Rat
def dP (p : Rat × Rat) : PyData := .tuple [dQ p.1, dQ p.2]
def dO : Option (Rat × Rat) → PyData
  | none => .none
  | some p => dP p
def dLine : Line → PyData
  | .ring p => .tuple [.str "ring", dQ p]
  | .flute p => .tuple [.str "flute", dQ p]
  | .lead l p => .tuple [.str "lead", dQ l, dQ p]
def dG (g : Groove) : PyData := .tuple [dLine g.line, dQ g.s, dQ g.e, .int g.dep]
def dBar (b : Bar) : PyData := .tuple [dQ b.len, .tuple (b.gs.map dG)]
def dNut (n : Nut) : PyData := .tuple [dQ n.lead, .tuple (n.phs.map dQ), .int n.h]
def Line.isL (l : Line) (lead : Rat) : Bool := match l with
  | .lead m _ => decide (m = lead)
  | _ => false
def Line.ph : Line → Rat
  | .lead _ p => p
  | _ => 0
/-- sizes, and what a bar is -/
structure GOk (b : Bar) (g : Groove) : Prop where
  s0 : 0 ≤ g.s
  se : g.s ≤ g.e
  zs : Sz 40 g.s
  ze : Sz 40 g.e
  line : match g.line with
    | .ring p => Sz 40 p
    | .flute p => Sz 40 p
    | .lead l p => Sz 40 l ∧ Sz 40 p ∧ l ≠ 0 ∧ 0 ≤ p ∧ p < absQ l
structure BOk (b : Bar) : Prop where
  few : b.gs.length ≤ 16
  z : Sz 40 b.len
  l0 : 0 ≤ b.len
  all : ∀ g ∈ b.gs, GOk b g
structure NOk (n : Nut) : Prop where
  few : n.phs.length ≤ 16
  ne : n.phs ≠ []
  z : Sz 40 n.lead
  l0 : n.lead ≠ 0
  all : ∀ p ∈ n.phs, Sz 40 p
structure MOk (m : Mo) : Prop where
  z1 : Sz 40 m.1
  z2 : Sz 200 m.2
/-! ### what the program reckons -/
/-- the sorted places; own lines below -/
def stepL (c d : Nat) : Nat := c / Nat.gcd c d * d
def lcmL (ps : List (Rat × Rat)) : Nat := ps.foldl (fun c p => stepL (stepL c p.1.den) p.2.den) 1
def rowL (c : Nat) (p : Rat × Rat) : List Int := [p.1.num * ((c / p.1.den : Nat) : Int), p.2.num * ((c / p.2.den : Nat) : Int)]
def unrow (c : Nat) : List Int → Rat × Rat
  | [a, b] => (Rat.divInt a c, Rat.divInt b c)
  | _ => (0, 0)
def placesQ (ps : List (Rat × Rat)) : List (Rat × Rat) := (canonI (ps.map (rowL (lcmL ps)))).map (unrow (lcmL ps))
def mstep (found : List (Rat × Rat)) (p : Rat × Rat) : List (Rat × Rat) :=
  match found[found.length - 1]? with
  | some q => if p.1 ≤ q.2 then found.set (found.length - 1) (q.1, if q.2 ≤ p.2 then p.2 else q.2) else found ++ [p]
  | none => [p]
def mergeQ (ps : List (Rat × Rat)) : List (Rat × Rat) := ps.foldl mstep []
def fitG (lead ph : Rat) (h : Int) (g : Groove) : Bool := decide (g.line = .lead lead ph) && decide (h ≤ g.dep)
def waysQ (b : Bar) (lead ph : Rat) (h : Int) : List (Rat × Rat) := mergeQ (placesQ ((b.gs.filter (fitG lead ph h)).map fun g => (g.s, g.e)))
def inW (p : Rat) (w : Rat × Rat) : Bool := decide (w.1 ≤ p) && decide (p ≤ w.2)
def wayQ (b : Bar) (lead ph : Rat) (h : Int) (p : Rat) : Option (Rat × Rat) := (waysQ b lead ph h).find? (inW p)
def phaseQ (lead ph : Rat) (m : Mo) : Rat := roundQ (ph + (m.1 - lead * m.2)) lead
def teethQ (b : Bar) (n : Nut) (m : Mo) : List (Option (Rat × Rat)) := n.phs.map fun ph => wayQ b n.lead (phaseQ n.lead ph m) n.h m.1
def deepQ (b : Bar) (lead : Rat) (h : Int) : List Rat := canonQ ((b.gs.filter fun g => g.line.isL lead && decide (h ≤ g.dep)).map fun g => g.line.ph)
def offQ (rows : List (Option (Rat × Rat))) : List Nat := (List.range rows.length).filter fun i => decide (rows[i]? = some none)
def onQ (b : Bar) (n : Nut) (m : Mo) : Bool := !(teethQ b n m).any fun w => w.isNone
def angQ (n : Nut) (place ph : Rat) : Rat := fracQ (-((ph - n.phs.headD 0 + -place) / n.lead))
def waysOnQ (b : Bar) (n : Nut) (place : Rat) : List Rat := canonQ (((deepQ b n.lead n.h).map (angQ n place)).filter fun a => onQ b n (place, a))
def upQ (a b : Rat) : Rat := if a ≤ b then b else a
def loQ (a b : Rat) : Rat := if a ≤ b then a else b
def sharedQ : List (Rat × Rat) → Rat × Rat
  | [] => (0, 0)
  | w :: ws => ws.foldl (fun a p => (upQ a.1 p.1, loQ a.2 p.2)) w
/-! ### equal data -/
theorem rat_eq {a b : Rat} : (a.num = b.num ∧ (a.den : Int) = (b.den : Int)) ↔ a = b := by
  constructor
  · rintro ⟨h1, h2⟩
    exact Rat.ext h1 (by omega)
  · rintro rfl
    exact ⟨rfl, rfl⟩
theorem eqv_dQ (a b : Rat) : PyData.eqv (dQ a) (dQ b) = decide (a = b) := by
  simp only [dQ, PyData.eqv, PyData.eqvAll, Bool.and_true]
  rw [Bool.eq_iff_iff]
  simp only [Bool.and_eq_true, beq_iff_eq, decide_eq_true_eq]
  exact rat_eq
theorem str_ne {a b : String} (h : (Str.ofString a == Str.ofString b) = false := by decide +kernel) : (Str.ofString a == Str.ofString b) = false := h
theorem eqv_dLine : ∀ (a b : Line), PyData.eqv (dLine a) (dLine b) = decide (a = b)
  | .ring p, .ring q => by simp [dLine, PyData.eqv, PyData.eqvAll, eqv_dQ]
  | .flute p, .flute q => by simp [dLine, PyData.eqv, PyData.eqvAll, eqv_dQ]
  | .lead l p, .lead m q => by simp [dLine, PyData.eqv, PyData.eqvAll, eqv_dQ]
  | .ring p, .flute q => by simp [dLine, PyData.eqv, PyData.eqvAll, eqv_dQ, str_ne (a := "ring") (b := "flute")]
  | .ring p, .lead m q => by simp [dLine, PyData.eqv, PyData.eqvAll, eqv_dQ, str_ne (a := "ring") (b := "lead")]
  | .flute p, .ring q => by simp [dLine, PyData.eqv, PyData.eqvAll, eqv_dQ, str_ne (a := "flute") (b := "ring")]
  | .flute p, .lead m q => by simp [dLine, PyData.eqv, PyData.eqvAll, eqv_dQ, str_ne (a := "flute") (b := "lead")]
  | .lead l p, .ring q => by simp [dLine, PyData.eqv, PyData.eqvAll, eqv_dQ, str_ne (a := "lead") (b := "ring")]
  | .lead l p, .flute q => by simp [dLine, PyData.eqv, PyData.eqvAll, eqv_dQ, str_ne (a := "lead") (b := "flute")]
theorem strOk_lead : PyData.strOk "lead" = true := by decide +kernel
theorem strOk_ring : PyData.strOk "ring" = true := by decide +kernel
theorem strOk_flute : PyData.strOk "flute" = true := by decide +kernel
theorem shp_dQ (q : Rat) : SeqAt.shaped (dQ q) = true := rfl
theorem shp_dLine : ∀ l : Line, SeqAt.shaped (dLine l) = true
  | .ring p => by simp [SeqAt.shaped, dLine, dQ, PyData.canLay0, PyData.canLayAll0, PyData.depth, PyData.depthAll, strOk_ring]
  | .flute p => by simp [SeqAt.shaped, dLine, dQ, PyData.canLay0, PyData.canLayAll0, PyData.depth, PyData.depthAll, strOk_flute]
  | .lead l p => by simp [SeqAt.shaped, dLine, dQ, PyData.canLay0, PyData.canLayAll0, PyData.depth, PyData.depthAll, strOk_lead]
end SC
namespace SC
open PySem PySem.Spec PyProof.Rows L2
section
variable {C : Cn} {ρ ρ1 : Rho} {ta tb tc te : TE} {d e f : PyData} {P P' : PyData → Rho → Prop} {t u : TT} {r r' : R2} {as : TA} {E : XK} {ts us : TS} {Z Z' : Post} {wi : TI} {ys ds : List PyData} {g : TG}
/-- [f x for x in xs if p x] -/
theorem lx_lcF {α : Type} {js vs : List Nat} (xs : List α) (r : α → PyData) (p : α → Bool) (f : α → PyData) (h : DW C wi ρ (xs.map r)) (hz : xs.length ≤ 100000) (hjs : ∀ j ∈ js, j ∈ vs) (hp : plainR ρ vs)
    (hs : ∀ x, x ∈ xs → ∃ es, GT C g js (r x) es ∧ DT C t (setd (wipeR ρ vs) js es) (p x) ∧ (p x = true → DE C te (setd (wipeR ρ vs) js es) (f x))) :
    LE C (tLc wi g t te vs) ρ ((xs.filter p).map f) := by
  have e : (xs.map fun x => if p x then some (f x) else none).filterMap id = (xs.filter p).map f := by
    clear h hz hs
    induction xs with
    | nil => rfl
    | cons x xs ih =>
      by_cases q : p x
      · simp [q, ih]
      · simp [q, ih]
  have k := lx_lcO (C := C) (ρ := ρ) (wi := wi) (g := g) (t := t) (te := te) (js := js) (vs := vs) (xs.map fun x => if p x then some (f x) else none) h (by simpa using hz) (by simp) hjs hp fun i y o ey eo => by
    rw [List.getElem?_map] at ey eo
    cases q : xs[i]? with
    | none =>
      rw [q] at ey
      cases ey
    | some x =>
      rw [q] at ey eo
      have e1 : r x = y := Option.some.inj ey
      have e2 : (if p x then some (f x) else none) = o := Option.some.inj eo
      subst e1 e2
      obtain ⟨es, g1, g2, g3⟩ := hs x (List.mem_of_getElem? q)
      refine ⟨es, g1, ?_⟩
      by_cases q : p x = true
      · rw [if_pos q]
        exact .inr ⟨_, rfl, g2.cast q, g3 q⟩
      · rw [if_neg q]
        exact .inl ⟨rfl, g2.cast (by simpa using q)⟩
  rw [e] at k
  exact k
theorem de_lcF {α : Type} {js vs : List Nat} (xs : List α) (r : α → PyData) (p : α → Bool) (f : α → PyData) (h : DW C wi ρ (xs.map r)) (hz : xs.length ≤ 100000) (hjs : ∀ j ∈ js, j ∈ vs) (hp : plainR ρ vs)
    (hs : ∀ x, x ∈ xs → ∃ es, GT C g js (r x) es ∧ DT C t (setd (wipeR ρ vs) js es) (p x) ∧ (p x = true → DE C te (setd (wipeR ρ vs) js es) (f x))) :
    DE C (tLc wi g t te vs) ρ (.list ((xs.filter p).map f)) := (lx_lcF xs r p f h hz hjs hp hs).de
theorem lx_lcMM {α : Type} {js vs : List Nat} (xs : List α) (r : α → PyData) (f : α → PyData) (h : DW C wi ρ (xs.map r)) (hz : xs.length ≤ 100000) (hjs : ∀ j ∈ js, j ∈ vs) (hp : plainR ρ vs)
    (hs : ∀ x, x ∈ xs → ∃ es, GT C g js (r x) es ∧ DE C te (setd (wipeR ρ vs) js es) (f x)) :
    LE C (tLc wi g tYes te vs) ρ (xs.map f) := by
  have k := lx_lcF (C := C) (ρ := ρ) (wi := wi) (g := g) (t := tYes) (te := te) (js := js) (vs := vs) xs r (fun _ => true) f h hz hjs hp fun x hx => by
    obtain ⟨es, g1, g2⟩ := hs x hx
    exact ⟨es, g1, dt_yes, fun _ => g2⟩
  rw [show xs.filter (fun _ => true) = xs from List.filter_eq_self.mpr fun _ _ => rfl] at k
  exact k
theorem de_lcMM {α : Type} {js vs : List Nat} (xs : List α) (r : α → PyData) (f : α → PyData) (h : DW C wi ρ (xs.map r)) (hz : xs.length ≤ 100000) (hjs : ∀ j ∈ js, j ∈ vs) (hp : plainR ρ vs)
    (hs : ∀ x, x ∈ xs → ∃ es, GT C g js (r x) es ∧ DE C te (setd (wipeR ρ vs) js es) (f x)) :
    DE C (tLc wi g tYes te vs) ρ (.list (xs.map f)) := (lx_lcMM xs r f h hz hjs hp hs).de
/-- indexed -/
theorem de_lcN {js vs : List Nat} (f : Nat → PyData → PyData) (h : DW C wi ρ ys) (hz : ys.length ≤ 100000) (hjs : ∀ j ∈ js, j ∈ vs) (hp : plainR ρ vs)
    (hs : ∀ (i : Nat) y, ys[i]? = some y → ∃ es, GT C g js y es ∧ DE C te (setd (wipeR ρ vs) js es) (f i y)) :
    DE C (tLc wi g tYes te vs) ρ (.list (ys.mapIdx f)) := de_lcM _ h hz (by simp) hjs hp fun i y d ey ed => by
  rw [List.getElem?_mapIdx, ey] at ed
  have e : f i y = d := Option.some.inj ed
  subst e
  exact hs i y ey
theorem in1 {i : Nat} : ∀ j ∈ [i], j ∈ [i] := fun _ h => h
theorem inAll {l : List Nat} : ∀ j ∈ l, j ∈ l := fun _ h => h
/-- sorted(set(..)) of numbers from 0 -/
theorem bd_key {n : Nat} {q : Rat} (h0 : 0 ≤ q) (h : Sz n q) : (keyQ q).length = 2 ∧ TS.Bd (2 ^ n) (keyQ q) := by
  refine ⟨rfl, fun m hm => ?_⟩
  have hn := Rat.num_nonneg.mpr h0
  have e : ((2 ^ n : Nat) : Int) = (2 : Int) ^ n := by rw [Int.natCast_pow]; rfl
  rcases List.mem_cons.mp hm with rfl | hm
  · have := h.1
    omega
  · rcases List.mem_cons.mp hm with rfl | hm
    · have := h.2
      omega
    · cases hm
theorem map_tupI (qs : List Rat) : (qs.map keyQ).map tupI = qs.map dQ := by
  rw [List.map_map]
  rfl
theorem de_sortsetQ {Pr : Program} {w : World} {qs : List Rat} (n : Nat) (h : DE C te ρ (.list (qs.map dQ))) (hf : qs.length < 64) (hb : ∀ q ∈ qs, 0 ≤ q ∧ Sz n q) :
    DE C (tCB (rSortedT C.K Pr w) (tCons (tCB (rSetOfT C.K Pr w) (tCons te tNil)) tNil)) ρ (.list ((canonQ qs).map dQ)) := by
  rw [← map_tupI] at h
  have k := de_sortset (P := Pr) (w := w) (d := 2) (Bd := 2 ^ n) h (by simpa using hf) (by decide) fun k hk => by
    obtain ⟨q, hq, rfl⟩ := List.mem_map.mp hk
    exact bd_key (hb q hq).1 (hb q hq).2
  rw [← canonQ_key, map_tupI] at k
  exact k
end
/-! ### depth -/
def depLt : Nat → PyData → Prop
  | 0, _ => False
  | n + 1, .list ds => ds.length ≤ 100000 ∧ ∀ d ∈ ds, depLt n d
  | n + 1, .tuple ds => ds.length ≤ 100000 ∧ ∀ d ∈ ds, depLt n d
  | _ + 1, .dict _ => False
  | _ + 1, _ => True
mutual
def tupD : PyData → PyData
  | .list ds => .tuple (tupDs ds)
  | .tuple ds => .tuple (tupDs ds)
  | d => d
def tupDs : List PyData → List PyData
  | [] => []
  | d :: ds => tupD d :: tupDs ds
end
mutual
def lstD : PyData → PyData
  | .list ds => .list (lstDs ds)
  | .tuple ds => .list (lstDs ds)
  | d => d
def lstDs : List PyData → List PyData
  | [] => []
  | d :: ds => lstD d :: lstDs ds
end
theorem tupDs_map : ∀ ds, tupDs ds = ds.map tupD
  | [] => rfl
  | d :: ds => by rw [tupDs, tupDs_map ds]; rfl
theorem lstDs_map : ∀ ds, lstDs ds = ds.map lstD
  | [] => rfl
  | d :: ds => by rw [lstDs, lstDs_map ds]; rfl
/-! no list within -/
mutual
def tonly : PyData → Bool
  | .list _ => false
  | .dict _ => false
  | .tuple ds => tonlys ds
  | _ => true
def tonlys : List PyData → Bool
  | [] => true
  | d :: ds => tonly d && tonlys ds
end
mutual
theorem tup_only : ∀ d, tonly d = true → tupD d = d
  | .none, _ => by simp [tupD]
  | .bool _, _ => by simp [tupD]
  | .int _, _ => by simp [tupD]
  | .str _, _ => by simp [tupD]
  | .list _, h => by simp [tonly] at h
  | .dict _, h => by simp [tonly] at h
  | .tuple ds, h => by
    rw [tupD, tups_only ds (by simpa [tonly] using h)]
theorem tups_only : ∀ ds, tonlys ds = true → tupDs ds = ds
  | [], _ => by simp [tupDs]
  | d :: ds, h => by
    simp [tonlys] at h
    rw [tupDs, tup_only d h.1, tups_only ds h.2]
end
mutual
theorem tup_lst : ∀ d, tonly d = true → tupD (lstD d) = d
  | .none, _ => by simp [tupD, lstD]
  | .bool _, _ => by simp [tupD, lstD]
  | .int _, _ => by simp [tupD, lstD]
  | .str _, _ => by simp [tupD, lstD]
  | .list _, h => by simp [tonly] at h
  | .dict _, h => by simp [tonly] at h
  | .tuple ds, h => by
    rw [lstD, tupD, tups_lst ds (by simpa [tonly] using h)]
theorem tups_lst : ∀ ds, tonlys ds = true → tupDs (lstDs ds) = ds
  | [], _ => by simp [tupDs, lstDs]
  | d :: ds, h => by
    simp [tonlys] at h
    rw [lstDs, tupDs, tup_lst d h.1, tups_lst ds h.2]
end
theorem depLt_lst : ∀ (n : Nat) (d : PyData), depLt n d → depLt n (lstD d)
  | 0, _, h => h.elim
  | n + 1, .none, h => by simp [lstD]; exact h
  | n + 1, .bool _, h => by simp [lstD]; exact h
  | n + 1, .int _, h => by simp [lstD]; exact h
  | n + 1, .str _, h => by simp [lstD]; exact h
  | n + 1, .dict _, h => h.elim
  | n + 1, .list ds, h => by
    rw [lstD, lstDs_map]
    refine ⟨by rw [List.length_map]; exact h.1, fun d hd => ?_⟩
    obtain ⟨x, hx, rfl⟩ := List.mem_map.mp hd
    exact depLt_lst n x (h.2 x hx)
  | n + 1, .tuple ds, h => by
    rw [lstD, lstDs_map]
    refine ⟨by rw [List.length_map]; exact h.1, fun d hd => ?_⟩
    obtain ⟨x, hx, rfl⟩ := List.mem_map.mp hd
    exact depLt_lst n x (h.2 x hx)
theorem tonlys_map {α : Type} {f : α → PyData} : ∀ {l : List α}, (∀ x ∈ l, tonly (f x) = true) → tonlys (l.map f) = true
  | [], _ => rfl
  | x :: l, h => by
    show (tonly (f x) && tonlys (l.map f)) = true
    rw [h x List.mem_cons_self, tonlys_map fun y hy => h y (List.mem_cons_of_mem _ hy)]
    rfl
theorem okf_zero {M : Md} {x : Str} {st : Stmt} {ps : List Str} {k : Nat} {Pre : List PyData → PyData → Prop} (F : DefAt M x st) (hb : BindOk x st ps) (no : ∀ ds d, ¬ Pre ds d) : OkF M x ps k (spP M.K Pre) := by
  obtain ⟨f, fd, h1, h2⟩ := F
  exact ⟨f, fd, h1, h2.kp, h2.bindsN hb, ⟨fun vs H Q E ⟨G, ds, d, p, _⟩ => (no ds d p).elim, fun A outer s H args us vs Q E _ _ _ _ ⟨G, ds, d, p, _⟩ => (no ds d p).elim⟩⟩
theorem OkF.mono {M : Md} {x : Str} {ps : List Str} {j k : Nat} {sp : Sp} (F : OkF M x ps j sp) (h : j ≤ k) : OkF M x ps k sp := by
  obtain ⟨f, fd, h1, h2, h3, h4⟩ := F
  exact ⟨f, fd, h1, h2, h3, h4.mono h⟩
theorem OkF.imp {M : Md} {x : Str} {ps : List Str} {k : Nat} {Pre Pre' : List PyData → PyData → Prop} (F : OkF M x ps k (spP M.K Pre)) (h : ∀ ds d, Pre' ds d → Pre ds d) : OkF M x ps k (spP M.K Pre') := by
  obtain ⟨f, fd, h1, h2, h3, h4⟩ := F
  exact ⟨f, fd, h1, h2, h3, h4.imp fun vs H Q E ⟨G, ds, d, p, r⟩ => ⟨G, ds, d, h ds d p, r⟩⟩
end SC
/-! The mathematics of the sorted places and the stretches put together. -/
namespace SC
theorem stepL_dvd {c d : Nat} (hc : 0 < c) : c ∣ stepL c d ∧ d ∣ stepL c d := by
  unfold stepL
  refine ⟨?_, Nat.dvd_mul_left _ _⟩
  obtain ⟨m, hm⟩ := Nat.gcd_dvd_right c d
  obtain ⟨k, hk⟩ := Nat.gcd_dvd_left c d
  have hg : 0 < Nat.gcd c d := Nat.gcd_pos_of_pos_left _ hc
  have e : c / Nat.gcd c d = k := Nat.div_eq_of_eq_mul_right hg hk
  rw [e]
  generalize Nat.gcd c d = g at *
  refine ⟨m, ?_⟩
  rw [hk, hm, Nat.mul_comm g k, Nat.mul_assoc]
theorem stepL_pos {c d : Nat} (hc : 0 < c) (hd : 0 < d) : 0 < stepL c d := by
  unfold stepL
  refine Nat.mul_pos (Nat.div_pos (Nat.gcd_le_left d hc) (Nat.gcd_pos_of_pos_left _ hc)) hd
theorem stepL_le {c d : Nat} : stepL c d ≤ c * d := Nat.mul_le_mul_right _ (Nat.div_le_self _ _)
def lcmF (c : Nat) (qs : List Rat) : Nat := qs.foldl (fun c q => stepL c q.den) c
theorem lcmF_pos : ∀ (qs : List Rat) {c : Nat}, 0 < c → 0 < lcmF c qs
  | [], c, h => h
  | q :: qs, c, h => lcmF_pos qs (stepL_pos h q.den_pos)
theorem lcmF_dvd : ∀ (qs : List Rat) {c : Nat}, 0 < c → c ∣ lcmF c qs ∧ ∀ q ∈ qs, q.den ∣ lcmF c qs
  | [], c, h => ⟨Nat.dvd_refl _, fun _ h => nomatch h⟩
  | q :: qs, c, h => by
    have h2 := lcmF_dvd qs (stepL_pos h q.den_pos)
    have h3 := stepL_dvd (d := q.den) h
    refine ⟨Nat.dvd_trans h3.1 h2.1, fun p hp => ?_⟩
    rcases List.mem_cons.mp hp with rfl | hp
    · exact Nat.dvd_trans h3.2 h2.1
    · exact h2.2 p hp
theorem lcmF_le : ∀ (qs : List Rat) {c n : Nat}, (∀ q ∈ qs, q.den < 2 ^ n) → lcmF c qs ≤ c * 2 ^ (n * qs.length)
  | [], c, n, _ => by
    show c ≤ c * 2 ^ 0
    omega
  | q :: qs, c, n, h => by
    have h1 := lcmF_le qs (c := stepL c q.den) (n := n) fun p hp => h p (List.mem_cons_of_mem _ hp)
    have h2 : stepL c q.den ≤ c * 2 ^ n := Nat.le_trans stepL_le (Nat.mul_le_mul_left _ (Nat.le_of_lt (h q List.mem_cons_self)))
    refine Nat.le_trans h1 (Nat.le_trans (Nat.mul_le_mul_right _ h2) ?_)
    rw [List.length_cons, Nat.mul_add, Nat.mul_one, Nat.pow_add, Nat.mul_assoc, Nat.mul_comm (2 ^ n)]
    exact Nat.le_refl _
def flatP (ps : List (Rat × Rat)) : List Rat := ps.flatMap fun p => [p.1, p.2]
theorem lcmL_flat : ∀ (ps : List (Rat × Rat)) (c : Nat), ps.foldl (fun c p => stepL (stepL c p.1.den) p.2.den) c = lcmF c (flatP ps)
  | [], _ => rfl
  | p :: ps, c => lcmL_flat ps _
theorem mem_flatP {ps : List (Rat × Rat)} {q : Rat} : q ∈ flatP ps ↔ ∃ p ∈ ps, q = p.1 ∨ q = p.2 := by
  unfold flatP
  simp [List.mem_flatMap]
theorem lcmL_pos (ps : List (Rat × Rat)) : 0 < lcmL ps := by
  unfold lcmL
  rw [lcmL_flat]
  exact lcmF_pos _ (by decide)
theorem lcmL_dvd {ps : List (Rat × Rat)} {p : Rat × Rat} (h : p ∈ ps) : p.1.den ∣ lcmL ps ∧ p.2.den ∣ lcmL ps := by
  unfold lcmL
  rw [lcmL_flat]
  have k := (lcmF_dvd (flatP ps) (c := 1) (by decide)).2
  exact ⟨k _ (mem_flatP.mpr ⟨p, h, .inl rfl⟩), k _ (mem_flatP.mpr ⟨p, h, .inr rfl⟩)⟩
theorem row_one {c : Nat} (hc : 0 < c) {q : Rat} (h : q.den ∣ c) : Rat.divInt (q.num * ((c / q.den : Nat) : Int)) c = q := by
  obtain ⟨k, hk⟩ := h
  have hk0 : k ≠ 0 := by
    rintro rfl
    omega
  have e : c / q.den = k := by
    rw [hk]
    exact Nat.mul_div_cancel_left _ q.den_pos
  rw [e, hk, Int.natCast_mul, Rat.divInt_mul_right (by omega), Rat.num_divInt_den]
theorem unrow_row {ps : List (Rat × Rat)} {p : Rat × Rat} (h : p ∈ ps) : unrow (lcmL ps) (rowL (lcmL ps) p) = p := by
  have d := lcmL_dvd h
  show (Rat.divInt _ _, Rat.divInt _ _) = p
  rw [row_one (lcmL_pos ps) d.1, row_one (lcmL_pos ps) d.2]
theorem mem_placesQ {ps : List (Rat × Rat)} {p : Rat × Rat} : p ∈ placesQ ps ↔ p ∈ ps := by
  unfold placesQ
  constructor
  · intro h
    obtain ⟨k, hk, rfl⟩ := List.mem_map.mp h
    obtain ⟨q, hq, rfl⟩ := List.mem_map.mp (mem_canonI.mp hk)
    rw [unrow_row hq]
    exact hq
  · intro h
    exact List.mem_map.mpr ⟨rowL (lcmL ps) p, mem_canonI.mpr (List.mem_map.mpr ⟨p, h, rfl⟩), unrow_row h⟩
theorem divInt_le {a b c : Int} (hc : 0 < c) (h : a ≤ b) : Rat.divInt a c ≤ Rat.divInt b c := by
  rw [Rat.divInt_eq_div, Rat.divInt_eq_div]
  have h1 : (a : Rat) ≤ (b : Rat) := by exact_mod_cast h
  have h2 : (0 : Rat) < (c : Rat) := by exact_mod_cast hc
  rw [Rat.div_def, Rat.div_def]
  exact Rat.mul_le_mul_of_nonneg_right h1 (Rat.le_of_lt (Rat.inv_pos.mpr h2))
theorem lexle_head {x y : Int} {xs ys : List Int} (h : lexle (x :: xs) (y :: ys) = true) : x ≤ y := by
  unfold lexle at h
  by_cases e : x = y
  · omega
  · rw [if_neg e] at h
    have := of_decide_eq_true h
    omega
theorem placesQ_sorted (ps : List (Rat × Rat)) : (placesQ ps).Pairwise fun p q => p.1 ≤ q.1 := by
  unfold placesQ
  refine List.pairwise_map.mpr (List.Pairwise.imp_of_mem (fun {a b} ha hb h => ?_) (canonI_pair _))
  obtain ⟨p, hp, rfl⟩ := List.mem_map.mp (mem_canonI.mp ha)
  obtain ⟨q, hq, rfl⟩ := List.mem_map.mp (mem_canonI.mp hb)
  have hc := lcmL_pos ps
  exact divInt_le (show (0 : Int) < ((lcmL ps : Nat) : Int) by omega) (lexle_head h)
theorem placesQ_len (ps : List (Rat × Rat)) : (placesQ ps).length ≤ ps.length := by
  unfold placesQ
  rw [List.length_map]
  have := canonI_len (ps.map (rowL (lcmL ps)))
  rw [List.length_map] at this
  exact this
/-! ### put together -/
theorem snoc_last {α : Type} (l : List α) (x : α) : (l ++ [x])[(l ++ [x]).length - 1]? = some x := by simp
theorem snoc_set {α : Type} (l : List α) (x y : α) : (l ++ [x]).set ((l ++ [x]).length - 1) y = l ++ [y] := by simp
theorem mstep_nil (p : Rat × Rat) : mstep [] p = [p] := rfl
theorem mstep_snoc (l : List (Rat × Rat)) (q p : Rat × Rat) : mstep (l ++ [q]) p = if p.1 ≤ q.2 then l ++ [(q.1, if q.2 ≤ p.2 then p.2 else q.2)] else l ++ [q] ++ [p] := by
  unfold mstep
  rw [snoc_last]
  simp only [snoc_set]
def Cov (l : List (Rat × Rat)) (x : Rat) : Prop := ∃ w ∈ l, w.1 ≤ x ∧ x ≤ w.2
structure MOkL (ps found : List (Rat × Rat)) : Prop where
  le : ∀ w ∈ found, w.1 ≤ w.2
  cov : ∀ x, Cov found x ↔ Cov ps x
  sep : found.Pairwise fun v w => v.2 < w.1
  st : ∀ w ∈ found, ∃ p ∈ ps, w.1 = p.1
  sz : ∀ n, (∀ p ∈ ps, Sz n p.1 ∧ Sz n p.2) → ∀ w ∈ found, Sz n w.1 ∧ Sz n w.2
  len : found.length ≤ ps.length
theorem cov_app {l m : List (Rat × Rat)} {x : Rat} : Cov (l ++ m) x ↔ Cov l x ∨ Cov m x := by
  unfold Cov
  constructor
  · rintro ⟨w, hw, h⟩
    rcases List.mem_append.mp hw with z | z
    · exact .inl ⟨w, z, h⟩
    · exact .inr ⟨w, z, h⟩
  · rintro (⟨w, hw, h⟩ | ⟨w, hw, h⟩)
    · exact ⟨w, List.mem_append_left _ hw, h⟩
    · exact ⟨w, List.mem_append_right _ hw, h⟩
theorem cov_one {p : Rat × Rat} {x : Rat} : Cov [p] x ↔ p.1 ≤ x ∧ x ≤ p.2 := by
  unfold Cov
  simp
theorem MOkL.step {ps found : List (Rat × Rat)} {p : Rat × Rat} (h : MOkL ps found) (hp : p.1 ≤ p.2) (hs : ∀ q ∈ ps, q.1 ≤ p.1) : MOkL (ps ++ [p]) (mstep found p) := by
  rcases List.eq_nil_or_concat found with rfl | ⟨l, q, rfl⟩
  · rw [mstep_nil]
    refine ⟨fun w hw => ?_, fun x => ?_, by simp, fun w hw => ?_, fun n hn w hw => ?_, by simp⟩
    · simp at hw
      subst hw
      exact hp
    · rw [cov_app, ← h.cov x]
      constructor
      · exact .inr
      · rintro (z | z)
        · obtain ⟨w, hw, _⟩ := z
          cases hw
        · exact z
    · simp at hw
      subst hw
      exact ⟨w, by simp, rfl⟩
    · simp at hw
      subst hw
      exact hn w (by simp)
  · rw [List.concat_eq_append] at h ⊢
    rw [mstep_snoc]
    have hq := h.le q (by simp)
    obtain ⟨pq, hpq, eq⟩ := h.st q (by simp)
    have hqp : q.1 ≤ p.1 := by
      rw [eq]
      exact hs pq hpq
    have hsep := List.pairwise_append.mp h.sep
    have hlq : ∀ v ∈ l, v.2 < q.1 := fun v hv => hsep.2.2 v hv q (by simp)
    have covl : ∀ x, Cov (ps ++ [p]) x ↔ (Cov l x ∨ (q.1 ≤ x ∧ x ≤ q.2)) ∨ (p.1 ≤ x ∧ x ≤ p.2) := fun x => by
      rw [cov_app, ← h.cov x, cov_app, cov_one, cov_one]
    by_cases e : p.1 ≤ q.2
    · rw [if_pos e]
      refine ⟨fun w hw => ?_, fun x => ?_, ?_, fun w hw => ?_, fun n hn w hw => ?_, by have := h.len; simp at this ⊢; omega⟩
      · rcases List.mem_append.mp hw with hw | hw
        · exact h.le w (List.mem_append_left _ hw)
        · simp at hw
          subst hw
          show q.1 ≤ if q.2 ≤ p.2 then p.2 else q.2
          split <;> grind
      · rw [covl, cov_app, cov_one]
        show (Cov l x ∨ (q.1 ≤ x ∧ x ≤ if q.2 ≤ p.2 then p.2 else q.2)) ↔ _
        split <;> grind
      · refine List.pairwise_append.mpr ⟨hsep.1, by simp, fun v hv w hw => ?_⟩
        simp at hw
        subst hw
        exact hlq v hv
      · rcases List.mem_append.mp hw with hw | hw
        · obtain ⟨r, hr, er⟩ := h.st w (List.mem_append_left _ hw)
          exact ⟨r, List.mem_append_left _ hr, er⟩
        · simp at hw
          subst hw
          exact ⟨pq, List.mem_append_left _ hpq, eq⟩
      · have hz := h.sz n fun r hr => hn r (List.mem_append_left _ hr)
        rcases List.mem_append.mp hw with hw | hw
        · exact hz w (List.mem_append_left _ hw)
        · simp at hw
          subst hw
          have z1 := hz q (by simp)
          have z2 := hn p (by simp)
          refine ⟨z1.1, ?_⟩
          show Sz n (if q.2 ≤ p.2 then p.2 else q.2)
          split
          · exact z2.2
          · exact z1.2
    · rw [if_neg e]
      refine ⟨fun w hw => ?_, fun x => ?_, ?_, fun w hw => ?_, fun n hn w hw => ?_, by have := h.len; simp at this ⊢; omega⟩
      · rcases List.mem_append.mp hw with hw | hw
        · exact h.le w hw
        · simp at hw
          subst hw
          exact hp
      · rw [covl, cov_app, cov_app, cov_one, cov_one]
      · refine List.pairwise_append.mpr ⟨h.sep, by simp, fun v hv w hw => ?_⟩
        simp at hw
        subst hw
        rcases List.mem_append.mp hv with hv | hv
        · have := hlq v hv
          grind
        · simp at hv
          subst hv
          grind
      · rcases List.mem_append.mp hw with hw | hw
        · obtain ⟨r, hr, er⟩ := h.st w hw
          exact ⟨r, List.mem_append_left _ hr, er⟩
        · simp at hw
          subst hw
          exact ⟨w, by simp, rfl⟩
      · rcases List.mem_append.mp hw with hw | hw
        · exact h.sz n (fun r hr => hn r (List.mem_append_left _ hr)) w hw
        · simp at hw
          subst hw
          exact hn w (by simp)
theorem mergeOk : ∀ (qs ps found : List (Rat × Rat)), MOkL ps found → (∀ p ∈ qs, p.1 ≤ p.2) → (ps ++ qs).Pairwise (fun p q => p.1 ≤ q.1) → MOkL (ps ++ qs) (qs.foldl mstep found)
  | [], ps, found, h, _, _ => by simpa using h
  | p :: qs, ps, found, h, hl, hp => by
    have h1 := h.step (p := p) (hl p List.mem_cons_self) fun q hq => (List.pairwise_append.mp hp).2.2 q hq p List.mem_cons_self
    have e : ps ++ p :: qs = (ps ++ [p]) ++ qs := by simp
    rw [e] at hp ⊢
    exact mergeOk qs (ps ++ [p]) (mstep found p) h1 (fun q hq => hl q (List.mem_cons_of_mem _ hq)) hp
theorem mergeQ_ok {ps : List (Rat × Rat)} (hl : ∀ p ∈ ps, p.1 ≤ p.2) (hp : ps.Pairwise fun p q => p.1 ≤ q.1) : MOkL ps (mergeQ ps) := by
  have h := mergeOk ps [] [] ⟨fun _ h => (nomatch h), fun _ => Iff.rfl, .nil, fun _ h => (nomatch h), fun _ _ _ h => (nomatch h), Nat.le_refl _⟩ hl (by simpa using hp)
  simpa [mergeQ] using h
/-! ### a stretch -/
structure IsComp (On : Rat → Prop) (p : Rat) (w : Rat × Rat) : Prop where
  l : w.1 ≤ p
  r : p ≤ w.2
  on : ∀ x, w.1 ≤ x → x ≤ w.2 → On x
  lm : ∀ y, y < w.1 → ∃ x, y ≤ x ∧ x < w.1 ∧ ¬ On x
  rm : ∀ y, w.2 < y → ∃ x, w.2 < x ∧ x ≤ y ∧ ¬ On x
theorem IsComp.uniq {On : Rat → Prop} {p : Rat} {v w : Rat × Rat} (a : IsComp On p v) (b : IsComp On p w) : v = w := by
  have e1 : v.1 = w.1 := by
    rcases Rat.le_total (a := v.1) (b := w.1) with h | h
    · by_cases q : v.1 < w.1
      · obtain ⟨x, h1, h2, h3⟩ := b.lm v.1 q
        exact absurd (a.on x h1 (by have := b.l; have := a.r; grind)) h3
      · grind
    · by_cases q : w.1 < v.1
      · obtain ⟨x, h1, h2, h3⟩ := a.lm w.1 q
        exact absurd (b.on x h1 (by have := a.l; have := b.r; grind)) h3
      · grind
  have e2 : v.2 = w.2 := by
    rcases Rat.le_total (a := v.2) (b := w.2) with h | h
    · by_cases q : v.2 < w.2
      · obtain ⟨x, h1, h2, h3⟩ := a.rm w.2 q
        exact absurd (b.on x (by have := a.r; have := b.l; grind) h2) h3
      · grind
    · by_cases q : w.2 < v.2
      · obtain ⟨x, h1, h2, h3⟩ := b.rm v.2 q
        exact absurd (a.on x (by have := b.r; have := a.l; grind) h2) h3
      · grind
  exact Prod.ext e1 e2
theorem IsComp.congr {On On' : Rat → Prop} {p : Rat} {w : Rat × Rat} (h : ∀ x, On x ↔ On' x) (a : IsComp On p w) : IsComp On' p w :=
  ⟨a.l, a.r, fun x h1 h2 => (h x).mp (a.on x h1 h2), fun y hy => let ⟨x, h1, h2, h3⟩ := a.lm y hy; ⟨x, h1, h2, fun z => h3 ((h x).mpr z)⟩, fun y hy => let ⟨x, h1, h2, h3⟩ := a.rm y hy; ⟨x, h1, h2, fun z => h3 ((h x).mpr z)⟩⟩
theorem gap_below : ∀ (l : List Rat) {y b : Rat}, y < b → (∀ a ∈ l, a < b) → ∃ x, y ≤ x ∧ x < b ∧ ∀ a ∈ l, a < x
  | [], y, b, h, _ => ⟨y, Rat.le_refl, h, fun _ h => nomatch h⟩
  | a :: l, y, b, h, hl => by
    obtain ⟨x, h1, h2, h3⟩ := gap_below l h fun c hc => hl c (List.mem_cons_of_mem _ hc)
    have ha := hl a List.mem_cons_self
    by_cases q : a < x
    · refine ⟨x, h1, h2, fun c hc => ?_⟩
      rcases List.mem_cons.mp hc with rfl | hc
      · exact q
      · exact h3 c hc
    · refine ⟨(a + b) / 2, by grind, by grind, fun c hc => ?_⟩
      rcases List.mem_cons.mp hc with rfl | hc
      · grind
      · have := h3 c hc
        grind
theorem gap_above : ∀ (l : List Rat) {y b : Rat}, b < y → (∀ a ∈ l, b < a) → ∃ x, b < x ∧ x ≤ y ∧ ∀ a ∈ l, x < a
  | [], y, b, h, _ => ⟨y, h, Rat.le_refl, fun _ h => nomatch h⟩
  | a :: l, y, b, h, hl => by
    obtain ⟨x, h1, h2, h3⟩ := gap_above l h fun c hc => hl c (List.mem_cons_of_mem _ hc)
    have ha := hl a List.mem_cons_self
    by_cases q : x < a
    · refine ⟨x, h1, h2, fun c hc => ?_⟩
      rcases List.mem_cons.mp hc with rfl | hc
      · exact q
      · exact h3 c hc
    · refine ⟨(a + b) / 2, by grind, by grind, fun c hc => ?_⟩
      rcases List.mem_cons.mp hc with rfl | hc
      · grind
      · have := h3 c hc
        grind
theorem pair_split {α : Type} {R : α → α → Prop} {l : List α} (h : l.Pairwise R) {w : α} (hw : w ∈ l) : ∃ a b, l = a ++ w :: b ∧ (∀ v ∈ a, R v w) ∧ ∀ v ∈ b, R w v := by
  obtain ⟨a, b, rfl⟩ := List.append_of_mem hw
  have k := List.pairwise_append.mp h
  exact ⟨a, b, rfl, fun v hv => k.2.2 v hv w List.mem_cons_self, fun v hv => (List.pairwise_cons.mp k.2.1).1 v hv⟩
/-- one of some stretches that lie apart -/
theorem comp_of {F : List (Rat × Rat)} (le : ∀ w ∈ F, w.1 ≤ w.2) (sep : F.Pairwise fun v w => v.2 < w.1) {w : Rat × Rat} (hw : w ∈ F) {p : Rat} (h1 : w.1 ≤ p) (h2 : p ≤ w.2) : IsComp (Cov F) p w := by
  obtain ⟨a, b, rfl, ha, hb⟩ := pair_split sep hw
  refine ⟨h1, h2, fun x x1 x2 => ⟨w, hw, x1, x2⟩, fun y hy => ?_, fun y hy => ?_⟩
  · obtain ⟨x, x1, x2, x3⟩ := gap_below (a.map (·.2)) hy fun c hc => by
      obtain ⟨v, hv, rfl⟩ := List.mem_map.mp hc
      exact ha v hv
    refine ⟨x, x1, x2, fun ⟨v, hv, v1, v2⟩ => ?_⟩
    rcases List.mem_append.mp hv with z | z
    · have := x3 v.2 (List.mem_map.mpr ⟨v, z, rfl⟩)
      grind
    · rcases List.mem_cons.mp z with rfl | z
      · grind
      · have := hb v z
        have := le w hw
        grind
  · obtain ⟨x, x1, x2, x3⟩ := gap_above (b.map (·.1)) hy fun c hc => by
      obtain ⟨v, hv, rfl⟩ := List.mem_map.mp hc
      exact hb v hv
    refine ⟨x, x1, x2, fun ⟨v, hv, v1, v2⟩ => ?_⟩
    rcases List.mem_append.mp hv with z | z
    · have := ha v z
      have := le w hw
      grind
    · rcases List.mem_cons.mp z with rfl | z
      · grind
      · have := x3 v.1 (List.mem_map.mpr ⟨v, z, rfl⟩)
        grind
/-! ### a tooth -/
def OnL (b : Bar) (l : Line) (h : Int) (x : Rat) : Prop := ∃ g ∈ b.gs, g.line = l ∧ h ≤ g.dep ∧ g.s ≤ x ∧ x ≤ g.e
theorem fitG_iff {lead ph : Rat} {h : Int} {g : Groove} : fitG lead ph h g = true ↔ g.line = .lead lead ph ∧ h ≤ g.dep := by
  unfold fitG
  simp
theorem fit_mem {b : Bar} {lead ph : Rat} {h : Int} {p : Rat × Rat} : p ∈ (b.gs.filter (fitG lead ph h)).map (fun g => (g.s, g.e)) ↔ ∃ g ∈ b.gs, g.line = .lead lead ph ∧ h ≤ g.dep ∧ p = (g.s, g.e) := by
  constructor
  · intro m
    obtain ⟨g, hg, rfl⟩ := List.mem_map.mp m
    obtain ⟨h1, h2⟩ := List.mem_filter.mp hg
    obtain ⟨h3, h4⟩ := fitG_iff.mp h2
    exact ⟨g, h1, h3, h4, rfl⟩
  · rintro ⟨g, h1, h3, h4, rfl⟩
    exact List.mem_map.mpr ⟨g, List.mem_filter.mpr ⟨h1, fitG_iff.mpr ⟨h3, h4⟩⟩, rfl⟩
theorem waysQ_ok {b : Bar} (hb : BOk b) (lead ph : Rat) (h : Int) : MOkL (placesQ ((b.gs.filter (fitG lead ph h)).map fun g => (g.s, g.e))) (waysQ b lead ph h) := by
  refine mergeQ_ok (fun p hp => ?_) (placesQ_sorted _)
  obtain ⟨g, hg, _, _, rfl⟩ := fit_mem.mp (mem_placesQ.mp hp)
  exact (hb.all g hg).se
theorem waysQ_cov {b : Bar} (hb : BOk b) (lead ph : Rat) (h : Int) (x : Rat) : Cov (waysQ b lead ph h) x ↔ OnL b (.lead lead ph) h x := by
  rw [(waysQ_ok hb lead ph h).cov x]
  constructor
  · rintro ⟨p, hp, h1, h2⟩
    obtain ⟨g, hg, a, c, rfl⟩ := fit_mem.mp (mem_placesQ.mp hp)
    exact ⟨g, hg, a, c, h1, h2⟩
  · rintro ⟨g, hg, a, c, h1, h2⟩
    exact ⟨(g.s, g.e), mem_placesQ.mpr (fit_mem.mpr ⟨g, hg, a, c, rfl⟩), h1, h2⟩
theorem inW_iff {p : Rat} {w : Rat × Rat} : inW p w = true ↔ w.1 ≤ p ∧ p ≤ w.2 := by
  unfold inW
  simp
theorem wayQ_some {b : Bar} (hb : BOk b) {lead ph : Rat} {h : Int} {p : Rat} {w : Rat × Rat} (e : wayQ b lead ph h p = some w) : IsComp (OnL b (.lead lead ph) h) p w := by
  have k := waysQ_ok hb lead ph h
  have h1 := List.find?_some e
  have h2 := List.mem_of_find?_eq_some e
  obtain ⟨a, c⟩ := inW_iff.mp h1
  exact (comp_of k.le k.sep h2 a c).congr (waysQ_cov hb lead ph h)
theorem wayQ_none {b : Bar} (hb : BOk b) {lead ph : Rat} {h : Int} {p : Rat} : wayQ b lead ph h p = none ↔ ¬ OnL b (.lead lead ph) h p := by
  rw [← waysQ_cov hb]
  unfold wayQ
  rw [List.find?_eq_none]
  constructor
  · rintro h ⟨w, hw, a, c⟩
    exact h w hw (inW_iff.mpr ⟨a, c⟩)
  · intro h w hw z
    obtain ⟨a, c⟩ := inW_iff.mp z
    exact h ⟨w, hw, a, c⟩
theorem waysQ_sz {b : Bar} (hb : BOk b) {lead ph : Rat} {h : Int} : ∀ w ∈ waysQ b lead ph h, Sz 40 w.1 ∧ Sz 40 w.2 := (waysQ_ok hb lead ph h).sz 40 fun p hp => by
  obtain ⟨g, hg, _, _, rfl⟩ := fit_mem.mp (mem_placesQ.mp hp)
  exact ⟨(hb.all g hg).zs, (hb.all g hg).ze⟩
theorem waysQ_len {b : Bar} (hb : BOk b) {lead ph : Rat} {h : Int} : (waysQ b lead ph h).length ≤ 16 := by
  have h1 := (waysQ_ok hb lead ph h).len
  have h2 := placesQ_len ((b.gs.filter (fitG lead ph h)).map fun g => (g.s, g.e))
  rw [List.length_map] at h2
  have h3 := List.length_filter_le (fitG lead ph h) b.gs
  have := hb.few
  omega
theorem wayQ_sz {b : Bar} (hb : BOk b) {lead ph : Rat} {h : Int} {p : Rat} {w : Rat × Rat} (e : wayQ b lead ph h p = some w) : Sz 40 w.1 ∧ Sz 40 w.2 := waysQ_sz hb w (List.mem_of_find?_eq_some e)
end SC
namespace SC
open PySem PySem.Spec PyProof.Rows L2
theorem mul_nd {a b : Rat} (ha : Sz 1900 a) (hb : Sz 1900 b) : CMulW a.num (b.den : Int) := wide_mul (a := 1900) (b := 1900) ha.1 (by rw [Int.natAbs_natCast]; exact hb.2) (by decide) (by decide) (by decide)
theorem mul_dn {a b : Rat} (ha : Sz 1900 a) (hb : Sz 1900 b) : CMulW (a.den : Int) b.num := wide_mul (a := 1900) (b := 1900) (by rw [Int.natAbs_natCast]; exact ha.2) hb.1 (by decide) (by decide) (by decide)
theorem mul_nn {a b : Rat} (ha : Sz 1900 a) (hb : Sz 1900 b) : CMulW a.num b.num := wide_mul (a := 1900) (b := 1900) ha.1 hb.1 (by decide) (by decide) (by decide)
theorem mul_dd {a b : Rat} (ha : Sz 1900 a) (hb : Sz 1900 b) : CMulW (a.den : Int) (b.den : Int) := wide_mul (a := 1900) (b := 1900) (by rw [Int.natAbs_natCast]; exact ha.2) (by rw [Int.natAbs_natCast]; exact hb.2) (by decide) (by decide) (by decide)
theorem lt_8000 {x y : Int} (hx : x.natAbs < 2 ^ 1900) (hy : y.natAbs < 2 ^ 1900) : (x * y).natAbs < 2 ^ 8000 := by
  rw [Int.natAbs_mul]
  exact Nat.lt_of_lt_of_le (two_mul_lt hx hy) (Nat.pow_le_pow_right (by decide) (by decide))
theorem dd_8000 {a b : Rat} (ha : Sz 1900 a) (hb : Sz 1900 b) : ((a.den : Int) * (b.den : Int)).natAbs < 2 ^ 8000 := lt_8000 (by rw [Int.natAbs_natCast]; exact ha.2) (by rw [Int.natAbs_natCast]; exact hb.2)
theorem dn_8000 {a b : Rat} (ha : Sz 1900 a) (hb : Sz 1900 b) : ((a.den : Int) * b.num).natAbs < 2 ^ 8000 := lt_8000 (by rw [Int.natAbs_natCast]; exact ha.2) hb.1
theorem d_8000 {a : Rat} (ha : Sz 1900 a) : (a.den : Int).natAbs < 2 ^ 8000 := by
  rw [Int.natAbs_natCast]
  exact Nat.lt_of_lt_of_le ha.2 (Nat.pow_le_pow_right (by decide) (by decide))
theorem dd_ne (a b : Rat) : (a.den : Int) * (b.den : Int) ≠ 0 := Int.mul_ne_zero (den_int_ne a) (den_int_ne b)
theorem dn_ne (a : Rat) {b : Rat} (h : b ≠ 0) : (a.den : Int) * b.num ≠ 0 := Int.mul_ne_zero (den_int_ne a) (num_ne h)
theorem q_minus (a : Rat) : dQ (-a) = .tuple [.int (-a.num), .int (a.den : Int)] := by
  unfold dQ
  rw [Rat.neg_num, Rat.neg_den]
theorem q_size (a : Rat) : dQ (absQ a) = .tuple [.int (a.num.natAbs : Int), .int (a.den : Int)] := by
  unfold dQ
  rw [absQ_num, absQ_den]
theorem q_frac (a : Rat) : dQ (fracQ a) = .tuple [.int (a.num % (a.den : Int)), .int (a.den : Int)] := by
  unfold dQ
  rw [(fracQ_eq a).1, (fracQ_eq a).2]
theorem le_dec (a b : Rat) : decide (a.num * (b.den : Int) ≤ b.num * (a.den : Int)) = decide (a ≤ b) := decide_eq_decide.mpr (Rat.le_iff a b).symm
theorem lt_dec (a b : Rat) : decide (a.num * (b.den : Int) < b.num * (a.den : Int)) = decide (a < b) := decide_eq_decide.mpr (Rat.lt_iff a b).symm
theorem den_pos_int (a : Rat) : (0 : Int) < (a.den : Int) := by
  have := a.den_pos
  omega
theorem fdiv_floor (a : Rat) : a.num.fdiv (a.den : Int) = a.floor := by
  rw [Rat.floor_def, Int.fdiv_eq_ediv_of_nonneg _ (Int.le_of_lt (den_pos_int a))]
theorem div_den {a : Rat} (ha : Sz 1900 a) : CDivX a.num (a.den : Int) := divx (b := 1900) (den_int_ne a) (by rw [Int.natAbs_natCast]; exact ha.2) (by decide) (by decide)
theorem q_whole (n : Int) : dQ (n : Rat) = .tuple [.int n, .int 1] := by
  unfold dQ
  rw [Rat.num_intCast, Rat.den_intCast]
  rfl
def Two (f : Rat → Rat → Rat) (ds : List PyData) (d : PyData) : Prop := ∃ a b, ds = [dQ a, dQ b] ∧ Sz 1900 a ∧ Sz 1900 b ∧ d = dQ (f a b)
/-! part_plus -/
abbrev s_part_plus : Stmt := topS 8
abbrev n_part_plus : List Str := ["one", "other"]
theorem sc_part_plus : FnScope n_part_plus ["one", "other"] (defScope s_part_plus) := ⟨rfl, rfl, rfl, by decide +kernel, rfl, by decide +kernel, by decide +kernel⟩
def Pre_part_plus (ds : List PyData) (d : PyData) : Prop := ∃ a b, ds = [dQ a, dQ b] ∧ Sz 1900 a ∧ Sz 1900 b ∧ d = dQ (a + b)
theorem ok_part_plus {M : Md} (bi : Bi M.mg) (F : DefAt M "part_plus" s_part_plus) (F_part_of : OkF M "part_of" ["top", "bottom"] 1 (spP M.K Pre_part)) : OkF M "part_plus" ["one", "other"] 2 (spP M.K Pre_part_plus) := by
  refine okf_pure F sc_part_plus (fun _ _ _ _ _ _ us hl => match us, hl with | [_, _], _ => rfl) (fun ds d h => by obtain ⟨a, b, rfl, ha, hb, rfl⟩ := h; rfl) fun f cdv A outer s H E hr =>
    ⟨_, (pss_one (ps_ret (pe_fn F_part_of (hr.mono (by decide)) (pa_cons (pe_op op_add (pe_op op_mulW (pe_ix (kixT M.K) (pv 0) pe_int (fun _ _ => rfl)) (pe_ix (kixT M.K) (pv 1) pe_int (fun _ _ => rfl))) (pe_op op_mulW (pe_ix (kixT M.K) (pv 1) pe_int (fun _ _ => rfl)) (pe_ix (kixT M.K) (pv 0) pe_int (fun _ _ => rfl)))) (pa_cons (pe_op op_mulW (pe_ix (kixT M.K) (pv 0) pe_int (fun _ _ => rfl)) (pe_ix (kixT M.K) (pv 1) pe_int (fun _ _ => rfl))) pa_nil))))), fun ds d h => ?_⟩
  obtain ⟨a, b, rfl, ha, hb, rfl⟩ := h
  exact ds_retD (de_call (da_cons (de_op (de_op (de_num (de_var rfl)) (de_den (de_var rfl)) (rd_I (mul_nd ha hb))) (de_op (de_num (de_var rfl)) (de_den (de_var rfl)) (rd_I (mul_nd hb ha))) rd_I0) (da_cons (de_op (de_den (de_var rfl)) (de_den (de_var rfl)) (rd_I (mul_dd ha hb))) da_nil))
    ⟨_, _, rfl, dd_ne a b, dd_8000 ha hb, by rw [q_add]⟩) rfl
/-! part_minus -/
abbrev s_part_minus : Stmt := topS 9
abbrev n_part_minus : List Str := ["one"]
theorem sc_part_minus : FnScope n_part_minus ["one"] (defScope s_part_minus) := ⟨rfl, rfl, rfl, by decide +kernel, rfl, by decide +kernel, by decide +kernel⟩
def Pre_part_minus (ds : List PyData) (d : PyData) : Prop := ∃ a, ds = [dQ a] ∧ d = dQ (-a)
theorem ok_part_minus {M : Md} (bi : Bi M.mg) (F : DefAt M "part_minus" s_part_minus)  : OkF M "part_minus" ["one"] 1 (spP M.K Pre_part_minus) := by
  refine okf_pure F sc_part_minus (fun _ _ _ _ _ _ us hl => match us, hl with | [_], _ => rfl) (fun ds d h => by obtain ⟨a, rfl, rfl⟩ := h; rfl) fun f cdv A outer s H E hr =>
    ⟨_, (pss_one (ps_ret (pe_tup (pa_cons (pe_un un_neg (pe_ix (kixT M.K) (pv 0) pe_int (fun _ _ => rfl))) (pa_cons (pe_ix (kixT M.K) (pv 0) pe_int (fun _ _ => rfl)) pa_nil))))), fun ds d h => ?_⟩
  obtain ⟨a, rfl, rfl⟩ := h
  rw [q_minus]
  exact ds_retD (de_tup (da_cons (de_un (de_num (de_var rfl)) ru_int) (da_cons (de_den (de_var rfl)) da_nil))) rfl
/-! part_less -/
abbrev s_part_less : Stmt := topS 10
abbrev n_part_less : List Str := ["one", "other"]
theorem sc_part_less : FnScope n_part_less ["one", "other"] (defScope s_part_less) := ⟨rfl, rfl, rfl, by decide +kernel, rfl, by decide +kernel, by decide +kernel⟩
def Pre_part_less (ds : List PyData) (d : PyData) : Prop := ∃ a b, ds = [dQ a, dQ b] ∧ Sz 1900 a ∧ Sz 1900 b ∧ d = dQ (a - b)
theorem ok_part_less {M : Md} (bi : Bi M.mg) (F : DefAt M "part_less" s_part_less) (F_part_plus : OkF M "part_plus" ["one", "other"] 2 (spP M.K Pre_part_plus)) (F_part_minus : OkF M "part_minus" ["one"] 1 (spP M.K Pre_part_minus)) : OkF M "part_less" ["one", "other"] 3 (spP M.K Pre_part_less) := by
  refine okf_pure F sc_part_less (fun _ _ _ _ _ _ us hl => match us, hl with | [_, _], _ => rfl) (fun ds d h => by obtain ⟨a, b, rfl, ha, hb, rfl⟩ := h; rfl) fun f cdv A outer s H E hr =>
    ⟨_, (pss_one (ps_ret (pe_fn F_part_plus (hr.mono (by decide)) (pa_cons (pv 0) (pa_cons (pe_fn F_part_minus (hr.mono (by decide)) (pa_cons (pv 1) pa_nil)) pa_nil))))), fun ds d h => ?_⟩
  obtain ⟨a, b, rfl, ha, hb, rfl⟩ := h
  exact ds_retD (de_call (da_cons (de_var rfl) (da_cons (de_call (da_cons (de_var rfl) da_nil) ⟨b, rfl, rfl⟩) da_nil)) ⟨a, -b, rfl, ha, hb.neg, by rw [Rat.sub_eq_add_neg]⟩) rfl
/-! part_times -/
abbrev s_part_times : Stmt := topS 11
abbrev n_part_times : List Str := ["one", "other"]
theorem sc_part_times : FnScope n_part_times ["one", "other"] (defScope s_part_times) := ⟨rfl, rfl, rfl, by decide +kernel, rfl, by decide +kernel, by decide +kernel⟩
def Pre_part_times (ds : List PyData) (d : PyData) : Prop := ∃ a b, ds = [dQ a, dQ b] ∧ Sz 1900 a ∧ Sz 1900 b ∧ d = dQ (a * b)
theorem ok_part_times {M : Md} (bi : Bi M.mg) (F : DefAt M "part_times" s_part_times) (F_part_of : OkF M "part_of" ["top", "bottom"] 1 (spP M.K Pre_part)) : OkF M "part_times" ["one", "other"] 2 (spP M.K Pre_part_times) := by
  refine okf_pure F sc_part_times (fun _ _ _ _ _ _ us hl => match us, hl with | [_, _], _ => rfl) (fun ds d h => by obtain ⟨a, b, rfl, ha, hb, rfl⟩ := h; rfl) fun f cdv A outer s H E hr =>
    ⟨_, (pss_one (ps_ret (pe_fn F_part_of (hr.mono (by decide)) (pa_cons (pe_op op_mulW (pe_ix (kixT M.K) (pv 0) pe_int (fun _ _ => rfl)) (pe_ix (kixT M.K) (pv 1) pe_int (fun _ _ => rfl))) (pa_cons (pe_op op_mulW (pe_ix (kixT M.K) (pv 0) pe_int (fun _ _ => rfl)) (pe_ix (kixT M.K) (pv 1) pe_int (fun _ _ => rfl))) pa_nil))))), fun ds d h => ?_⟩
  obtain ⟨a, b, rfl, ha, hb, rfl⟩ := h
  exact ds_retD (de_call (da_cons (de_op (de_num (de_var rfl)) (de_num (de_var rfl)) (rd_I (mul_nn ha hb))) (da_cons (de_op (de_den (de_var rfl)) (de_den (de_var rfl)) (rd_I (mul_dd ha hb))) da_nil)) ⟨_, _, rfl, dd_ne a b, dd_8000 ha hb, by rw [q_mul]⟩) rfl
/-! part_over -/
abbrev s_part_over : Stmt := topS 12
abbrev n_part_over : List Str := ["one", "other"]
theorem sc_part_over : FnScope n_part_over ["one", "other"] (defScope s_part_over) := ⟨rfl, rfl, rfl, by decide +kernel, rfl, by decide +kernel, by decide +kernel⟩
def Pre_part_over (ds : List PyData) (d : PyData) : Prop := ∃ a b, ds = [dQ a, dQ b] ∧ Sz 1900 a ∧ Sz 1900 b ∧ b ≠ 0 ∧ d = dQ (a / b)
theorem ok_part_over {M : Md} (bi : Bi M.mg) (F : DefAt M "part_over" s_part_over) (F_part_of : OkF M "part_of" ["top", "bottom"] 1 (spP M.K Pre_part)) : OkF M "part_over" ["one", "other"] 2 (spP M.K Pre_part_over) := by
  refine okf_pure F sc_part_over (fun _ _ _ _ _ _ us hl => match us, hl with | [_, _], _ => rfl) (fun ds d h => by obtain ⟨a, b, rfl, ha, hb, h0, rfl⟩ := h; rfl) fun f cdv A outer s H E hr =>
    ⟨_, (pss_one (ps_ret (pe_fn F_part_of (hr.mono (by decide)) (pa_cons (pe_op op_mulW (pe_ix (kixT M.K) (pv 0) pe_int (fun _ _ => rfl)) (pe_ix (kixT M.K) (pv 1) pe_int (fun _ _ => rfl))) (pa_cons (pe_op op_mulW (pe_ix (kixT M.K) (pv 0) pe_int (fun _ _ => rfl)) (pe_ix (kixT M.K) (pv 1) pe_int (fun _ _ => rfl))) pa_nil))))), fun ds d h => ?_⟩
  obtain ⟨a, b, rfl, ha, hb, h0, rfl⟩ := h
  exact ds_retD (de_call (da_cons (de_op (de_num (de_var rfl)) (de_den (de_var rfl)) (rd_I (mul_nd ha hb))) (da_cons (de_op (de_den (de_var rfl)) (de_num (de_var rfl)) (rd_I (mul_dn ha hb))) da_nil)) ⟨_, _, rfl, dn_ne a h0, dn_8000 ha hb, by rw [q_div]⟩) rfl
/-! part_size -/
abbrev s_part_size : Stmt := topS 13
abbrev n_part_size : List Str := ["one"]
theorem sc_part_size : FnScope n_part_size ["one"] (defScope s_part_size) := ⟨rfl, rfl, rfl, by decide +kernel, rfl, by decide +kernel, by decide +kernel⟩
def Pre_part_size (ds : List PyData) (d : PyData) : Prop := ∃ a, ds = [dQ a] ∧ d = dQ (absQ a)
theorem ok_part_size {M : Md} (bi : Bi M.mg) (F : DefAt M "part_size" s_part_size)  : OkF M "part_size" ["one"] 1 (spP M.K Pre_part_size) := by
  refine okf_pure F sc_part_size (fun _ _ _ _ _ _ us hl => match us, hl with | [_], _ => rfl) (fun ds d h => by obtain ⟨a, rfl, rfl⟩ := h; rfl) fun f cdv A outer s H E hr =>
    ⟨_, (pss_one (ps_ret (pe_tup (pa_cons (pe_callB call_abs (by rfl) bi.abs (by decide +kernel) (pa_cons (pe_ix (kixT M.K) (pv 0) pe_int (fun _ _ => rfl)) pa_nil)) (pa_cons (pe_ix (kixT M.K) (pv 0) pe_int (fun _ _ => rfl)) pa_nil))))), fun ds d h => ?_⟩
  obtain ⟨a, rfl, rfl⟩ := h
  rw [q_size]
  exact ds_retD (de_tup (da_cons (de_cb (da_cons (de_num (de_var rfl)) da_nil) rc_abs) (da_cons (de_den (de_var rfl)) da_nil))) rfl
/-! at_most -/
abbrev s_at_most : Stmt := topS 14
abbrev n_at_most : List Str := ["one", "other"]
theorem sc_at_most : FnScope n_at_most ["one", "other"] (defScope s_at_most) := ⟨rfl, rfl, rfl, by decide +kernel, rfl, by decide +kernel, by decide +kernel⟩
def Pre_at_most (ds : List PyData) (d : PyData) : Prop := ∃ a b, ds = [dQ a, dQ b] ∧ Sz 1900 a ∧ Sz 1900 b ∧ d = .bool (decide (a ≤ b))
theorem ok_at_most {M : Md} (bi : Bi M.mg) (F : DefAt M "at_most" s_at_most)  : OkF M "at_most" ["one", "other"] 1 (spP M.K Pre_at_most) := by
  refine okf_pure F sc_at_most (fun _ _ _ _ _ _ us hl => match us, hl with | [_, _], _ => rfl) (fun ds d h => by obtain ⟨a, b, rfl, ha, hb, rfl⟩ := h; rfl) fun f cdv A outer s H E hr =>
    ⟨_, (pss_one (ps_ret (pe_cmpR op_le (pe_op op_mulW (pe_ix (kixT M.K) (pv 0) pe_int (fun _ _ => rfl)) (pe_ix (kixT M.K) (pv 1) pe_int (fun _ _ => rfl))) (pe_op op_mulW (pe_ix (kixT M.K) (pv 1) pe_int (fun _ _ => rfl)) (pe_ix (kixT M.K) (pv 0) pe_int (fun _ _ => rfl))) (nomark _)))), fun ds d h => ?_⟩
  obtain ⟨a, b, rfl, ha, hb, rfl⟩ := h
  rw [← le_dec]
  exact ds_retD (de_op (de_op (de_num (de_var rfl)) (de_den (de_var rfl)) (rd_I (mul_nd ha hb))) (de_op (de_num (de_var rfl)) (de_den (de_var rfl)) (rd_I (mul_nd hb ha))) rd_B0) rfl
/-! lower -/
abbrev s_lower : Stmt := topS 15
abbrev n_lower : List Str := ["one", "other"]
theorem sc_lower : FnScope n_lower ["one", "other"] (defScope s_lower) := ⟨rfl, rfl, rfl, by decide +kernel, rfl, by decide +kernel, by decide +kernel⟩
def Pre_lower (ds : List PyData) (d : PyData) : Prop := ∃ a b, ds = [dQ a, dQ b] ∧ Sz 1900 a ∧ Sz 1900 b ∧ d = dQ (if a ≤ b then a else b)
theorem ok_lower {M : Md} (bi : Bi M.mg) (F : DefAt M "lower" s_lower) (F_at_most : OkF M "at_most" ["one", "other"] 1 (spP M.K Pre_at_most)) : OkF M "lower" ["one", "other"] 2 (spP M.K Pre_lower) := by
  refine okf_pure F sc_lower (fun _ _ _ _ _ _ us hl => match us, hl with | [_, _], _ => rfl) (fun ds d h => by obtain ⟨a, b, rfl, ha, hb, rfl⟩ := h; rfl) fun f cdv A outer s H E hr =>
    ⟨_, (pss_one (ps_ret (pe_ifExp (pt_val (pe_fn F_at_most (hr.mono (by decide)) (pa_cons (pv 0) (pa_cons (pv 1) pa_nil)))) (pv 0) (pv 1)))), fun ds d h => ?_⟩
  obtain ⟨a, b, rfl, ha, hb, rfl⟩ := h
  refine ds_retD (de_if (dt_B (de_call (da_cons (de_var rfl) (da_cons (de_var rfl) da_nil)) ⟨a, b, rfl, ha, hb, rfl⟩)) (fun h => ?_) fun h => ?_) rfl
  · rw [if_pos (of_decide_eq_true h)]
    exact de_var rfl
  · rw [if_neg (of_decide_eq_false h)]
    exact de_var rfl
/-! upper -/
abbrev s_upper : Stmt := topS 16
abbrev n_upper : List Str := ["one", "other"]
theorem sc_upper : FnScope n_upper ["one", "other"] (defScope s_upper) := ⟨rfl, rfl, rfl, by decide +kernel, rfl, by decide +kernel, by decide +kernel⟩
def Pre_upper (ds : List PyData) (d : PyData) : Prop := ∃ a b, ds = [dQ a, dQ b] ∧ Sz 1900 a ∧ Sz 1900 b ∧ d = dQ (if a ≤ b then b else a)
theorem ok_upper {M : Md} (bi : Bi M.mg) (F : DefAt M "upper" s_upper) (F_at_most : OkF M "at_most" ["one", "other"] 1 (spP M.K Pre_at_most)) : OkF M "upper" ["one", "other"] 2 (spP M.K Pre_upper) := by
  refine okf_pure F sc_upper (fun _ _ _ _ _ _ us hl => match us, hl with | [_, _], _ => rfl) (fun ds d h => by obtain ⟨a, b, rfl, ha, hb, rfl⟩ := h; rfl) fun f cdv A outer s H E hr =>
    ⟨_, (pss_one (ps_ret (pe_ifExp (pt_val (pe_fn F_at_most (hr.mono (by decide)) (pa_cons (pv 0) (pa_cons (pv 1) pa_nil)))) (pv 1) (pv 0)))), fun ds d h => ?_⟩
  obtain ⟨a, b, rfl, ha, hb, rfl⟩ := h
  refine ds_retD (de_if (dt_B (de_call (da_cons (de_var rfl) (da_cons (de_var rfl) da_nil)) ⟨a, b, rfl, ha, hb, rfl⟩)) (fun h => ?_) fun h => ?_) rfl
  · rw [if_pos (of_decide_eq_true h)]
    exact de_var rfl
  · rw [if_neg (of_decide_eq_false h)]
    exact de_var rfl
/-! wholes_in -/
abbrev s_wholes_in : Stmt := topS 17
abbrev n_wholes_in : List Str := ["one", "other", "far"]
theorem sc_wholes_in : FnScope n_wholes_in ["one", "other"] (defScope s_wholes_in) := ⟨rfl, rfl, rfl, by decide +kernel, rfl, by decide +kernel, by decide +kernel⟩
def Pre_wholes_in (ds : List PyData) (d : PyData) : Prop := ∃ a b, ds = [dQ a, dQ b] ∧ Sz 900 a ∧ Sz 900 b ∧ b ≠ 0 ∧ d = .int (a / absQ b).floor
theorem ok_wholes_in {M : Md} (bi : Bi M.mg) (F : DefAt M "wholes_in" s_wholes_in) (F_part_over : OkF M "part_over" ["one", "other"] 2 (spP M.K Pre_part_over)) (F_part_size : OkF M "part_size" ["one"] 1 (spP M.K Pre_part_size)) : OkF M "wholes_in" ["one", "other"] 3 (spP M.K Pre_wholes_in) := by
  refine okf_pure F sc_wholes_in (fun _ _ _ _ _ _ us hl => match us, hl with | [_, _], _ => rfl) (fun ds d h => by obtain ⟨a, b, rfl, ha, hb, h0, rfl⟩ := h; rfl) fun f cdv A outer s H E hr =>
    ⟨_, (pss_cons (ps_set (i := 2) sc_wholes_in.nd rfl (.inl rfl) (pe_fn F_part_over (hr.mono (by decide)) (pa_cons (pv 0) (pa_cons (pe_fn F_part_size (hr.mono (by decide)) (pa_cons (pv 1) pa_nil)) pa_nil))))
      (pss_one (ps_ret (pe_op op_fdivX (pe_ix (kixT M.K) (pv 2) pe_int (fun _ _ => rfl)) (pe_ix (kixT M.K) (pv 2) pe_int (fun _ _ => rfl)))))), fun ds d h => ?_⟩
  obtain ⟨a, b, rfl, ha, hb, h0, rfl⟩ := h
  have hq : Sz 1900 (a / absQ b) := (ha.div hb.abs (absQ_ne h0)).mono (by decide)
  refine ds_seq (ds_asgD (de_call (da_cons (de_var rfl) (da_cons (de_call (da_cons (de_var rfl) da_nil) ⟨b, rfl, rfl⟩) da_nil)) ⟨a, absQ b, rfl, ha.mono (by decide), hb.abs.mono (by decide), absQ_ne h0, rfl⟩) ?_)
  refine ds_retD (de_op (de_num (de_var rfl)) (de_den (de_var rfl)) (rd_I (div_den hq))) ?_
  rw [fdiv_floor]
/-! round_by -/
abbrev s_round_by : Stmt := topS 18
abbrev n_round_by : List Str := ["one", "other"]
theorem sc_round_by : FnScope n_round_by ["one", "other"] (defScope s_round_by) := ⟨rfl, rfl, rfl, by decide +kernel, rfl, by decide +kernel, by decide +kernel⟩
def Pre_round_by (ds : List PyData) (d : PyData) : Prop := ∃ a b, ds = [dQ a, dQ b] ∧ Sz 400 a ∧ Sz 400 b ∧ b ≠ 0 ∧ d = dQ (roundQ a b)
theorem ok_round_by {M : Md} (bi : Bi M.mg) (F : DefAt M "round_by" s_round_by) (F_part_less : OkF M "part_less" ["one", "other"] 3 (spP M.K Pre_part_less)) (F_part_times : OkF M "part_times" ["one", "other"] 2 (spP M.K Pre_part_times)) (F_wholes_in : OkF M "wholes_in" ["one", "other"] 3 (spP M.K Pre_wholes_in)) (F_part_size : OkF M "part_size" ["one"] 1 (spP M.K Pre_part_size)) : OkF M "round_by" ["one", "other"] 4 (spP M.K Pre_round_by) := by
  refine okf_pure F sc_round_by (fun _ _ _ _ _ _ us hl => match us, hl with | [_, _], _ => rfl) (fun ds d h => by obtain ⟨a, b, rfl, ha, hb, h0, rfl⟩ := h; rfl) fun f cdv A outer s H E hr =>
    ⟨_, (pss_one (ps_ret (pe_fn F_part_less (hr.mono (by decide)) (pa_cons (pv 0) (pa_cons (pe_fn F_part_times (hr.mono (by decide)) (pa_cons (pe_tup (pa_cons (pe_fn F_wholes_in (hr.mono (by decide)) (pa_cons (pv 0) (pa_cons (pv 1) pa_nil))) (pa_cons pe_int pa_nil))) (pa_cons (pe_fn F_part_size (hr.mono (by decide)) (pa_cons (pv 1) pa_nil)) pa_nil))) pa_nil))))), fun ds d h => ?_⟩
  obtain ⟨a, b, rfl, ha, hb, h0, rfl⟩ := h
  have hf : Sz 1000 (((a / absQ b).floor : Int) : Rat) := Sz.int (Nat.lt_of_lt_of_le (ha.div hb.abs (absQ_ne h0)).floor (by decide)) (by decide)
  refine ds_retD (de_call (da_cons (de_var rfl) (da_cons (de_call (da_cons ((de_tup (da_cons (de_call (da_cons (de_var rfl) (da_cons (de_var rfl) da_nil)) ⟨a, b, rfl, ha.mono (by decide), hb.mono (by decide), h0, rfl⟩) (da_cons de_int da_nil))).cast (q_whole _).symm)
    (da_cons (de_call (da_cons (de_var rfl) da_nil) ⟨b, rfl, rfl⟩) da_nil)) ⟨_, _, rfl, hf.mono (by decide), hb.abs.mono (by decide), rfl⟩) da_nil)) ⟨_, _, rfl, ha.mono (by decide), (hf.mul hb.abs).mono (by decide), rfl⟩) rfl
/-! angle_of -/
abbrev s_angle_of : Stmt := topS 19
abbrev n_angle_of : List Str := ["one"]
theorem sc_angle_of : FnScope n_angle_of ["one"] (defScope s_angle_of) := ⟨rfl, rfl, rfl, by decide +kernel, rfl, by decide +kernel, by decide +kernel⟩
def Pre_angle_of (ds : List PyData) (d : PyData) : Prop := ∃ a, ds = [dQ a] ∧ d = dQ (fracQ a)
theorem ok_angle_of {M : Md} (bi : Bi M.mg) (F : DefAt M "angle_of" s_angle_of)  : OkF M "angle_of" ["one"] 1 (spP M.K Pre_angle_of) := by
  refine okf_pure F sc_angle_of (fun _ _ _ _ _ _ us hl => match us, hl with | [_], _ => rfl) (fun ds d h => by obtain ⟨a, rfl, rfl⟩ := h; rfl) fun f cdv A outer s H E hr =>
    ⟨_, (pss_one (ps_ret (pe_tup (pa_cons (pe_op op_mod (pe_ix (kixT M.K) (pv 0) pe_int (fun _ _ => rfl)) (pe_ix (kixT M.K) (pv 0) pe_int (fun _ _ => rfl))) (pa_cons (pe_ix (kixT M.K) (pv 0) pe_int (fun _ _ => rfl)) pa_nil))))), fun ds d h => ?_⟩
  obtain ⟨a, rfl, rfl⟩ := h
  rw [q_frac]
  exact ds_retD (de_tup (da_cons (de_op (de_num (de_var rfl)) (de_den (de_var rfl)) (rd_I (den_pos_int a))) (da_cons (de_den (de_var rfl)) da_nil))) rfl
end SC
namespace SC
open PySem PySem.Spec PyProof.Rows L2
/-! _law_common -/
abbrev s_law_common : Stmt := topS 46
abbrev n_law_common : List Str := ["_law_one_so", "_law_other_so"]
theorem sc_law_common : FnScope n_law_common ["_law_one_so", "_law_other_so"] (defScope s_law_common) := ⟨rfl, rfl, rfl, by decide +kernel, rfl, by decide +kernel, by decide +kernel⟩
def Pre_law_common (ds : List PyData) (d : PyData) : Prop := ∃ a b : Int, ds = [.int a, .int b] ∧ d = .int ((Nat.gcd a.natAbs b.natAbs : Nat) : Int)
theorem ok_law_common {M : Md} (bi : Bi M.mg) (F : DefAt M "_law_common" s_law_common)  : OkF M "_law_common" ["_law_one_so", "_law_other_so"] 1 (spP M.K Pre_law_common) := by
  refine okf_pure F sc_law_common (fun _ _ _ _ _ _ us hl => match us, hl with | [_, _], _ => rfl) (fun ds d h => by obtain ⟨a, b, rfl, rfl⟩ := h; rfl) fun f cdv A outer s H E hr =>
    ⟨_, (pss_cons (ps_par (i := 0) (j := 1) (by rfl) sc_law_common.nd rfl rfl (by decide) rfl rfl (pa_cons (pe_callB call_abs (by rfl) bi.abs (by decide +kernel) (pa_cons (pv 0) pa_nil)) (pa_cons (pe_callB call_abs (by rfl) bi.abs (by decide +kernel) (pa_cons (pv 1) pa_nil)) pa_nil)) (by rfl))
      (pss_cons (ps_while PassesOwn.never (pt_cmpR op_gt (pv 1) pe_int (nomark _)) (pss_one (ps_par (i := 0) (j := 1) (by rfl) sc_law_common.nd rfl rfl (by decide) rfl rfl (pa_cons (pv 1) (pa_cons (pe_op op_mod (pv 0) (pv 1)) pa_nil)) (by rfl))))
      (pss_one (ps_ret (pv 0))))), fun ds d h => ?_⟩
  obtain ⟨a, b, rfl, rfl⟩ := h
  refine ds_seq (ds_parD (da_cons (de_cb (da_cons (de_var rfl) da_nil) rc_abs) (da_cons (de_cb (da_cons (de_var rfl) da_nil) rc_abs) da_nil)) ?_)
  refine ds_seq (ds_while (fun m ρ' => ∃ x y : Nat, ρ' = [.dat (.int (x : Int)), .dat (.int (y : Int))] ∧ m = y ∧ Nat.gcd x y = Nat.gcd a.natAbs b.natAbs) b.natAbs ⟨a.natAbs, b.natAbs, rfl, rfl, rfl⟩ fun m ρ' h => ?_)
  obtain ⟨x, y, rfl, rfl, hg⟩ := h
  refine (dt_test (de_op (de_var rfl) de_int rd_B0)).of ⟨fun h => ?_, fun h => ?_⟩
  · have h := of_decide_eq_true h
    refine ds_parD (da_cons (de_var rfl) (da_cons (de_op (de_var rfl) (de_var rfl) (rd_I h)) da_nil)) ?_
    have hy : 0 < m := by omega
    refine ⟨x % m, Nat.mod_lt _ hy, m, x % m, rfl, rfl, ?_⟩
    rw [← hg, Nat.gcd_comm x m, Nat.gcd_rec m x, Nat.gcd_comm]
  · have h := of_decide_eq_false h
    have hy : m = 0 := by omega
    subst hy
    refine ds_retD (de_var rfl) ?_
    rw [← hg, Nat.gcd_zero_right]
/-! _law_part -/
abbrev s_law_part : Stmt := topS 47
abbrev n_law_part : List Str := ["_law_top_so", "_law_bottom_so", "_law_own"]
theorem sc_law_part : FnScope n_law_part ["_law_top_so", "_law_bottom_so"] (defScope s_law_part) := ⟨rfl, rfl, rfl, by decide +kernel, rfl, by decide +kernel, by decide +kernel⟩
def Pre_law_part (ds : List PyData) (d : PyData) : Prop := ∃ a b : Int, ds = [.int a, .int b] ∧ b ≠ 0 ∧ b.natAbs < 2 ^ 8000 ∧ d = dQ (Rat.divInt a b)
theorem ok_law_part {M : Md} (bi : Bi M.mg) (F : DefAt M "_law_part" s_law_part) (F_law_common : OkF M "_law_common" ["_law_one_so", "_law_other_so"] 1 (spP M.K Pre_law_common)) : OkF M "_law_part" ["_law_top_so", "_law_bottom_so"] 2 (spP M.K Pre_law_part) := by
  refine okf_pure F sc_law_part (fun _ _ _ _ _ _ us hl => match us, hl with | [_, _], _ => rfl) (fun ds d h => by obtain ⟨a, b, rfl, hb, hs, rfl⟩ := h; rfl) fun f cdv A outer s H E hr =>
    ⟨_, (pss_cons (ps_set (i := 2) sc_law_part.nd rfl (.inl rfl) (pe_fn F_law_common (hr.mono (by decide)) (pa_cons (pv 0) (pa_cons (pv 1) pa_nil))))
      (pss_cons (ps_if (pt_cmpR op_lt (pv 1) pe_int (nomark _)) (pss_one (ps_set (i := 2) sc_law_part.nd rfl (.inl rfl) (pe_un un_neg (pv 2)))) pss_nil)
      (pss_one (ps_ret (pe_tup (pa_cons (pe_op op_fdivX (pv 0) (pv 2)) (pa_cons (pe_op op_fdivX (pv 1) (pv 2)) pa_nil))))))), fun ds d h => ?_⟩
  obtain ⟨a, b, rfl, hb, hs, rfl⟩ := h
  have hg := gcd_lt (a := a) hb hs
  have hg0 : 0 < Nat.gcd a.natAbs b.natAbs := Nat.gcd_pos_of_pos_right _ (by omega)
  obtain ⟨e1, e2⟩ := part_num (a := a) hb
  refine ds_seq (ds_asgD (de_call (da_cons (de_var rfl) (da_cons (de_var rfl) da_nil)) ⟨a, b, rfl, rfl⟩) ?_)
  refine ds_seq (ds_ifD (dt_test (de_op (de_var rfl) de_int rd_B0)) (fun h => ?_) fun h => ?_)
  · have h := of_decide_eq_true h
    rw [if_pos h] at e1 e2
    refine ds_asgD (de_un (de_var rfl) ru_int) ?_
    refine ds_retD (de_tup (da_cons (de_op (de_var rfl) (de_var rfl) (rd_I (divx (b := 8000) ?_ ?_ (by decide) (by decide)))) (da_cons (de_op (de_var rfl) (de_var rfl) (rd_I (divx (b := 8000) ?_ ?_ (by decide) (by decide)))) da_nil))) ?_
    · omega
    · rw [Int.natAbs_neg]; exact hg
    · omega
    · rw [Int.natAbs_neg]; exact hg
    · rw [e1, e2]; rfl
  · have h := of_decide_eq_false h
    rw [if_neg h] at e1 e2
    refine ds_next ?_
    refine ds_retD (de_tup (da_cons (de_op (de_var rfl) (de_var rfl) (rd_I (divx (b := 8000) ?_ ?_ (by decide) (by decide)))) (da_cons (de_op (de_var rfl) (de_var rfl) (rd_I (divx (b := 8000) ?_ ?_ (by decide) (by decide)))) da_nil))) ?_
    · omega
    · exact hg
    · omega
    · exact hg
    · rw [e1, e2]; rfl
/-! _law_sum -/
abbrev s_law_sum : Stmt := topS 48
abbrev n_law_sum : List Str := ["_law_one_so", "_law_other_so"]
theorem sc_law_sum : FnScope n_law_sum ["_law_one_so", "_law_other_so"] (defScope s_law_sum) := ⟨rfl, rfl, rfl, by decide +kernel, rfl, by decide +kernel, by decide +kernel⟩
def Pre_law_sum (ds : List PyData) (d : PyData) : Prop := ∃ a b, ds = [dQ a, dQ b] ∧ Sz 1900 a ∧ Sz 1900 b ∧ d = dQ (a + b)
theorem ok_law_sum {M : Md} (bi : Bi M.mg) (F : DefAt M "_law_sum" s_law_sum) (F_law_part : OkF M "_law_part" ["_law_top_so", "_law_bottom_so"] 2 (spP M.K Pre_law_part)) : OkF M "_law_sum" ["_law_one_so", "_law_other_so"] 3 (spP M.K Pre_law_sum) := by
  refine okf_pure F sc_law_sum (fun _ _ _ _ _ _ us hl => match us, hl with | [_, _], _ => rfl) (fun ds d h => by obtain ⟨a, b, rfl, ha, hb, rfl⟩ := h; rfl) fun f cdv A outer s H E hr =>
    ⟨_, (pss_one (ps_ret (pe_fn F_law_part (hr.mono (by decide)) (pa_cons (pe_op op_add (pe_op op_mulW (pe_ix (kixT M.K) (pv 0) pe_int (fun _ _ => rfl)) (pe_ix (kixT M.K) (pv 1) pe_int (fun _ _ => rfl))) (pe_op op_mulW (pe_ix (kixT M.K) (pv 1) pe_int (fun _ _ => rfl)) (pe_ix (kixT M.K) (pv 0) pe_int (fun _ _ => rfl)))) (pa_cons (pe_op op_mulW (pe_ix (kixT M.K) (pv 0) pe_int (fun _ _ => rfl)) (pe_ix (kixT M.K) (pv 1) pe_int (fun _ _ => rfl))) pa_nil))))), fun ds d h => ?_⟩
  obtain ⟨a, b, rfl, ha, hb, rfl⟩ := h
  exact ds_retD (de_call (da_cons (de_op (de_op (de_num (de_var rfl)) (de_den (de_var rfl)) (rd_I (mul_nd ha hb))) (de_op (de_num (de_var rfl)) (de_den (de_var rfl)) (rd_I (mul_nd hb ha))) rd_I0) (da_cons (de_op (de_den (de_var rfl)) (de_den (de_var rfl)) (rd_I (mul_dd ha hb))) da_nil))
    ⟨_, _, rfl, dd_ne a b, dd_8000 ha hb, by rw [q_add]⟩) rfl
/-! _law_minus -/
abbrev s_law_minus : Stmt := topS 49
abbrev n_law_minus : List Str := ["_law_one_so"]
theorem sc_law_minus : FnScope n_law_minus ["_law_one_so"] (defScope s_law_minus) := ⟨rfl, rfl, rfl, by decide +kernel, rfl, by decide +kernel, by decide +kernel⟩
def Pre_law_minus (ds : List PyData) (d : PyData) : Prop := ∃ a, ds = [dQ a] ∧ d = dQ (-a)
theorem ok_law_minus {M : Md} (bi : Bi M.mg) (F : DefAt M "_law_minus" s_law_minus)  : OkF M "_law_minus" ["_law_one_so"] 1 (spP M.K Pre_law_minus) := by
  refine okf_pure F sc_law_minus (fun _ _ _ _ _ _ us hl => match us, hl with | [_], _ => rfl) (fun ds d h => by obtain ⟨a, rfl, rfl⟩ := h; rfl) fun f cdv A outer s H E hr =>
    ⟨_, (pss_one (ps_ret (pe_tup (pa_cons (pe_un un_neg (pe_ix (kixT M.K) (pv 0) pe_int (fun _ _ => rfl))) (pa_cons (pe_ix (kixT M.K) (pv 0) pe_int (fun _ _ => rfl)) pa_nil))))), fun ds d h => ?_⟩
  obtain ⟨a, rfl, rfl⟩ := h
  rw [q_minus]
  exact ds_retD (de_tup (da_cons (de_un (de_num (de_var rfl)) ru_int) (da_cons (de_den (de_var rfl)) da_nil))) rfl
/-! _law_less -/
abbrev s_law_less : Stmt := topS 50
abbrev n_law_less : List Str := ["_law_one_so", "_law_other_so"]
theorem sc_law_less : FnScope n_law_less ["_law_one_so", "_law_other_so"] (defScope s_law_less) := ⟨rfl, rfl, rfl, by decide +kernel, rfl, by decide +kernel, by decide +kernel⟩
def Pre_law_less (ds : List PyData) (d : PyData) : Prop := ∃ a b, ds = [dQ a, dQ b] ∧ Sz 1900 a ∧ Sz 1900 b ∧ d = dQ (a - b)
theorem ok_law_less {M : Md} (bi : Bi M.mg) (F : DefAt M "_law_less" s_law_less) (F_law_sum : OkF M "_law_sum" ["_law_one_so", "_law_other_so"] 3 (spP M.K Pre_law_sum)) (F_law_minus : OkF M "_law_minus" ["_law_one_so"] 1 (spP M.K Pre_law_minus)) : OkF M "_law_less" ["_law_one_so", "_law_other_so"] 4 (spP M.K Pre_law_less) := by
  refine okf_pure F sc_law_less (fun _ _ _ _ _ _ us hl => match us, hl with | [_, _], _ => rfl) (fun ds d h => by obtain ⟨a, b, rfl, ha, hb, rfl⟩ := h; rfl) fun f cdv A outer s H E hr =>
    ⟨_, (pss_one (ps_ret (pe_fn F_law_sum (hr.mono (by decide)) (pa_cons (pv 0) (pa_cons (pe_fn F_law_minus (hr.mono (by decide)) (pa_cons (pv 1) pa_nil)) pa_nil))))), fun ds d h => ?_⟩
  obtain ⟨a, b, rfl, ha, hb, rfl⟩ := h
  exact ds_retD (de_call (da_cons (de_var rfl) (da_cons (de_call (da_cons (de_var rfl) da_nil) ⟨b, rfl, rfl⟩) da_nil)) ⟨a, -b, rfl, ha, hb.neg, by rw [Rat.sub_eq_add_neg]⟩) rfl
/-! _law_prod -/
abbrev s_law_prod : Stmt := topS 51
abbrev n_law_prod : List Str := ["_law_one_so", "_law_other_so"]
theorem sc_law_prod : FnScope n_law_prod ["_law_one_so", "_law_other_so"] (defScope s_law_prod) := ⟨rfl, rfl, rfl, by decide +kernel, rfl, by decide +kernel, by decide +kernel⟩
def Pre_law_prod (ds : List PyData) (d : PyData) : Prop := ∃ a b, ds = [dQ a, dQ b] ∧ Sz 1900 a ∧ Sz 1900 b ∧ d = dQ (a * b)
theorem ok_law_prod {M : Md} (bi : Bi M.mg) (F : DefAt M "_law_prod" s_law_prod) (F_law_part : OkF M "_law_part" ["_law_top_so", "_law_bottom_so"] 2 (spP M.K Pre_law_part)) : OkF M "_law_prod" ["_law_one_so", "_law_other_so"] 3 (spP M.K Pre_law_prod) := by
  refine okf_pure F sc_law_prod (fun _ _ _ _ _ _ us hl => match us, hl with | [_, _], _ => rfl) (fun ds d h => by obtain ⟨a, b, rfl, ha, hb, rfl⟩ := h; rfl) fun f cdv A outer s H E hr =>
    ⟨_, (pss_one (ps_ret (pe_fn F_law_part (hr.mono (by decide)) (pa_cons (pe_op op_mulW (pe_ix (kixT M.K) (pv 0) pe_int (fun _ _ => rfl)) (pe_ix (kixT M.K) (pv 1) pe_int (fun _ _ => rfl))) (pa_cons (pe_op op_mulW (pe_ix (kixT M.K) (pv 0) pe_int (fun _ _ => rfl)) (pe_ix (kixT M.K) (pv 1) pe_int (fun _ _ => rfl))) pa_nil))))), fun ds d h => ?_⟩
  obtain ⟨a, b, rfl, ha, hb, rfl⟩ := h
  exact ds_retD (de_call (da_cons (de_op (de_num (de_var rfl)) (de_num (de_var rfl)) (rd_I (mul_nn ha hb))) (da_cons (de_op (de_den (de_var rfl)) (de_den (de_var rfl)) (rd_I (mul_dd ha hb))) da_nil)) ⟨_, _, rfl, dd_ne a b, dd_8000 ha hb, by rw [q_mul]⟩) rfl
/-! _law_quot -/
abbrev s_law_quot : Stmt := topS 52
abbrev n_law_quot : List Str := ["_law_one_so", "_law_other_so"]
theorem sc_law_quot : FnScope n_law_quot ["_law_one_so", "_law_other_so"] (defScope s_law_quot) := ⟨rfl, rfl, rfl, by decide +kernel, rfl, by decide +kernel, by decide +kernel⟩
def Pre_law_quot (ds : List PyData) (d : PyData) : Prop := ∃ a b, ds = [dQ a, dQ b] ∧ Sz 1900 a ∧ Sz 1900 b ∧ b ≠ 0 ∧ d = dQ (a / b)
theorem ok_law_quot {M : Md} (bi : Bi M.mg) (F : DefAt M "_law_quot" s_law_quot) (F_law_part : OkF M "_law_part" ["_law_top_so", "_law_bottom_so"] 2 (spP M.K Pre_law_part)) : OkF M "_law_quot" ["_law_one_so", "_law_other_so"] 3 (spP M.K Pre_law_quot) := by
  refine okf_pure F sc_law_quot (fun _ _ _ _ _ _ us hl => match us, hl with | [_, _], _ => rfl) (fun ds d h => by obtain ⟨a, b, rfl, ha, hb, h0, rfl⟩ := h; rfl) fun f cdv A outer s H E hr =>
    ⟨_, (pss_one (ps_ret (pe_fn F_law_part (hr.mono (by decide)) (pa_cons (pe_op op_mulW (pe_ix (kixT M.K) (pv 0) pe_int (fun _ _ => rfl)) (pe_ix (kixT M.K) (pv 1) pe_int (fun _ _ => rfl))) (pa_cons (pe_op op_mulW (pe_ix (kixT M.K) (pv 0) pe_int (fun _ _ => rfl)) (pe_ix (kixT M.K) (pv 1) pe_int (fun _ _ => rfl))) pa_nil))))), fun ds d h => ?_⟩
  obtain ⟨a, b, rfl, ha, hb, h0, rfl⟩ := h
  exact ds_retD (de_call (da_cons (de_op (de_num (de_var rfl)) (de_den (de_var rfl)) (rd_I (mul_nd ha hb))) (da_cons (de_op (de_den (de_var rfl)) (de_num (de_var rfl)) (rd_I (mul_dn ha hb))) da_nil)) ⟨_, _, rfl, dn_ne a h0, dn_8000 ha hb, by rw [q_div]⟩) rfl
/-! _law_times -/
abbrev s_law_times : Stmt := topS 53
abbrev n_law_times : List Str := ["_law_one_so", "_law_number_so"]
theorem sc_law_times : FnScope n_law_times ["_law_one_so", "_law_number_so"] (defScope s_law_times) := ⟨rfl, rfl, rfl, by decide +kernel, rfl, by decide +kernel, by decide +kernel⟩
def Pre_law_times (ds : List PyData) (d : PyData) : Prop := ∃ (a : Rat) (n : Int), ds = [dQ a, .int n] ∧ Sz 1900 a ∧ n.natAbs < 2 ^ 1900 ∧ d = dQ (a * (n : Rat))
theorem ok_law_times {M : Md} (bi : Bi M.mg) (F : DefAt M "_law_times" s_law_times) (F_law_part : OkF M "_law_part" ["_law_top_so", "_law_bottom_so"] 2 (spP M.K Pre_law_part)) : OkF M "_law_times" ["_law_one_so", "_law_number_so"] 3 (spP M.K Pre_law_times) := by
  refine okf_pure F sc_law_times (fun _ _ _ _ _ _ us hl => match us, hl with | [_, _], _ => rfl) (fun ds d h => by obtain ⟨a, n, rfl, ha, hn, rfl⟩ := h; rfl) fun f cdv A outer s H E hr =>
    ⟨_, (pss_one (ps_ret (pe_fn F_law_part (hr.mono (by decide)) (pa_cons (pe_op op_mulW (pe_ix (kixT M.K) (pv 0) pe_int (fun _ _ => rfl)) (pv 1)) (pa_cons (pe_ix (kixT M.K) (pv 0) pe_int (fun _ _ => rfl)) pa_nil))))), fun ds d h => ?_⟩
  obtain ⟨a, n, rfl, ha, hn, rfl⟩ := h
  refine ds_retD (de_call (da_cons (de_op (de_num (de_var rfl)) (de_var rfl) (rd_I (wide_mul (a := 1900) (b := 1900) ha.1 hn (by decide) (by decide) (by decide)))) (da_cons (de_den (de_var rfl)) da_nil)) ⟨_, _, rfl, den_int_ne a, d_8000 ha, ?_⟩) rfl
  rw [q_mul, Rat.num_intCast, Rat.den_intCast]
  simp
/-! _law_under -/
abbrev s_law_under : Stmt := topS 54
abbrev n_law_under : List Str := ["_law_one_so", "_law_other_so"]
theorem sc_law_under : FnScope n_law_under ["_law_one_so", "_law_other_so"] (defScope s_law_under) := ⟨rfl, rfl, rfl, by decide +kernel, rfl, by decide +kernel, by decide +kernel⟩
def Pre_law_under (ds : List PyData) (d : PyData) : Prop := ∃ a b, ds = [dQ a, dQ b] ∧ Sz 1900 a ∧ Sz 1900 b ∧ d = .bool (decide (a < b))
theorem ok_law_under {M : Md} (bi : Bi M.mg) (F : DefAt M "_law_under" s_law_under)  : OkF M "_law_under" ["_law_one_so", "_law_other_so"] 1 (spP M.K Pre_law_under) := by
  refine okf_pure F sc_law_under (fun _ _ _ _ _ _ us hl => match us, hl with | [_, _], _ => rfl) (fun ds d h => by obtain ⟨a, b, rfl, ha, hb, rfl⟩ := h; rfl) fun f cdv A outer s H E hr =>
    ⟨_, (pss_one (ps_ret (pe_cmpR op_lt (pe_op op_mulW (pe_ix (kixT M.K) (pv 0) pe_int (fun _ _ => rfl)) (pe_ix (kixT M.K) (pv 1) pe_int (fun _ _ => rfl))) (pe_op op_mulW (pe_ix (kixT M.K) (pv 1) pe_int (fun _ _ => rfl)) (pe_ix (kixT M.K) (pv 0) pe_int (fun _ _ => rfl))) (nomark _)))), fun ds d h => ?_⟩
  obtain ⟨a, b, rfl, ha, hb, rfl⟩ := h
  rw [← lt_dec]
  exact ds_retD (de_op (de_op (de_num (de_var rfl)) (de_den (de_var rfl)) (rd_I (mul_nd ha hb))) (de_op (de_num (de_var rfl)) (de_den (de_var rfl)) (rd_I (mul_nd hb ha))) rd_B0) rfl
/-! _law_size -/
abbrev s_law_size : Stmt := topS 55
abbrev n_law_size : List Str := ["_law_one_so"]
theorem sc_law_size : FnScope n_law_size ["_law_one_so"] (defScope s_law_size) := ⟨rfl, rfl, rfl, by decide +kernel, rfl, by decide +kernel, by decide +kernel⟩
def Pre_law_size (ds : List PyData) (d : PyData) : Prop := ∃ a, ds = [dQ a] ∧ d = dQ (absQ a)
theorem ok_law_size {M : Md} (bi : Bi M.mg) (F : DefAt M "_law_size" s_law_size)  : OkF M "_law_size" ["_law_one_so"] 1 (spP M.K Pre_law_size) := by
  refine okf_pure F sc_law_size (fun _ _ _ _ _ _ us hl => match us, hl with | [_], _ => rfl) (fun ds d h => by obtain ⟨a, rfl, rfl⟩ := h; rfl) fun f cdv A outer s H E hr =>
    ⟨_, (pss_one (ps_ret (pe_tup (pa_cons (pe_callB call_abs (by rfl) bi.abs (by decide +kernel) (pa_cons (pe_ix (kixT M.K) (pv 0) pe_int (fun _ _ => rfl)) pa_nil)) (pa_cons (pe_ix (kixT M.K) (pv 0) pe_int (fun _ _ => rfl)) pa_nil))))), fun ds d h => ?_⟩
  obtain ⟨a, rfl, rfl⟩ := h
  rw [q_size]
  exact ds_retD (de_tup (da_cons (de_cb (da_cons (de_num (de_var rfl)) da_nil) rc_abs) (da_cons (de_den (de_var rfl)) da_nil))) rfl
/-! _law_floor -/
abbrev s_law_floor : Stmt := topS 56
abbrev n_law_floor : List Str := ["_law_one_so"]
theorem sc_law_floor : FnScope n_law_floor ["_law_one_so"] (defScope s_law_floor) := ⟨rfl, rfl, rfl, by decide +kernel, rfl, by decide +kernel, by decide +kernel⟩
def Pre_law_floor (ds : List PyData) (d : PyData) : Prop := ∃ a, ds = [dQ a] ∧ Sz 1900 a ∧ d = .int a.floor
theorem ok_law_floor {M : Md} (bi : Bi M.mg) (F : DefAt M "_law_floor" s_law_floor)  : OkF M "_law_floor" ["_law_one_so"] 1 (spP M.K Pre_law_floor) := by
  refine okf_pure F sc_law_floor (fun _ _ _ _ _ _ us hl => match us, hl with | [_], _ => rfl) (fun ds d h => by obtain ⟨a, rfl, ha, rfl⟩ := h; rfl) fun f cdv A outer s H E hr =>
    ⟨_, (pss_one (ps_ret (pe_op op_fdivX (pe_ix (kixT M.K) (pv 0) pe_int (fun _ _ => rfl)) (pe_ix (kixT M.K) (pv 0) pe_int (fun _ _ => rfl))))), fun ds d h => ?_⟩
  obtain ⟨a, rfl, ha, rfl⟩ := h
  refine ds_retD (de_op (de_num (de_var rfl)) (de_den (de_var rfl)) (rd_I (div_den ha))) ?_
  rw [fdiv_floor]
/-! _law_round -/
abbrev s_law_round : Stmt := topS 57
abbrev n_law_round : List Str := ["_law_one_so", "_law_other_so", "_law_many_so"]
theorem sc_law_round : FnScope n_law_round ["_law_one_so", "_law_other_so"] (defScope s_law_round) := ⟨rfl, rfl, rfl, by decide +kernel, rfl, by decide +kernel, by decide +kernel⟩
def Pre_law_round (ds : List PyData) (d : PyData) : Prop := ∃ a b, ds = [dQ a, dQ b] ∧ Sz 400 a ∧ Sz 400 b ∧ b ≠ 0 ∧ d = dQ (roundQ a b)
theorem ok_law_round {M : Md} (bi : Bi M.mg) (F : DefAt M "_law_round" s_law_round) (F_law_floor : OkF M "_law_floor" ["_law_one_so"] 1 (spP M.K Pre_law_floor)) (F_law_quot : OkF M "_law_quot" ["_law_one_so", "_law_other_so"] 3 (spP M.K Pre_law_quot)) (F_law_size : OkF M "_law_size" ["_law_one_so"] 1 (spP M.K Pre_law_size)) (F_law_less : OkF M "_law_less" ["_law_one_so", "_law_other_so"] 4 (spP M.K Pre_law_less)) (F_law_times : OkF M "_law_times" ["_law_one_so", "_law_number_so"] 3 (spP M.K Pre_law_times)) : OkF M "_law_round" ["_law_one_so", "_law_other_so"] 5 (spP M.K Pre_law_round) := by
  refine okf_pure F sc_law_round (fun _ _ _ _ _ _ us hl => match us, hl with | [_, _], _ => rfl) (fun ds d h => by obtain ⟨a, b, rfl, ha, hb, h0, rfl⟩ := h; rfl) fun f cdv A outer s H E hr =>
    ⟨_, (pss_cons (ps_set (i := 2) sc_law_round.nd rfl (.inl rfl) (pe_fn F_law_floor (hr.mono (by decide)) (pa_cons (pe_fn F_law_quot (hr.mono (by decide)) (pa_cons (pv 0) (pa_cons (pe_fn F_law_size (hr.mono (by decide)) (pa_cons (pv 1) pa_nil)) pa_nil))) pa_nil)))
      (pss_one (ps_ret (pe_fn F_law_less (hr.mono (by decide)) (pa_cons (pv 0) (pa_cons (pe_fn F_law_times (hr.mono (by decide)) (pa_cons (pe_fn F_law_size (hr.mono (by decide)) (pa_cons (pv 1) pa_nil)) (pa_cons (pv 2) pa_nil))) pa_nil)))))), fun ds d h => ?_⟩
  obtain ⟨a, b, rfl, ha, hb, h0, rfl⟩ := h
  have hq := ha.div hb.abs (absQ_ne h0)
  have hf : (a / absQ b).floor.natAbs < 2 ^ 1000 := Nat.lt_of_lt_of_le hq.floor (by decide)
  refine ds_seq (ds_asgD (de_call (da_cons (de_call (da_cons (de_var rfl) (da_cons (de_call (da_cons (de_var rfl) da_nil) ⟨b, rfl, rfl⟩) da_nil)) ⟨a, absQ b, rfl, ha.mono (by decide), hb.abs.mono (by decide), absQ_ne h0, rfl⟩) da_nil) ⟨_, rfl, hq.mono (by decide), rfl⟩) ?_)
  refine ds_retD (de_call (da_cons (de_var rfl) (da_cons (de_call (da_cons (de_call (da_cons (de_var rfl) da_nil) ⟨b, rfl, rfl⟩) (da_cons (de_var rfl) da_nil)) ⟨absQ b, _, rfl, hb.abs.mono (by decide), Nat.lt_of_lt_of_le hf (by decide), rfl⟩) da_nil))
    ⟨a, _, rfl, ha.mono (by decide), (hb.abs.mul (Sz.int hf (by decide))).mono (by decide), rfl⟩) ?_
  rw [Rat.mul_comm]
  rfl
/-! _law_angle -/
abbrev s_law_angle : Stmt := topS 58
abbrev n_law_angle : List Str := ["_law_one_so"]
theorem sc_law_angle : FnScope n_law_angle ["_law_one_so"] (defScope s_law_angle) := ⟨rfl, rfl, rfl, by decide +kernel, rfl, by decide +kernel, by decide +kernel⟩
def Pre_law_angle (ds : List PyData) (d : PyData) : Prop := ∃ a, ds = [dQ a] ∧ d = dQ (fracQ a)
theorem ok_law_angle {M : Md} (bi : Bi M.mg) (F : DefAt M "_law_angle" s_law_angle)  : OkF M "_law_angle" ["_law_one_so"] 1 (spP M.K Pre_law_angle) := by
  refine okf_pure F sc_law_angle (fun _ _ _ _ _ _ us hl => match us, hl with | [_], _ => rfl) (fun ds d h => by obtain ⟨a, rfl, rfl⟩ := h; rfl) fun f cdv A outer s H E hr =>
    ⟨_, (pss_one (ps_ret (pe_tup (pa_cons (pe_op op_mod (pe_ix (kixT M.K) (pv 0) pe_int (fun _ _ => rfl)) (pe_ix (kixT M.K) (pv 0) pe_int (fun _ _ => rfl))) (pa_cons (pe_ix (kixT M.K) (pv 0) pe_int (fun _ _ => rfl)) pa_nil))))), fun ds d h => ?_⟩
  obtain ⟨a, rfl, rfl⟩ := h
  rw [q_frac]
  exact ds_retD (de_tup (da_cons (de_op (de_num (de_var rfl)) (de_den (de_var rfl)) (rd_I (den_pos_int a))) (da_cons (de_den (de_var rfl)) da_nil))) rfl
end SC
namespace SC
open PySem PySem.Spec PyProof.Rows L2
/-! ### a thing walked that is a list or a tuple -/
def iSeq (K : PySem.W.Frag) (tl : TE) : TI := fun σ H R => tl σ H fun x H1 => ∃ a, x = .ref a ∧ (((∃ xs, SqL K H1 a xs) ∧ R (Itl K a) H1) ∨ ((∃ xs, SqT K H1 a xs) ∧ R (Itt K a) H1))
theorem pi_seq {X : Cx} (K : PySem.W.Frag) {tg l : Expr} {tl : TE} (hl : PE X l tl) (hK : X.K = K := by rfl) : PI X tg l (iSeq K tl) := by
  subst hK
  constructor
  intro pins s σ H R I h
  refine thn (hl.run pins s σ H _ I h) ?_
  rintro v s1 ⟨x, H1, J, rel, a, rfl, q⟩
  have ok : ∀ b, b ∈ [s1.heap.objs.size] → FpOk X pins H1 b := by
    intro b hb
    rw [List.mem_singleton.mp hb]
    exact J.fpOk (Nat.le_refl _) (J.hok.fresh (Nat.le_refl _))
  cases rel
  rcases q with ⟨⟨xs, sq⟩, q⟩ | ⟨⟨xs, sq⟩, q⟩
  · obtain ⟨its, _, lst, _⟩ := J.list sq
    exact wpAny_pyIter_list lst.isList ⟨_, [s1.heap.objs.size], _, _, H1, rfl, J.kept (t' := s1.toks) (fun _ _ g => Heap.get?_push_of_some _ g), turn_list a s1.heap.objs.size, ⟨_, Heap.get?_push_size _ rfl, rfl, rfl⟩, ok, q⟩
  · obtain ⟨its, _, tup, _⟩ := J.tuple sq
    exact wpAny_pyIter_tuple (show s1.heap.IsTuple a its.toArray from tup) ⟨_, [s1.heap.objs.size], _, _, H1, rfl, J.kept (t' := s1.toks) (fun _ _ g => Heap.get?_push_of_some _ g), turn_tuple a s1.heap.objs.size, ⟨_, Heap.get?_push_size _ rfl, rfl, rfl⟩, ok, q⟩
section
variable {C : Cn} {ρ : Rho} {te : TE} {ds : List PyData}
theorem dw_seqL (h : DE C te ρ (.list ds)) : DW C (iSeq C.K te) ρ ds := fun B G H σ o R q => h B G H σ o _ fun v d ρ' G1 H1 p o1 s dv => by
  obtain ⟨rfl, rfl⟩ := p
  obtain ⟨a, xs, rfl, hs, ha⟩ := dp_lst dv
  exact ⟨a, rfl, .inl ⟨⟨xs, o1.gh.seq hs⟩, q _ ds _ G1 H1 ⟨rfl, rfl⟩ o1 s (walk_lst hs ha)⟩⟩
theorem dw_seqT (h : DE C te ρ (.tuple ds)) : DW C (iSeq C.K te) ρ ds := fun B G H σ o R q => h B G H σ o _ fun v d ρ' G1 H1 p o1 s dv => by
  obtain ⟨rfl, rfl⟩ := p
  obtain ⟨a, xs, rfl, hs, ha⟩ := dp_tup dv
  exact ⟨a, rfl, .inr ⟨⟨xs, Same.tup o1.gh hs⟩, q _ ds _ G1 H1 ⟨rfl, rfl⟩ o1 s (walk_tup hs ha)⟩⟩
end
/-! ### is it a list, a tuple -/
def isLD : PyData → Bool
  | .list _ => true
  | _ => false
def isTD : PyData → Bool
  | .tuple _ => true
  | _ => false
theorem kit_list (d : PyData) : kitB (tyD d) "list" = some (isLD d) := by
  cases d with
  | none  => exact (show kitB "NoneType" "list" = some false by decide +kernel)
  | bool _ => exact (show kitB "bool" "list" = some false by decide +kernel)
  | int _ => exact (show kitB "int" "list" = some false by decide +kernel)
  | str _ => exact (show kitB "str" "list" = some false by decide +kernel)
  | list _ => exact (show kitB "list" "list" = some true by decide +kernel)
  | tuple _ => exact (show kitB "tuple" "list" = some false by decide +kernel)
  | dict _ => exact (show kitB "dict" "list" = some false by decide +kernel)
theorem kit_tuple (d : PyData) : kitB (tyD d) "tuple" = some (isTD d) := by
  cases d with
  | none  => exact (show kitB "NoneType" "tuple" = some false by decide +kernel)
  | bool _ => exact (show kitB "bool" "tuple" = some false by decide +kernel)
  | int _ => exact (show kitB "int" "tuple" = some false by decide +kernel)
  | str _ => exact (show kitB "str" "tuple" = some false by decide +kernel)
  | list _ => exact (show kitB "list" "tuple" = some false by decide +kernel)
  | tuple _ => exact (show kitB "tuple" "tuple" = some true by decide +kernel)
  | dict _ => exact (show kitB "dict" "tuple" = some false by decide +kernel)
theorem getneg1 {α : Type} {l : List α} {x : α} (h : l[l.length - 1]? = some x) : atI l (-1) = some x := by
  have hl : 0 < l.length := by
    have := (List.getElem?_eq_some_iff.mp h).1
    omega
  unfold atI ixN
  rw [if_neg (by decide), if_pos (by omega)]
  have e : (-1 + (l.length : Int)).toNat = l.length - 1 := by omega
  simp only [Option.bind_some]
  rw [e]
  exact h
theorem atI_nat' {α : Type} {l : List α} {i : Nat} {x : α} (h : l[i]? = some x) : atI l (i : Int) = some x := atI_nat h
end SC
namespace SC
open PySem PySem.Spec PyProof.Rows L2
theorem atE {α : Type} {l : List α} {i : Nat} {x : α} (h : l[i]? = some x) : atI l (i : Int) = some x := atI_nat h
/-! tupled -/
abbrev s_tupled : Stmt := topS 22
abbrev n_tupled : List Str := ["thing", "part"]
theorem sc_tupled : FnScope n_tupled ["thing"] (defScope s_tupled) := ⟨rfl, rfl, rfl, by decide +kernel, rfl, by decide +kernel, by decide +kernel⟩
theorem bind_tupled : BindOk "tupled" s_tupled ["thing"] := fun _ _ _ _ _ _ us hl => match us, hl with | [_], _ => rfl
def Pre_tupled (n : Nat) (ds : List PyData) (d : PyData) : Prop := ∃ x, ds = [x] ∧ depLt n x ∧ d = tupD x
theorem tupD_scal {d : PyData} (h1 : isLD d = false) (h2 : isTD d = false) : tupD d = d := by
  cases d with
  | list _ => cases h1
  | tuple _ => cases h2
  | _ => simp [tupD]
def seqD : PyData → List PyData
  | .list ds => ds
  | .tuple ds => ds
  | _ => []
theorem tupD_seq {d : PyData} (h : (isLD d || isTD d) = true) : tupD d = .tuple ((seqD d).map tupD) := by
  cases d with
  | list ds => rw [tupD, tupDs_map]; rfl
  | tuple ds => rw [tupD, tupDs_map]; rfl
  | _ => cases h
theorem dep_seq {n : Nat} {d : PyData} (h : (isLD d || isTD d) = true) (k : depLt (n + 1) d) : ∀ x ∈ seqD d, depLt n x := by
  cases d with
  | list ds => exact k.2
  | tuple ds => exact k.2
  | _ => cases h
theorem len_seq {n : Nat} {d : PyData} (h : (isLD d || isTD d) = true) (k : depLt (n + 1) d) : (seqD d).length ≤ 100000 := by
  cases d with
  | list ds => exact k.1
  | tuple ds => exact k.1
  | _ => cases h
theorem ok_tupled {M : Md} (bi : Bi M.mg) (F : DefAt M "tupled" s_tupled) : ∀ n : Nat, OkF M "tupled" ["thing"] n (spP M.K (Pre_tupled n))
  | 0 => okf_zero F bind_tupled fun ds d ⟨x, _, h, _⟩ => h
  | n + 1 => by
    have F_tupled := ok_tupled bi F n
    refine okf_pure F sc_tupled bind_tupled (fun ds d h => by obtain ⟨x, rfl, _⟩ := h; rfl) fun f cdv A outer s H E hr =>
      ⟨_, (pss_one (ps_ret (pe_ifExp (pt_val (pe_callB (kisiT M.K) (by rfl) bi.isinstance (by decide +kernel) (pa_cons (pv 0) (pa_cons (pe_tup (pa_cons (pe_bltn (v := .ty "list") (by rfl) bi.list (by decide +kernel) rfl) (pa_cons (pe_bltn (v := .ty "tuple") (by rfl) bi.tuple (by decide +kernel) rfl) pa_nil))) pa_nil)))) (pe_callTy (ktupOf M.K) (by rfl) bi.tuple (by decide +kernel) (pa_cons (pe_lc (own := [("part", 1)]) rfl sc_tupled.nd (pi_seq M.K (pv 0)) (blkOk_by (N := n_tupled) (sc := defScope s_tupled) (by decide +kernel)) (fun _ _ _ _ _ => (pg_name (i := 1) sc_tupled.nd rfl (.inl rfl))) (fun _ _ _ _ _ => pts_nil) (fun _ _ _ _ _ => (pe_fn F_tupled (hr.mono (Nat.le_refl _)) (pa_cons (pv 1) pa_nil)))) pa_nil)) (pv 0)))), fun ds d h => ?_⟩
    obtain ⟨x, rfl, hx, rfl⟩ := h
    refine ds_retD (de_if (dt_B (rc_isi2 (kit_list x) (kit_tuple x) (de_var rfl))) (fun h => ?_) fun h => ?_) rfl
    · rw [tupD_seq h]
      have hd := dep_seq h hx
      have hw : DW ⟨M.K, []⟩ (iSeq M.K (tVar 0)) (initR n_tupled [x]) (seqD x) := by
        cases x with
        | list ds => exact dw_seqL (de_var rfl)
        | tuple ds => exact dw_seqT (de_var rfl)
        | _ => cases h
      exact de_cb (da_cons (de_lcMM (js := [1]) (seqD x) id tupD (by rw [List.map_id]; exact hw) (len_seq h hx) inAll (plainR_un rfl plainR_nil) fun y hy => ⟨[y], gt_name, de_call (da_cons (de_var rfl) da_nil) ⟨y, rfl, hd y hy, rfl⟩⟩) da_nil) rc_tupL
    · rw [Bool.or_eq_false_iff] at h
      rw [tupD_scal h.1 h.2]
      exact de_var rfl
/-! set_of -/
abbrev s_set_of : Stmt := topS 23
abbrev n_set_of : List Str := ["things"]
theorem sc_set_of : FnScope n_set_of ["things"] (defScope s_set_of) := ⟨rfl, rfl, rfl, by decide +kernel, rfl, by decide +kernel, by decide +kernel⟩
def Pre_set_of (ds : List PyData) (d : PyData) : Prop := ∃ qs n, ds = [.list (qs.map dQ)] ∧ qs.length < 64 ∧ (∀ q ∈ qs, 0 ≤ q ∧ Sz n q) ∧ d = .tuple ((canonQ qs).map dQ)
theorem ok_set_of {M : Md} (bi : Bi M.mg) (F : DefAt M "set_of" s_set_of)  : OkF M "set_of" ["things"] 1 (spP M.K Pre_set_of) := by
  refine okf_pure F sc_set_of (fun _ _ _ _ _ _ us hl => match us, hl with | [_], _ => rfl) (fun ds d h => by obtain ⟨qs, n, rfl, hl, hq, rfl⟩ := h; rfl) fun f cdv A outer s H E hr =>
    ⟨_, (pss_one (ps_ret (pe_callTy (ktupOf M.K) (by rfl) bi.tuple (by decide +kernel) (pa_cons (pe_callB (ksorted M.K M.P M.w) (by rfl) bi.sorted (by decide +kernel) (pa_cons (pe_callTy (kset M.K M.P M.w hr) (by rfl) bi.set (by decide +kernel) (pa_cons (pv 0) pa_nil)) pa_nil)) pa_nil)))), fun ds d h => ?_⟩
  obtain ⟨qs, n, rfl, hl, hq, rfl⟩ := h
  exact ds_retD (de_cb (da_cons (de_sortsetQ n (de_var rfl) hl hq) da_nil) rc_tupL) rfl
/-! places_in_order -/
abbrev s_places_in_order : Stmt := topS 20
abbrev n_places_in_order : List Str := ["points", "common", "point", "one", "rows", "top", "row"]
theorem sc_places_in_order : FnScope n_places_in_order ["points"] (defScope s_places_in_order) := ⟨rfl, rfl, rfl, by decide +kernel, rfl, by decide +kernel, by decide +kernel⟩
def Pre_places_in_order (ds : List PyData) (d : PyData) : Prop := ∃ ps : List (Rat × Rat), ds = [.list (ps.map dP)] ∧ ps.length ≤ 16 ∧ (∀ p ∈ ps, 0 ≤ p.1 ∧ 0 ≤ p.2 ∧ Sz 40 p.1 ∧ Sz 40 p.2) ∧ d = .list ((placesQ ps).map dP)
theorem ok_places_in_order {M : Md} (bi : Bi M.mg) (F : DefAt M "places_in_order" s_places_in_order) (F_part_of : OkF M "part_of" ["top", "bottom"] 1 (spP M.K Pre_part)) : OkF M "places_in_order" ["points"] 2 (spP M.K Pre_places_in_order) := by
  refine okf_pure F sc_places_in_order (fun _ _ _ _ _ _ us hl => match us, hl with | [_], _ => rfl) (fun ds d h => by obtain ⟨ps, rfl, hl, hp, rfl⟩ := h; rfl) fun f cdv A outer s H E hr =>
    ⟨_, (pss_cons (ps_set (i := 1) sc_places_in_order.nd rfl (by first | exact .inl rfl | exact .inr rfl) pe_int)
      (pss_cons (ps_for PassesOwn.never rfl (piL M.K (pv 0)) (pg_name (i := 2) sc_places_in_order.nd rfl (by first | exact .inl rfl | exact .inr rfl)) (pss_one (ps_for PassesOwn.never rfl (piT M.K (pv 2)) (pg_name (i := 3) sc_places_in_order.nd rfl (by first | exact .inl rfl | exact .inr rfl)) (pss_one (ps_set (i := 1) sc_places_in_order.nd rfl (by first | exact .inl rfl | exact .inr rfl) (pe_op op_mulW (pe_op op_fdivX (pv 1) (pe_callBfun cr_gcd (by rfl) bi.gcd (pa_cons (pv 1) (pa_cons (pe_ix (kixT M.K) (pv 3) pe_int (fun _ _ => rfl)) pa_nil)))) (pe_ix (kixT M.K) (pv 3) pe_int (fun _ _ => rfl))))))))
      (pss_cons (ps_set (i := 4) sc_places_in_order.nd rfl (by first | exact .inl rfl | exact .inr rfl) (pe_callB (ksorted M.K M.P M.w) (by rfl) bi.sorted (by decide +kernel) (pa_cons (pe_callTy (kset M.K M.P M.w hr) (by rfl) bi.set (by decide +kernel) (pa_cons (pe_lc (own := [("point", 2)]) rfl sc_places_in_order.nd (piL M.K (pv 0)) (blkOk_by (N := n_places_in_order) (sc := defScope s_places_in_order) (by decide +kernel)) (fun _ _ _ _ _ => (pg_name (i := 2) sc_places_in_order.nd rfl (by first | exact .inl rfl | exact .inr rfl))) (fun _ _ _ _ _ => pts_nil) (fun _ _ _ _ _ => (pe_callTy (ktupOf M.K) (by rfl) bi.tuple (by decide +kernel) (pa_cons (pe_lc (own := [("one", 3)]) rfl sc_places_in_order.nd (piT M.K (pv 2)) (blkOk_by (N := n_places_in_order) (sc := relS _ (defScope s_places_in_order)) (by decide +kernel)) (fun _ _ _ _ _ => (pg_name (i := 3) sc_places_in_order.nd rfl (by first | exact .inl rfl | exact .inr rfl))) (fun _ _ _ _ _ => pts_nil) (fun _ _ _ _ _ => (pe_op op_mulW (pe_ix (kixT M.K) (pv 3) pe_int (fun _ _ => rfl)) (pe_op op_fdivX (pv 1) (pe_ix (kixT M.K) (pv 3) pe_int (fun _ _ => rfl)))))) pa_nil)))) pa_nil)) pa_nil)))
      (pss_one (ps_ret (pe_lc (own := [("row", 6)]) rfl sc_places_in_order.nd (piL M.K (pv 4)) (blkOk_by (N := n_places_in_order) (sc := defScope s_places_in_order) (by decide +kernel)) (fun _ _ _ _ _ => (pg_name (i := 6) sc_places_in_order.nd rfl (by first | exact .inl rfl | exact .inr rfl))) (fun _ _ _ _ _ => pts_nil) (fun _ _ _ _ _ => (pe_callTy (ktupOf M.K) (by rfl) bi.tuple (by decide +kernel) (pa_cons (pe_lc (own := [("top", 5)]) rfl sc_places_in_order.nd (piT M.K (pv 6)) (blkOk_by (N := n_places_in_order) (sc := relS _ (defScope s_places_in_order)) (by decide +kernel)) (fun _ _ _ _ _ => (pg_name (i := 5) sc_places_in_order.nd rfl (by first | exact .inl rfl | exact .inr rfl))) (fun _ _ _ _ _ => pts_nil) (fun _ _ _ _ _ => (pe_fn F_part_of (hr.mono (by decide)) (pa_cons (pv 5) (pa_cons (pv 1) pa_nil))))) pa_nil))))))))), fun ds d h => ?_⟩
  obtain ⟨ps, rfl, hl, hp, rfl⟩ := h
  have hden : ∀ (qs : List (Rat × Rat)), (∀ p ∈ qs, p ∈ ps) → ∀ q ∈ flatP qs, q.den < 2 ^ 40 := fun qs hqs q hq => by
    obtain ⟨p, h1, h2⟩ := mem_flatP.mp hq
    obtain ⟨_, _, z1, z2⟩ := hp p (hqs p h1)
    rcases h2 with rfl | rfl
    · exact z1.2
    · exact z2.2
  have hbig : ∀ (qs : List Rat), qs.length ≤ 32 → (∀ q ∈ qs, q.den < 2 ^ 40) → lcmF 1 qs < 2 ^ 1400 := fun qs h1 h2 => by
    have h3 := lcmF_le qs (c := 1) (n := 40) h2
    refine Nat.lt_of_le_of_lt h3 ?_
    rw [Nat.one_mul]
    exact Nat.pow_lt_pow_right (by decide) (by omega)
  refine ds_seq (ds_asgD de_int ?_)
  -- the loops
  refine ds_seq (ds_forD (js := [2]) (fun i ρ' => ∃ s2 s3, ρ' = [.dat (.list (ps.map dP)), .dat (.int ((lcmF 1 (flatP (ps.take i)) : Nat) : Int)), s2, s3, .un, .un, .un]) (dw_list (de_var rfl)) ⟨.un, .un, rfl⟩ (fun i y ρ' ey iv => ?_) fun ρ' iv => ?_)
  · obtain ⟨s2, s3, rfl⟩ := iv
    rw [List.getElem?_map] at ey
    obtain ⟨p, ep, rfl⟩ := Option.map_eq_some_iff.mp ey
    have hpm : p ∈ ps := List.mem_of_getElem? ep
    have et : ps.take (i + 1) = ps.take i ++ [p] := by rw [List.take_add_one, ep]; rfl
    have ef : flatP (ps.take (i + 1)) = flatP (ps.take i) ++ [p.1, p.2] := by rw [et]; unfold flatP; simp
    have hlen : (flatP (ps.take i)).length ≤ 32 - 2 := by
      have : ∀ l : List (Rat × Rat), (flatP l).length = 2 * l.length := fun l => by
        induction l with
        | nil => rfl
        | cons a l ih =>
          show (a.1 :: a.2 :: flatP l).length = _
          simp only [List.length_cons, ih]
          omega
      rw [this, List.length_take]
      have hi : i < ps.length := (List.getElem?_eq_some_iff.mp ep).1
      omega
    have hsub : ∀ q ∈ ps.take i, q ∈ ps := fun q hq => List.mem_of_mem_take hq
    refine ⟨[dP p], gt_name, ?_⟩
    refine ds_forD (js := [3]) (fun j ρ' => ∃ s3, ρ' = [.dat (.list (ps.map dP)), .dat (.int ((lcmF 1 (flatP (ps.take i) ++ [p.1, p.2].take j) : Nat) : Int)), .dat (dP p), s3, .un, .un, .un]) (dw_tup (ds := [p.1, p.2].map dQ) (de_var rfl)) ⟨s3, by simp [setd]⟩ (fun j z ρ' ez iv => ?_) fun ρ' iv => ?_
    · obtain ⟨s3', rfl⟩ := iv
      rw [List.getElem?_map] at ez
      obtain ⟨q, eq, rfl⟩ := Option.map_eq_some_iff.mp ez
      have hj : j < 2 := (List.getElem?_eq_some_iff.mp eq).1
      have hqm : q = p.1 ∨ q = p.2 := by
        have := List.mem_of_getElem? eq
        simpa using this
      have zq : Sz 40 q := by
        obtain ⟨_, _, z1, z2⟩ := hp p hpm
        rcases hqm with rfl | rfl
        · exact z1
        · exact z2
      have hds : ∀ r ∈ flatP (ps.take i) ++ [p.1, p.2].take j, r.den < 2 ^ 40 := fun r hr => by
        rcases List.mem_append.mp hr with hr | hr
        · exact hden _ hsub r hr
        · have := List.mem_of_mem_take hr
          obtain ⟨_, _, z1, z2⟩ := hp p hpm
          simp at this
          rcases this with rfl | rfl
          · exact z1.2
          · exact z2.2
      have hc := hbig (flatP (ps.take i) ++ [p.1, p.2].take j) (by rw [List.length_append, List.length_take]; simp only [List.length_cons, List.length_nil]; omega) hds
      have hc0 : 0 < lcmF 1 (flatP (ps.take i) ++ [p.1, p.2].take j) := lcmF_pos _ (by decide)
      have et2 : lcmF 1 (flatP (ps.take i) ++ [p.1, p.2].take (j + 1)) = stepL (lcmF 1 (flatP (ps.take i) ++ [p.1, p.2].take j)) q.den := by
        rw [List.take_add_one, eq, ← List.append_assoc]
        unfold lcmF
        rw [List.foldl_append]
        rfl
      generalize hcc : lcmF 1 (flatP (ps.take i) ++ [p.1, p.2].take j) = c at *
      have hg : Nat.gcd c q.den < 2 ^ 1400 := Nat.lt_of_le_of_lt (Nat.gcd_le_left _ hc0) hc
      have hg0 : 0 < Nat.gcd c q.den := Nat.gcd_pos_of_pos_left _ hc0
      have hdv : c / Nat.gcd c q.den ≤ c := Nat.div_le_self _ _
      have efd : ((c : Nat) : Int).fdiv ((Nat.gcd ((c : Nat) : Int).natAbs ((q.den : Nat) : Int).natAbs : Nat) : Int) = ((c / Nat.gcd c q.den : Nat) : Int) := by
        rw [Int.natAbs_natCast, Int.natAbs_natCast, Int.fdiv_eq_ediv_of_nonneg _ (by omega), Int.natCast_ediv]
      refine ⟨[dQ q], gt_name, ds_asgD (de_op (de_op (de_var rfl) (de_cb (da_cons (de_var rfl) (da_cons (de_den (de_var rfl)) da_nil)) rc_gcd) (rd_I (divx (b := 1400) ?_ ?_ (by decide) (by decide)))) (de_den (de_var rfl)) (rd_I (wide_mul (a := 1400) (b := 40) ?_ (by rw [Int.natAbs_natCast]; exact zq.2) (by decide) (by decide) (by decide)))) ?_⟩
      · rw [Int.natAbs_natCast, Int.natAbs_natCast]; omega
      · rw [Int.natAbs_natCast, Int.natAbs_natCast, Int.natAbs_natCast]; exact hg
      · rw [efd, Int.natAbs_natCast]; exact Nat.lt_of_le_of_lt hdv hc
      · refine ⟨.dat (dQ q), ?_⟩
        rw [efd, et2]
        unfold stepL
        rw [Int.natCast_mul]
        rfl
    · obtain ⟨s3', rfl⟩ := iv
      refine ⟨.dat (dP p), s3', ?_⟩
      rw [ef]
      rfl
  · obtain ⟨s2, s3, rfl⟩ := iv
    have ec : lcmF 1 (flatP (ps.take (ps.map dP).length)) = lcmL ps := by
      rw [List.length_map, List.take_length]
      unfold lcmL
      rw [lcmL_flat]
    rw [ec]
    have hL : lcmL ps < 2 ^ 1400 := by
      rw [← ec, List.length_map, List.take_length]
      refine hbig _ ?_ (hden ps fun _ h => h)
      have : ∀ l : List (Rat × Rat), (flatP l).length = 2 * l.length := fun l => by
        induction l with
        | nil => rfl
        | cons a l ih =>
          show (a.1 :: a.2 :: flatP l).length = _
          simp only [List.length_cons, ih]
          omega
      rw [this]
      omega
    have hL0 := lcmL_pos ps
    refine ds_forget 2 (ds_forget 3 ?_)
    have hrow : ∀ p ∈ ps, ∀ q, (q = p.1 ∨ q = p.2) → CMulW q.num (((lcmL ps : Nat) : Int).fdiv ((q.den : Nat) : Int)) ∧ q.num * ((lcmL ps : Nat) : Int).fdiv ((q.den : Nat) : Int) = q.num * ((lcmL ps / q.den : Nat) : Int) ∧ 0 ≤ q.num * ((lcmL ps / q.den : Nat) : Int) ∧ q.num * ((lcmL ps / q.den : Nat) : Int) < 2 ^ 1500 ∧ Sz 40 q := fun p hpm q hq => by
      obtain ⟨n1, n2, z1, z2⟩ := hp p hpm
      have zq : Sz 40 q ∧ 0 ≤ q := by
        rcases hq with rfl | rfl
        · exact ⟨z1, n1⟩
        · exact ⟨z2, n2⟩
      have e : ((lcmL ps : Nat) : Int).fdiv ((q.den : Nat) : Int) = ((lcmL ps / q.den : Nat) : Int) := by
        rw [Int.fdiv_eq_ediv_of_nonneg _ (by omega), Int.natCast_ediv]
      have hd : lcmL ps / q.den < 2 ^ 1400 := Nat.lt_of_le_of_lt (Nat.div_le_self _ _) hL
      have hn := Rat.num_nonneg.mpr zq.2
      refine ⟨?_, by rw [e], Int.mul_nonneg hn (Int.natCast_nonneg _), ?_, zq.1⟩
      · rw [e]
        exact wide_mul (a := 40) (b := 1400) zq.1.1 (by rw [Int.natAbs_natCast]; exact hd) (by decide) (by decide) (by decide)
      · have h3 : (q.num * ((lcmL ps / q.den : Nat) : Int)).natAbs < 2 ^ (40 + 1400) := by
          rw [Int.natAbs_mul, Int.natAbs_natCast]
          exact two_mul_lt zq.1.1 hd
        have h4 : (2 : Nat) ^ (40 + 1400) ≤ 2 ^ 1500 := Nat.pow_le_pow_right (by decide) (by decide)
        have h5 := Int.mul_nonneg hn (Int.natCast_nonneg (lcmL ps / q.den))
        have h6 : ((2 ^ 1500 : Nat) : Int) = (2 : Int) ^ 1500 := by rw [Int.natCast_pow]; rfl
        omega
    -- rows
    have krows : ∀ {Cc : Cn} {r : Rho} {te : TE} {Pr : Program} {w : World}, DE Cc te r (.list ((ps.map (rowL (lcmL ps))).map tupI)) → DE Cc (tCB (rSortedT Cc.K Pr w) (tCons (tCB (rSetOfT Cc.K Pr w) (tCons te tNil)) tNil)) r (.list ((canonI (ps.map (rowL (lcmL ps)))).map tupI)) := fun h =>
      de_sortset (d := 2) (Bd := 2 ^ 1500) h (by rw [List.length_map]; omega) (by decide) fun k hk => by
        obtain ⟨p, hpm, rfl⟩ := List.mem_map.mp hk
        refine ⟨rfl, fun m hm => ?_⟩
        have hm' : m = p.1.num * ((lcmL ps / p.1.den : Nat) : Int) ∨ m = p.2.num * ((lcmL ps / p.2.den : Nat) : Int) := by simpa [rowL] using hm
        rcases hm' with rfl | rfl
        · exact ⟨(hrow p hpm _ (.inl rfl)).2.2.1, (hrow p hpm _ (.inl rfl)).2.2.2.1⟩
        · exact ⟨(hrow p hpm _ (.inr rfl)).2.2.1, (hrow p hpm _ (.inr rfl)).2.2.2.1⟩
    refine ds_seq (ds_asgD (krows ?_) ?_)
    · rw [List.map_map]
      refine de_lcMM (js := [2]) ps dP _ (dw_list (de_var rfl)) (by omega) inAll (plainR_un rfl plainR_nil) fun p hpm => ⟨[dP p], gt_name, ?_⟩
      refine de_cb (da_cons (de_lcMM (js := [3]) [p.1, p.2] dQ (fun q => .int (q.num * ((lcmL ps / q.den : Nat) : Int))) (dw_tup (de_var rfl)) (Nat.le_of_ble_eq_true rfl) inAll (plainR_un rfl plainR_nil) fun q hq => ⟨[dQ q], gt_name, ?_⟩) da_nil) rc_tupL
      have hq' : q = p.1 ∨ q = p.2 := by simpa using hq
      obtain ⟨h1, h2, _, _, zq⟩ := hrow p hpm q hq'
      exact (de_op (de_num (de_var rfl)) (de_op (de_var rfl) (de_den (de_var rfl)) (rd_I (divx (b := 40) (den_int_ne q) (by rw [Int.natAbs_natCast]; exact zq.2) (by decide) (by decide)))) (rd_I h1)).cast (by rw [h2])
    · refine ds_retD (de_lcMM (js := [6]) (canonI (ps.map (rowL (lcmL ps)))) tupI (fun k => dP (unrow (lcmL ps) k)) (dw_list (de_var rfl)) ?_ inAll (plainR_un rfl plainR_nil) fun k hk => ⟨[tupI k], gt_name, ?_⟩) ?_
      · have := canonI_len (ps.map (rowL (lcmL ps)))
        rw [List.length_map] at this
        omega
      · obtain ⟨p, hpm, rfl⟩ := List.mem_map.mp (mem_canonI.mp hk)
        refine de_cb (da_cons (de_lcMM (js := [5]) (rowL (lcmL ps) p) PyData.int (fun a => dQ (Rat.divInt a ((lcmL ps : Nat) : Int))) (dw_tup (de_var rfl)) (by show 2 ≤ 100000; decide) inAll (plainR_un rfl plainR_nil) fun a ha => ⟨[.int a], gt_name, ?_⟩) da_nil) rc_tupL
        refine de_call (da_cons (de_var rfl) (da_cons (de_var rfl) da_nil)) ⟨a, _, rfl, by omega, ?_, rfl⟩
        rw [Int.natAbs_natCast]
        exact Nat.lt_of_lt_of_le hL (Nat.pow_le_pow_right (by decide) (by decide))
      · unfold placesQ
        rw [List.map_map]
        rfl
end SC
namespace SC
open PySem PySem.Spec PyProof.Rows L2

theorem find_at {α : Type} {p : α → Bool} {l : List α} {i : Nat} {x : α} (h : l[i]? = some x) (no : ∀ v ∈ l.take i, p v = false) (yes : p x = true) : l.find? p = some x := by
  have e : l = l.take i ++ x :: l.drop (i + 1) := by
    have hi : i < l.length := (List.getElem?_eq_some_iff.mp h).1
    have hx := (List.getElem?_eq_some_iff.mp h).2
    rw [← hx, List.getElem_cons_drop, List.take_append_drop]
  rw [e, List.find?_append, List.find?_eq_none.mpr fun v hv => by rw [no v hv]; simp]
  simp [yes]
theorem take_snoc {α : Type} {l : List α} {i : Nat} {x : α} (h : l[i]? = some x) : l.take (i + 1) = l.take i ++ [x] := by rw [List.take_add_one, h]; rfl
theorem mem_take_snoc {α : Type} {l : List α} {i : Nat} {x y : α} (h : l[i]? = some x) (hy : y ∈ l.take (i + 1)) : y ∈ l.take i ∨ y = x := by
  rw [take_snoc h] at hy
  simpa using hy
theorem MOk.ph {lead ph : Rat} {m : Mo} (hl : Sz 40 lead) (hp : Sz 40 ph) (hm : MOk m) : Sz 322 (ph + (m.1 - lead * m.2)) := hp.add (hm.z1.sub (hl.mul hm.z2))
/-! phase_at -/
abbrev s_phase_at : Stmt := topS 25
abbrev n_phase_at : List Str := ["lead", "phase", "motion"]
theorem sc_phase_at : FnScope n_phase_at ["lead", "phase", "motion"] (defScope s_phase_at) := ⟨rfl, rfl, rfl, by decide +kernel, rfl, by decide +kernel, by decide +kernel⟩
def Pre_phase_at (ds : List PyData) (d : PyData) : Prop := ∃ lead ph m, ds = [dQ lead, dQ ph, dP m] ∧ Sz 40 lead ∧ Sz 40 ph ∧ lead ≠ 0 ∧ MOk m ∧ d = dQ (phaseQ lead ph m)
theorem ok_phase_at {M : Md} (bi : Bi M.mg) (F : DefAt M "phase_at" s_phase_at) (F_round_by : OkF M "round_by" ["one", "other"] 4 (spP M.K Pre_round_by)) (F_part_plus : OkF M "part_plus" ["one", "other"] 2 (spP M.K Pre_part_plus)) (F_part_less : OkF M "part_less" ["one", "other"] 3 (spP M.K Pre_part_less)) (F_part_times : OkF M "part_times" ["one", "other"] 2 (spP M.K Pre_part_times)) : OkF M "phase_at" ["lead", "phase", "motion"] 5 (spP M.K Pre_phase_at) := by
  refine okf_pure F sc_phase_at (fun _ _ _ _ _ _ us hl => match us, hl with | [_, _, _], _ => rfl) (fun ds d h => by obtain ⟨lead, ph, m, rfl, hl, hp, h0, hm, rfl⟩ := h; rfl) fun f cdv A outer s H E hr =>
    ⟨_, (pss_one (ps_ret (pe_fn F_round_by (hr.mono (by decide)) (pa_cons (pe_fn F_part_plus (hr.mono (by decide)) (pa_cons (pv 1) (pa_cons (pe_fn F_part_less (hr.mono (by decide)) (pa_cons (pe_ix (kixT M.K) (pv 2) pe_int (fun _ _ => rfl)) (pa_cons (pe_fn F_part_times (hr.mono (by decide)) (pa_cons (pv 0) (pa_cons (pe_ix (kixT M.K) (pv 2) pe_int (fun _ _ => rfl)) pa_nil))) pa_nil))) pa_nil))) (pa_cons (pv 0) pa_nil))))), fun ds d h => ?_⟩
  obtain ⟨lead, ph, m, rfl, hl, hp, h0, hm, rfl⟩ := h
  refine ds_retD (de_call (da_cons (de_call (da_cons (de_var rfl) (da_cons (de_call (da_cons (de_op (de_var rfl) de_int (rd_ixT rfl)) (da_cons (de_call (da_cons (de_var rfl) (da_cons (de_op (de_var rfl) de_int (rd_ixT rfl)) da_nil)) ⟨lead, m.2, rfl, hl.mono (by decide), hm.z2.mono (by decide), rfl⟩) da_nil))
    ⟨m.1, lead * m.2, rfl, hm.z1.mono (by decide), (hl.mul hm.z2).mono (by decide), rfl⟩) da_nil)) ⟨ph, m.1 - lead * m.2, rfl, hp.mono (by decide), (hm.z1.sub (hl.mul hm.z2)).mono (by decide), rfl⟩) (da_cons (de_var rfl) da_nil))
    ⟨ph + (m.1 - lead * m.2), lead, rfl, (hm.ph hl hp).mono (by decide), hl.mono (by decide), h0, rfl⟩) rfl
/-! ways_along -/
abbrev s_ways_along : Stmt := topS 26
abbrev n_ways_along : List Str := ["bar", "lead", "phase", "height", "line", "found", "start", "end", "own"]
theorem sc_ways_along : FnScope n_ways_along ["bar", "lead", "phase", "height"] (defScope s_ways_along) := ⟨rfl, rfl, rfl, by decide +kernel, rfl, by decide +kernel, by decide +kernel⟩
def Pre_ways_along (ds : List PyData) (d : PyData) : Prop := ∃ b lead ph h, ds = [dBar b, dQ lead, dQ ph, .int h] ∧ BOk b ∧ d = .list ((waysQ b lead ph h).map dP)
theorem ok_ways_along {M : Md} (bi : Bi M.mg) (F : DefAt M "ways_along" s_ways_along) (F_places_in_order : OkF M "places_in_order" ["points"] 2 (spP M.K Pre_places_in_order)) (F_at_most : OkF M "at_most" ["one", "other"] 1 (spP M.K Pre_at_most)) (F_upper : OkF M "upper" ["one", "other"] 2 (spP M.K Pre_upper)) : OkF M "ways_along" ["bar", "lead", "phase", "height"] 3 (spP M.K Pre_ways_along) := by
  refine okf_pure F sc_ways_along (fun _ _ _ _ _ _ us hl => match us, hl with | [_, _, _, _], _ => rfl) (fun ds d h => by obtain ⟨b, lead, ph, h, rfl, hb, rfl⟩ := h; rfl) fun f cdv A outer s H E hr =>
    ⟨_, (pss_cons (ps_set (i := 4) sc_ways_along.nd rfl (by first | exact .inl rfl | exact .inr rfl) (pe_tup (pa_cons pe_str (pa_cons (pv 1) (pa_cons (pv 2) pa_nil)))))
      (pss_cons (ps_set (i := 5) sc_ways_along.nd rfl (by first | exact .inl rfl | exact .inr rfl) (pe_lst pa_nil))
      (pss_cons (ps_for PassesOwn.never rfl (piL M.K (pe_fn F_places_in_order (hr.mono (by decide)) (pa_cons (pe_lc (own := [("own", 8)]) rfl sc_ways_along.nd (piT M.K (pe_ix (kixT M.K) (pv 0) pe_int (fun _ _ => rfl))) (blkOk_by (N := n_ways_along) (sc := defScope s_ways_along) (by decide +kernel)) (fun _ _ _ _ _ => (pg_name (i := 8) sc_ways_along.nd rfl (by first | exact .inl rfl | exact .inr rfl))) (fun _ _ _ _ _ => (pts_one (PW.pt (pw_and (pt_cmpR (keqD M.K hr) (pe_ix (kixT M.K) (pv 8) pe_int (fun _ _ => rfl)) (pv 4) (nomark _)) (pw_and1 (pt_cmpR op_ge (pe_ix (kixT M.K) (pv 8) pe_int (fun _ _ => rfl)) (pv 3) (nomark _))))))) (fun _ _ _ _ _ => (pe_slice (kslT M.K) (pv 8) (po_some pe_int) (po_some pe_int)))) pa_nil))) (pgT M.K 2 (pgs_cons (pg_name (i := 6) sc_ways_along.nd rfl (by first | exact .inl rfl | exact .inr rfl)) (pgs_cons (pg_name (i := 7) sc_ways_along.nd rfl (by first | exact .inl rfl | exact .inr rfl)) pgs_nil))) (pss_one (ps_if (PW.pt (pw_and (pt_cmpR op_gt (pe_callB (klen M.K) (by rfl) bi.len PySem.boot_len (pa_cons (pv 5) pa_nil)) pe_int (nomark _)) (pw_and1 (pt_val (pe_fn F_at_most (hr.mono (by decide)) (pa_cons (pv 6) (pa_cons (pe_ix (kixT M.K) (pe_ix (kixL M.K) (pv 5) (pe_un un_neg pe_int) (fun _ _ => rfl)) pe_int (fun _ _ => rfl)) pa_nil))))))) (pss_one (ps_asg (pe_tup (pa_cons (pe_ix (kixT M.K) (pe_ix (kixL M.K) (pv 5) (pe_un un_neg pe_int) (fun _ _ => rfl)) pe_int (fun _ _ => rfl)) (pa_cons (pe_fn F_upper (hr.mono (by decide)) (pa_cons (pe_ix (kixT M.K) (pe_ix (kixL M.K) (pv 5) (pe_un un_neg pe_int) (fun _ _ => rfl)) pe_int (fun _ _ => rfl)) (pa_cons (pv 7) pa_nil))) pa_nil))) (pg_sub (pv 5) (pe_un un_neg pe_int) set_list))) (pss_one (ps_expr (kapp M.K (pv 5) (pe_tup (pa_cons (pv 6) (pa_cons (pv 7) pa_nil)))))))))
      (pss_one (ps_ret (pv 5)))))), fun ds d h => ?_⟩
  obtain ⟨b, lead, ph, h, rfl, hb, rfl⟩ := h
  refine ds_seq (ds_asgD ((de_tup (da_cons de_str (da_cons (de_var rfl) (da_cons (de_var rfl) da_nil)))).cast (e := dLine (.lead lead ph)) rfl) ?_)
  refine ds_seq (ds_asgOwnD da_nil (Nat.zero_le _) ?_)
  have hfit : ∀ p ∈ (b.gs.filter (fitG lead ph h)).map (fun g => (g.s, g.e)), 0 ≤ p.1 ∧ 0 ≤ p.2 ∧ Sz 40 p.1 ∧ Sz 40 p.2 := fun p hp => by
    obtain ⟨g, hg, _, _, rfl⟩ := fit_mem.mp hp
    have k := hb.all g hg
    exact ⟨k.s0, Rat.le_trans k.s0 k.se, k.zs, k.ze⟩
  have hfew : ((b.gs.filter (fitG lead ph h)).map (fun g => (g.s, g.e))).length ≤ 16 := by
    rw [List.length_map]
    exact Nat.le_trans (List.length_filter_le _ _) hb.few
  have hR := waysQ_ok hb lead ph h
  generalize hps : (b.gs.filter (fitG lead ph h)).map (fun g => (g.s, g.e)) = ps at *
  have hle : ∀ p ∈ placesQ ps, p.1 ≤ p.2 := fun p hp => by
    have := mem_placesQ.mp hp
    rw [← hps] at this
    obtain ⟨g, hg, _, _, rfl⟩ := fit_mem.mp this
    exact (hb.all g hg).se
  have hsz : ∀ i, ∀ w ∈ ((placesQ ps).take i).foldl mstep [], Sz 40 w.1 ∧ Sz 40 w.2 := fun i => by
    have k := mergeOk ((placesQ ps).take i) [] [] ⟨fun _ h => (nomatch h), fun _ => Iff.rfl, .nil, fun _ h => (nomatch h), fun _ _ _ h => (nomatch h), Nat.le_refl _⟩ (fun p hp => hle p (List.mem_of_mem_take hp)) (by simpa using (placesQ_sorted ps).sublist (List.take_sublist i _))
    refine k.sz 40 fun p hp => ?_
    simp only [List.nil_append] at hp
    have := hfit p (mem_placesQ.mp (List.mem_of_mem_take hp))
    exact ⟨this.2.2.1, this.2.2.2⟩
  have hlen : ∀ i, (((placesQ ps).take i).foldl mstep []).length ≤ 16 := fun i => by
    have k := mergeOk ((placesQ ps).take i) [] [] ⟨fun _ h => (nomatch h), fun _ => Iff.rfl, .nil, fun _ h => (nomatch h), fun _ _ _ h => (nomatch h), Nat.le_refl _⟩ (fun p hp => hle p (List.mem_of_mem_take hp)) (by simpa using (placesQ_sorted ps).sublist (List.take_sublist i _))
    have k2 := k.len
    have := placesQ_len ps
    simp only [List.nil_append, List.length_take] at k2
    omega
  refine ds_seq (ds_forD (js := [6, 7]) (fun i ρ' => ∃ s6 s7, ρ' = [.dat (dBar b), .dat (dQ lead), .dat (dQ ph), .dat (.int h), .dat (dLine (.lead lead ph)), .own ((((placesQ ps).take i).foldl mstep []).map dP), s6, s7, .un])
    (dw_list (ds := (placesQ ps).map dP) (de_call (da_cons (de_lcF (js := [8]) b.gs dG (fitG lead ph h) (fun g => dP (g.s, g.e)) (dw_tup (de_op (de_var rfl) de_int (rd_ixT rfl))) (by have := hb.few; omega) inAll (plainR_un rfl plainR_nil) fun g hg => ⟨[dG g], gt_name, ?_, fun hg2 => ?_⟩) da_nil) ⟨ps, ?_, hfew, hfit, rfl⟩)) ⟨.un, .un, rfl⟩ (fun i y ρ' ey iv => ?_) fun ρ' iv => ?_)
  · refine (dt_and (dt_test (de_op (de_op (de_var rfl) de_int (rd_ixT rfl)) (de_var rfl) (rd_eqD (shp_dLine g.line) (shp_dLine (.lead lead ph))))) fun _ => dt_test (de_op (de_op (de_var rfl) de_int (rd_ixT rfl)) (de_var rfl) rd_B0)).cast ?_
    rw [eqv_dLine]
    rfl
  · exact (de_slT (de_var rfl) (ox_part de_int) (ox_part de_int)).cast rfl
  · rw [← hps, List.map_map]
    rfl
  · obtain ⟨s6, s7, rfl⟩ := iv
    rw [List.getElem?_map] at ey
    obtain ⟨p, ep, rfl⟩ := Option.map_eq_some_iff.mp ey
    have hpz := hfit p (mem_placesQ.mp (List.mem_of_getElem? ep))
    have et : ((placesQ ps).take (i + 1)).foldl mstep [] = mstep (((placesQ ps).take i).foldl mstep []) p := by
      rw [List.take_add_one, ep, List.foldl_append]
      rfl
    have hz := hsz i
    have hln := hlen i
    generalize hF : ((placesQ ps).take i).foldl mstep [] = found at *
    refine ⟨[dQ p.1, dQ p.2], gt_tup (.cons 6 (.cons 7 .nil)) rfl rfl, ?_⟩
    have hlenT : DT ⟨M.K, []⟩ (tTest (tOp (rI0 fun i j => .bl (decide (j < i))) (tCB (rLenQ M.K) (tCons (tVar 5) tNil)) (tC (.int 0)))) (setd [.dat (dBar b), .dat (dQ lead), .dat (dQ ph), .dat (.int h), .dat (dLine (.lead lead ph)), .own (found.map dP), s6, s7, .un] [6, 7] [dQ p.1, dQ p.2]) (decide ((0 : Int) < ((found.map dP).length : Nat))) :=
      dt_look (i := 5) rfl (dt_test (de_op (de_cb (da_cons (de_var rfl) da_nil) rc_lenL) de_int rd_B0))
    cases hlast : found[found.length - 1]? with
    | none =>
      have hf : found = [] := by
        have := List.getElem?_eq_none_iff.mp hlast
        rcases found with _ | ⟨a, l⟩
        · rfl
        · simp only [List.length_cons] at this
          omega
      subst hf
      refine ds_if ((dt_and (b := false) hlenT (fun z => absurd z (by decide))).of ⟨fun z => absurd z (by decide), fun _ => ?_⟩)
      refine ds_appendD (i := 5) rfl (de_tup (da_cons (de_var rfl) (da_cons (de_var rfl) da_nil))) (by show 0 < 100000; decide) ?_
      refine ⟨.dat (dQ p.1), .dat (dQ p.2), ?_⟩
      rw [et]
      rfl
    | some q =>
      have hq := hz q (List.mem_of_getElem? hlast)
      have hatD : atI (found.map dP) (-1) = some (dP q) := getneg1 (by rw [List.length_map, List.getElem?_map, hlast]; rfl)
      have hne : 0 < found.length := by
        have := (List.getElem?_eq_some_iff.mp hlast).1
        omega
      have hlen1 : decide ((0 : Int) < ((found.map dP).length : Nat)) = true := by
        refine decide_eq_true ?_
        rw [List.length_map]
        omega
      have kq : ∀ {r : Rho}, r[5]? = some (.own (found.map dP)) → DE ⟨M.K, []⟩ (tOp (rIxL M.K) (tVar 5) (tUn (rU fun i => .int (-i)) (tC (.int 1)))) r (dP q) := fun hr => de_ixOwn hr (de_un de_int ru_int) hatD
      refine ds_if ((dt_and hlenT fun _ => dt_B (de_call (da_cons (de_var rfl) (da_cons (de_op (kq rfl) de_int (rd_ixT rfl)) da_nil)) ⟨p.1, q.2, rfl, hpz.2.2.1.mono (by decide), hq.2.mono (by decide), rfl⟩)).of ⟨fun z => ?_, fun z => ?_⟩)
      · rw [hlen1, Bool.true_and] at z
        have z := of_decide_eq_true z
        refine ds_setitem (i := 5) (k := -1) (j := found.length - 1) (d := dP (q.1, if q.2 ≤ p.2 then p.2 else q.2)) rfl (de_tup (da_cons (de_op (kq rfl) de_int (rd_ixT rfl)) (da_cons (de_call (da_cons (de_op (kq rfl) de_int (rd_ixT rfl)) (da_cons (de_var rfl) da_nil)) ⟨q.2, p.2, rfl, hq.2.mono (by decide), hpz.2.2.2.mono (by decide), rfl⟩) da_nil))) (de_un de_int ru_int) ?_ ?_
        · unfold ixN
          rw [if_neg (by decide), if_pos (by rw [List.length_map]; omega)]
          congr 1
          rw [List.length_map]
          omega
        · refine ⟨.dat (dQ p.1), .dat (dQ p.2), ?_⟩
          rw [et]
          unfold mstep
          rw [hlast]
          simp only [if_pos z, List.map_set]
          rfl
      · rw [hlen1, Bool.true_and] at z
        have z := of_decide_eq_false z
        refine ds_appendD (i := 5) (d := dP p) rfl (de_tup (da_cons (de_var rfl) (da_cons (de_var rfl) da_nil))) (by rw [List.length_map]; omega) ?_
        refine ⟨.dat (dQ p.1), .dat (dQ p.2), ?_⟩
        rw [et]
        unfold mstep
        rw [hlast]
        simp only [if_neg z, List.map_append]
        rfl
  · obtain ⟨s6, s7, rfl⟩ := iv
    refine ds_freeze (i := 5) rfl (ds_retD (de_var rfl) ?_)
    rw [List.length_map, List.take_length]
    subst hps
    rfl
/-! way_at -/
abbrev s_way_at : Stmt := topS 27
abbrev n_way_at : List Str := ["bar", "lead", "phase", "height", "place", "start", "end"]
theorem sc_way_at : FnScope n_way_at ["bar", "lead", "phase", "height", "place"] (defScope s_way_at) := ⟨rfl, rfl, rfl, by decide +kernel, rfl, by decide +kernel, by decide +kernel⟩
def Pre_way_at (ds : List PyData) (d : PyData) : Prop := ∃ b lead ph h p, ds = [dBar b, dQ lead, dQ ph, .int h, dQ p] ∧ BOk b ∧ Sz 40 p ∧ d = dO (wayQ b lead ph h p)
theorem ok_way_at {M : Md} (bi : Bi M.mg) (F : DefAt M "way_at" s_way_at) (F_ways_along : OkF M "ways_along" ["bar", "lead", "phase", "height"] 3 (spP M.K Pre_ways_along)) (F_at_most : OkF M "at_most" ["one", "other"] 1 (spP M.K Pre_at_most)) : OkF M "way_at" ["bar", "lead", "phase", "height", "place"] 4 (spP M.K Pre_way_at) := by
  refine okf_pure F sc_way_at (fun _ _ _ _ _ _ us hl => match us, hl with | [_, _, _, _, _], _ => rfl) (fun ds d h => by obtain ⟨b, lead, ph, h, p, rfl, hb, hp, rfl⟩ := h; rfl) fun f cdv A outer s H E hr =>
    ⟨_, (pss_cons (ps_for PassesOwn.never rfl (piL M.K (pe_fn F_ways_along (hr.mono (by decide)) (pa_cons (pv 0) (pa_cons (pv 1) (pa_cons (pv 2) (pa_cons (pv 3) pa_nil)))))) (pgT M.K 2 (pgs_cons (pg_name (i := 5) sc_way_at.nd rfl (.inl rfl)) (pgs_cons (pg_name (i := 6) sc_way_at.nd rfl (.inl rfl)) pgs_nil))) (pss_one (ps_if (PW.pt (pw_and (pt_val (pe_fn F_at_most (hr.mono (by decide)) (pa_cons (pv 5) (pa_cons (pv 4) pa_nil)))) (pw_and1 (pt_val (pe_fn F_at_most (hr.mono (by decide)) (pa_cons (pv 4) (pa_cons (pv 6) pa_nil))))))) (pss_one (ps_ret (pe_tup (pa_cons (pv 5) (pa_cons (pv 6) pa_nil))))) pss_nil)))
      (pss_one (ps_ret pe_non))), fun ds d h => ?_⟩
  obtain ⟨b, lead, ph, h, p, rfl, hb, hp, rfl⟩ := h
  have hz := waysQ_sz hb (lead := lead) (ph := ph) (h := h)
  have ef : wayQ b lead ph h p = (waysQ b lead ph h).find? (inW p) := rfl
  refine ds_seq (ds_forD (js := [5, 6]) (fun i ρ' => (∀ w ∈ (waysQ b lead ph h).take i, inW p w = false) ∧ ∃ s5 s6, ρ' = [.dat (dBar b), .dat (dQ lead), .dat (dQ ph), .dat (.int h), .dat (dQ p), s5, s6]) (dw_list (de_call (da_cons (de_var rfl) (da_cons (de_var rfl) (da_cons (de_var rfl) (da_cons (de_var rfl) da_nil)))) ⟨b, lead, ph, h, rfl, hb, rfl⟩)) ⟨fun _ h => (nomatch h), .un, .un, rfl⟩ (fun i y ρ' ey iv => ?_) fun ρ' iv => ?_)
  · obtain ⟨hno, s5, s6, rfl⟩ := iv
    rw [List.getElem?_map] at ey
    obtain ⟨w, ew, rfl⟩ := Option.map_eq_some_iff.mp ey
    have hw := hz w (List.mem_of_getElem? ew)
    refine ⟨[dQ w.1, dQ w.2], gt_tup (.cons 5 (.cons 6 .nil)) rfl rfl, ?_⟩
    refine ds_if ((dt_and (dt_B (de_call (da_cons (de_var rfl) (da_cons (de_var rfl) da_nil)) ⟨w.1, p, rfl, hw.1.mono (by decide), hp.mono (by decide), rfl⟩)) fun _ => dt_B (de_call (da_cons (de_var rfl) (da_cons (de_var rfl) da_nil)) ⟨p, w.2, rfl, hp.mono (by decide), hw.2.mono (by decide), rfl⟩)).of ⟨fun z => ?_, fun z => ?_⟩)
    · refine ds_retD (d := dP w) (de_tup (da_cons (de_var rfl) (da_cons (de_var rfl) da_nil))) ?_
      rw [ef, find_at ew hno z]
      rfl
    · refine ds_next ⟨fun v hv => ?_, .dat (dQ w.1), .dat (dQ w.2), rfl⟩
      rcases mem_take_snoc ew hv with hv | rfl
      · exact hno v hv
      · exact z
  · obtain ⟨hno, s5, s6, rfl⟩ := iv
    refine ds_retD de_non ?_
    rw [List.length_map, List.take_length] at hno
    rw [ef, List.find?_eq_none.mpr fun v hv => by rw [hno v hv]; simp]
    rfl
/-! teeth_ways -/
abbrev s_teeth_ways : Stmt := topS 28
abbrev n_teeth_ways : List Str := ["bar", "nut", "motion", "lead", "phases", "height", "own"]
theorem sc_teeth_ways : FnScope n_teeth_ways ["bar", "nut", "motion"] (defScope s_teeth_ways) := ⟨rfl, rfl, rfl, by decide +kernel, rfl, by decide +kernel, by decide +kernel⟩
def Pre_teeth_ways (ds : List PyData) (d : PyData) : Prop := ∃ b n m, ds = [dBar b, dNut n, dP m] ∧ BOk b ∧ NOk n ∧ MOk m ∧ d = .list ((teethQ b n m).map dO)
theorem ok_teeth_ways {M : Md} (bi : Bi M.mg) (F : DefAt M "teeth_ways" s_teeth_ways) (F_way_at : OkF M "way_at" ["bar", "lead", "phase", "height", "place"] 4 (spP M.K Pre_way_at)) (F_phase_at : OkF M "phase_at" ["lead", "phase", "motion"] 5 (spP M.K Pre_phase_at)) : OkF M "teeth_ways" ["bar", "nut", "motion"] 6 (spP M.K Pre_teeth_ways) := by
  refine okf_pure F sc_teeth_ways (fun _ _ _ _ _ _ us hl => match us, hl with | [_, _, _], _ => rfl) (fun ds d h => by obtain ⟨b, n, m, rfl, hb, hn, hm, rfl⟩ := h; rfl) fun f cdv A outer s H E hr =>
    ⟨_, (pss_cons (ps_asg (pv 1) (pgT M.K 3 (pgs_cons (pg_name (i := 3) sc_teeth_ways.nd rfl (by first | exact .inl rfl | exact .inr rfl)) (pgs_cons (pg_name (i := 4) sc_teeth_ways.nd rfl (by first | exact .inl rfl | exact .inr rfl)) (pgs_cons (pg_name (i := 5) sc_teeth_ways.nd rfl (by first | exact .inl rfl | exact .inr rfl)) pgs_nil)))))
      (pss_one (ps_ret (pe_lc (own := [("own", 6)]) rfl sc_teeth_ways.nd (piT M.K (pv 4)) (blkOk_by (N := n_teeth_ways) (sc := defScope s_teeth_ways) (by decide +kernel)) (fun _ _ _ _ _ => (pg_name (i := 6) sc_teeth_ways.nd rfl (by first | exact .inl rfl | exact .inr rfl))) (fun _ _ _ _ _ => pts_nil) (fun _ _ _ _ _ => (pe_fn F_way_at (hr.mono (by decide)) (pa_cons (pv 0) (pa_cons (pv 3) (pa_cons (pe_fn F_phase_at (hr.mono (by decide)) (pa_cons (pv 3) (pa_cons (pv 6) (pa_cons (pv 2) pa_nil)))) (pa_cons (pv 5) (pa_cons (pe_ix (kixT M.K) (pv 2) pe_int (fun _ _ => rfl)) pa_nil))))))))))), fun ds d h => ?_⟩
  obtain ⟨b, n, m, rfl, hb, hn, hm, rfl⟩ := h
  refine ds_seq (ds_asgT (js := [3, 4, 5]) ((de_var rfl).of ⟨[dQ n.lead, .tuple (n.phs.map dQ), .int n.h], gt_tup (.cons 3 (.cons 4 (.cons 5 .nil))) rfl rfl, ?_⟩))
  refine ds_retD (de_lcMM (js := [6]) n.phs dQ (fun ph => dO (wayQ b n.lead (phaseQ n.lead ph m) n.h m.1)) (dw_tup (de_var rfl)) (by have := hn.few; omega) inAll (plainR_un rfl plainR_nil) fun ph hph => ⟨[dQ ph], gt_name, ?_⟩) ?_
  · exact de_call (da_cons (de_var rfl) (da_cons (de_var rfl) (da_cons (de_call (da_cons (de_var rfl) (da_cons (de_var rfl) (da_cons (de_var rfl) da_nil))) ⟨n.lead, ph, m, rfl, hn.z, hn.all ph hph, hn.l0, hm, rfl⟩) (da_cons (de_var rfl) (da_cons (de_op (de_var rfl) de_int (rd_ixT rfl)) da_nil)))))
      ⟨b, n.lead, phaseQ n.lead ph m, n.h, m.1, rfl, hb, hm.z1, rfl⟩
  · unfold teethQ
    rw [List.map_map]
    rfl
/-! deep_phases -/
abbrev s_deep_phases : Stmt := topS 29
abbrev n_deep_phases : List Str := ["bar", "lead", "height", "own"]
theorem sc_deep_phases : FnScope n_deep_phases ["bar", "lead", "height"] (defScope s_deep_phases) := ⟨rfl, rfl, rfl, by decide +kernel, rfl, by decide +kernel, by decide +kernel⟩
def lineDs : Line → List PyData
  | .ring p => [.str "ring", dQ p]
  | .flute p => [.str "flute", dQ p]
  | .lead l p => [.str "lead", dQ l, dQ p]
theorem line_ds (l : Line) : dLine l = .tuple (lineDs l) := by cases l <;> rfl
theorem shp_cut (l : Line) : SeqAt.shaped (.tuple (cutD (lineDs l) none (some 2))) = true := by
  cases l with
  | ring p => exact shp_dLine (.ring p)
  | flute p => exact shp_dLine (.flute p)
  | lead l p =>
    show SeqAt.shaped (.tuple [.str "lead", dQ l]) = true
    simp [SeqAt.shaped, dQ, PyData.canLay0, PyData.canLayAll0, PyData.depth, PyData.depthAll, strOk_lead]
theorem shp_lead {q : Rat} : SeqAt.shaped (.tuple [.str "lead", dQ q]) = true := by simp [SeqAt.shaped, dQ, PyData.canLay0, PyData.canLayAll0, PyData.depth, PyData.depthAll, strOk_lead]
theorem eqv_cut (l : Line) (q : Rat) : PyData.eqv (.tuple (cutD (lineDs l) none (some 2))) (.tuple [.str "lead", dQ q]) = l.isL q := by
  cases l with
  | ring p =>
    show PyData.eqv (.tuple [.str "ring", dQ p]) (.tuple [.str "lead", dQ q]) = false
    simp [PyData.eqv, PyData.eqvAll, str_ne (a := "ring") (b := "lead")]
  | flute p =>
    show PyData.eqv (.tuple [.str "flute", dQ p]) (.tuple [.str "lead", dQ q]) = false
    simp [PyData.eqv, PyData.eqvAll, str_ne (a := "flute") (b := "lead")]
  | lead l p =>
    show PyData.eqv (.tuple [.str "lead", dQ l]) (.tuple [.str "lead", dQ q]) = decide (l = q)
    simp [PyData.eqv, PyData.eqvAll, eqv_dQ]
theorem isL_lead {l : Line} {q : Rat} (h : l.isL q = true) : ∃ m p, l = .lead m p := by
  cases l with
  | lead m p => exact ⟨m, p, rfl⟩
  | _ => cases h
def Pre_deep_phases (ds : List PyData) (d : PyData) : Prop := ∃ b lead h, ds = [dBar b, dQ lead, .int h] ∧ BOk b ∧ d = .tuple ((deepQ b lead h).map dQ)
theorem ok_deep_phases {M : Md} (bi : Bi M.mg) (F : DefAt M "deep_phases" s_deep_phases) (F_set_of : OkF M "set_of" ["things"] 1 (spP M.K Pre_set_of)) : OkF M "deep_phases" ["bar", "lead", "height"] 2 (spP M.K Pre_deep_phases) := by
  refine okf_pure F sc_deep_phases (fun _ _ _ _ _ _ us hl => match us, hl with | [_, _, _], _ => rfl) (fun ds d h => by obtain ⟨b, lead, h, rfl, hb, rfl⟩ := h; rfl) fun f cdv A outer s H E hr =>
    ⟨_, (pss_one (ps_ret (pe_fn F_set_of (hr.mono (by decide)) (pa_cons (pe_lc (own := [("own", 3)]) rfl sc_deep_phases.nd (piT M.K (pe_ix (kixT M.K) (pv 0) pe_int (fun _ _ => rfl))) (blkOk_by (N := n_deep_phases) (sc := defScope s_deep_phases) (by decide +kernel)) (fun _ _ _ _ _ => (pg_name (i := 3) sc_deep_phases.nd rfl (by first | exact .inl rfl | exact .inr rfl))) (fun _ _ _ _ _ => (pts_one (PW.pt (pw_and (pt_cmpR (keqD M.K hr) (pe_slice (kslT M.K) (pe_ix (kixT M.K) (pv 3) pe_int (fun _ _ => rfl)) po_none (po_some pe_int)) (pe_tup (pa_cons pe_str (pa_cons (pv 1) pa_nil))) (nomark _)) (pw_and1 (pt_cmpR op_ge (pe_ix (kixT M.K) (pv 3) pe_int (fun _ _ => rfl)) (pv 2) (nomark _))))))) (fun _ _ _ _ _ => (pe_ix (kixT M.K) (pe_ix (kixT M.K) (pv 3) pe_int (fun _ _ => rfl)) pe_int (fun _ _ => rfl)))) pa_nil)))), fun ds d h => ?_⟩
  obtain ⟨b, lead, h, rfl, hb, rfl⟩ := h
  refine ds_retD (de_call (da_cons (de_lcF (js := [3]) b.gs dG (fun g => g.line.isL lead && decide (h ≤ g.dep)) (fun g => dQ g.line.ph) (dw_tup (de_op (de_var rfl) de_int (rd_ixT rfl))) (by have := hb.few; omega) inAll (plainR_un rfl plainR_nil) fun g hg => ⟨[dG g], gt_name, ?_, fun hg2 => ?_⟩) da_nil)
    ⟨(b.gs.filter fun g => g.line.isL lead && decide (h ≤ g.dep)).map fun g => g.line.ph, 40, ?_, ?_, ?_, rfl⟩) rfl
  · refine (dt_and (dt_test (de_op (de_slT (ds := lineDs g.line) ((de_op (de_var rfl) de_int (rd_ixT rfl)).cast (line_ds g.line)) ox_none (ox_part de_int)) (de_tup (da_cons de_str (da_cons (de_var rfl) da_nil))) (rd_eqD (shp_cut g.line) shp_lead))) fun _ => dt_test (de_op (de_op (de_var rfl) de_int (rd_ixT rfl)) (de_var rfl) rd_B0)).cast ?_
    rw [eqv_cut]
  · obtain ⟨l, p, e⟩ := isL_lead (Bool.and_eq_true_iff.mp hg2).1
    refine de_op ((de_op (de_var rfl) de_int (rd_ixT (d := dLine g.line) rfl)).cast (line_ds g.line)) de_int (rd_ixT (d := dQ g.line.ph) ?_)
    rw [e]
    rfl
  · rw [List.map_map]
    rfl
  · rw [List.length_map]
    have := List.length_filter_le (fun g => g.line.isL lead && decide (h ≤ g.dep)) b.gs
    have := hb.few
    omega
  · intro q hq
    obtain ⟨g, hg, rfl⟩ := List.mem_map.mp hq
    obtain ⟨h1, h2⟩ := List.mem_filter.mp hg
    obtain ⟨l, p, e⟩ := isL_lead (Bool.and_eq_true_iff.mp h2).1
    have k := (hb.all g h1).line
    rw [e] at k ⊢
    exact ⟨k.2.2.2.1, k.2.1⟩
end SC
namespace SC
open PySem PySem.Spec PyProof.Rows L2
theorem enum_range {α : Type} (z : α) (f : α → PyData) (l : List α) : enumD (l.map f) = (List.range l.length).map fun i => .tuple [.int (i : Int), f (l.getD i z)] := by
  apply List.ext_getElem?
  intro i
  unfold enumD
  rw [List.getElem?_mapIdx, List.getElem?_map, List.getElem?_map]
  by_cases h : i < l.length
  · rw [List.getElem?_range h, List.getElem?_eq_getElem h]
    show some (PyData.tuple [.int (i : Int), f l[i]]) = some (.tuple [.int (i : Int), f (l.getD i z)])
    rw [List.getD_eq_getElem?_getD, List.getElem?_eq_getElem h]
    rfl
  · rw [List.getElem?_eq_none (by omega), List.getElem?_eq_none (by simp; omega)]
    rfl
/-! shaped data -/
def Shp (n : Nat) (d : PyData) : Prop := d.canLay0 = true ∧ d.depth ≤ n
theorem Shp.mono {n m : Nat} {d : PyData} (h : Shp n d) (k : n ≤ m) : Shp m d := ⟨h.1, Nat.le_trans h.2 k⟩
theorem Shp.ok {n : Nat} {d : PyData} (h : Shp n d) (k : n ≤ 64) : SeqAt.shaped d = true := by
  unfold SeqAt.shaped
  rw [h.1, Bool.true_and]
  exact decide_eq_true (Nat.le_trans h.2 k)
theorem shpAll {n : Nat} : ∀ {ds : List PyData}, (∀ d ∈ ds, Shp n d) → PyData.canLayAll0 ds = true ∧ PyData.depthAll ds ≤ n
  | [], _ => ⟨by simp [PyData.canLayAll0], by simp [PyData.depthAll]⟩
  | d :: ds, h => by
    obtain ⟨h1, h2⟩ := shpAll (n := n) (ds := ds) fun x hx => h x (List.mem_cons_of_mem _ hx)
    obtain ⟨h3, h4⟩ := h d List.mem_cons_self
    refine ⟨by simp [PyData.canLayAll0, h1, h3], ?_⟩
    simp only [PyData.depthAll]
    omega
theorem shp_tup {n : Nat} {ds : List PyData} (h : ∀ d ∈ ds, Shp n d) : Shp (n + 1) (.tuple ds) := by
  obtain ⟨h1, h2⟩ := shpAll h
  exact ⟨by simp [PyData.canLay0, h1], by simp only [PyData.depth]; omega⟩
theorem shp_lst {n : Nat} {ds : List PyData} (h : ∀ d ∈ ds, Shp n d) : Shp (n + 1) (.list ds) := by
  obtain ⟨h1, h2⟩ := shpAll h
  exact ⟨by simp [PyData.canLay0, h1], by simp only [PyData.depth]; omega⟩
theorem shp_dQ' (q : Rat) : Shp 2 (dQ q) := ⟨rfl, by simp [dQ, PyData.depth, PyData.depthAll]⟩
theorem shp_dO (o : Option (Rat × Rat)) : Shp 3 (dO o) := by
  cases o with
  | none => exact ⟨rfl, by simp [dO, PyData.depth]⟩
  | some p =>
    refine shp_tup fun d hd => ?_
    rcases List.mem_cons.mp hd with rfl | hd
    · exact shp_dQ' _
    · rcases List.mem_cons.mp hd with rfl | hd
      · exact shp_dQ' _
      · cases hd
theorem shp_rows (ws : List (Option (Rat × Rat))) : SeqAt.shaped (.list (ws.map dO)) = true := (shp_lst (n := 3) fun d hd => by
  obtain ⟨o, _, rfl⟩ := List.mem_map.mp hd
  exact shp_dO o).ok (by decide)
theorem any_none (ws : List (Option (Rat × Rat))) : ((ws.map dO).any fun z => PyData.eqv z .none) = ws.any fun w => w.isNone := by
  rw [List.any_map]
  congr 1
  funext w
  cases w <;> simp [dO, dP, PyData.eqv]
theorem isNon_dO (o : Option (Rat × Rat)) : isNonD (dO o) = o.isNone := by cases o <;> rfl
theorem cut1 (d : PyData) (ds : List PyData) : cutD (d :: ds) (some 1) none = ds := by
  unfold cutD
  rw [HT.sIx_none, show (1 : Int) = ((1 : Nat) : Int) from rfl, HT.sIx_nat]
  simp only [List.length_cons]
  rw [show min 1 (ds.length + 1) = 1 by omega]
  simp
section
variable {C : Cn} {ρ ρ1 : Rho} {ta tb tc te : TE} {d e f : PyData} {P P' : PyData → Rho → Prop} {t u : TT} {as bs : TA} {ts us : TS} {Z Z' : Post} {ds es : List PyData}
/-! a pair of names, lists of one's own among them -/
theorem ds_parOwn {i j : Nat} (h : DX C ta ρ fun d ρ1 => AX C as ρ1 fun es ρ2 => es.length ≤ 100000 ∧ Z.nx ((ρ2.set i (.dat d)).set j (.own es))) : DS C (tPar i j (tCons ta (tCons (tLst as) tNil))) ρ Z := fun B G H σ D o k1 k2 k3 k4 => by
  refine h B G H σ o _ fun x d ρ1 G1 H1 p1 o1 s1 dx => ?_
  refine p1 B G1 H1 σ o1 _ fun ys es ρ2 G2 H2 p2 o2 s2 dy => ⟨?_, fun q hq => ?_⟩
  · rw [dpa_len dy]
    exact sz1000 p2.1
  · exact ⟨x, .ref q, rfl, k1 _ G2 _ _ p2.2 ((o2.setd i (dp_up s2.g dx)).setown j hq dy) (s1.g.trans s2.g)⟩
theorem ds_parOwnD {i j : Nat} (h : DE C ta ρ d) (h2 : DA C as ρ es) (hl : es.length ≤ 100000) (k : Z.nx ((ρ.set i (.dat d)).set j (.own es))) : DS C (tPar i j (tCons ta (tCons (tLst as) tNil))) ρ Z := ds_parOwn (h.of (h2.of ⟨hl, k⟩))
end
end SC
namespace SC
open PySem PySem.Spec PyProof.Rows L2

def AB (x : PyData) (b : Bar) : Prop := depLt 9 x ∧ tupD x = dBar b ∧ BOk b
def AN (x : PyData) (n : Nut) : Prop := depLt 9 x ∧ tupD x = dNut n ∧ NOk n
def AM (x : PyData) (m : Mo) : Prop := depLt 9 x ∧ tupD x = dP m ∧ MOk m
theorem dx_tup3 {C : Cn} {ρ : Rho} {ta tb tm : TE} {b : Bar} {n : Nut} {m : Mo} (hb : DE C ta ρ (dBar b)) (hn : DE C tb ρ (dNut n)) (hm : DE C tm ρ (dP m)) (ob : BOk b) (on : NOk n) (om : MOk m) :
    DE C (tCall (spP C.K Pre_teeth_ways) [] E0 (tCons ta (tCons tb (tCons tm tNil)))) ρ (.list ((teethQ b n m).map dO)) :=
  de_call (da_cons hb (da_cons hn (da_cons hm da_nil))) ⟨b, n, m, rfl, ob, on, om, rfl⟩
theorem de_tupled {C : Cn} {ρ : Rho} {te : TE} {x d : PyData} (h : DE C te ρ x) (hx : depLt 9 x) (e : tupD x = d) : DE C (tCall (spP C.K (Pre_tupled 9)) [] E0 (tCons te tNil)) ρ d :=
  de_call (da_cons h da_nil) ⟨x, rfl, hx, e.symm⟩
theorem atI_zero {α : Type} {a : α} {l : List α} : atI (a :: l) 0 = some a := atI_nat (j := 0) rfl
theorem ofs_len (b : Bar) (n : Nut) (m : Mo) : (teethQ b n m).length = n.phs.length := by unfold teethQ; rw [List.length_map]
/-! is_on -/
abbrev s_is_on : Stmt := topS 30
abbrev n_is_on : List Str := ["bar", "nut", "motion"]
theorem sc_is_on : FnScope n_is_on ["bar", "nut", "motion"] (defScope s_is_on) := ⟨rfl, rfl, rfl, by decide +kernel, rfl, by decide +kernel, by decide +kernel⟩
def Pre_is_on (ds : List PyData) (d : PyData) : Prop := ∃ xb xn xm b n m, ds = [xb, xn, xm] ∧ AB xb b ∧ AN xn n ∧ AM xm m ∧ d = .bool (onQ b n m)
theorem ok_is_on {M : Md} (bi : Bi M.mg) (F : DefAt M "is_on" s_is_on) (F_teeth_ways : OkF M "teeth_ways" ["bar", "nut", "motion"] 6 (spP M.K Pre_teeth_ways)) (F_tupled : OkF M "tupled" ["thing"] 10 (spP M.K (Pre_tupled 9))) : OkF M "is_on" ["bar", "nut", "motion"] 11 (spP M.K Pre_is_on) := by
  refine okf_pure F sc_is_on (fun _ _ _ _ _ _ us hl => match us, hl with | [_, _, _], _ => rfl) (fun ds d h => by obtain ⟨xb, xn, xm, b, n, m, rfl, ⟨bd, be, bo⟩, ⟨nd, ne, no⟩, ⟨md, me, mo⟩, rfl⟩ := h; rfl) fun f cdv A outer s H E hr =>
    ⟨_, (pss_one (ps_ret (pe_cmpR (knotInD M.K hr) pe_non (pe_fn F_teeth_ways (hr.mono (by decide)) (pa_cons (pe_fn F_tupled (hr.mono (by decide)) (pa_cons (pv 0) pa_nil)) (pa_cons (pe_fn F_tupled (hr.mono (by decide)) (pa_cons (pv 1) pa_nil)) (pa_cons (pe_fn F_tupled (hr.mono (by decide)) (pa_cons (pv 2) pa_nil)) pa_nil)))) (by with_unfolding_all rfl)))), fun ds d h => ?_⟩
  obtain ⟨xb, xn, xm, b, n, m, rfl, ⟨bd, be, bo⟩, ⟨nd, ne, no⟩, ⟨md, me, mo⟩, rfl⟩ := h
  have kt : DE ⟨M.K, []⟩ (tCall (spP M.K Pre_teeth_ways) [] E0 (tCons (tCall (spP M.K (Pre_tupled 9)) [] E0 (tCons (tVar 0) tNil)) (tCons (tCall (spP M.K (Pre_tupled 9)) [] E0 (tCons (tVar 1) tNil)) (tCons (tCall (spP M.K (Pre_tupled 9)) [] E0 (tCons (tVar 2) tNil)) tNil)))) (initR n_is_on [xb, xn, xm]) (.list ((teethQ b n m).map dO)) := dx_tup3 (de_tupled (de_var rfl) bd be) (de_tupled (de_var rfl) nd ne) (de_tupled (de_var rfl) md me) bo no mo
  refine ds_retD ((de_op de_non kt (rd_notInD rfl (shp_rows _))).cast ?_) rfl
  rw [any_none]
  rfl
/-! why_off -/
abbrev s_why_off : Stmt := topS 31
abbrev n_why_off : List Str := ["bar", "nut", "motion", "rows", "number", "way"]
theorem sc_why_off : FnScope n_why_off ["bar", "nut", "motion"] (defScope s_why_off) := ⟨rfl, rfl, rfl, by decide +kernel, rfl, by decide +kernel, by decide +kernel⟩
def Pre_why_off (ds : List PyData) (d : PyData) : Prop := ∃ xb xn xm b n m, ds = [xb, xn, xm] ∧ AB xb b ∧ AN xn n ∧ AM xm m ∧ d = .tuple ((offQ (teethQ b n m)).map fun i : Nat => .int (i : Int))
theorem ok_why_off {M : Md} (bi : Bi M.mg) (F : DefAt M "why_off" s_why_off) (F_teeth_ways : OkF M "teeth_ways" ["bar", "nut", "motion"] 6 (spP M.K Pre_teeth_ways)) (F_tupled : OkF M "tupled" ["thing"] 10 (spP M.K (Pre_tupled 9))) : OkF M "why_off" ["bar", "nut", "motion"] 11 (spP M.K Pre_why_off) := by
  refine okf_pure F sc_why_off (fun _ _ _ _ _ _ us hl => match us, hl with | [_, _, _], _ => rfl) (fun ds d h => by obtain ⟨xb, xn, xm, b, n, m, rfl, ⟨bd, be, bo⟩, ⟨nd, ne, no⟩, ⟨md, me, mo⟩, rfl⟩ := h; rfl) fun f cdv A outer s H E hr =>
    ⟨_, (pss_cons (ps_set (i := 3) sc_why_off.nd rfl (.inl rfl) (pe_fn F_teeth_ways (hr.mono (by decide)) (pa_cons (pe_fn F_tupled (hr.mono (by decide)) (pa_cons (pv 0) pa_nil)) (pa_cons (pe_fn F_tupled (hr.mono (by decide)) (pa_cons (pv 1) pa_nil)) (pa_cons (pe_fn F_tupled (hr.mono (by decide)) (pa_cons (pv 2) pa_nil)) pa_nil)))))
      (pss_one (ps_ret (pe_callTy (ktupOf M.K) (by rfl) bi.tuple (by decide +kernel) (pa_cons (pe_lc (own := [("number", 4), ("way", 5)]) rfl sc_why_off.nd (piE M.K bi.enumerate (pa_cons (pv 3) pa_nil)) (blkOk_by (N := n_why_off) (sc := defScope s_why_off) (by decide +kernel)) (fun _ _ _ _ _ => (pgT M.K 2 (pgs_cons (pg_name (i := 4) sc_why_off.nd rfl (.inl rfl)) (pgs_cons (pg_name (i := 5) sc_why_off.nd rfl (.inl rfl)) pgs_nil)))) (fun _ _ _ _ _ => (pts_one (pt_cmpR op_isN (pv 5) pe_non (nomark _)))) (fun _ _ _ _ _ => (pv 4))) pa_nil))))), fun ds d h => ?_⟩
  obtain ⟨xb, xn, xm, b, n, m, rfl, ⟨bd, be, bo⟩, ⟨nd, ne, no⟩, ⟨md, me, mo⟩, rfl⟩ := h
  have kt : DE ⟨M.K, []⟩ (tCall (spP M.K Pre_teeth_ways) [] E0 (tCons (tCall (spP M.K (Pre_tupled 9)) [] E0 (tCons (tVar 0) tNil)) (tCons (tCall (spP M.K (Pre_tupled 9)) [] E0 (tCons (tVar 1) tNil)) (tCons (tCall (spP M.K (Pre_tupled 9)) [] E0 (tCons (tVar 2) tNil)) tNil)))) (initR n_why_off [xb, xn, xm]) (.list ((teethQ b n m).map dO)) := dx_tup3 (de_tupled (de_var rfl) bd be) (de_tupled (de_var rfl) nd ne) (de_tupled (de_var rfl) md me) bo no mo
  have hl := ofs_len b n m
  have hf := no.few
  refine ds_seq (ds_asgD kt ?_)
  generalize teethQ b n m = rows at *
  refine ds_retD (de_cb (da_cons (de_lcF (js := [4, 5]) (List.range rows.length) (fun i => .tuple [.int (i : Int), dO (rows.getD i none)]) (fun i => decide (rows[i]? = some none)) (fun i => .int (i : Int)) ?_ (by rw [List.length_range]; omega) inAll (plainR_un rfl (plainR_un rfl plainR_nil)) fun i hi => ⟨[.int (i : Int), dO (rows.getD i none)], gt_tup (.cons 4 (.cons 5 .nil)) rfl rfl, ?_, fun _ => de_var rfl⟩) da_nil) rc_tupL) rfl
  · have k := dw_enum (C := ⟨M.K, []⟩) (ρ := [.dat xb, .dat xn, .dat xm, .dat (.list (rows.map dO)), .un, .un]) (da_cons (de_var (i := 3) rfl) da_nil)
    rw [enum_range none] at k
    exact k
  · refine (dt_test (de_op (de_var rfl) de_non rd_isN)).cast ?_
    rw [isNon_dO]
    have hi' : i < rows.length := List.mem_range.mp hi
    rw [List.getD_eq_getElem?_getD, List.getElem?_eq_getElem hi']
    show rows[i].isNone = _
    cases rows[i] <;> simp
theorem frac_nonneg (a : Rat) : 0 ≤ fracQ a := by
  rw [← Rat.num_nonneg, (fracQ_eq a).1]
  exact Int.emod_nonneg _ (den_int_ne a)
/-! ways_on -/
abbrev s_ways_on : Stmt := topS 32
abbrev n_ways_on : List Str := ["bar", "nut", "far", "own", "told", "place", "found", "phase", "less", "angle"]
theorem sc_ways_on : FnScope n_ways_on ["bar", "nut", "far"] (defScope s_ways_on) := ⟨rfl, rfl, rfl, by decide +kernel, rfl, by decide +kernel, by decide +kernel⟩
def Pre_ways_on (ds : List PyData) (d : PyData) : Prop := ∃ xb xn far b n, ds = [xb, xn, .bool far] ∧ AB xb b ∧ AN xn n ∧ d = .tuple ((waysOnQ b n (if far then b.len else 0)).map dQ)
theorem ok_ways_on {M : Md} (bi : Bi M.mg) {zA : Addr} (hz0 : NoneAt M.K M.mg zA) (F : DefAt M "ways_on" s_ways_on) (F_tupled : OkF M "tupled" ["thing"] 10 (spP M.K (Pre_tupled 9))) (F_deep_phases : OkF M "deep_phases" ["bar", "lead", "height"] 2 (spP M.K Pre_deep_phases)) (F_part_plus : OkF M "part_plus" ["one", "other"] 2 (spP M.K Pre_part_plus)) (F_part_less : OkF M "part_less" ["one", "other"] 3 (spP M.K Pre_part_less)) (F_part_minus : OkF M "part_minus" ["one"] 1 (spP M.K Pre_part_minus)) (F_angle_of : OkF M "angle_of" ["one"] 1 (spP M.K Pre_angle_of)) (F_part_over : OkF M "part_over" ["one", "other"] 2 (spP M.K Pre_part_over)) (F_teeth_ways : OkF M "teeth_ways" ["bar", "nut", "motion"] 6 (spP M.K Pre_teeth_ways)) (F_set_of : OkF M "set_of" ["things"] 1 (spP M.K Pre_set_of)) : OkF M "ways_on" ["bar", "nut", "far"] 11 (spP M.K Pre_ways_on) := by
  refine okf_pure F sc_ways_on (fun _ _ _ _ _ _ us hl => match us, hl with | [_, _, _], _ => rfl) (fun ds d h => by obtain ⟨xb, xn, far, b, n, rfl, ⟨bd, be, bo⟩, ⟨nd, ne, no⟩, rfl⟩ := h; rfl) fun f cdv A outer s H E hr =>
    ⟨_, (pss_cons (ps_par (i := 3) (j := 4) (by rfl) sc_ways_on.nd rfl rfl (by decide) rfl rfl (pa_cons (pe_fn F_tupled (hr.mono (by decide)) (pa_cons (pv 0) pa_nil)) (pa_cons (pe_fn F_tupled (hr.mono (by decide)) (pa_cons (pv 1) pa_nil)) pa_nil)) (by rfl))
      (pss_cons (ps_par (i := 5) (j := 6) (by rfl) sc_ways_on.nd rfl rfl (by decide) rfl rfl (pa_cons (pe_ifExp (pt_val (pv 2)) (pe_ix (kixT M.K) (pv 3) pe_int (fun _ _ => rfl)) (pe_none hz0.at_)) (pa_cons (pe_lst pa_nil) pa_nil)) (by rfl))
      (pss_cons (ps_for PassesOwn.never rfl (piT M.K (pe_fn F_deep_phases (hr.mono (by decide)) (pa_cons (pv 3) (pa_cons (pe_ix (kixT M.K) (pv 4) pe_int (fun _ _ => rfl)) (pa_cons (pe_ix (kixT M.K) (pv 4) pe_int (fun _ _ => rfl)) pa_nil))))) (pg_name (i := 7) sc_ways_on.nd rfl (.inl rfl)) (pss_cons (ps_set (i := 8) sc_ways_on.nd rfl (.inl rfl) (pe_fn F_part_plus (hr.mono (by decide)) (pa_cons (pe_fn F_part_less (hr.mono (by decide)) (pa_cons (pv 7) (pa_cons (pe_ix (kixT M.K) (pe_ix (kixT M.K) (pv 4) pe_int (fun _ _ => rfl)) pe_int (fun _ _ => rfl)) pa_nil))) (pa_cons (pe_fn F_part_minus (hr.mono (by decide)) (pa_cons (pv 5) pa_nil)) pa_nil))))
      (pss_cons (ps_set (i := 9) sc_ways_on.nd rfl (.inl rfl) (pe_fn F_angle_of (hr.mono (by decide)) (pa_cons (pe_fn F_part_minus (hr.mono (by decide)) (pa_cons (pe_fn F_part_over (hr.mono (by decide)) (pa_cons (pv 8) (pa_cons (pe_ix (kixT M.K) (pv 4) pe_int (fun _ _ => rfl)) pa_nil))) pa_nil)) pa_nil)))
      (pss_one (ps_if (pt_cmpR (knotInD M.K hr) pe_non (pe_fn F_teeth_ways (hr.mono (by decide)) (pa_cons (pv 3) (pa_cons (pv 4) (pa_cons (pe_tup (pa_cons (pv 5) (pa_cons (pv 9) pa_nil))) pa_nil)))) (by with_unfolding_all rfl)) (pss_one (ps_expr (kapp M.K (pv 6) (pv 9)))) pss_nil)))))
      (pss_one (ps_ret (pe_fn F_set_of (hr.mono (by decide)) (pa_cons (pv 6) pa_nil))))))), fun ds d h => ?_⟩
  obtain ⟨xb, xn, far, b, n, rfl, ⟨bd, be, bo⟩, ⟨nd, ne, no⟩, rfl⟩ := h
  have hz : Sz 40 (if far then b.len else 0 : Rat) := by
    split
    · exact bo.z
    · exact ⟨by decide, by decide⟩
  refine ds_seq (ds_parD (d := dBar b) (e := dNut n) (da_cons (de_tupled (de_var rfl) bd be) (da_cons (de_tupled (de_var rfl) nd ne) da_nil)) ?_)
  refine ds_seq (ds_parOwnD (d := dQ (if far then b.len else 0)) (de_if (dt_B (de_var (d := .bool far) rfl)) (fun h => ?_) fun h => ?_) da_nil (Nat.zero_le _) ?_)
  · rw [h]
    exact de_op (de_var rfl) de_int (rd_ixT rfl)
  · rw [h]
    exact hz0.de
  generalize (if far then b.len else 0 : Rat) = place at *
  have hp0 : ∃ p ps, n.phs = p :: ps := by
    cases h : n.phs with
    | nil => exact absurd h no.ne
    | cons p ps => exact ⟨p, ps, rfl⟩
  obtain ⟨p0, ps, ep⟩ := hp0
  have zp : Sz 40 p0 := no.all p0 (by rw [ep]; exact List.mem_cons_self)
  have eh : n.phs.headD 0 = p0 := by rw [ep]; rfl
  have hdl : (deepQ b n.lead n.h).length ≤ 16 := by
    refine Nat.le_trans (canonQ_len _) ?_
    rw [List.length_map]
    exact Nat.le_trans (List.length_filter_le _ _) bo.few
  have hdz : ∀ ph ∈ deepQ b n.lead n.h, Sz 40 ph := fun ph hph => by
    obtain ⟨g, hg, rfl⟩ := List.mem_map.mp (mem_canonQ.mp hph)
    obtain ⟨h1, h2⟩ := List.mem_filter.mp hg
    obtain ⟨l, p, e⟩ := isL_lead (Bool.and_eq_true_iff.mp h2).1
    have k := (bo.all g h1).line
    rw [e] at k ⊢
    exact k.2.1
  have haz : ∀ ph, Sz 40 ph → Sz 122 (ph - p0 + -place) ∧ Sz 162 (angQ n place ph) := fun ph zph => by
    have h1 := (zph.sub zp).add hz.neg
    refine ⟨h1, ?_⟩
    unfold angQ
    rw [eh]
    exact (h1.div no.z no.l0).neg.frac
  have hmo : ∀ ph ∈ deepQ b n.lead n.h, MOk (place, angQ n place ph) := fun ph hph => ⟨hz, (haz ph (hdz ph hph)).2.mono (by decide)⟩
  refine ds_seq (ds_forD (js := [7]) (fun i ρ' => ∃ s7 s8 s9, ρ' = [.dat xb, .dat xn, .dat (.bool far), .dat (dBar b), .dat (dNut n), .dat (dQ place), .own (((((deepQ b n.lead n.h).take i).map (angQ n place)).filter fun a => onQ b n (place, a)).map dQ), s7, s8, s9])
    (dw_tup (ds := (deepQ b n.lead n.h).map dQ) (de_call (da_cons (de_var rfl) (da_cons (de_op (de_var rfl) de_int (rd_ixT rfl)) (da_cons (de_op (de_var rfl) de_int (rd_ixT rfl)) da_nil))) ⟨b, n.lead, n.h, rfl, bo, rfl⟩)) ⟨.un, .un, .un, rfl⟩ (fun i y ρ' ey iv => ?_) fun ρ' iv => ?_)
  · obtain ⟨s7, s8, s9, rfl⟩ := iv
    rw [List.getElem?_map] at ey
    obtain ⟨ph, ep', rfl⟩ := Option.map_eq_some_iff.mp ey
    have hm := List.mem_of_getElem? ep'
    have zph := hdz ph hm
    obtain ⟨z1, z2⟩ := haz ph zph
    have hi : i < (deepQ b n.lead n.h).length := (List.getElem?_eq_some_iff.mp ep').1
    have et := take_snoc ep'
    refine ⟨[dQ ph], gt_name, ?_⟩
    refine ds_seq (ds_asgD (d := dQ (ph - p0 + -place)) (de_call (da_cons (de_call (da_cons (de_var rfl) (da_cons (de_op (de_op (de_var rfl) de_int (rd_ixT (d := .tuple (n.phs.map dQ)) rfl)) de_int (rd_ixT (d := dQ p0) (by rw [ep]; exact atI_zero))) da_nil)) ⟨ph, p0, rfl, zph.mono (by decide), zp.mono (by decide), rfl⟩)
      (da_cons (de_call (da_cons (de_var rfl) da_nil) ⟨place, rfl, rfl⟩) da_nil)) ⟨ph - p0, -place, rfl, (zph.sub zp).mono (by decide), hz.neg.mono (by decide), rfl⟩) ?_)
    refine ds_seq (ds_asgD (d := dQ (angQ n place ph)) ((de_call (da_cons (de_call (da_cons (de_call (da_cons (de_var rfl) (da_cons (de_op (de_var rfl) de_int (rd_ixT (d := dQ n.lead) rfl)) da_nil)) ⟨ph - p0 + -place, n.lead, rfl, z1.mono (by decide), no.z.mono (by decide), no.l0, rfl⟩) da_nil) ⟨(ph - p0 + -place) / n.lead, rfl, rfl⟩) da_nil) ⟨-((ph - p0 + -place) / n.lead), rfl, rfl⟩).cast ?_) ?_)
    · unfold angQ
      rw [eh]
    have kt : DE ⟨M.K, []⟩ (tCall (spP M.K Pre_teeth_ways) [] E0 (tCons (tVar 3) (tCons (tVar 4) (tCons (tTup (tCons (tVar 5) (tCons (tVar 9) tNil))) tNil)))) _ _ := dx_tup3 (ρ := [.dat xb, .dat xn, .dat (.bool far), .dat (dBar b), .dat (dNut n), .dat (dQ place), .own (((((deepQ b n.lead n.h).take i).map (angQ n place)).filter fun a => onQ b n (place, a)).map dQ), .dat (dQ ph), .dat (dQ (ph - p0 + -place)), .dat (dQ (angQ n place ph))])
      (de_var rfl) (de_var rfl) (de_tup (ds := [dQ place, dQ (angQ n place ph)]) (da_cons (de_var rfl) (da_cons (de_var rfl) da_nil))) bo no (hmo ph hm)
    refine ds_ifD ((dt_test (de_op de_non kt (rd_notInD rfl (shp_rows _)))).cast (c := onQ b n (place, angQ n place ph)) ?_) (fun h => ?_) fun h => ?_
    · rw [any_none]
      rfl
    · refine ds_appendD (i := 6) rfl (de_var (d := dQ (angQ n place ph)) rfl) ?_ ?_
      · rw [List.length_map]
        refine Nat.lt_of_le_of_lt (List.length_filter_le _ _) ?_
        rw [List.length_map, List.length_take]
        omega
      · refine ⟨.dat (dQ ph), .dat (dQ (ph - p0 + -place)), .dat (dQ (angQ n place ph)), ?_⟩
        rw [et, List.map_append, List.filter_append, List.map_append]
        simp only [List.map_cons, List.map_nil, List.filter_cons, if_pos h, List.filter_nil]
        rfl
    · refine ds_next ⟨.dat (dQ ph), .dat (dQ (ph - p0 + -place)), .dat (dQ (angQ n place ph)), ?_⟩
      rw [et, List.map_append, List.filter_append]
      simp only [List.map_cons, List.map_nil, List.filter_cons, h, List.filter_nil, List.append_nil, Bool.false_eq_true, if_false]
      rfl
  · obtain ⟨s7, s8, s9, rfl⟩ := iv
    rw [List.length_map, List.take_length]
    refine ds_freeze (i := 6) rfl (ds_retD (de_call (da_cons (de_var rfl) da_nil) ⟨((deepQ b n.lead n.h).map (angQ n place)).filter fun a => onQ b n (place, a), 162, rfl, ?_, ?_, rfl⟩) ?_)
    · refine Nat.lt_of_le_of_lt (List.length_filter_le _ _) ?_
      rw [List.length_map]
      omega
    · intro q hq
      obtain ⟨ph, hph, rfl⟩ := List.mem_map.mp (List.mem_filter.mp hq).1
      refine ⟨?_, (haz ph (hdz ph hph)).2⟩
      exact frac_nonneg _
    · rfl
/-! shared_way -/
abbrev s_shared_way : Stmt := topS 35
abbrev n_shared_way : List Str := ["rows", "start", "end", "near", "far"]
theorem sc_shared_way : FnScope n_shared_way ["rows"] (defScope s_shared_way) := ⟨rfl, rfl, rfl, by decide +kernel, rfl, by decide +kernel, by decide +kernel⟩
theorem upQ_or (a b : Rat) : upQ a b = a ∨ upQ a b = b := by unfold upQ; split <;> simp
theorem loQ_or (a b : Rat) : loQ a b = a ∨ loQ a b = b := by unfold loQ; split <;> simp
theorem fold_sz : ∀ (ws : List (Rat × Rat)) (w : Rat × Rat), Sz 40 w.1 ∧ Sz 40 w.2 → (∀ v ∈ ws, Sz 40 v.1 ∧ Sz 40 v.2) → Sz 40 (ws.foldl (fun a p => (upQ a.1 p.1, loQ a.2 p.2)) w).1 ∧ Sz 40 (ws.foldl (fun a p => (upQ a.1 p.1, loQ a.2 p.2)) w).2
  | [], _, h, _ => h
  | v :: ws, w, h, k => by
    refine fold_sz ws (upQ w.1 v.1, loQ w.2 v.2) ⟨?_, ?_⟩ fun u hu => k u (List.mem_cons_of_mem _ hu)
    · show Sz 40 (upQ w.1 v.1)
      rcases upQ_or w.1 v.1 with e | e <;> rw [e]
      · exact h.1
      · exact (k v List.mem_cons_self).1
    · show Sz 40 (loQ w.2 v.2)
      rcases loQ_or w.2 v.2 with e | e <;> rw [e]
      · exact h.2
      · exact (k v List.mem_cons_self).2
def Pre_shared_way (ds : List PyData) (d : PyData) : Prop := ∃ ws, ds = [.list (ws.map dP)] ∧ ws ≠ [] ∧ ws.length ≤ 16 ∧ (∀ w ∈ ws, Sz 40 w.1 ∧ Sz 40 w.2) ∧ d = dP (sharedQ ws)
theorem ok_shared_way {M : Md} (bi : Bi M.mg) (F : DefAt M "shared_way" s_shared_way) (F_upper : OkF M "upper" ["one", "other"] 2 (spP M.K Pre_upper)) (F_lower : OkF M "lower" ["one", "other"] 2 (spP M.K Pre_lower)) : OkF M "shared_way" ["rows"] 3 (spP M.K Pre_shared_way) := by
  refine okf_pure F sc_shared_way (fun _ _ _ _ _ _ us hl => match us, hl with | [_], _ => rfl) (fun ds d h => by obtain ⟨ws, rfl, h0, hl, hz, rfl⟩ := h; rfl) fun f cdv A outer s H E hr =>
    ⟨_, (pss_cons (ps_asg (pe_ix (kixL M.K) (pv 0) pe_int (fun _ _ => rfl)) (pgT M.K 2 (pgs_cons (pg_name (i := 1) sc_shared_way.nd rfl (.inl rfl)) (pgs_cons (pg_name (i := 2) sc_shared_way.nd rfl (.inl rfl)) pgs_nil))))
      (pss_cons (ps_for PassesOwn.never rfl (piL M.K (pe_slice (kslL M.K) (pv 0) (po_some pe_int) po_none)) (pgT M.K 2 (pgs_cons (pg_name (i := 3) sc_shared_way.nd rfl (.inl rfl)) (pgs_cons (pg_name (i := 4) sc_shared_way.nd rfl (.inl rfl)) pgs_nil))) (pss_one (ps_par (i := 1) (j := 2) (by rfl) sc_shared_way.nd rfl rfl (by decide) rfl rfl (pa_cons (pe_fn F_upper (hr.mono (by decide)) (pa_cons (pv 1) (pa_cons (pv 3) pa_nil))) (pa_cons (pe_fn F_lower (hr.mono (by decide)) (pa_cons (pv 2) (pa_cons (pv 4) pa_nil))) pa_nil)) (by rfl))))
      (pss_one (ps_ret (pe_tup (pa_cons (pv 1) (pa_cons (pv 2) pa_nil))))))), fun ds d h => ?_⟩
  obtain ⟨ws, rfl, h0, hl, hz, rfl⟩ := h
  cases ws with
  | nil => exact absurd rfl h0
  | cons w ws =>
  refine ds_seq (ds_asgT (js := [1, 2]) ((de_op (de_var rfl) de_int (rd_ixL (d := dP w) atI_zero)).of ⟨[dQ w.1, dQ w.2], gt_tup (.cons 1 (.cons 2 .nil)) rfl rfl, ?_⟩))
  have hfz : ∀ i, Sz 40 ((ws.take i).foldl (fun a p => (upQ a.1 p.1, loQ a.2 p.2)) w).1 ∧ Sz 40 ((ws.take i).foldl (fun a p => (upQ a.1 p.1, loQ a.2 p.2)) w).2 := fun i => fold_sz (ws.take i) w (hz w List.mem_cons_self) fun v hv => hz v (List.mem_cons_of_mem _ (List.mem_of_mem_take hv))
  refine ds_seq (ds_forD (js := [3, 4]) (fun i ρ' => ∃ s3 s4, ρ' = [.dat (.list ((w :: ws).map dP)), .dat (dQ ((ws.take i).foldl (fun a p => (upQ a.1 p.1, loQ a.2 p.2)) w).1), .dat (dQ ((ws.take i).foldl (fun a p => (upQ a.1 p.1, loQ a.2 p.2)) w).2), s3, s4])
    (dw_list (ds := ws.map dP) ((de_slL (de_var rfl) (ox_part de_int) ox_none).cast ?_)) ⟨.un, .un, rfl⟩ (fun i y ρ' ey iv => ?_) fun ρ' iv => ?_)
  · rw [List.map_cons, cut1]
  · obtain ⟨s3, s4, rfl⟩ := iv
    rw [List.getElem?_map] at ey
    obtain ⟨v, ev, rfl⟩ := Option.map_eq_some_iff.mp ey
    have zv := hz v (List.mem_cons_of_mem _ (List.mem_of_getElem? ev))
    have za := hfz i
    have et := take_snoc ev
    refine ⟨[dQ v.1, dQ v.2], gt_tup (.cons 3 (.cons 4 .nil)) rfl rfl, ?_⟩
    generalize hac : (ws.take i).foldl (fun a p => (upQ a.1 p.1, loQ a.2 p.2)) w = ac at *
    refine ds_parD (da_cons (de_call (da_cons (de_var rfl) (da_cons (de_var rfl) da_nil)) ⟨ac.1, v.1, rfl, za.1.mono (by decide), zv.1.mono (by decide), rfl⟩) (da_cons (de_call (da_cons (de_var rfl) (da_cons (de_var rfl) da_nil)) ⟨ac.2, v.2, rfl, za.2.mono (by decide), zv.2.mono (by decide), rfl⟩) da_nil)) ⟨.dat (dQ v.1), .dat (dQ v.2), ?_⟩
    rw [et, List.foldl_append, hac]
    rfl
  · obtain ⟨s3, s4, rfl⟩ := iv
    rw [List.length_map, List.take_length]
    exact ds_retD (de_tup (da_cons (de_var rfl) (da_cons (de_var rfl) da_nil))) rfl
end SC
/-! Defs that raise one own error. -/
namespace SC
open PySem PySem.Spec PyProof.Rows L2
/-- what the written part says of an own class of errors over ValueError, with nothing of its own -/
structure ExcAt (K : PySem.W.Frag) (mg : Str → Option Value) (x : Str) (U : Addr) : Prop where
  at_ : mg x = some (.ref U)
  keep : PySem.W.keepIn K (.ref U) = true
  exc : PySem.W.excIn K U He.veBase "ValueError.__new__" = true
  sub : PySem.W.subIn K (.ref U) (.type "BaseException") = some true
  ty : PySem.W.typeIn K (.ref U) = some (.type "type")
/-- X() of such a class -/
theorem pmk_bare {X : Cx} {x : Str} {U : Addr} {p pos : Pos} {newId initId B : String} (F : ExcBaseFacts B newId initId He.veBase) (q : PySem.W.excIn X.K U He.veBase newId = true) (gU : X.mg x = some (.ref U)) (kU : PySem.W.keepIn X.K (.ref U) = true)
    (r : Raises X (.ref U)) (hg : Gl X x) (hdb : (x == ("__debug__" : Str)) = false := by decide) : PMk X (.Call (.Name x p) [] [] pos) (fun _ H Q => Q (.ref U) none H) := by
  intro pins st σ H Q J hq
  refine wpAny_Call_Name_kw (ld_glob J hg gU ?_ hdb)
  refine PySem.W.callWith_K0 J.kIn kU ?_
  obtain ⟨bm, N, nm, qn, bs, hdct, sn, sub, ab, col, dd, k0, k1, k2, k3, k5, mN, hC, hN, hni, T⟩ := exc_obj J.kIn q
  obtain ⟨hp, g, dr, tk, os⟩ := st
  exact wpAny_call_exc_subT F T hC hN hni (fun h' e made => mk_of J made r hq (J.hok.gone made.new)) (Nat.zero_le _)
/-! ### promises -/
/-- of the data ds it gives d, or raises the error -/
def spE (K : PySem.W.Frag) (U : Addr) (Pre : List PyData → Option PyData → Prop) : Sp := fun vs H Q E => ∃ G ds r, Pre ds r ∧ Same G H ∧ DpAll K G vs ds ∧ match r with
  | some d => ∀ v G' H', Ext G H G' H' → Dp K G' v d → Q v H'
  | none => ∀ G' H', Ext G H G' H' → E (.ref U) none H'
def OkE (M : Md) (x : Str) (ps : List Str) (k : Nat) (sp : Sp) : Prop := ∃ f fd, M.mg x = some (.ref f) ∧ PySem.W.keepIn M.K (.ref f) = true ∧ Binds M.K fd ps [] ∧ FnOk M.P M.w M.K M.mg M.base (L2.CX M.P M.w) k f fd ps sp
theorem pe_fnE {X : Cx} {M : Md} {x : Str} {ps : List Str} {k : Nat} {sp : Sp} {E : XK} {e : Expr} {es : List Expr} {t : TA} {p pos : Pos} (F : OkE M x ps k sp) (hr : Room k X.A) (ha : PA X (e :: es) t) (tk : Takes X (fun cls d _ H => E cls d H))
    (hM : M = ⟨X.prog, X.w, X.K, X.mg, X.base⟩ := by rfl) (hg : Gl X x := by rfl) (hdb : (x == ("__debug__" : Str)) = false := by decide) (he : starEach (e :: es) X.env = (false, eval e X.env) :: starEach es X.env := by rfl) (hpl : (backTo pos (starEach es X.env)).any (·.1) = false := by rfl) :
    PE X (.Call (.Name x p) (e :: es) [] pos) (tCall sp [] E t) := by
  obtain ⟨f, fd, h1, h2, h3, h4⟩ := F
  subst hM
  exact pe_call h4 hr hg h1 h2 h3 .nil (passes_call (W := fun cls d _ H => E cls d H) tk fun _ _ _ _ z => z) ha hdb he hpl
section
variable {C : Cn} {ρ ρ1 : Rho} {ta tb tc te : TE} {d e f : PyData} {P P' : PyData → Rho → Prop} {t u : TT} {as : TA} {E : XK} {U : Addr} {ts us : TS} {Z Z' : Post} {ds es : List PyData}
theorem de_callE {Pre : List PyData → Option PyData → Prop} (h : DA C as ρ ds) (pre : Pre ds (some d)) : DE C (tCall (spE C.K U Pre) [] E as) ρ d := fun B G H σ o Q q => by
  refine h B G H σ o _ fun vs ds' ρ1 G1 H1 p o1 s1 dx => ?_
  obtain ⟨rfl, rfl⟩ := p
  refine ⟨G1, ds', some d, pre, o1.gh, ?_, fun v G2 H2 ex dv => q v d ρ1 G2 H2 ⟨rfl, rfl⟩ (o1.on ex) (s1.trans ex.sx) dv⟩
  rw [List.append_nil]
  exact dx
/-! ### what ends by the error -/
def RX (C : Cn) (W : Hp → Prop) (te : TE) (ρ : Rho) (B : Bs) : Prop := ∀ (G H : Hp) (σ : L2.St), Ok C B G H σ ρ → (∀ G' H', Ok C B G' H' σ ρ → W H') → ∀ Q : VK, te σ H Q
def RS (C : Cn) (W : Hp → Prop) (ts : TS) (ρ : Rho) (B : Bs) : Prop := ∀ (G H : Hp) (σ : L2.St) (D : Ends), Ok C B G H σ ρ → (∀ ρ' G' H' σ', Ok C B G' H' σ' ρ' → W H') → ts D σ H
variable {W : Hp → Prop} {B : Bs}
theorem rx_call {Pre : List PyData → Option PyData → Prop} (h : DA C as ρ ds) (pre : Pre ds none) (hE : ∀ H, W H → E (.ref U) none H) : RX C W (tCall (spE C.K U Pre) [] E as) ρ B := fun G H σ o w Q => by
  refine h B G H σ o _ fun vs ds' ρ1 G1 H1 p o1 s1 dx => ?_
  obtain ⟨rfl, rfl⟩ := p
  refine ⟨G1, ds', none, pre, o1.gh, ?_, fun G2 H2 ex => hE _ (w G2 H2 (o1.on ex))⟩
  rw [List.append_nil]
  exact dx
theorem rx_arg {sp : Sp} {E' : XK} (h : RX C W ta ρ B) : RX C W (tCall sp [] E' (tCons ta as)) ρ B := fun G H σ o w Q => h G H σ o w _
theorem rs_ret (h : RX C W te ρ B) : RS C W (tRet te) ρ B := fun G H σ D o w => h G H σ o (fun G' H' o' => w _ G' H' σ o') _
theorem rs_asg {g : TG} (h : RX C W te ρ B) : RS C W (tAsg te g) ρ B := fun G H σ D o w => h G H σ o (fun G' H' o' => w _ G' H' σ o') _
theorem rs_first (h : RS C W ts ρ B) : RS C W (tSeq ts us) ρ B := fun G H σ D o w => h G H σ _ o w
theorem rs_then (h : DS C ts ρ { nx := fun ρ' => RS C W us ρ' B }) : RS C W (tSeq ts us) ρ B := fun G H σ D o w =>
  h B G H σ _ o (fun ρ' G' H' σ' p o' _ => p G' H' σ' D o' w) (fun _ _ _ _ _ _ z => z.elim) (fun _ _ _ _ z => z.elim) fun _ _ _ _ z => z.elim
theorem rs_if (h : DT C t ρ true) (k : RS C W ts ρ B) : RS C W (tIfS t ts us) ρ B := fun G H σ D o w => by
  refine h B G H σ o _ fun b ρ1 G1 H1 p o1 s => ?_
  obtain ⟨rfl, rfl⟩ := p
  exact k G1 H1 σ D o1 w
theorem rs_raise (h : ∀ H, W H → E (.ref U) none H) : RS C W (fun _ _ H => E (.ref U) none H) ρ B := fun G H σ D o w => h _ (w ρ G H σ o)
theorem de_chain {i j k : Int} {f g : Int → Int → Bool} (ha : DE C ta ρ (.int i)) (hb : DE C tb ρ (.int j)) (hc : DE C tc ρ (.int k)) (h1 : f i j = true) : DE C (tChain (rI0 fun i j => .bl (f i j)) (rI0 fun i j => .bl (g i j)) ta tb tc) ρ (.bool (g j k)) := fun B G H σ o Q q => by
  refine ha B G H σ o _ fun x d ρ1 G1 H1 p1 o1 s1 dx => ?_
  obtain ⟨rfl, rfl⟩ := p1
  refine hb B G1 H1 σ o1 _ fun y d ρ2 G2 H2 p2 o2 s2 dy => ?_
  obtain ⟨rfl, rfl⟩ := p2
  refine ⟨i, j, dp_int dx, dp_int dy, true, congrArg V.bl h1, ?_⟩
  refine hc B G2 H2 σ o2 _ fun z d ρ3 G3 H3 p3 o3 s3 dz => ?_
  obtain ⟨rfl, rfl⟩ := p3
  exact ⟨j, k, dp_int dy, dp_int dz, q _ _ _ G3 H3 ⟨rfl, rfl⟩ o3 ((s1.trans s2).trans s3) (.bl _)⟩
theorem okf_raise {M : Md} {x : Str} {st : Stmt} {N ps : List Str} {k : Nat} {U : Addr} {Pre : List PyData → Option PyData → Prop} (F : DefAt M x st) (S : FnScope N ps (defScope st)) (hb : BindOk x st ps) (len : ∀ ds d, Pre ds d → ds.length = ps.length)
    (body : ∀ (f : Addr) (cdv : Value) (A : Around) (outer : List Env) (s : Shared) (H : Hp) (E : XK), Room k (A.deeper (envOfC x (defScope st) s.heap.objs.size f cdv)) →
      ∃ t, PSs (cxOf (L2.CX M.P M.w) M.P M.w M.K M.mg M.base N x (defScope st) f cdv A outer s H E) (defBody st) t ∧ (∀ ds d, Pre ds (some d) → DS ⟨M.K, []⟩ t (initR N ds) { nx := fun _ => False, rt := fun d' _ => d' = d }) ∧
        ∀ ds W B, Pre ds none → (∀ H, W H → E (.ref U) none H) → RS ⟨M.K, []⟩ W t (initR N ds) B) : OkE M x ps (k + 1) (spE M.K U Pre) := by
  obtain ⟨f, fd, h1, h2⟩ := F
  refine ⟨f, fd, h1, h2.kp, h2.bindsN hb, h2.ok S (fun vs H Q E ⟨G, ds, d, pre, _, ha, _⟩ => (dpa_len ha).trans (len ds d pre)) fun cdv A outer s H vs Q E hr h => ?_⟩
  obtain ⟨t, p, q1, q2⟩ := body f cdv A outer s H E hr
  obtain ⟨G, ds, r, pre, gh, ha, k⟩ := h
  refine ⟨t, p, ?_⟩
  cases r with
  | some d =>
    refine run_pure (Pre := fun ds' d' => ds' = ds ∧ d' = d) (E := E) ⟨G, ds, d, ⟨rfl, rfl⟩, gh, ha, k⟩ fun ds' d' z => ?_
    obtain ⟨rfl, rfl⟩ := z
    exact q1 ds' d' pre
  | none =>
    refine q2 ds (fun H' => E (.ref U) none H') ⟨G, H, fun _ => False⟩ pre (fun _ z => z) G H (L2.start N vs) _ ⟨start_len ha, gh, Same.refl _, fun a o _ e => e, fun a e => e, fun a _ e => e, fun a z => z.elim, fun p hp => (by cases hp), fun p hp => (by cases hp), fun i s e => ?_, fun i n e => ?_, fun i j a ds' es ne e1 e2 e3 => ?_⟩ fun ρ' G' H' σ' o => k G' H' ⟨o.g0, fun a o' e => o.h0 a o' (fun z => z) e, o.gh, fun a e1 e2 => o.new a e1 e2⟩
    · have w := start_slots (N := N) ha i s e
      cases s with
      | dat d => exact w
      | un => trivial
      | own _ => exact w.elim
      | std _ => exact w.elim
      | tin _ => exact w.elim
    · exact (start_slots (N := N) ha i _ e).elim
    · exact (start_slots (N := N) ha i _ e1).elim
end
end SC
namespace SC
open PySem PySem.Spec PyProof.Rows L2

def sureQ (rows : List (Option (Rat × Rat))) : Option (List (Rat × Rat)) := if rows.any (fun w => w.isNone) then none else some (rows.filterMap id)
theorem sure_map : ∀ {rows : List (Option (Rat × Rat))}, rows.any (fun w => w.isNone) = false → rows.map dO = (rows.filterMap id).map dP
  | [], _ => rfl
  | none :: _, h => by simp at h
  | some w :: rows, h => by
    have h2 : rows.any (fun w => w.isNone) = false := by
      rw [List.any_cons] at h
      exact (Bool.or_eq_false_iff.mp h).2
    simp only [List.map_cons, List.filterMap_cons, id]
    rw [sure_map h2]
    rfl
theorem sure_some {rows : List (Option (Rat × Rat))} {ws : List (Rat × Rat)} (h : sureQ rows = some ws) : rows.any (fun w => w.isNone) = false ∧ ws = rows.filterMap id := by
  unfold sureQ at h
  split at h
  · cases h
  · rename_i h2
    exact ⟨Bool.eq_false_iff.mpr h2, (Option.some.inj h).symm⟩
theorem sure_none {rows : List (Option (Rat × Rat))} (h : sureQ rows = none) : rows.any (fun w => w.isNone) = true := by
  unfold sureQ at h
  split at h
  · assumption
  · cases h
def sideQ (far : Bool) (w : Rat × Rat) : Rat := if far then w.2 else w.1
def stopsQ (ws : List (Rat × Rat)) (far : Bool) : PyData := .tuple [dQ (sideQ far (sharedQ ws)), .tuple (((List.range ws.length).filter fun i => decide (sideQ far (ws.getD i (0, 0)) = sideQ far (sharedQ ws))).map fun i : Nat => .int (i : Int))]
theorem teeth_sz {b : Bar} {n : Nut} {m : Mo} (hb : BOk b) {ws : List (Rat × Rat)} (h : sureQ (teethQ b n m) = some ws) : ∀ w ∈ ws, Sz 40 w.1 ∧ Sz 40 w.2 := fun w hw => by
  rw [(sure_some h).2, List.mem_filterMap] at hw
  obtain ⟨o, ho, e⟩ := hw
  have e : o = some w := e
  subst e
  obtain ⟨ph, _, e⟩ := List.mem_map.mp ho
  exact wayQ_sz hb e
theorem teeth_len {b : Bar} {n : Nut} {m : Mo} {ws : List (Rat × Rat)} (h : sureQ (teethQ b n m) = some ws) : ws.length = n.phs.length := by
  have k := congrArg List.length (sure_map (sure_some h).1)
  rw [List.length_map, List.length_map, ofs_len] at k
  rw [(sure_some h).2]
  exact k.symm
/-! tooth_stretch -/
abbrev s_tooth_stretch : Stmt := topS 33
abbrev n_tooth_stretch : List Str := ["bar", "nut", "motion", "number", "told", "way"]
theorem sc_tooth_stretch : FnScope n_tooth_stretch ["bar", "nut", "motion", "number"] (defScope s_tooth_stretch) := ⟨rfl, rfl, rfl, by decide +kernel, rfl, by decide +kernel, by decide +kernel⟩
theorem dt_chainT {C : Cn} {ρ : Rho} {ta tb tc : TE} {i j k : Int} (ha : DE C ta ρ (.int i)) (hb : DE C tb ρ (.int j)) (hc : DE C tc ρ (.int k)) (h1 : i ≤ j) (h2 : j < k) :
    DT C (tTest (tChain (rI0 fun i j => .bl (decide (i ≤ j))) (rI0 fun i j => .bl (decide (i < j))) ta tb tc)) ρ true := (dt_test (de_chain (f := fun i j => decide (i ≤ j)) (g := fun i j => decide (i < j)) ha hb hc (decide_eq_true h1))).cast (decide_eq_true h2)
def Pre_tooth_stretch (ds : List PyData) (d : Option PyData) : Prop := ∃ xb xn xm b n m k, ds = [xb, xn, xm, .int (k : Nat)] ∧ AB xb b ∧ AN xn n ∧ AM xm m ∧ k < n.phs.length ∧ d = ((teethQ b n m).getD k none).map dP
theorem ok_tooth_stretch {M : Md} (bi : Bi M.mg) {U : Addr} (hu : ExcAt M.K M.mg "Unfit" U) (F : DefAt M "tooth_stretch" s_tooth_stretch) (F_tupled : OkF M "tupled" ["thing"] 10 (spP M.K (Pre_tupled 9))) (F_teeth_ways : OkF M "teeth_ways" ["bar", "nut", "motion"] 6 (spP M.K Pre_teeth_ways)) : OkE M "tooth_stretch" ["bar", "nut", "motion", "number"] 11 (spE M.K U Pre_tooth_stretch) := by
  refine okf_raise F sc_tooth_stretch (fun _ _ _ _ _ _ us hl => match us, hl with | [_, _, _, _], _ => rfl) (fun ds d h => by obtain ⟨xb, xn, xm, b, n, m, k, rfl, _, _, _, _, _⟩ := h; rfl) fun f cdv A outer s H E hr =>
    ⟨_, (pss_cons (ps_set (i := 4) sc_tooth_stretch.nd rfl (.inl rfl) (pe_fn F_tupled (hr.mono (by decide)) (pa_cons (pv 1) pa_nil)))
      (pss_cons (ps_if (pt_not (pt_chain op_le op_lt pe_int (pv 3) (pe_callB (klen M.K) (by rfl) bi.len PySem.boot_len (pa_cons (pe_ix (kixT M.K) (pv 4) pe_int (fun _ _ => rfl)) pa_nil)))) (pss_one ps_never) pss_nil)
      (pss_cons (ps_set (i := 5) sc_tooth_stretch.nd rfl (.inl rfl) (pe_ix (kixL M.K) (pe_fn F_teeth_ways (hr.mono (by decide)) (pa_cons (pe_fn F_tupled (hr.mono (by decide)) (pa_cons (pv 0) pa_nil)) (pa_cons (pv 4) (pa_cons (pe_fn F_tupled (hr.mono (by decide)) (pa_cons (pv 2) pa_nil)) pa_nil)))) (pv 3) (fun _ _ => rfl)))
      (pss_cons (ps_if (pt_cmpR op_isN (pv 5) pe_non (nomark _)) (pss_one (ps_raise rfl (takes_of rfl rfl rfl rfl) (pmk_bare PySem.F.excBase_ValueError hu.exc hu.at_ hu.keep (raises_own hu.sub hu.ty) rfl))) pss_nil)
      (pss_one (ps_ret (pv 5))))))), ?yes, ?no⟩
  case yes =>
    intro ds d h
    obtain ⟨xb, xn, xm, b, n, m, k, rfl, ⟨bd, be, bo⟩, ⟨nd, ne, no⟩, ⟨md, me, mo⟩, hk, hd⟩ := h
    have hl := ofs_len b n m
    refine ds_seq (ds_asgD (d := dNut n) (de_tupled (de_var rfl) nd ne) ?_)
    refine ds_seq (ds_ifD (b := false) ((dt_not (dt_chainT (i := 0) (j := k) (k := n.phs.length) de_int (de_var rfl) ((de_cb (da_cons (de_op (de_var rfl) de_int (rd_ixT (d := .tuple (n.phs.map dQ)) rfl)) da_nil) rc_lenT).cast (by rw [List.length_map])) (Int.natCast_nonneg k) (by omega))).cast rfl) (fun z => nomatch z) fun _ => ds_next ?_)
    have hr' : atI ((teethQ b n m).map dO) (k : Int) = some (dO ((teethQ b n m).getD k none)) := by
      refine atI_nat ?_
      rw [List.getElem?_map, List.getD_eq_getElem?_getD, List.getElem?_eq_getElem (by omega)]
      rfl
    refine ds_seq (ds_asgD (d := dO ((teethQ b n m).getD k none)) (de_op (dx_tup3 (de_tupled (de_var rfl) bd be) (de_var rfl) (de_tupled (de_var rfl) md me) bo no mo) (de_var rfl) (rd_ixL hr')) ?_)
    generalize (teethQ b n m).getD k none = o at *
    cases o with
    | none => cases hd
    | some w =>
      have hd : d = dP w := Option.some.inj hd
      refine ds_seq (ds_ifD (b := false) ((dt_test (de_op (de_var rfl) de_non rd_isN)).cast rfl) (fun z => nomatch z) fun _ => ds_next ?_)
      exact ds_retD (de_var (d := dP w) rfl) hd.symm
  case no =>
    intro ds W B h hW
    obtain ⟨xb, xn, xm, b, n, m, k, rfl, ⟨bd, be, bo⟩, ⟨nd, ne, no⟩, ⟨md, me, mo⟩, hk, hd⟩ := h
    have hl := ofs_len b n m
    refine rs_then (ds_asgD (d := dNut n) (de_tupled (de_var rfl) nd ne) ?_)
    refine rs_then (ds_ifD (b := false) ((dt_not (dt_chainT (i := 0) (j := k) (k := n.phs.length) de_int (de_var rfl) ((de_cb (da_cons (de_op (de_var rfl) de_int (rd_ixT (d := .tuple (n.phs.map dQ)) rfl)) da_nil) rc_lenT).cast (by rw [List.length_map])) (Int.natCast_nonneg k) (by omega))).cast rfl) (fun z => nomatch z) fun _ => ds_next ?_)
    have hr' : atI ((teethQ b n m).map dO) (k : Int) = some (dO ((teethQ b n m).getD k none)) := by
      refine atI_nat ?_
      rw [List.getElem?_map, List.getD_eq_getElem?_getD, List.getElem?_eq_getElem (by omega)]
      rfl
    refine rs_then (ds_asgD (d := dO ((teethQ b n m).getD k none)) (de_op (dx_tup3 (de_tupled (de_var rfl) bd be) (de_var rfl) (de_tupled (de_var rfl) md me) bo no mo) (de_var rfl) (rd_ixL hr')) ?_)
    generalize (teethQ b n m).getD k none = o at *
    cases o with
    | some w => cases hd
    | none =>
      refine rs_first (rs_if ((dt_test (de_op (de_var (d := .none) rfl) de_non rd_isN)).cast rfl) (rs_raise hW))
/-! sure_ways -/
abbrev s_sure_ways : Stmt := topS 34
abbrev n_sure_ways : List Str := ["bar", "nut", "motion", "rows"]
theorem sc_sure_ways : FnScope n_sure_ways ["bar", "nut", "motion"] (defScope s_sure_ways) := ⟨rfl, rfl, rfl, by decide +kernel, rfl, by decide +kernel, by decide +kernel⟩
def Pre_sure_ways (ds : List PyData) (d : Option PyData) : Prop := ∃ xb xn xm b n m, ds = [xb, xn, xm] ∧ AB xb b ∧ AN xn n ∧ AM xm m ∧ d = (sureQ (teethQ b n m)).map fun ws => .list (ws.map dP)
theorem ok_sure_ways {M : Md} (bi : Bi M.mg) {U : Addr} (hu : ExcAt M.K M.mg "Unfit" U) (F : DefAt M "sure_ways" s_sure_ways) (F_teeth_ways : OkF M "teeth_ways" ["bar", "nut", "motion"] 6 (spP M.K Pre_teeth_ways)) (F_tupled : OkF M "tupled" ["thing"] 10 (spP M.K (Pre_tupled 9))) : OkE M "sure_ways" ["bar", "nut", "motion"] 11 (spE M.K U Pre_sure_ways) := by
  refine okf_raise F sc_sure_ways (fun _ _ _ _ _ _ us hl => match us, hl with | [_, _, _], _ => rfl) (fun ds d h => by obtain ⟨xb, xn, xm, b, n, m, rfl, _, _, _, _⟩ := h; rfl) fun f cdv A outer s H E hr =>
    ⟨_, (pss_cons (ps_set (i := 3) sc_sure_ways.nd rfl (.inl rfl) (pe_fn F_teeth_ways (hr.mono (by decide)) (pa_cons (pe_fn F_tupled (hr.mono (by decide)) (pa_cons (pv 0) pa_nil)) (pa_cons (pe_fn F_tupled (hr.mono (by decide)) (pa_cons (pv 1) pa_nil)) (pa_cons (pe_fn F_tupled (hr.mono (by decide)) (pa_cons (pv 2) pa_nil)) pa_nil)))))
      (pss_cons (ps_if (pt_cmpR (kinD M.K hr) pe_non (pv 3) (by with_unfolding_all rfl)) (pss_one (ps_raise rfl (takes_of rfl rfl rfl rfl) (pmk_bare PySem.F.excBase_ValueError hu.exc hu.at_ hu.keep (raises_own hu.sub hu.ty) rfl))) pss_nil)
      (pss_one (ps_ret (pv 3))))), ?yes, ?no⟩
  case yes =>
    intro ds d h
    obtain ⟨xb, xn, xm, b, n, m, rfl, ⟨bd, be, bo⟩, ⟨nd, ne, no⟩, ⟨md, me, mo⟩, hd⟩ := h
    have kt : DE ⟨M.K, []⟩ (tCall (spP M.K Pre_teeth_ways) [] E0 (tCons (tCall (spP M.K (Pre_tupled 9)) [] E0 (tCons (tVar 0) tNil)) (tCons (tCall (spP M.K (Pre_tupled 9)) [] E0 (tCons (tVar 1) tNil)) (tCons (tCall (spP M.K (Pre_tupled 9)) [] E0 (tCons (tVar 2) tNil)) tNil)))) (initR n_sure_ways [xb, xn, xm]) (.list ((teethQ b n m).map dO)) := dx_tup3 (de_tupled (de_var rfl) bd be) (de_tupled (de_var rfl) nd ne) (de_tupled (de_var rfl) md me) bo no mo
    cases hs : sureQ (teethQ b n m) with
    | none =>
      rw [hs] at hd
      cases hd
    | some ws =>
    rw [hs] at hd
    have hd : d = .list (ws.map dP) := Option.some.inj hd
    obtain ⟨h1, h2⟩ := sure_some hs
    have h3 := sure_map h1
    refine ds_seq (ds_asgD kt ?_)
    refine ds_seq (ds_ifD (b := false) ((dt_test (de_op de_non (de_var rfl) (rd_inD rfl (shp_rows _)))).cast ?_) (fun z => nomatch z) fun _ => ds_next ?_)
    · rw [any_none, h1]
    · refine ds_retD (de_var rfl) ?_
      rw [hd, h3, h2]
  case no =>
    intro ds W B h hW
    obtain ⟨xb, xn, xm, b, n, m, rfl, ⟨bd, be, bo⟩, ⟨nd, ne, no⟩, ⟨md, me, mo⟩, hd⟩ := h
    have kt : DE ⟨M.K, []⟩ (tCall (spP M.K Pre_teeth_ways) [] E0 (tCons (tCall (spP M.K (Pre_tupled 9)) [] E0 (tCons (tVar 0) tNil)) (tCons (tCall (spP M.K (Pre_tupled 9)) [] E0 (tCons (tVar 1) tNil)) (tCons (tCall (spP M.K (Pre_tupled 9)) [] E0 (tCons (tVar 2) tNil)) tNil)))) (initR n_sure_ways [xb, xn, xm]) (.list ((teethQ b n m).map dO)) := dx_tup3 (de_tupled (de_var rfl) bd be) (de_tupled (de_var rfl) nd ne) (de_tupled (de_var rfl) md me) bo no mo
    cases hs : sureQ (teethQ b n m) with
    | some ws =>
      rw [hs] at hd
      cases hd
    | none =>
    refine rs_then (ds_asgD kt ?_)
    refine rs_first (rs_if ((dt_test (de_op de_non (de_var rfl) (rd_inD rfl (shp_rows _)))).cast ?_) (rs_raise hW))
    rw [any_none, sure_none hs]
/-! how_far -/
abbrev s_how_far : Stmt := topS 36
abbrev n_how_far : List Str := ["bar", "nut", "motion"]
theorem sc_how_far : FnScope n_how_far ["bar", "nut", "motion"] (defScope s_how_far) := ⟨rfl, rfl, rfl, by decide +kernel, rfl, by decide +kernel, by decide +kernel⟩
def Pre_how_far (ds : List PyData) (d : Option PyData) : Prop := ∃ xb xn xm b n m, ds = [xb, xn, xm] ∧ AB xb b ∧ AN xn n ∧ AM xm m ∧ d = (sureQ (teethQ b n m)).map fun ws => dP (sharedQ ws)
theorem ok_how_far {M : Md} (bi : Bi M.mg) {U : Addr} (hu : ExcAt M.K M.mg "Unfit" U) (F : DefAt M "how_far" s_how_far) (F_shared_way : OkF M "shared_way" ["rows"] 3 (spP M.K Pre_shared_way)) (F_sure_ways : OkE M "sure_ways" ["bar", "nut", "motion"] 11 (spE M.K U Pre_sure_ways)) : OkE M "how_far" ["bar", "nut", "motion"] 12 (spE M.K U Pre_how_far) := by
  refine okf_raise F sc_how_far (fun _ _ _ _ _ _ us hl => match us, hl with | [_, _, _], _ => rfl) (fun ds d h => by obtain ⟨xb, xn, xm, b, n, m, rfl, _, _, _, _⟩ := h; rfl) fun f cdv A outer s H E hr =>
    ⟨_, (pss_one (ps_ret (pe_fn F_shared_way (hr.mono (by decide)) (pa_cons (pe_fnE F_sure_ways (hr.mono (by decide)) (pa_cons (pv 0) (pa_cons (pv 1) (pa_cons (pv 2) pa_nil))) (takes_of rfl rfl rfl rfl)) pa_nil)))), ?yes, ?no⟩
  case yes =>
    intro ds d h
    obtain ⟨xb, xn, xm, b, n, m, rfl, hb, hn, hm, hd⟩ := h
    cases hs : sureQ (teethQ b n m) with
    | none =>
      rw [hs] at hd
      cases hd
    | some ws =>
    rw [hs] at hd
    have hd : d = dP (sharedQ ws) := Option.some.inj hd
    have hl := teeth_len hs
    have hf := hn.2.2.few
    refine ds_retD (de_call (da_cons (de_callE (da_cons (de_var rfl) (da_cons (de_var rfl) (da_cons (de_var rfl) da_nil))) ⟨xb, xn, xm, b, n, m, rfl, hb, hn, hm, by rw [hs]; rfl⟩) da_nil) ⟨ws, rfl, ?_, by omega, teeth_sz hb.2.2 hs, rfl⟩) hd.symm
    intro z
    rw [z] at hl
    exact hn.2.2.ne (List.length_eq_zero_iff.mp hl.symm)
  case no =>
    intro ds W B h hW
    obtain ⟨xb, xn, xm, b, n, m, rfl, hb, hn, hm, hd⟩ := h
    cases hs : sureQ (teethQ b n m) with
    | some ws =>
      rw [hs] at hd
      cases hd
    | none => exact rs_ret (rx_arg (rx_call (da_cons (de_var rfl) (da_cons (de_var rfl) (da_cons (de_var rfl) da_nil))) ⟨xb, xn, xm, b, n, m, rfl, hb, hn, hm, by rw [hs]; rfl⟩ hW))
/-! stops_at -/
abbrev s_stops_at : Stmt := topS 37
abbrev n_stops_at : List Str := ["bar", "nut", "motion", "far", "rows", "side", "place", "number", "way"]
theorem sc_stops_at : FnScope n_stops_at ["bar", "nut", "motion", "far"] (defScope s_stops_at) := ⟨rfl, rfl, rfl, by decide +kernel, rfl, by decide +kernel, by decide +kernel⟩
def Pre_stops_at (ds : List PyData) (d : Option PyData) : Prop := ∃ xb xn xm far b n m, ds = [xb, xn, xm, .bool far] ∧ AB xb b ∧ AN xn n ∧ AM xm m ∧ d = (sureQ (teethQ b n m)).map fun ws => stopsQ ws far
theorem ok_stops_at {M : Md} (bi : Bi M.mg) {U : Addr} (hu : ExcAt M.K M.mg "Unfit" U) (F : DefAt M "stops_at" s_stops_at) (F_sure_ways : OkE M "sure_ways" ["bar", "nut", "motion"] 11 (spE M.K U Pre_sure_ways)) (F_shared_way : OkF M "shared_way" ["rows"] 3 (spP M.K Pre_shared_way)) : OkE M "stops_at" ["bar", "nut", "motion", "far"] 12 (spE M.K U Pre_stops_at) := by
  refine okf_raise F sc_stops_at (fun _ _ _ _ _ _ us hl => match us, hl with | [_, _, _, _], _ => rfl) (fun ds d h => by obtain ⟨xb, xn, xm, far, b, n, m, rfl, _, _, _, _⟩ := h; rfl) fun f cdv A outer s H E hr =>
    ⟨_, (pss_cons (ps_set (i := 4) sc_stops_at.nd rfl (by first | exact .inl rfl | exact .inr rfl) (pe_fnE F_sure_ways (hr.mono (by decide)) (pa_cons (pv 0) (pa_cons (pv 1) (pa_cons (pv 2) pa_nil))) (takes_of rfl rfl rfl rfl)))
      (pss_cons (ps_set (i := 5) sc_stops_at.nd rfl (by first | exact .inl rfl | exact .inr rfl) (pe_ifExp (pt_val (pv 3)) pe_int pe_int))
      (pss_cons (ps_set (i := 6) sc_stops_at.nd rfl (by first | exact .inl rfl | exact .inr rfl) (pe_ix (kixT M.K) (pe_fn F_shared_way (hr.mono (by decide)) (pa_cons (pv 4) pa_nil)) (pv 5) (fun _ _ => rfl)))
      (pss_one (ps_ret (pe_tup (pa_cons (pv 6) (pa_cons (pe_callTy (ktupOf M.K) (by rfl) bi.tuple (by decide +kernel) (pa_cons (pe_lc (own := [("number", 7), ("way", 8)]) rfl sc_stops_at.nd (piE M.K bi.enumerate (pa_cons (pv 4) pa_nil)) (blkOk_by (N := n_stops_at) (sc := defScope s_stops_at) (by decide +kernel)) (fun _ _ _ _ _ => (pgT M.K 2 (pgs_cons (pg_name (i := 7) sc_stops_at.nd rfl (by first | exact .inl rfl | exact .inr rfl)) (pgs_cons (pg_name (i := 8) sc_stops_at.nd rfl (by first | exact .inl rfl | exact .inr rfl)) pgs_nil)))) (fun _ _ _ _ _ => (pts_one (pt_cmpR (keqD M.K hr) (pe_ix (kixT M.K) (pv 8) (pv 5) (fun _ _ => rfl)) (pv 6) (nomark _)))) (fun _ _ _ _ _ => (pv 7))) pa_nil)) pa_nil)))))))), ?yes, ?no⟩
  case yes =>
    intro ds d h
    obtain ⟨xb, xn, xm, far, b, n, m, rfl, hb, hn, hm, hd⟩ := h
    cases hs : sureQ (teethQ b n m) with
    | none =>
      rw [hs] at hd
      cases hd
    | some ws =>
    rw [hs] at hd
    have hd : d = stopsQ ws far := Option.some.inj hd
    have hl := teeth_len hs
    have hf := hn.2.2.few
    have hne : ws ≠ [] := fun z => by
      rw [z] at hl
      exact hn.2.2.ne (List.length_eq_zero_iff.mp hl.symm)
    have hix : ∀ w : Rat × Rat, atI [dQ w.1, dQ w.2] (if far then 1 else 0) = some (dQ (sideQ far w)) := fun w => by cases far <;> rfl
    refine ds_seq (ds_asgD (de_callE (da_cons (de_var rfl) (da_cons (de_var rfl) (da_cons (de_var rfl) da_nil))) ⟨xb, xn, xm, b, n, m, rfl, hb, hn, hm, by rw [hs]; rfl⟩) ?_)
    refine ds_seq (ds_asgD (d := .int (if far then 1 else 0)) (de_if (dt_B (de_var (d := .bool far) rfl)) (fun h => ?_) fun h => ?_) ?_)
    · rw [h]
      exact de_int
    · rw [h]
      exact de_int
    refine ds_seq (ds_asgD (d := dQ (sideQ far (sharedQ ws))) (de_op (de_call (da_cons (de_var rfl) da_nil) ⟨ws, rfl, hne, by omega, teeth_sz hb.2.2 hs, rfl⟩) (de_var rfl) (rd_ixT (hix _))) ?_)
    refine ds_retD (de_tup (da_cons (de_var rfl) (da_cons (de_cb (da_cons (de_lcF (js := [7, 8]) (List.range ws.length) (fun i => .tuple [.int (i : Int), dP (ws.getD i (0, 0))]) (fun i => decide (sideQ far (ws.getD i (0, 0)) = sideQ far (sharedQ ws))) (fun i => .int (i : Int)) ?_ (by rw [List.length_range]; omega) inAll (plainR_un rfl (plainR_un rfl plainR_nil)) fun i hi => ⟨[.int (i : Int), dP (ws.getD i (0, 0))], gt_tup (.cons 7 (.cons 8 .nil)) rfl rfl, ?_, fun _ => de_var rfl⟩) da_nil) rc_tupL) da_nil))) hd.symm
    · have k := dw_enum (C := ⟨M.K, []⟩) (ρ := [.dat xb, .dat xn, .dat xm, .dat (.bool far), .dat (.list (ws.map dP)), .dat (.int (if far then 1 else 0)), .dat (dQ (sideQ far (sharedQ ws))), .un, .un]) (da_cons (de_var (i := 4) rfl) da_nil)
      rw [enum_range (0, 0)] at k
      exact k
    · exact (dt_test (de_op (de_op (de_var rfl) (de_var rfl) (rd_ixT (hix _))) (de_var rfl) (rd_eqD (shp_dQ _) (shp_dQ _)))).cast (eqv_dQ _ _)
  case no =>
    intro ds W B h hW
    obtain ⟨xb, xn, xm, far, b, n, m, rfl, hb, hn, hm, hd⟩ := h
    cases hs : sureQ (teethQ b n m) with
    | some ws =>
      rw [hs] at hd
      cases hd
    | none => exact rs_first (rs_asg (rx_call (da_cons (de_var rfl) (da_cons (de_var rfl) (da_cons (de_var rfl) da_nil))) ⟨xb, xn, xm, b, n, m, rfl, hb, hn, hm, by rw [hs]; rfl⟩ hW))
end SC
/-! The source of draws read and written; lists of one's own that are copies. -/
namespace SC
open PySem PySem.Spec PyProof.Rows L2
theorem op_mulX {X : Cx} : OpR X (binaryOp .Mult) (rI IntMulOk fun i j => .int (i * j)) := opI fun _ _ _ _ _ _ _ hc q => mul_int q hc
section
variable {C : Cn} {ρ ρ1 : Rho} {ta tb tc te : TE} {d e f : PyData} {P P' : PyData → Rho → Prop} {t u : TT} {as : TA} {E : XK} {ts us : TS} {Z Z' : Post} {ds es : List PyData}
theorem dx_tin {n k : Nat} (h0 : ρ[0]? = some (.tin n)) (hk : k < 3) (h : ∀ i : Int, 0 ≤ i → (k = 1 → i < 2 ^ 62) → (k = 2 → i ≤ n) → P (.int i) ρ) : DX C (tOp (rIxL C.K) (tVar 0) (tC (.int (k : Nat)))) ρ P := fun B G H σ o Q q => by
  obtain ⟨a, ea, bt, x, y, z, ht, h1, h2, h3, h4, h5⟩ := o.sl 0 _ h0
  refine ⟨.ref a, ea, ?_⟩
  have go : ∀ i : Int, atI [V.int x, V.int y, V.int z] (k : Int) = some (.int i) → P (.int i) ρ → (fun (x : V) (H1 : Hp) => tC (.int (k : Nat)) σ H1 fun y H2 => rIxL C.K x y H2 Q) (.ref a) H := fun i e p =>
    ⟨a, _, k, .int i, rfl, rfl, .inl (.inl ht), e, q _ _ ρ G H p o Sx.refl (.int i)⟩
  match k, hk with
  | 0, _ => exact go x rfl (h x h1 (fun z => nomatch z) fun z => nomatch z)
  | 1, _ => exact go y rfl (h y h2 (fun _ => h3) fun z => nomatch z)
  | 2, _ => exact go z rfl (h z h4 (fun z => nomatch z) fun _ => h5)
theorem ds_tinset {n m k : Nat} (h0 : ρ[0]? = some (.tin n)) (hk : k = 0 ∨ k = 2) (hm : n ≤ m) (h : DX C te ρ fun d ρ1 => ρ1 = ρ ∧ ∃ i : Int, d = .int i ∧ 0 ≤ i ∧ (k = 2 → i ≤ m)) (z : Z.nx (ρ.set 0 (.tin m))) : DS C (tAsg te (gSub (tVar 0) (tC (.int (k : Nat))) rSetL)) ρ Z := fun B G H σ D o k1 k2 k3 k4 => by
  refine h B G H σ o _ fun v d ρ1 G1 H1 p o1 s1 dv => ?_
  obtain ⟨rfl, i, rfl, hi, hb⟩ := p
  obtain ⟨a, ea, bt, x, y, w, ht, h1, h2, h3, h4, h5⟩ := o1.sl 0 _ h0
  refine ⟨.ref a, ea, ?_⟩
  have iv := dp_int dv
  subst iv
  have fin : ∀ x' w' : Int, 0 ≤ x' → 0 ≤ w' → w' ≤ m → Ok C B G1 (upd H1 a (.lst [.int x', .int y, .int w'])) σ (ρ1.set 0 (.tin m)) := fun x' w' g1 g2 g3 => by
    have nG := o1.tG bt
    refine o1.drawn h0 ea (Same.refl _) (fun b o' e => ?_) (fun b o' ne e => ?_) (fun b _ e => e) ⟨x', y, w', upd_same, g1, h2, h3, g2, g3⟩
    · rw [upd_ne fun z => by rw [z, nG] at e; cases e]
      exact o1.gh b o' e
    · rw [upd_ne ne]
      exact e
  rcases hk with rfl | rfl
  · exact ⟨a, _, 0, 0, rfl, rfl, ht, rfl, k1 _ G1 _ σ z (fin i w hi h4 (by omega)) s1.g⟩
  · exact ⟨a, _, 2, 2, rfl, rfl, ht, rfl, k1 _ G1 _ σ z (fin x i h1 hi (hb rfl)) s1.g⟩
theorem tru_list {K : PySem.W.Frag} {G H : Hp} {v : V} {ds : List PyData} (s : Same G H) (h : Dp K G v (.list ds)) : TruV K v H (!ds.isEmpty) := by
  obtain ⟨a, xs, rfl, hs, ha⟩ := dp_lst h
  refine .inl ⟨xs, s.seq hs, ?_⟩
  cases ha <;> rfl
/-- x = list(l) or [..] -/
theorem ds_asgOwnOr {i : Nat} (h : DA C as ρ [.list ds]) {bs : TA} (h2 : DA C bs ρ es) (hl : es.length ≤ 100000) (z : Z.nx (ρ.set i (.own (if ds.isEmpty then es else ds)))) :
    DS C (tAsg (tOrT C.K (tCB (rLstOf C.K) as) (tLst bs)) (gName i)) ρ Z := fun B G H σ D o k1 k2 k3 k4 => by
  refine h B G H σ o _ fun vs d ρ1 G1 H1 p o1 s1 dv => ?_
  obtain ⟨rfl, rfl⟩ := p
  obtain ⟨x, rfl, dx⟩ := dpa_one dv
  obtain ⟨p, ys, rfl, hs, ha⟩ := dp_lst dx
  refine ⟨p, ys, rfl, .inl (o1.gh.seq hs), fun l hl' => ?_⟩
  refine ⟨!ys.isEmpty, .inl ⟨ys, .inl (.inl upd_same), rfl⟩, ?_⟩
  have hb : ys.isEmpty = ds.isEmpty := by cases ha <;> rfl
  cases q : ds.isEmpty with
  | true =>
    rw [q] at z hb
    rw [hb, if_neg (by decide)]
    have o2 := o1.new0 (o := .lst ys) hl'
    refine h2 B G1 _ σ o2 _ fun ws d2 ρ2 G2 H2 p2 o3 s2 dw => ?_
    obtain ⟨rfl, rfl⟩ := p2
    refine ⟨by rw [dpa_len dw]; exact sz1000 hl, fun q hq => ?_⟩
    exact k1 _ G2 _ _ z (o3.setown i hq dw) (s1.g.trans s2.g)
  | false =>
    rw [q] at z hb
    rw [hb, if_pos (by decide)]
    exact k1 _ G1 _ _ z (o1.setown i hl' ha) s1.g
/-- x, y = list(l), [] -/
theorem ds_parOwn2 {i j : Nat} (h : DA C as ρ [.list ds]) (z : Z.nx ((ρ.set i (.own ds)).set j (.own []))) : DS C (tPar i j (tCons (tCB (rLstOf C.K) as) (tCons (tLst tNil) tNil))) ρ Z := fun B G H σ D o k1 k2 k3 k4 => by
  refine h B G H σ o _ fun vs d ρ1 G1 H1 p o1 s1 dv => ?_
  obtain ⟨rfl, rfl⟩ := p
  obtain ⟨x, rfl, dx⟩ := dpa_one dv
  obtain ⟨p, ys, rfl, hs, ha⟩ := dp_lst dx
  refine ⟨p, ys, rfl, .inl (o1.gh.seq hs), fun l hl' => ⟨Nat.zero_le _, fun q hq => ?_⟩⟩
  refine ⟨.ref l, .ref q, rfl, ?_⟩
  have o2 := o1.setown i hl' ha
  exact k1 _ G1 _ _ z (o2.setown j hq .nil) s1.g
/-- xs.append(ys.pop(k)) -/
theorem ds_appendPop {i j : Nat} {ds es : List PyData} (hi : ρ[i]? = some (.own ds)) (hj : ρ[j]? = some (.own es)) (ne : i ≠ j)
    (h : DX C te ρ fun d ρ1 => ∃ (k : Nat) (fs gs : List PyData) (x : PyData), d = .int (k : Nat) ∧ ρ1[i]? = some (.own fs) ∧ ρ1[j]? = some (.own gs) ∧ gs[k]? = some x ∧ gs.length ≤ 100000 ∧ fs.length < 100000 ∧ Z.nx ((ρ1.set j (.own (gs.eraseIdx k))).set i (.own (fs ++ [x])))) :
    DS C (tDrop (tBM C.K "list" rAppend (tVar i) (tCons (tBM C.K "list" rPopAt (tVar j) (tCons te tNil)) tNil))) ρ Z := fun B G H σ D o k1 k2 k3 k4 => by
  obtain ⟨a, vs, ea, _, _, e3, _⟩ := o.sl i _ hi
  obtain ⟨b, ws, eb, _, _, f3, _⟩ := o.sl j _ hj
  refine ⟨.ref a, ea, .inl ⟨rfl, vs, .inl (.inl e3)⟩, ?_⟩
  refine ⟨.ref b, eb, .inl ⟨rfl, ws, .inl (.inl f3)⟩, ?_⟩
  refine h B G H σ o _ fun v d ρ1 G1 H1 p o1 s dv => ?_
  obtain ⟨k, fs, gs, x, rfl, h1, h2, hx, hz, hl, z⟩ := p
  obtain ⟨b', ys, eb', g1, g2, g3, g4⟩ := o1.sl j _ h2
  have e := ref_inj eb' eb
  subst e
  obtain ⟨y, hy, dy⟩ := dpa_get g4 hx
  have hk : k < ys.length := (List.getElem?_eq_some_iff.mp hy).1
  have hyl := dpa_len g4
  refine ⟨b', ys, k, k, y, rfl, by rw [dp_int dv], g3, by omega, by omega, ?_, hy, ?_⟩
  · unfold seqIndex?
    rw [if_neg (show ¬ (k : Int) < 0 by omega)]
    have e1 : (decide (0 ≤ (k : Int)) && decide ((k : Int) < (ys.length : Int))) = true := by
      rw [decide_eq_true (show 0 ≤ (k : Int) by omega), decide_eq_true (show (k : Int) < (ys.length : Int) by omega)]
      rfl
    show (if (decide (0 ≤ (k : Int)) && decide ((k : Int) < (ys.length : Int))) = true then some (k : Int).toNat else none) = some k
    rw [if_pos e1]
    rfl
  · have o2 := o1.putown h2 eb' (dpa_erase k g4)
    have h1' : (ρ1.set j (.own (gs.eraseIdx k)))[i]? = some (.own fs) := by
      rw [List.getElem?_set_ne (Ne.symm ne)]
      exact h1
    obtain ⟨a', xs, ea', c1, c2, c3, c4⟩ := o2.sl i _ h1'
    have e := ref_inj ea' ea
    subst e
    refine ⟨a', xs, y, rfl, rfl, c3, ?_, ?_⟩
    · rw [dpa_len c4]
      exact Nat.lt_of_lt_of_le hl (by decide)
    · exact k1 _ G1 _ σ z (o2.putown h1' ea' (dpa_app c4 (.cons dy .nil))) s.g
end
/-! ### the box -/
/-- of the data ds it gives a new source of draws -/
def spBox (K : PySem.W.Frag) (pre : List PyData → Prop) : Sp := fun vs H Q _ => ∃ G ds, pre ds ∧ Same G H ∧ DpAll K G vs ds ∧ ∀ p G' H', Ext G H G' H' → G' p = none → H p = none → TinAt H' p 0 → Q (.ref p) H'
theorem okf_box {M : Md} {x : Str} {st : Stmt} {N ps : List Str} {k : Nat} {pre : List PyData → Prop} (F : DefAt M x st) (S : FnScope N ps (defScope st)) (hb : BindOk x st ps) (len : ∀ ds, pre ds → ds.length = ps.length)
    (body : ∀ (f : Addr) (cdv : Value) (A : Around) (outer : List Env) (s : Shared) (H : Hp) (E : XK), Room k (A.deeper (envOfC x (defScope st) s.heap.objs.size f cdv)) →
      ∃ ts ta, PSs (cxOf CX0 M.P M.w M.K M.mg M.base N x (defScope st) f cdv A outer s H E).nox (defBody st) (tSeq ts (tRet (tLst ta))) ∧ ∀ ds, pre ds → DS ⟨M.K, []⟩ ts (initR N ds) { nx := fun ρ => AX ⟨M.K, []⟩ ta ρ fun es _ => ∃ x y : Int, es = [.int x, .int y, .int 0] ∧ 0 ≤ x ∧ 0 ≤ y ∧ y < 2 ^ 62 }) : OkF M x ps (k + 1) (spBox M.K pre) :=
  okf_mk F S hb (fun vs H Q E ⟨G, ds, pre, _, ha, _⟩ => (dpa_len ha).trans (len ds pre)) fun f cdv A outer s H vs Q E hr h => by
    obtain ⟨ts, ta, h1, h2⟩ := body f cdv A outer s H E hr
    refine ⟨_, h1, ?_⟩
    obtain ⟨G, ds, pre, gh, ha, q⟩ := h
    refine h2 ds pre ⟨G, H, fun _ => False⟩ G H (L2.start N vs) _ ⟨start_len ha, gh, Same.refl _, fun a o _ e => e, fun a e => e, fun a _ e => e, fun a z => z.elim, fun p hp => (by cases hp), fun p hp => (by cases hp), fun i s e => ?_, fun i n e => ?_, fun i j a ds' es ne e1 e2 e3 => ?_⟩ (fun ρ' G' H' σ' p o' s' => ?_) (fun _ _ _ _ _ _ z => z.elim) (fun _ _ _ _ z => z.elim) fun _ _ _ _ z => z.elim
    · have w := start_slots (N := N) ha i s e
      cases s with
      | dat d => exact w
      | un => trivial
      | own _ => exact w.elim
      | std _ => exact w.elim
      | tin _ => exact w.elim
    · exact (start_slots (N := N) ha i _ e).elim
    · exact (start_slots (N := N) ha i _ e1).elim
    · refine p ⟨G, H, fun _ => False⟩ G' H' σ' o' _ fun xs es ρ2 G2 H2 p2 o2 s2 dx => ?_
      obtain ⟨x, y, rfl, hx, hy, hy2⟩ := p2
      have ex : xs = [.int x, .int y, .int 0] := by
        cases dx with
        | cons a t =>
          obtain ⟨u, w, e, d1, d2⟩ := dpa_two t
          rw [dp_int a, e, dp_int d1, dp_int d2]
      subst ex
      refine ⟨by show 3 ≤ sizeLine; exact sz1000 (by decide), fun r hr' => ?_⟩
      have hG := o2.gnone hr'
      have ext : Ext G H G2 H2 := ⟨o2.g0, fun a o' e => o2.h0 a o' (fun z => z) e, o2.gh, fun a e1 e2 => o2.new a e1 e2⟩
      exact q r G2 _ (ext.trans ⟨Same.refl _, same_new hr', o2.gh.trans (same_new hr'), fun _ _ e => e⟩) hG (o2.bnone hr') ⟨x, y, 0, upd_same, hx, hy, hy2, Int.le_refl _, Int.le_refl _⟩
end SC
namespace SC
open PySem PySem.Spec PyProof.Rows L2

theorem bits62 {i : Int} {n : Nat} (h : i.natAbs < 2 ^ n) : Builtin.Int.intBits i ≤ n := intBits_le_iff.mpr h
/-! _law_box -/
abbrev s_law_box : Stmt := topS 39
abbrev n_law_box : List Str := ["_law_script", "_law_k", "_law_cell_so"]
theorem sc_law_box : FnScope n_law_box ["_law_script", "_law_k"] (defScope s_law_box) := ⟨rfl, rfl, rfl, by decide +kernel, rfl, by decide +kernel, by decide +kernel⟩
def pre_law_box (ds : List PyData) : Prop := ∃ c : Int, ds = [.list [.int c], .int 0] ∧ Builtin.Int.intBits c ≤ 1048700
theorem ok_law_box {M : Md} (bi : Bi M.mg) (F : DefAt M "_law_box" s_law_box) : OkF M "_law_box" ["_law_script", "_law_k"] 1 (spBox M.K pre_law_box) := by
  refine okf_box F sc_law_box (fun _ _ _ _ _ _ us hl => match us, hl with | [_, _], _ => rfl) (fun ds h => by obtain ⟨c, rfl, _⟩ := h; rfl) fun f cdv A outer s H E hr =>
    ⟨_, _, (pss_cons (ps_set (i := 2) sc_law_box.nd rfl (.inl rfl) (pe_ifExp (pt_cmpR op_lt (pv 1) (pe_callB (klen M.K) (by rfl) bi.len PySem.boot_len (pa_cons (pv 0) pa_nil)) (nomark _)) (pe_ix (kixL M.K) (pv 0) (pv 1) (fun _ _ => rfl)) pe_int))
      (pss_one (ps_ret (pe_lst (pa_cons (pe_op op_mulX (pe_callB call_abs (by rfl) bi.abs (by decide +kernel) (pa_cons (pv 2) pa_nil)) (pe_callTy call_int1 (by rfl) bi.int (by decide +kernel) (pa_cons (pe_cmpR op_ge (pe_callB call_abs (by rfl) bi.abs (by decide +kernel) (pa_cons (pv 2) pa_nil)) (pe_op op_pow pe_int pe_int) (nomark _)) pa_nil))) (pa_cons (pe_op op_add (pe_op op_add (pe_op op_mod (pe_callTy call_int1 (by rfl) bi.int (by decide +kernel) (pa_cons (pv 2) pa_nil)) pe_int) (pe_op op_mulX pe_int (pv 1))) pe_int) (pa_cons pe_int pa_nil))))))), fun ds h => ?_⟩
  obtain ⟨c, rfl, hc⟩ := h
  have ka : ∀ r : Rho, r[2]? = some (.dat (.int c)) → DE ⟨M.K, []⟩ (tCB rAbs (tCons (tVar 2) tNil)) r (.int (c.natAbs : Int)) := fun r hr => de_cb (da_cons (de_var hr) da_nil) rc_abs
  have hb : Builtin.Int.intBits (c.natAbs : Int) ≤ 1048700 := intBits_natAbs_le hc
  refine ds_asgD (d := .int c) (de_if (dt_test (de_op (de_var rfl) (de_cb (da_cons (de_var rfl) da_nil) rc_lenL) rd_B0)) (fun h => ?_) fun h => ?_) ?_
  · exact de_op (de_var rfl) (de_var rfl) (rd_ixL rfl)
  · simp at h
  · have m1 := Int.emod_nonneg c (show (2305843009213693951 : Int) ≠ 0 by decide)
    have m2 := Int.emod_lt_of_pos c (show (0 : Int) < 2305843009213693951 by decide)
    refine AX.of (ds := [.int ((c.natAbs : Int) * (if decide ((c.natAbs : Int) ≥ 10 ^ (18 : Int).toNat) = true then 1 else 0)), .int (c % 2305843009213693951 + 39373 * 0 + 9410), .int 0]) ?_ ⟨_, _, rfl, ?_, ?_, ?_⟩
    · refine da_cons (de_op (ka _ rfl) (de_cb (da_cons (de_op (ka _ rfl) (de_op de_int de_int (rd_I ⟨by decide, by decide, by decide⟩)) rd_B0) da_nil) rc_intb) (rd_I ?_)) (da_cons (de_op (de_op (de_op (de_cb (da_cons (de_var rfl) da_nil) rc_int) de_int (rd_I (by decide))) (de_op de_int (de_var rfl) (rd_I (IntMulOk.of_le (m := 20) (n := 20) (by decide) (by decide) (by decide)))) rd_I0) de_int rd_I0) (da_cons de_int da_nil))
      refine IntMulOk.of_le (n := 1) hb ?_ (by decide)
      split <;> decide
    · split <;> omega
    · omega
    · have e : (2 : Int) ^ 62 = 4611686018427387904 := by decide
      omega
/-! _law_take -/
abbrev s_law_take : Stmt := topS 40
abbrev n_law_take : List Str := ["_law_tin", "_law_below_so", "_law_drawn", "_law_once_so", "_law_wide_so", "_law_twice_so"]
theorem sc_law_take : FnScope n_law_take ["_law_tin", "_law_below_so"] (defScope s_law_take) := ⟨rfl, rfl, rfl, by decide +kernel, rfl, by decide +kernel, by decide +kernel⟩
def pre_law_take (ds : List PyData) : Prop := ∃ b : Nat, ds = [.int (b : Int)] ∧ 0 < b ∧ b < 2 ^ 40
def post_law_take (ds : List PyData) (d : PyData) : Prop := ∀ b : Nat, ds = [.int (b : Int)] → ∃ r : Nat, r < b ∧ d = .int (r : Int)
theorem ok_law_take {M : Md} (bi : Bi M.mg) (F : DefAt M "_law_take" s_law_take)  : OkF M "_law_take" ["_law_tin", "_law_below_so"] 1 (spN M.K 1 pre_law_take post_law_take) := by
  refine okf_draw F sc_law_take (fun _ _ _ _ _ _ us hl => match us, hl with | [_, _], _ => rfl) (fun ds h => by obtain ⟨b, rfl, hb, hb2⟩ := h; rfl) fun f cdv A outer s H E hr =>
    ⟨_, (pss_cons (ps_if (pt_cmpR op_gt (pe_ix (kixL M.K) (pv 0) pe_int (fun _ _ => rfl)) pe_int (nomark _)) (pss_cons (ps_set (i := 2) sc_law_take.nd rfl (.inl rfl) (pe_op op_mod (pe_callTy call_int1 (by rfl) bi.int (by decide +kernel) (pa_cons (pe_ix (kixL M.K) (pv 0) pe_int (fun _ _ => rfl)) pa_nil)) (pv 1)))
      (pss_cons (ps_asg (pe_op op_fdivX (pe_ix (kixL M.K) (pv 0) pe_int (fun _ _ => rfl)) (pv 1)) (pg_sub (pv 0) pe_int set_list))
      (pss_one (ps_ret (pv 2))))) pss_nil)
      (pss_cons (ps_asg (pe_op op_add (pe_ix (kixL M.K) (pv 0) pe_int (fun _ _ => rfl)) pe_int) (pg_sub (pv 0) pe_int set_list))
      (pss_cons (ps_set (i := 3) sc_law_take.nd rfl (.inl rfl) (pe_op op_mod (pe_callTy call_int1 (by rfl) bi.int (by decide +kernel) (pa_cons (pe_op op_mulW (pe_op op_add (pe_ix (kixL M.K) (pv 0) pe_int (fun _ _ => rfl)) (pe_op op_mulW pe_int (pe_ix (kixL M.K) (pv 0) pe_int (fun _ _ => rfl)))) (pe_op op_add pe_int (pe_ix (kixL M.K) (pv 0) pe_int (fun _ _ => rfl)))) pa_nil)) pe_int))
      (pss_cons (ps_set (i := 4) sc_law_take.nd rfl (.inl rfl) (pe_op op_add (pe_op op_mod (pe_callTy call_int1 (by rfl) bi.int (by decide +kernel) (pa_cons (pv 3) pa_nil)) pe_int) pe_int))
      (pss_cons (ps_set (i := 5) sc_law_take.nd rfl (.inl rfl) (pe_op op_mod (pe_callTy call_int1 (by rfl) bi.int (by decide +kernel) (pa_cons (pe_op op_mulW (pe_op op_add (pe_op op_add (pv 3) (pe_ix (kixL M.K) (pv 0) pe_int (fun _ _ => rfl))) (pe_op op_fdivX (pe_ix (kixL M.K) (pv 0) pe_int (fun _ _ => rfl)) pe_int)) (pv 4)) pa_nil)) pe_int))
      (pss_one (ps_ret (pe_op op_mod (pe_callTy call_int1 (by rfl) bi.int (by decide +kernel) (pa_cons (pe_op op_fdivX (pe_op op_mod (pe_callTy call_int1 (by rfl) bi.int (by decide +kernel) (pa_cons (pe_op op_add (pe_op op_mulW (pv 5) pe_int) (pv 3)) pa_nil)) pe_int) pe_int) pa_nil)) (pv 1))))))))), fun n ds h hn => ?_⟩
  obtain ⟨b, rfl, hb, hb2⟩ := h
  have eb : (2 : Nat) ^ 40 = 1099511627776 := by decide
  have e62 : (2 : Int) ^ 62 = 4611686018427387904 := by decide
  have hb0 : (0 : Int) < (b : Int) := by omega
  have fin : ∀ i : Int, ∀ b' : Nat, [PyData.int (b : Int)] = [PyData.int (b' : Int)] → ∃ r : Nat, r < b' ∧ PyData.int (i % (b : Int)) = .int (r : Int) := fun i b' e => by
    have e2 : (b : Int) = (b' : Int) := by simpa using e
    have e3 : b = b' := by omega
    subst e3
    have h1 := Int.emod_nonneg i (show (b : Int) ≠ 0 by omega)
    have h2 := Int.emod_lt_of_pos i hb0
    exact ⟨(i % (b : Int)).toNat, by omega, congrArg PyData.int (by omega)⟩
  refine ds_seq (ds_if (tx_test (dx_op (dx_tin (k := 0) rfl (by decide) fun x hx _ _ => de_int.of ⟨_, rd_B0, _, rfl, fun _ => ?_, fun _ => ?_⟩))))
  · refine ds_seq (ds_asg (dx_op (dx_cb (ax_cons (dx_tin (k := 0) rfl (by decide) fun x hx _ _ => ax_nil ⟨_, rc_int, (de_var rfl).of ⟨_, rd_I hb0, ?_⟩⟩)))))
    refine ds_seq (ds_tinset (n := n) (m := n) (k := 0) rfl (.inl rfl) (Nat.le_refl _) (dx_op (dx_tin (k := 0) rfl (by decide) fun y hy _ _ => (de_var rfl).of ⟨_, rd_I (divx (b := 40) (by omega) (by rw [Int.natAbs_natCast]; exact hb2) (by decide) (by decide)), rfl, _, rfl, ?_, fun z => nomatch z⟩)) ?_)
    · rw [Int.fdiv_eq_ediv_of_nonneg _ (by omega)]
      exact Int.ediv_nonneg hy (by omega)
    · exact ds_retD (de_var rfl) ⟨fin x, n, by omega, rfl⟩
  · refine ds_next ?_
    refine ds_seq (ds_tinset (n := n) (m := n + 1) (k := 2) rfl (.inr rfl) (by omega) (dx_op (dx_tin (k := 2) rfl (by decide) fun z hz _ hz2 => de_int.of ⟨_, rd_I0, rfl, _, rfl, by omega, fun _ => ?_⟩)) ?_)
    · have := hz2 rfl
      omega
    have mod0 : ∀ (i m : Int), 0 < m → 0 ≤ i % m ∧ i % m < m := fun i m h => ⟨Int.emod_nonneg i (by omega), Int.emod_lt_of_pos i h⟩
    refine ds_seq (ds_asg (dx_op (dx_cb (ax_cons (dx_op (dx_op (dx_tin (k := 1) (n := n + 1) rfl (by decide) fun y hy hy2 _ => dx_op (de_int.of (dx_tin (k := 2) (n := n + 1) rfl (by decide) fun z hz _ hz2 => ⟨_, rd_I (wide_mul (a := 20) (b := 40) (by decide) ?_ (by decide) (by decide) (by decide)), _, rd_I0,
      dx_op (de_int.of (dx_tin (k := 2) (n := n + 1) rfl (by decide) fun w hw _ hw2 => ⟨_, rd_I0, _, rd_I (wide_mul (a := 64) (b := 40) ?_ ?_ (by decide) (by decide) (by decide)), ax_nil ⟨_, rc_int, de_int.of ⟨_, rd_I (by decide), ?_⟩⟩⟩))⟩)))))))))
    · have := hz2 rfl
      have : (2 : Nat) ^ 40 = 1099511627776 := by decide
      omega
    · have := hy2 rfl
      have := hz2 rfl
      have : (2 : Nat) ^ 64 = 18446744073709551616 := by decide
      omega
    · have := hw2 rfl
      have : (2 : Nat) ^ 40 = 1099511627776 := by decide
      omega
    obtain ⟨o1, o2⟩ := mod0 ((y + 48271 * z) * (39373 + w)) 2147483647 (by decide)
    generalize (y + 48271 * z) * (39373 + w) % 2147483647 = once at *
    obtain ⟨w1, w2⟩ := mod0 once 40009 (by decide)
    refine ds_seq (ds_asgD (de_op (de_op (de_cb (da_cons (de_var (d := .int once) rfl) da_nil) rc_int) de_int (rd_I (by decide))) de_int rd_I0) ?_)
    have hwide : 0 ≤ once % 40009 + 7 ∧ once % 40009 + 7 < 50000 := by omega
    generalize once % 40009 + 7 = wide at *
    refine ds_seq (ds_asg (dx_op (dx_cb (ax_cons (dx_op (dx_op (dx_op ((de_var (d := .int once) rfl).of (dx_tin (k := 2) (n := n + 1) rfl (by decide) fun z2 hz2 _ hz3 => ⟨_, rd_I0, dx_op (dx_tin (k := 1) (n := n + 1) rfl (by decide) fun y2 hy2 hy3 _ => de_int.of ⟨_, rd_I (divx (b := 40) (by decide) (by decide) (by decide) (by decide)), _, rd_I0,
      (de_var (d := .int wide) rfl).of ⟨_, rd_I (wide_mul (a := 64) (b := 40) ?_ ?_ (by decide) (by decide) (by decide)), ax_nil ⟨_, rc_int, de_int.of ⟨_, rd_I (by decide), ?_⟩⟩⟩⟩)⟩)))))))))
    · have := hy3 rfl
      have := hz3 rfl
      have e1 : (2 : Nat) ^ 64 = 18446744073709551616 := by decide
      have e2 := Int.fdiv_eq_ediv_of_nonneg y2 (show (0 : Int) ≤ 1000003 by decide)
      omega
    · have : (2 : Nat) ^ 40 = 1099511627776 := by decide
      omega
    obtain ⟨t1, t2⟩ := mod0 ((once + z2 + y2.fdiv 1000003) * wide) 2147483629 (by decide)
    generalize (once + z2 + y2.fdiv 1000003) * wide % 2147483629 = twice at *
    refine ds_retD (de_op (de_cb (da_cons (de_op (de_op (de_cb (da_cons (de_op (de_op (de_var (d := .int twice) rfl) de_int (rd_I (wide_mul (a := 40) (b := 20) ?_ (by decide) (by decide) (by decide) (by decide)))) (de_var (d := .int once) rfl) rd_I0) da_nil) rc_int) de_int (rd_I (by decide))) de_int (rd_I (divx (b := 10) (by decide) (by decide) (by decide) (by decide)))) da_nil) rc_int) (de_var rfl) (rd_I hb0)) ⟨fin _, n + 1, by omega, rfl⟩
    have : (2 : Nat) ^ 40 = 1099511627776 := by decide
    omega
/-! _law_cells -/
abbrev s_law_cells : Stmt := topS 41
abbrev n_law_cells : List Str := ["_law_script", "_law_most_so", "_law_cells_so", "_law_k", "_law_cell_so", "_law_at_so"]
theorem sc_law_cells : FnScope n_law_cells ["_law_script", "_law_most_so"] (defScope s_law_cells) := ⟨rfl, rfl, rfl, by decide +kernel, rfl, by decide +kernel, by decide +kernel⟩
def cellsGo (c : Int) (k : Nat) : List Int → Int
  | [] => c
  | z :: zs => cellsGo (c + z * ((k : Int) + 2)) (k + 1) zs
def cellsI (ns : List Int) : Int := cellsGo (ns.headD 0) 0 (ns.drop 1)
theorem cellsGo_snoc : ∀ (zs : List Int) (c : Int) (k : Nat) (z : Int), cellsGo c k (zs ++ [z]) = cellsGo c k zs + z * (((k + zs.length : Nat) : Int) + 2)
  | [], c, k, z => by simp [cellsGo]
  | y :: zs, c, k, z => by
    show cellsGo _ (k + 1) (zs ++ [z]) = _
    rw [cellsGo_snoc zs]
    show _ = cellsGo _ (k + 1) zs + _
    rw [show k + 1 + zs.length = k + (y :: zs).length by simp only [List.length_cons]; omega]
theorem cellsGo_bits : ∀ (zs : List Int) (c : Int) (k m : Nat), Builtin.Int.intBits c ≤ m → 1048590 ≤ m → k + zs.length ≤ 63 → (∀ z ∈ zs, Builtin.Int.intBits z ≤ 1048576) → Builtin.Int.intBits (cellsGo c k zs) ≤ m + zs.length
  | [], c, k, m, h, _, _, _ => by simpa [cellsGo] using h
  | z :: zs, c, k, m, h, hm, hk, hz => by
    have hk' : k + 1 + zs.length ≤ 63 := by simp only [List.length_cons] at hk; omega
    have e7 : (2 : Nat) ^ 7 = 128 := by decide
    have h1 : Builtin.Int.intBits ((k : Int) + 2) ≤ 7 := bits62 (by omega)
    have h2 := intBits_mul_le (hz z List.mem_cons_self) h1
    have h3 := intBits_add_le h h2
    have h4 := cellsGo_bits zs (c + z * ((k : Int) + 2)) (k + 1) (m + 1) (by omega) (by omega) hk' fun y hy => hz y (List.mem_cons_of_mem _ hy)
    show Builtin.Int.intBits (cellsGo (c + z * ((k : Int) + 2)) (k + 1) zs) ≤ _
    simp only [List.length_cons]
    omega
theorem cellsI_bits {ns : List Int} (hl : ns.length ≤ 63) (hb : ∀ z ∈ ns, Builtin.Int.intBits z ≤ 1048576) : Builtin.Int.intBits (cellsI ns) ≤ 1048700 := by
  unfold cellsI
  have h := cellsGo_bits (ns.drop 1) (ns.headD 0) 0 1048590 (by
    cases ns with
    | nil => decide
    | cons z zs =>
      have := hb z List.mem_cons_self
      show Builtin.Int.intBits z ≤ _
      omega) (Nat.le_refl _) (by rw [List.length_drop]; omega) fun z hz => hb z (List.mem_of_mem_drop hz)
  rw [List.length_drop] at h
  omega
theorem cut_first (ds : List PyData) : cutD ds none (some 1) = ds.take 1 := by
  unfold cutD
  rw [HT.sIx_none, show (1 : Int) = ((1 : Nat) : Int) from rfl, HT.sIx_nat]
  simp only [List.drop_zero, Nat.sub_zero]
  cases ds with
  | nil => rfl
  | cons d ds =>
    simp only [List.length_cons]
    rw [show min 1 (ds.length + 1) = 1 by omega]
theorem cut_rest (ds : List PyData) (h : ds.length ≤ 63) : cutD ds (some 1) (some 63) = ds.drop 1 := by
  unfold cutD
  rw [show (1 : Int) = ((1 : Nat) : Int) from rfl, show (63 : Int) = ((63 : Nat) : Int) from rfl, HT.sIx_nat, HT.sIx_nat]
  cases ds with
  | nil => rfl
  | cons d ds =>
    simp only [List.length_cons] at h ⊢
    rw [show min 1 (ds.length + 1) = 1 by omega, show min 63 (ds.length + 1) = ds.length + 1 by omega]
    simp
def Pre_law_cells (ds : List PyData) (d : PyData) : Prop := ∃ ns : List Int, ds = [.list (ns.map .int), .int 1] ∧ ns.length ≤ 63 ∧ (∀ z ∈ ns, Builtin.Int.intBits z ≤ 1048576) ∧ ∃ c : Int, d = .list [.int c] ∧ c = cellsI ns ∧ Builtin.Int.intBits c ≤ 1048700
theorem ok_law_cells {M : Md} (bi : Bi M.mg) (F : DefAt M "_law_cells" s_law_cells)  : OkF M "_law_cells" ["_law_script", "_law_most_so"] 1 (spP M.K Pre_law_cells) := by
  refine okf_pure F sc_law_cells (fun _ _ _ _ _ _ us hl => match us, hl with | [_, _], _ => rfl) (fun ds d h => by obtain ⟨ns, rfl, hl, hb, c, rfl, rfl, hc⟩ := h; rfl) fun f cdv A outer s H E hr =>
    ⟨_, (pss_cons (ps_set (i := 2) sc_law_cells.nd rfl (.inl rfl) (pe_orT (pe_callTy (klstOf M.K) (by rfl) bi.list (by decide +kernel) (pa_cons (pe_slice (kslL M.K) (pv 0) po_none (po_some (pv 1))) pa_nil)) (pe_one (pe_lst (pa_cons pe_int pa_nil)))))
      (pss_cons (ps_for PassesOwn.never rfl (piE M.K bi.enumerate (pa_cons (pe_slice (kslL M.K) (pv 0) (po_some (pv 1)) (po_some pe_int)) pa_nil)) (pgT M.K 2 (pgs_cons (pg_name (i := 3) sc_law_cells.nd rfl (.inl rfl)) (pgs_cons (pg_name (i := 4) sc_law_cells.nd rfl (.inl rfl)) pgs_nil))) (pss_cons (ps_set (i := 5) sc_law_cells.nd rfl (.inl rfl) (pe_op op_mod (pe_callTy call_int1 (by rfl) bi.int (by decide +kernel) (pa_cons (pv 3) pa_nil)) (pv 1)))
      (pss_one (ps_asg (pe_op op_add (pe_ix (kixL M.K) (pv 2) (pv 5) (fun _ _ => rfl)) (pe_op op_mulX (pv 4) (pe_op op_add (pv 3) pe_int))) (pg_sub (pv 2) (pv 5) set_list)))))
      (pss_one (ps_ret (pv 2))))), fun ds d h => ?_⟩
  obtain ⟨ns, rfl, hl, hb, c, rfl, rfl, hc⟩ := h
  have h0 : (if (cutD (ns.map PyData.int) none (some 1)).isEmpty then [PyData.int 0] else cutD (ns.map PyData.int) none (some 1)) = [.int (ns.headD 0)] := by
    rw [cut_first]
    cases ns <;> rfl
  have hcut : cutD (ns.map PyData.int) (some 1) (some 63) = (ns.drop 1).map .int := by
    rw [cut_rest _ (by rw [List.length_map]; exact hl), List.map_drop]
  refine ds_seq (ds_asgOwnOr (da_cons (de_slL (de_var rfl) ox_none (ox_part (de_var rfl))) da_nil) (da_cons de_int da_nil) (by decide) ?_)
  rw [h0]
  refine ds_seq (ds_forD (js := [3, 4]) (fun i ρ' => ∃ s3 s4 s5, ρ' = [.dat (.list (ns.map .int)), .dat (.int 1), .own [.int (cellsGo (ns.headD 0) 0 ((ns.drop 1).take i))], s3, s4, s5])
    (dw_enum (ds := (ns.drop 1).map .int) (da_cons ((de_slL (de_var rfl) (ox_part (de_var rfl)) (ox_part de_int)).cast (by rw [hcut])) da_nil)) ⟨.un, .un, .un, rfl⟩ (fun i y ρ' ey iv => ?_) fun ρ' iv => ?_)
  · obtain ⟨s3, s4, s5, rfl⟩ := iv
    obtain ⟨x, ex, rfl⟩ := enumD_get ey
    rw [List.getElem?_map] at ex
    obtain ⟨z, ez, rfl⟩ := Option.map_eq_some_iff.mp ex
    have hz : z ∈ ns := List.mem_of_mem_drop (List.mem_of_getElem? ez)
    have hi : i < 63 := by
      have := (List.getElem?_eq_some_iff.mp ez).1
      rw [List.length_drop] at this
      omega
    refine ⟨[.int (i : Int), .int z], gt_tup (.cons 3 (.cons 4 .nil)) rfl rfl, ?_⟩
    refine ds_seq (ds_asgD (d := .int 0) ((de_op (de_cb (da_cons (de_var rfl) da_nil) rc_int) (de_var rfl) (rd_I (by decide))).cast (by rw [Int.emod_one])) ?_)
    refine ds_setitem (i := 2) (k := 0) (j := 0) (d := .int (cellsGo (ns.headD 0) 0 ((ns.drop 1).take i) + z * ((i : Int) + 2))) rfl (de_op (de_ixOwn rfl (de_var rfl) atI_zero) (de_op (de_var rfl) (de_op (de_var rfl) de_int rd_I0) (rd_I (IntMulOk.of_le (n := 7) (hb z hz) (bits62 ?_) (by decide)))) rd_I0) (de_var rfl) rfl ⟨.dat (.int (i : Int)), .dat (.int z), .dat (.int 0), ?_⟩
    · have : (2 : Nat) ^ 7 = 128 := by decide
      omega
    · rw [take_snoc ez, cellsGo_snoc, List.length_take, Nat.zero_add, Nat.min_eq_left (by have := (List.getElem?_eq_some_iff.mp ez).1; omega)]
      rfl
  · obtain ⟨s3, s4, s5, rfl⟩ := iv
    refine ds_freeze (i := 2) rfl (ds_retD (de_var rfl) ?_)
    rw [enumD_len, List.length_map, List.take_length]
    rfl
/-! _law_of -/
abbrev s_law_of : Stmt := topS 42
abbrev n_law_of : List Str := ["_law_tin", "_law_goods_so"]
theorem sc_law_of : FnScope n_law_of ["_law_tin", "_law_goods_so"] (defScope s_law_of) := ⟨rfl, rfl, rfl, by decide +kernel, rfl, by decide +kernel, by decide +kernel⟩
def pre_law_of (ds : List PyData) : Prop := ∃ gs : List PyData, ds = [.list gs] ∧ gs ≠ [] ∧ gs.length ≤ 1000
def post_law_of (ds : List PyData) (d : PyData) : Prop := ∀ gs : List PyData, ds = [.list gs] → d ∈ gs
theorem ok_law_of {M : Md} (bi : Bi M.mg) (F : DefAt M "_law_of" s_law_of) (F_law_take : OkF M "_law_take" ["_law_tin", "_law_below_so"] 1 (spN M.K 1 pre_law_take post_law_take)) : OkF M "_law_of" ["_law_tin", "_law_goods_so"] 2 (spN M.K 1 pre_law_of post_law_of) := by
  refine okf_draw F sc_law_of (fun _ _ _ _ _ _ us hl => match us, hl with | [_, _], _ => rfl) (fun ds h => by obtain ⟨gs, rfl, h0, hl⟩ := h; rfl) fun f cdv A outer s H E hr =>
    ⟨_, (pss_one (ps_ret (pe_ix (kixL M.K) (pv 1) (pe_fn F_law_take (hr.mono (by decide)) (pa_cons (pv 0) (pa_cons (pe_callB (klen M.K) (by rfl) bi.len PySem.boot_len (pa_cons (pv 1) pa_nil)) pa_nil))) (fun _ _ => rfl)))), fun n ds h hn => ?_⟩
  obtain ⟨gs, rfl, h0, hl⟩ := h
  have hp : 0 < gs.length := List.length_pos_iff.mpr h0
  refine ds_ret (dx_op ((de_var (d := .list gs) rfl).of (dx_draw (n := n) rfl (ax_cons ((de_cb (da_cons (de_var rfl) da_nil) rc_lenL).of (ax_nil ⟨n, rfl, by omega, ⟨gs.length, rfl, hp, by omega⟩, fun d hd => ?_⟩))))))
  obtain ⟨r, hr, rfl⟩ := hd gs.length rfl
  obtain ⟨x, hx⟩ := getlt hr
  exact ⟨x, rd_ixL (atI_nat hx), fun gs' e => by
    have e2 : gs = gs' := by simpa using e
    rw [← e2]
    exact List.mem_of_getElem? hx, n + 1, by omega, rfl⟩
/-! _law_pick -/
abbrev s_law_pick : Stmt := topS 43
abbrev n_law_pick : List Str := ["_law_tin", "_law_goods_so", "_law_count_so", "_law_pool_so", "_law_found", "_law_lap"]
theorem sc_law_pick : FnScope n_law_pick ["_law_tin", "_law_goods_so", "_law_count_so"] (defScope s_law_pick) := ⟨rfl, rfl, rfl, by decide +kernel, rfl, by decide +kernel, by decide +kernel⟩
def pre_law_pick (ds : List PyData) : Prop := ∃ (gs : List PyData) (c : Nat), ds = [.list gs, .int (c : Int)] ∧ gs.length ≤ 1000 ∧ c ≤ 4
def post_law_pick (ds : List PyData) (d : PyData) : Prop := ∀ (gs : List PyData) (c : Nat), ds = [.list gs, .int (c : Int)] → ∃ xs : List PyData, d = .list xs ∧ xs.length = min c gs.length ∧ ∀ x ∈ xs, x ∈ gs
theorem ok_law_pick {M : Md} (bi : Bi M.mg) (F : DefAt M "_law_pick" s_law_pick) (F_law_take : OkF M "_law_take" ["_law_tin", "_law_below_so"] 1 (spN M.K 1 pre_law_take post_law_take)) : OkF M "_law_pick" ["_law_tin", "_law_goods_so", "_law_count_so"] 2 (spN M.K 4 pre_law_pick post_law_pick) := by
  refine okf_draw F sc_law_pick (fun _ _ _ _ _ _ us hl => match us, hl with | [_, _, _], _ => rfl) (fun ds h => by obtain ⟨gs, c, rfl, hl, hc⟩ := h; rfl) fun f cdv A outer s H E hr =>
    ⟨_, (pss_cons (ps_par (i := 3) (j := 4) (by rfl) sc_law_pick.nd rfl rfl (by decide) rfl rfl (pa_cons (pe_callTy (klstOf M.K) (by rfl) bi.list (by decide +kernel) (pa_cons (pv 1) pa_nil)) (pa_cons (pe_lst pa_nil) pa_nil)) (by rfl))
      (pss_cons (ps_for PassesOwn.never rfl (pi_range1 rfl bi.range (pa_cons (pe_callB (call_min2 rfl) (by rfl) bi.min (by decide +kernel) (pa_cons (pe_callTy call_int1 (by rfl) bi.int (by decide +kernel) (pa_cons (pv 2) pa_nil)) (pa_cons (pe_callB (klen M.K) (by rfl) bi.len PySem.boot_len (pa_cons (pv 3) pa_nil)) pa_nil))) pa_nil)) (pg_name (i := 5) sc_law_pick.nd rfl (.inl rfl)) (pss_one (ps_expr (kapp M.K (pv 4) (pe_bm PySem.F.plainAttrs_list PySem.F.slot_list_pop PySem.F.type_list_pop mt_popAt (pv 3) (pa_cons (pe_fn F_law_take (hr.mono (by decide)) (pa_cons (pv 0) (pa_cons (pe_callB (klen M.K) (by rfl) bi.len PySem.boot_len (pa_cons (pv 3) pa_nil)) pa_nil))) pa_nil))))))
      (pss_one (ps_ret (pv 4))))), fun n ds h hn => ?_⟩
  obtain ⟨gs, c, rfl, hl, hc⟩ := h
  refine ds_seq (ds_parOwn2 (ds := gs) (da_cons (de_var rfl) da_nil) ?_)
  have hm : (if ((gs.length : Nat) : Int) < (c : Int) then ((gs.length : Nat) : Int) else (c : Int)) = ((min c gs.length : Nat) : Int) := by
    split <;> omega
  refine ds_seq (ds_forD (js := [5]) (fun i ρ' => ∃ pool xs s5, pool.length + i = gs.length ∧ xs.length = i ∧ (∀ x ∈ pool, x ∈ gs) ∧ (∀ x ∈ xs, x ∈ gs) ∧ ρ' = [.tin (n + i), .dat (.list gs), .dat (.int (c : Int)), .own pool, .own xs, s5])
    (dw_rng1 (n := min c gs.length) (da_cons ((de_cb (da_cons (de_cb (da_cons (de_var rfl) da_nil) rc_int) (da_cons (de_look (i := 3) (ds := gs) rfl (de_cb (da_cons (de_var rfl) da_nil) rc_lenL)) da_nil)) rc_min).cast (by rw [hm])) da_nil) (by omega)) ⟨gs, [], .un, rfl, rfl, fun _ h => h, fun _ h => (nomatch h), rfl⟩ (fun i y ρ' ey iv => ?_) fun ρ' iv => ?_)
  · obtain ⟨pool, xs, s5, h1, h2, h3, h4, rfl⟩ := iv
    obtain ⟨hi, rfl⟩ := rngD_get ey
    have hp : 0 < pool.length := by omega
    refine ⟨[_], gt_name, ?_⟩
    refine ds_appendPop (i := 4) (j := 3) (ds := xs) (es := pool) rfl rfl (by decide) (dx_draw (n := n + i) rfl (ax_cons ((de_look (i := 3) (ds := pool) rfl (de_cb (da_cons (de_var rfl) da_nil) rc_lenL)).of (ax_nil ⟨n + i, rfl, by omega, ⟨pool.length, rfl, hp, by omega⟩, fun d hd => ?_⟩))))
    obtain ⟨r, hr, rfl⟩ := hd pool.length rfl
    obtain ⟨x, hx⟩ := getlt hr
    have hxm := List.mem_of_getElem? hx
    refine ⟨r, xs, pool, x, rfl, rfl, rfl, hx, by omega, by omega, pool.eraseIdx r, xs ++ [x], _, ?_, ?_, fun y hy => h3 y (List.mem_of_mem_eraseIdx hy), fun y hy => ?_, rfl⟩
    · rw [List.length_eraseIdx, if_pos hr]
      omega
    · rw [List.length_append, h2]
      rfl
    · rcases List.mem_append.mp hy with hy | hy
      · exact h4 y hy
      · rw [List.mem_singleton.mp hy]
        exact h3 x hxm
  · obtain ⟨pool, xs, s5, h1, h2, h3, h4, rfl⟩ := iv
    refine ds_freeze (i := 4) rfl (ds_retD (de_var rfl) ⟨fun gs' c' e => ?_, n + min c gs.length, by omega, ?_⟩)
    · have e1 : gs = gs' ∧ (c : Int) = (c' : Int) := by simpa using e
      obtain ⟨rfl, e2⟩ := e1
      have e2 : c = c' := by omega
      subst e2
      exact ⟨xs, rfl, by rw [h2, rngD_len], h4⟩
    · rw [rngD_len]
      rfl
end SC
namespace SC
open PySem PySem.Spec PyProof.Rows L2
section
variable {C : Cn} {ρ ρ1 : Rho} {ta tb tc te : TE} {d e f : PyData} {as : TA} {ds es : List PyData}
theorem dpa_bools {K : PySem.W.Frag} {G : Hp} : ∀ {bs : List Bool} {vs : List V}, DpAll K G vs (bs.map PyData.bool) → vs = bs.map V.bl
  | [], _, .nil => rfl
  | b :: r, _, .cons a t => by
    rw [dp_bool a, dpa_bools t]
    rfl
theorem rc_all {bs : List Bool} : RC C (rAll C.K) [.list (bs.map .bool)] (.bool (bs.all id)) := fun G H xs s a Q q => by
  obtain ⟨x, rfl, dx⟩ := dpa_one a
  obtain ⟨p, ys, rfl, hs, ha⟩ := dp_lst dx
  have e := dpa_bools ha
  subst e
  exact ⟨p, bs, rfl, s.seq hs, q _ G H (Ext.refl s) (.bl _)⟩
theorem both_get {K : PySem.W.Frag} {G : Hp} {xs : List V} {ds : List PyData} {i : Nat} (ha : DpAll K G xs ds) (hi : i < ds.length) : ∃ x, xs[i]? = some x := by
  obtain ⟨y, ey⟩ := getlt hi
  obtain ⟨v, hv, _⟩ := dpa_get ha ey
  exact ⟨v, hv⟩
theorem twice_get {i : Nat} {y : PyData} (h : (ds.map fun x => PyData.tuple [x, x])[i]? = some y) : ∃ x, ds[i]? = some x ∧ y = .tuple [x, x] := by
  rw [List.getElem?_map] at h
  obtain ⟨x, e1, e2⟩ := Option.map_eq_some_iff.mp h
  exact ⟨x, e1, e2.symm⟩
/-- zip(x, y) where both are the same data -/
theorem dw_zipL (h : DA C as ρ [.list ds, .list ds]) : DW C (RZ.iZipA C.K as) ρ (ds.map fun x => .tuple [x, x]) := fun B G H σ o R q => h B G H σ o _ fun vs ds' ρ' G1 H1 p o1 s dv => by
  obtain ⟨rfl, rfl⟩ := p
  obtain ⟨x, y, rfl, dx, dy⟩ := dpa_two dv
  obtain ⟨a, xs, rfl, hs, ha⟩ := dp_lst dx
  obtain ⟨b, ys, rfl, ht, hb⟩ := dp_lst dy
  refine ⟨a, b, xs, ys, rfl, .inl ⟨o1.gh.seq hs, o1.gh.seq ht, q _ _ _ G1 H1 ⟨rfl, rfl⟩ o1 s ⟨fun i G2 H2 g h hi => ⟨xs, ys, (g.trans h).seq hs, (g.trans h).seq ht, .inl ?_⟩, fun i G2 H2 g h hi => ?_, fun i G2 H2 x H3 y g h hy ey => ?_⟩⟩⟩
  · rw [dpa_len ha]
    simpa using hi
  · rw [List.length_map] at hi
    obtain ⟨x, hx⟩ := both_get ha hi
    obtain ⟨y, hy⟩ := both_get hb hi
    exact ⟨xs, ys, x, y, (g.trans h).seq hs, (g.trans h).seq ht, hx, hy⟩
  · obtain ⟨T, x', y', rfl, nT, rfl, hx, hy⟩ := hy
    obtain ⟨d, ed, rfl⟩ := twice_get ey
    obtain ⟨d1, e1, e2⟩ := dpa_getv ha (hx xs ((g.trans h).seq hs))
    rw [ed] at e1
    cases e1
    obtain ⟨d1, f1, f2⟩ := dpa_getv hb (hy ys ((g.trans h).seq ht))
    rw [ed] at f1
    cases f1
    have ex := Ext.new (o := .tup [x', y']) h nT
    exact ⟨_, ex, .tup (.inl (.inl upd_same)) (.cons (dp_up (g.trans ex.g) e2) (.cons (dp_up (g.trans ex.g) f2) .nil))⟩
theorem dw_zipT (h : DA C as ρ [.tuple ds, .tuple ds]) : DW C (RZ.iZipA C.K as) ρ (ds.map fun x => .tuple [x, x]) := fun B G H σ o R q => h B G H σ o _ fun vs ds' ρ' G1 H1 p o1 s dv => by
  obtain ⟨rfl, rfl⟩ := p
  obtain ⟨x, y, rfl, dx, dy⟩ := dpa_two dv
  obtain ⟨a, xs, rfl, hs, ha⟩ := dp_tup dx
  obtain ⟨b, ys, rfl, ht, hb⟩ := dp_tup dy
  refine ⟨a, b, xs, ys, rfl, .inr ⟨Same.tup o1.gh hs, Same.tup o1.gh ht, q _ _ _ G1 H1 ⟨rfl, rfl⟩ o1 s ⟨fun i G2 H2 g h hi => ⟨xs, ys, Same.tup (g.trans h) hs, Same.tup (g.trans h) ht, .inl ?_⟩, fun i G2 H2 g h hi => ?_, fun i G2 H2 x H3 y g h hy ey => ?_⟩⟩⟩
  · rw [dpa_len ha]
    simpa using hi
  · rw [List.length_map] at hi
    obtain ⟨x, hx⟩ := both_get ha hi
    obtain ⟨y, hy⟩ := both_get hb hi
    exact ⟨xs, ys, x, y, Same.tup (g.trans h) hs, Same.tup (g.trans h) ht, hx, hy⟩
  · obtain ⟨T, x', y', rfl, nT, rfl, hx, hy⟩ := hy
    obtain ⟨d, ed, rfl⟩ := twice_get ey
    obtain ⟨d1, e1, e2⟩ := dpa_getv ha (hx xs (Same.tup (g.trans h) hs))
    rw [ed] at e1
    cases e1
    obtain ⟨d1, f1, f2⟩ := dpa_getv hb (hy ys (Same.tup (g.trans h) ht))
    rw [ed] at f1
    cases f1
    have ex := Ext.new (o := .tup [x', y']) h nT
    exact ⟨_, ex, .tup (.inl (.inl upd_same)) (.cons (dp_up (g.trans ex.g) e2) (.cons (dp_up (g.trans ex.g) f2) .nil))⟩
end
/-! well-shaped data within a bound -/
theorem canLay_mem : ∀ {ds : List PyData}, PyData.canLayAll0 ds = true → ∀ d ∈ ds, d.canLay0 = true
  | d :: ds, h, x, hx => by
    simp only [PyData.canLayAll0, Bool.and_eq_true] at h
    rcases List.mem_cons.mp hx with rfl | hx
    · exact h.1
    · exact canLay_mem h.2 x hx
theorem depth_mem : ∀ {ds : List PyData}, ∀ d ∈ ds, d.depth ≤ PyData.depthAll ds
  | d :: ds, x, hx => by
    simp only [PyData.depthAll]
    rcases List.mem_cons.mp hx with rfl | hx
    · omega
    · have := depth_mem x hx
      omega
theorem shp_mem {ds : List PyData} (h : SeqAt.shaped (.list ds) = true ∨ SeqAt.shaped (.tuple ds) = true) : ∀ d ∈ ds, SeqAt.shaped d = true := fun d hd => by
  unfold SeqAt.shaped at h ⊢
  have h' : (PyData.canLayAll0 ds && decide (PyData.depthAll ds + 1 ≤ 64)) = true := by
    rcases h with h | h
    · simpa [PyData.canLay0, PyData.depth] using h
    · simpa [PyData.canLay0, PyData.depth] using h
  obtain ⟨h1, h2⟩ := Bool.and_eq_true_iff.mp h'
  have h2 := of_decide_eq_true h2
  have h3 := depth_mem d hd
  rw [canLay_mem h1 d hd, Bool.true_and]
  exact decide_eq_true (by omega)
end SC
namespace SC
open PySem PySem.Spec PyProof.Rows L2
/-! _law_lists -/
abbrev s_law_lists : Stmt := topS 44
abbrev n_law_lists : List Str := ["_law_matter", "_law_bit"]
theorem sc_law_lists : FnScope n_law_lists ["_law_matter"] (defScope s_law_lists) := ⟨rfl, rfl, rfl, by decide +kernel, rfl, by decide +kernel, by decide +kernel⟩
theorem bind_lists : BindOk "_law_lists" s_law_lists ["_law_matter"] := fun _ _ _ _ _ _ us hl => match us, hl with | [_], _ => rfl
def Pre_law_lists (n : Nat) (ds : List PyData) (d : PyData) : Prop := ∃ x, ds = [x] ∧ depLt n x ∧ d = lstD x
theorem lstD_scal {d : PyData} (h1 : isLD d = false) (h2 : isTD d = false) : lstD d = d := by
  cases d with
  | list _ => cases h1
  | tuple _ => cases h2
  | _ => simp [lstD]
theorem lstD_seq {d : PyData} (h : (isLD d || isTD d) = true) : lstD d = .list ((seqD d).map lstD) := by
  cases d with
  | list ds => rw [lstD, lstDs_map]; rfl
  | tuple ds => rw [lstD, lstDs_map]; rfl
  | _ => cases h
theorem ok_law_lists {M : Md} (bi : Bi M.mg) (F : DefAt M "_law_lists" s_law_lists) : ∀ n : Nat, OkF M "_law_lists" ["_law_matter"] n (spP M.K (Pre_law_lists n))
  | 0 => okf_zero F bind_lists fun ds d ⟨x, _, h, _⟩ => h
  | n + 1 => by
    have F_law_lists := ok_law_lists bi F n
    refine okf_pure F sc_law_lists bind_lists (fun ds d h => by obtain ⟨x, rfl, _⟩ := h; rfl) fun f cdv A outer s H E hr =>
      ⟨_, (pss_one (ps_ret (pe_ifExp (pt_val (pe_callB (kisiT M.K) (by rfl) bi.isinstance (by decide +kernel) (pa_cons (pv 0) (pa_cons (pe_tup (pa_cons (pe_bltn (v := .ty "list") (by rfl) bi.list (by decide +kernel) rfl) (pa_cons (pe_bltn (v := .ty "tuple") (by rfl) bi.tuple (by decide +kernel) rfl) pa_nil))) pa_nil)))) (pe_lc (own := [("_law_bit", 1)]) rfl sc_law_lists.nd (pi_seq M.K (pv 0)) (blkOk_by (N := n_law_lists) (sc := defScope s_law_lists) (by decide +kernel)) (fun _ _ _ _ _ => (pg_name (i := 1) sc_law_lists.nd rfl (.inl rfl))) (fun _ _ _ _ _ => pts_nil) (fun _ _ _ _ _ => (pe_fn F_law_lists (hr.mono (Nat.le_refl _)) (pa_cons (pv 1) pa_nil)))) (pv 0)))), fun ds d h => ?_⟩
    obtain ⟨x, rfl, hx, rfl⟩ := h
    refine ds_retD (de_if (dt_B (rc_isi2 (kit_list x) (kit_tuple x) (de_var rfl))) (fun h => ?_) fun h => ?_) rfl
    · rw [lstD_seq h]
      have hd := dep_seq h hx
      have hw : DW ⟨M.K, []⟩ (iSeq M.K (tVar 0)) (initR n_law_lists [x]) (seqD x) := by
        cases x with
        | list ds => exact dw_seqL (de_var rfl)
        | tuple ds => exact dw_seqT (de_var rfl)
        | _ => cases h
      exact de_lcMM (js := [1]) (seqD x) id lstD (by rw [List.map_id]; exact hw) (len_seq h hx) inAll (plainR_un rfl plainR_nil) fun y hy => ⟨[y], gt_name, de_call (da_cons (de_var rfl) da_nil) ⟨y, rfl, hd y hy, rfl⟩⟩
    · rw [Bool.or_eq_false_iff] at h
      rw [lstD_scal h.1 h.2]
      exact de_var rfl
/-! _law_same -/
abbrev s_law_same : Stmt := topS 45
abbrev n_law_same : List Str := ["_law_got", "_law_due", "_law_mine", "_law_its"]
theorem sc_law_same : FnScope n_law_same ["_law_got", "_law_due"] (defScope s_law_same) := ⟨rfl, rfl, rfl, by decide +kernel, rfl, by decide +kernel, by decide +kernel⟩
theorem bind_same : BindOk "_law_same" s_law_same ["_law_got", "_law_due"] := fun _ _ _ _ _ _ us hl => match us, hl with | [_, _], _ => rfl
def Pre_law_same (n : Nat) (ds : List PyData) (d : PyData) : Prop := ∃ x, ds = [x, x] ∧ depLt n x ∧ SeqAt.shaped x = true ∧ d = .bool true
theorem eqv_bb (b : Bool) : PyData.eqv (.bool b) (.bool b) = true := by cases b <;> rfl
theorem ok_law_same {M : Md} (bi : Bi M.mg) (F : DefAt M "_law_same" s_law_same) : ∀ n : Nat, OkF M "_law_same" ["_law_got", "_law_due"] n (spP M.K (Pre_law_same n))
  | 0 => okf_zero F bind_same fun ds d ⟨x, _, h, _⟩ => h
  | n + 1 => by
    have F_law_same := ok_law_same bi F n
    refine okf_pure F sc_law_same bind_same (fun ds d h => by obtain ⟨x, rfl, _⟩ := h; rfl) fun f cdv A outer s H E hr =>
      ⟨_, (pss_cons (ps_if (pt_val (pe_callB (kisiT M.K) (by rfl) bi.isinstance (by decide +kernel) (pa_cons (pv 1) (pa_cons (pe_tup (pa_cons (pe_bltn (v := .ty "list") (by rfl) bi.list (by decide +kernel) rfl) (pa_cons (pe_bltn (v := .ty "tuple") (by rfl) bi.tuple (by decide +kernel) rfl) pa_nil))) pa_nil)))) (pss_cons (ps_if (PW.pt (pw_or (pt_cmpR (kneD M.K hr) (pe_callB (kisi M.K) (by rfl) bi.isinstance (by decide +kernel) (pa_cons (pv 0) (pa_cons (pe_bltn (v := .ty "list") (by rfl) bi.list (by decide +kernel) rfl) pa_nil))) (pe_callB (kisi M.K) (by rfl) bi.isinstance (by decide +kernel) (pa_cons (pv 1) (pa_cons (pe_bltn (v := .ty "list") (by rfl) bi.list (by decide +kernel) rfl) pa_nil))) (nomark _)) (pw_or1 (pt_cmpR (kneD M.K hr) (pe_callB (kisi M.K) (by rfl) bi.isinstance (by decide +kernel) (pa_cons (pv 0) (pa_cons (pe_bltn (v := .ty "tuple") (by rfl) bi.tuple (by decide +kernel) rfl) pa_nil))) (pe_callB (kisi M.K) (by rfl) bi.isinstance (by decide +kernel) (pa_cons (pv 1) (pa_cons (pe_bltn (v := .ty "tuple") (by rfl) bi.tuple (by decide +kernel) rfl) pa_nil))) (nomark _))))) (pss_one (ps_ret pe_bl)) pss_nil)
      (pss_one (ps_ret (pe_and (pe_cmpR (keqD M.K hr) (pe_callB (klen M.K) (by rfl) bi.len PySem.boot_len (pa_cons (pv 0) pa_nil)) (pe_callB (klen M.K) (by rfl) bi.len PySem.boot_len (pa_cons (pv 1) pa_nil)) (nomark _)) (pe_one (pe_callB (kall M.K) (by rfl) bi.all (by decide +kernel) (pa_cons (pe_lc (own := [("_law_mine", 2), ("_law_its", 3)]) rfl sc_law_same.nd (piZ M.K bi.zip (pa_cons (pv 0) (pa_cons (pv 1) pa_nil))) (blkOk_by (N := n_law_same) (sc := defScope s_law_same) (by decide +kernel)) (fun _ _ _ _ _ => (pgT M.K 2 (pgs_cons (pg_name (i := 2) sc_law_same.nd rfl (.inl rfl)) (pgs_cons (pg_name (i := 3) sc_law_same.nd rfl (.inl rfl)) pgs_nil)))) (fun _ _ _ _ _ => pts_nil) (fun _ _ _ _ _ => (pe_fn F_law_same (hr.mono (Nat.le_refl _)) (pa_cons (pv 2) (pa_cons (pv 3) pa_nil))))) pa_nil))))))) pss_nil)
      (pss_cons (ps_if (PW.pt (pw_or (pt_cmpR op_isN (pv 1) pe_non (nomark _)) (pw_or1 (pt_val (pe_callB (kisiT M.K) (by rfl) bi.isinstance (by decide +kernel) (pa_cons (pv 1) (pa_cons (pe_tup (pa_cons (pe_bltn (v := .ty "bool") (by rfl) bi.bool (by decide +kernel) rfl) (pa_cons (pe_bltn (v := .ty "str") (by rfl) bi.str (by decide +kernel) rfl) pa_nil))) pa_nil))))))) (pss_one (ps_ret (pe_and (pe_cmpR (keqD M.K hr) (pv 0) (pv 1) (nomark _)) (pe_and (pe_cmpR (keqD M.K hr) (pe_callB (kisi M.K) (by rfl) bi.isinstance (by decide +kernel) (pa_cons (pv 0) (pa_cons (pe_bltn (v := .ty "bool") (by rfl) bi.bool (by decide +kernel) rfl) pa_nil))) (pe_callB (kisi M.K) (by rfl) bi.isinstance (by decide +kernel) (pa_cons (pv 1) (pa_cons (pe_bltn (v := .ty "bool") (by rfl) bi.bool (by decide +kernel) rfl) pa_nil))) (nomark _)) (pe_one (pe_cmpR (keqD M.K hr) (pe_cmpR op_isN (pv 0) pe_non (nomark _)) (pe_cmpR op_isN (pv 1) pe_non (nomark _)) (nomark _))))))) pss_nil)
      (pss_one (ps_ret (pe_and (pe_callB (kisi M.K) (by rfl) bi.isinstance (by decide +kernel) (pa_cons (pv 0) (pa_cons (pe_bltn (v := .ty "int") (by rfl) bi.int (by decide +kernel) rfl) pa_nil))) (pe_and (pe_not (pe_callB (kisi M.K) (by rfl) bi.isinstance (by decide +kernel) (pa_cons (pv 0) (pa_cons (pe_bltn (v := .ty "bool") (by rfl) bi.bool (by decide +kernel) rfl) pa_nil)))) (pe_one (pe_cmpR (keqD M.K hr) (pv 0) (pv 1) (nomark _))))))))), fun ds d h => ?_⟩
    obtain ⟨x, rfl, hx, sx, rfl⟩ := h
    refine ds_seq (ds_ifD (b := isLD x || isTD x) (dt_B (rc_isi2 (kit_list x) (kit_tuple x) (de_var rfl))) (fun h => ?_) fun h => ?_)
    · refine ds_seq (ds_ifD (b := false) ((dt_or (dt_test (de_op (rc_isi (kit_list x) (de_var rfl)) (rc_isi (kit_list x) (de_var rfl)) (rd_neD rfl rfl))) fun _ => dt_test (de_op (rc_isi (kit_tuple x) (de_var rfl)) (rc_isi (kit_tuple x) (de_var rfl)) (rd_neD rfl rfl))).cast ?_) (fun z => nomatch z) fun _ => ds_next ?_)
      · rw [eqv_bb, eqv_bb]
        rfl
      have hd := dep_seq h hx
      have hsz := len_seq h hx
      have hs : ∀ y ∈ seqD x, SeqAt.shaped y = true := by
        cases x with
        | list ds => exact shp_mem (.inl sx)
        | tuple ds => exact shp_mem (.inr sx)
        | _ => cases h
      have hlen : ∀ i : Nat, (initR n_law_same [x, x])[i]? = some (.dat x) → DE ⟨M.K, []⟩ (tCB (rLenQ M.K) (tCons (tVar i) tNil)) (initR n_law_same [x, x]) (.int ((seqD x).length : Nat)) := fun i hi => by
        cases x with
        | list ds => exact de_cb (da_cons (de_var hi) da_nil) rc_lenL
        | tuple ds => exact de_cb (da_cons (de_var hi) da_nil) rc_lenT
        | _ => cases h
      have hw : DW ⟨M.K, []⟩ (RZ.iZipA M.K (tCons (tVar 0) (tCons (tVar 1) tNil))) (initR n_law_same [x, x]) ((seqD x).map fun y => .tuple [y, y]) := by
        cases x with
        | list ds => exact dw_zipL (da_cons (de_var rfl) (da_cons (de_var rfl) da_nil))
        | tuple ds => exact dw_zipT (da_cons (de_var rfl) (da_cons (de_var rfl) da_nil))
        | _ => cases h
      have kl := de_lcMM (C := ⟨M.K, []⟩) (ρ := initR n_law_same [x, x]) (te := tCall (spP M.K (Pre_law_same n)) [] E0 (tCons (tVar 2) (tCons (tVar 3) tNil))) (g := gTup M.K 2 (gCons (gName 2) (gCons (gName 3) gNil))) (js := [2, 3]) (vs := [2, 3]) (seqD x) (fun y => .tuple [y, y]) (fun _ => .bool true) hw hsz inAll (plainR_un rfl (plainR_un rfl plainR_nil))
        fun y hy => ⟨[y, y], gt_tup (.cons 2 (.cons 3 .nil)) rfl rfl, de_call (da_cons (de_var rfl) (da_cons (de_var rfl) da_nil)) ⟨y, rfl, hd y hy, hs y hy, rfl⟩⟩
      rw [show (seqD x).map (fun _ => PyData.bool true) = ((seqD x).map fun _ => true).map PyData.bool by rw [List.map_map]; rfl] at kl
      refine ds_retD (de_andV (de_op (hlen 0 rfl) (hlen 1 rfl) (rd_eqD rfl rfl)) fun _ => de_cb (da_cons kl da_nil) rc_all) ?_
      have e1 : PyData.eqv (.int ((seqD x).length : Nat)) (.int ((seqD x).length : Nat)) = true := by simp [PyData.eqv]
      rw [e1]
      simp
    · refine ds_next ?_
      rw [Bool.or_eq_false_iff] at h
      have sc2 : ∀ {b c : Bool} {q : Bool}, kitB (tyD x) "bool" = some b → kitB (tyD x) "str" = some c → (isNonD x || (b || c)) = q → (q = true → PyData.eqv x x = true) → (q = false → kitB (tyD x) "int" = some true ∧ kitB (tyD x) "bool" = some false ∧ PyData.eqv x x = true) → DS ⟨M.K, []⟩ (tSeq
          (tIfS (tOr (tTest (tOp rIsN (tVar 1) (tC .non))) (tB (tCB (rIsiT M.K) (tCons (tVar 1) (tCons (tTup (tCons (tC (.ty "bool")) (tCons (tC (.ty "str")) tNil))) tNil)))))
            (tRet (tAndV (tOp (rEqD M.K) (tVar 0) (tVar 1)) (tAndV (tOp (rEqD M.K) (tCB (rIsi M.K) (tCons (tVar 0) (tCons (tC (.ty "bool")) tNil))) (tCB (rIsi M.K) (tCons (tVar 1) (tCons (tC (.ty "bool")) tNil)))) (tOp (rEqD M.K) (tOp rIsN (tVar 0) (tC .non)) (tOp rIsN (tVar 1) (tC .non)))))) tNext)
          (tRet (tAndV (tCB (rIsi M.K) (tCons (tVar 0) (tCons (tC (.ty "int")) tNil))) (tAndV (tNotV (tCB (rIsi M.K) (tCons (tVar 0) (tCons (tC (.ty "bool")) tNil)))) (tOp (rEqD M.K) (tVar 0) (tVar 1))))))
          (initR n_law_same [x, x]) { nx := fun _ => False, rt := fun d' _ => d' = .bool true } := fun {b c q} kb ks e h1 h2 => by
        refine ds_seq (ds_ifD (b := q) ((dt_or (dt_test (de_op (de_var (d := x) rfl) de_non rd_isN)) fun _ => dt_B (rc_isi2 kb ks (de_var rfl))).cast e) (fun z => ?_) fun z => ds_next ?_)
        · refine ds_retD (de_andV (de_op (de_var (d := x) rfl) (de_var (d := x) rfl) (rd_eqD sx sx)) fun _ => de_andV (de_op (rc_isi kb (de_var rfl)) (rc_isi kb (de_var rfl)) (rd_eqD rfl rfl)) fun _ => de_op (de_op (de_var (d := x) rfl) de_non rd_isN) (de_op (de_var (d := x) rfl) de_non rd_isN) (rd_eqD rfl rfl)) ?_
          rw [h1 z, eqv_bb, eqv_bb]
          rfl
        · obtain ⟨ki, kb2, ee⟩ := h2 z
          refine ds_retD (de_andV (rc_isi ki (de_var rfl)) fun _ => de_andV (de_notV (rc_isi kb2 (de_var rfl))) fun _ => de_op (de_var (d := x) rfl) (de_var (d := x) rfl) (rd_eqD sx sx)) ?_
          rw [ee]
          rfl
      cases x with
      | none => exact sc2 (b := false) (c := false) (q := true) (by decide +kernel) (by decide +kernel) rfl (fun _ => by simp [PyData.eqv]) fun z => nomatch z
      | bool v => exact sc2 (b := true) (c := false) (q := true) (show kitB "bool" "bool" = _ by decide +kernel) (show kitB "bool" "str" = _ by decide +kernel) rfl (fun _ => eqv_bb v) fun z => nomatch z
      | str v => exact sc2 (b := false) (c := true) (q := true) (show kitB "str" "bool" = _ by decide +kernel) (show kitB "str" "str" = _ by decide +kernel) rfl (fun _ => by simp [PyData.eqv]) fun z => nomatch z
      | int v => exact sc2 (b := false) (c := false) (q := false) (show kitB "int" "bool" = _ by decide +kernel) (show kitB "int" "str" = _ by decide +kernel) rfl (fun z => nomatch z) fun _ => ⟨show kitB "int" "int" = _ by decide +kernel, show kitB "int" "bool" = _ by decide +kernel, by simp [PyData.eqv]⟩
      | list v => cases h.1
      | tuple v => cases h.2
      | dict v => exact hx.elim
end SC
/-! The law's own reckoning. -/
namespace SC
/-! ### by value -/
theorem ratle_trans : ∀ a b c : Rat, decide (a ≤ b) = true → decide (b ≤ c) = true → decide (a ≤ c) = true := fun a b c h1 h2 => by
  have h1 := of_decide_eq_true h1
  have h2 := of_decide_eq_true h2
  exact decide_eq_true (Rat.le_trans h1 h2)
theorem ratle_total : ∀ a b : Rat, (decide (a ≤ b) || decide (b ≤ a)) = true := fun a b => by
  rcases Rat.le_total (a := a) (b := b) with h | h
  · rw [decide_eq_true h]
    rfl
  · rw [decide_eq_true h, Bool.or_true]
def byQ (ps : List Rat) : List Rat := ps.eraseDups.mergeSort fun a b => decide (a ≤ b)
theorem mem_byQ {ps : List Rat} {q : Rat} : q ∈ byQ ps ↔ q ∈ ps := by
  unfold byQ
  rw [(List.mergeSort_perm _ _).mem_iff, List.mem_eraseDups]
theorem byQ_nodup (ps : List Rat) : (byQ ps).Nodup := ((List.mergeSort_perm _ _).nodup_iff).mpr (nodup_dedup _ _ (Nat.le_refl _))
theorem byQ_le (ps : List Rat) : (byQ ps).Pairwise fun a b => decide (a ≤ b) = true := List.pairwise_mergeSort ratle_trans ratle_total _
theorem byQ_pair (ps : List Rat) : (byQ ps).Pairwise fun a b => a < b := by
  have h1 := byQ_le ps
  have h2 : (byQ ps).Pairwise fun a b => a ≠ b := byQ_nodup ps
  refine (h1.and h2).imp fun {a b} h => ?_
  have := of_decide_eq_true h.1
  have := h.2
  grind
theorem byQ_the {ps L : List Rat} (hp : L.Pairwise fun a b => a < b) (hm : ∀ q, q ∈ L ↔ q ∈ ps) : L = byQ ps := by
  have nd : L.Nodup := hp.imp fun {a b} h => by grind
  refine List.Perm.eq_of_pairwise (le := fun a b => decide (a ≤ b) = true) (fun a b _ _ h1 h2 => ?_) (hp.imp fun {a b} h => decide_eq_true (Rat.le_of_lt h)) (byQ_le ps) ((List.perm_ext_iff_of_nodup nd (byQ_nodup ps)).mpr fun q => (hm q).trans mem_byQ.symm)
  have h1 := of_decide_eq_true h1
  have h2 := of_decide_eq_true h2
  grind
theorem byQ_len (ps : List Rat) : (byQ ps).length ≤ ps.length := by
  unfold byQ
  rw [List.length_mergeSort]
  exact go ps.length ps (Nat.le_refl _)
where go : ∀ (n : Nat) (l : List Rat), l.length ≤ n → l.eraseDups.length ≤ l.length
  | 0, [], _ => by simp
  | _ + 1, [], _ => by simp
  | n + 1, a :: l, h => by
    rw [List.eraseDups_cons]
    have h1 := List.length_filter_le (fun b => !b == a) l
    have h2 : l.length ≤ n := by simpa using h
    have h3 := go n (l.filter fun b => !b == a) (by omega)
    simp only [List.length_cons]
    omega
/-! ### on a line, on all of some lines -/
def atQ (b : Bar) (l : Line) (h : Int) (x : Rat) : Bool := b.gs.any fun g => decide (g.line = l) && (decide (h ≤ g.dep) && (!decide (x < g.s) && !decide (g.e < x)))
theorem atQ_iff {b : Bar} {l : Line} {h : Int} {x : Rat} : atQ b l h x = true ↔ OnL b l h x := by
  unfold atQ OnL
  rw [List.any_eq_true]
  constructor
  · rintro ⟨g, hg, k⟩
    simp only [Bool.and_eq_true, decide_eq_true_eq, Bool.not_eq_true', decide_eq_false_iff_not] at k
    exact ⟨g, hg, k.1, k.2.1, Rat.not_lt.mp k.2.2.1, Rat.not_lt.mp k.2.2.2⟩
  · rintro ⟨g, hg, h1, h2, h3, h4⟩
    refine ⟨g, hg, ?_⟩
    simp only [Bool.and_eq_true, decide_eq_true_eq, Bool.not_eq_true', decide_eq_false_iff_not]
    exact ⟨h1, h2, Rat.not_lt.mpr h3, Rat.not_lt.mpr h4⟩
def allOnQ (b : Bar) (ls : List Line) (h : Int) (x : Rat) : Bool := ls.all fun l => atQ b l h x
theorem allOnQ_iff {b : Bar} {ls : List Line} {h : Int} {x : Rat} : allOnQ b ls h x = true ↔ ∀ l ∈ ls, OnL b l h x := by
  unfold allOnQ
  rw [List.all_eq_true]
  exact ⟨fun k l hl => atQ_iff.mp (k l hl), fun k l hl => atQ_iff.mpr (k l hl)⟩
def mineQ (b : Bar) (ls : List Line) : List Groove := b.gs.filter fun g => ls.any fun l => decide (l = g.line)
def placesL (b : Bar) (ls : List Line) : List Rat := byQ ((mineQ b ls).map (·.s) ++ (mineQ b ls).map (·.e))
theorem mem_places {b : Bar} {ls : List Line} {g : Groove} (hg : g ∈ b.gs) (hl : g.line ∈ ls) : g.s ∈ placesL b ls ∧ g.e ∈ placesL b ls := by
  have hm : g ∈ mineQ b ls := List.mem_filter.mpr ⟨hg, List.any_eq_true.mpr ⟨_, hl, decide_eq_true rfl⟩⟩
  exact ⟨mem_byQ.mpr (List.mem_append_left _ (List.mem_map.mpr ⟨g, hm, rfl⟩)), mem_byQ.mpr (List.mem_append_right _ (List.mem_map.mpr ⟨g, hm, rfl⟩))⟩
def AllOn (b : Bar) (ls : List Line) (h : Int) (x : Rat) : Prop := ∀ l ∈ ls, OnL b l h x
section
variable {b : Bar} {ls : List Line} {h : Int}
/-- between two places that lie side by side -/
theorem gap_on {lo hi x : Rat} (hP : ∀ q ∈ placesL b ls, q ≤ lo ∨ hi ≤ q) (h1 : lo < x) (h2 : x < hi) (on : AllOn b ls h x) : ∀ y, lo ≤ y → y ≤ hi → AllOn b ls h y := fun y y1 y2 l hl => by
  obtain ⟨g, hg, e, hd, hs, he⟩ := on l hl
  obtain ⟨m1, m2⟩ := mem_places (ls := ls) hg (by rw [e]; exact hl)
  have k1 := hP g.s m1
  have k2 := hP g.e m2
  refine ⟨g, hg, e, hd, ?_, ?_⟩ <;> grind
theorem low_off (hne : ls ≠ []) {x : Rat} (hP : ∀ q ∈ placesL b ls, x < q) : ¬ AllOn b ls h x := fun on => by
  obtain ⟨l, hl⟩ := List.exists_mem_of_ne_nil ls hne
  obtain ⟨g, hg, e, _, hs, _⟩ := on l hl
  have := hP g.s (mem_places hg (by rw [e]; exact hl)).1
  grind
theorem high_off (hne : ls ≠ []) {x : Rat} (hP : ∀ q ∈ placesL b ls, q < x) : ¬ AllOn b ls h x := fun on => by
  obtain ⟨l, hl⟩ := List.exists_mem_of_ne_nil ls hne
  obtain ⟨g, hg, e, _, _, he⟩ := on l hl
  have := hP g.e (mem_places hg (by rw [e]; exact hl)).2
  grind
end
/-! ### the stretches, place by place -/
abbrev Stt := List (Rat × Rat) × Bool
def growQ (st : Stt) (x : Rat) : List (Rat × Rat) := if st.2 then st.1 ++ [(x, x)] else st.1.set (st.1.length - 1) ((st.1.getD (st.1.length - 1) (0, 0)).1, x)
def stepS (on : Rat → Bool) (P : List Rat) (i : Nat) (st : Stt) : Stt :=
  if on (P.getD i 0) then (growQ st (P.getD i 0), if i + 1 < P.length then !on ((P.getD i 0 + P.getD (i + 1) 0) / 2) else true) else (st.1, true)
def runS (on : Rat → Bool) (P : List Rat) : Nat → Stt
  | 0 => ([], true)
  | i + 1 => stepS on P i (runS on P i)
def stretQ (b : Bar) (ls : List Line) (h : Int) : List (Rat × Rat) := (runS (allOnQ b ls h) (placesL b ls) (placesL b ls).length).1
structure SI (On : Rat → Prop) (P : List Rat) (i : Nat) (st : Stt) : Prop where
  le : ∀ w ∈ st.1, w.1 ≤ w.2
  sep : st.1.Pairwise fun v w => v.2 < w.1
  a1 : st.2 = true → ∀ x, (∀ p, P[i]? = some p → x < p) → (Cov st.1 x ↔ On x)
  a2 : st.2 = true → ∀ w ∈ st.1, ∀ p, P[i]? = some p → w.2 < p
  b : st.2 = false → ∃ f w p, st.1 = f ++ [w] ∧ P[i]? = some p ∧ w.2 < p ∧ (∀ x, x ≤ w.2 → (Cov st.1 x ↔ On x)) ∧ ∀ y, w.2 ≤ y → y ≤ p → On y
theorem sorted_next {P : List Rat} (hp : P.Pairwise fun a b => a < b) {i : Nat} {x y : Rat} (hx : P[i]? = some x) (hy : P[i + 1]? = some y) : x < y ∧ ∀ q ∈ P, q ≤ x ∨ y ≤ q := by
  have lt : ∀ {j k : Nat} {a c : Rat}, j < k → P[j]? = some a → P[k]? = some c → a < c := fun {j k a c} hjk ha hc => by
    obtain ⟨h1, rfl⟩ := List.getElem?_eq_some_iff.mp ha
    obtain ⟨h2, rfl⟩ := List.getElem?_eq_some_iff.mp hc
    exact List.pairwise_iff_getElem.mp hp j k h1 h2 hjk
  refine ⟨lt (Nat.lt_succ_self i) hx hy, fun q hq => ?_⟩
  obtain ⟨j, hj⟩ := List.mem_iff_getElem?.mp hq
  rcases Nat.lt_trichotomy j i with h | h | h
  · exact .inl (Rat.le_of_lt (lt h hj hx))
  · rw [h, hx] at hj
    exact .inl (by rw [Option.some.inj hj]; exact Rat.le_refl)
  · rcases Nat.lt_trichotomy j (i + 1) with h' | h' | h'
    · omega
    · rw [h', hy] at hj
      exact .inr (by rw [Option.some.inj hj]; exact Rat.le_refl)
    · exact .inr (Rat.le_of_lt (lt h' hy hj))
theorem sorted_last {P : List Rat} (hp : P.Pairwise fun a b => a < b) {i : Nat} {x : Rat} (hx : P[i]? = some x) (hy : P[i + 1]? = none) : ∀ q ∈ P, q ≤ x := fun q hq => by
  obtain ⟨j, hj⟩ := List.mem_iff_getElem?.mp hq
  obtain ⟨h1, rfl⟩ := List.getElem?_eq_some_iff.mp hx
  obtain ⟨h2, rfl⟩ := List.getElem?_eq_some_iff.mp hj
  have h3 := List.getElem?_eq_none_iff.mp hy
  rcases Nat.lt_or_ge j i with h | h
  · exact Rat.le_of_lt (List.pairwise_iff_getElem.mp hp j i h2 h1 h)
  · have e : j = i := by omega
    subst e
    exact Rat.le_refl
theorem sorted_first {P : List Rat} (hp : P.Pairwise fun a b => a < b) {x : Rat} (hx : P[0]? = some x) : ∀ q ∈ P, x ≤ q := fun q hq => by
  obtain ⟨j, hj⟩ := List.mem_iff_getElem?.mp hq
  obtain ⟨h1, rfl⟩ := List.getElem?_eq_some_iff.mp hx
  obtain ⟨h2, rfl⟩ := List.getElem?_eq_some_iff.mp hj
  rcases Nat.eq_zero_or_pos j with h | h
  · subst h
    exact Rat.le_refl
  · exact Rat.le_of_lt (List.pairwise_iff_getElem.mp hp 0 j h1 h2 h)
theorem sep_up {f : List (Rat × Rat)} {w : Rat × Rat} (le : ∀ v ∈ f ++ [w], v.1 ≤ v.2) (sep : (f ++ [w]).Pairwise fun v w => v.2 < w.1) : ∀ v ∈ f ++ [w], v.2 ≤ w.2 := fun v hv => by
  have k := (List.pairwise_append.mp sep).2.2
  have h2 := le w (by simp)
  rcases List.mem_append.mp hv with h | h
  · have := k v h w (by simp)
    grind
  · rw [List.mem_singleton.mp h]
    exact Rat.le_refl
section
variable {On : Rat → Prop} {P : List Rat}
/-- one place, all on -/
theorem grow_ok {i : Nat} {st : Stt} {x : Rat} (hx : P[i]? = some x) (I : SI On P i st) (on : On x) :
    ∃ f v, growQ st x = f ++ [v] ∧ v.2 = x ∧ (∀ w ∈ growQ st x, w.1 ≤ w.2) ∧ ((growQ st x).Pairwise fun v w => v.2 < w.1) ∧ ∀ y, y ≤ x → (Cov (growQ st x) y ↔ On y) := by
  obtain ⟨f0, fr⟩ := st
  cases fr with
  | true =>
    have e : growQ (f0, true) x = f0 ++ [(x, x)] := rfl
    have up := I.a2 rfl
    have cv := I.a1 rfl
    refine ⟨f0, (x, x), e, rfl, fun w hw => ?_, ?_, fun y hy => ?_⟩
    · rw [e] at hw
      rcases List.mem_append.mp hw with h | h
      · exact I.le w h
      · rw [List.mem_singleton.mp h]
        exact Rat.le_refl
    · rw [e]
      refine List.pairwise_append.mpr ⟨I.sep, List.pairwise_singleton _ _, fun v hv w hw => ?_⟩
      rw [List.mem_singleton.mp hw]
      exact up v hv x hx
    · rw [e, cov_app, cov_one]
      by_cases q : y < x
      · rw [← cv y fun p hp => by rw [hx] at hp; rw [← Option.some.inj hp]; exact q]
        constructor
        · rintro (h | ⟨h, _⟩)
          · exact h
          · grind
        · exact .inl
      · have ey : y = x := by grind
        subst ey
        exact ⟨fun _ => on, fun _ => .inr ⟨Rat.le_refl, Rat.le_refl⟩⟩
  | false =>
    obtain ⟨f, w, p, e0, hp, hw, cv, ons⟩ := I.b rfl
    have e0 : f0 = f ++ [w] := e0
    subst e0
    have ep : p = x := by
      rw [hx] at hp
      exact (Option.some.inj hp).symm
    subst ep
    have e : growQ (f ++ [w], false) p = f ++ [(w.1, p)] := by
      unfold growQ
      rw [if_neg (by simp)]
      show (f ++ [w]).set ((f ++ [w]).length - 1) _ = _
      rw [snoc_set]
      congr 3
      show ((f ++ [w]).getD ((f ++ [w]).length - 1) (0, 0)).1 = w.1
      rw [List.getD_eq_getElem?_getD, snoc_last]
      rfl
    have hle := I.le w (by simp)
    have sp := List.pairwise_append.mp I.sep
    refine ⟨f, (w.1, p), e, rfl, fun v hv => ?_, ?_, fun y hy => ?_⟩
    · rw [e] at hv
      rcases List.mem_append.mp hv with h | h
      · exact I.le v (List.mem_append_left _ h)
      · rw [List.mem_singleton.mp h]
        show w.1 ≤ p
        grind
    · rw [e]
      refine List.pairwise_append.mpr ⟨sp.1, List.pairwise_singleton _ _, fun v hv u hu => ?_⟩
      rw [List.mem_singleton.mp hu]
      exact sp.2.2 v hv w (by simp)
    · rw [e, cov_app, cov_one]
      by_cases q : y ≤ w.2
      · rw [← cv y q, cov_app, cov_one]
        constructor
        · rintro (h | ⟨h1, h2⟩)
          · exact .inl h
          · exact .inr ⟨h1, q⟩
        · rintro (h | ⟨h1, h2⟩)
          · exact .inl h
          · exact .inr ⟨h1, hy⟩
      · have q : w.2 < y := Rat.not_le.mp q
        exact ⟨fun _ => ons y (Rat.le_of_lt q) hy, fun _ => .inr ⟨by show w.1 ≤ y; grind, hy⟩⟩
theorem step_ok (onB : Rat → Bool) (hon : ∀ x, onB x = true ↔ On x) (hp : P.Pairwise fun a b => a < b) (gap : ∀ lo hi, (∀ q ∈ P, q ≤ lo ∨ hi ≤ q) → ∀ x, lo < x → x < hi → On x → ∀ y, lo ≤ y → y ≤ hi → On y) (high : ∀ x, (∀ q ∈ P, q < x) → ¬ On x)
    {i : Nat} {st : Stt} {x : Rat} (hx : P[i]? = some x) (I : SI On P i st) : SI On P (i + 1) (stepS onB P i st) := by
  have eg : P.getD i 0 = x := by rw [List.getD_eq_getElem?_getD, hx]; rfl
  unfold stepS
  rw [eg]
  by_cases on : onB x = true
  · rw [if_pos on]
    have on' := (hon x).mp on
    obtain ⟨f, v, e1, e2, le, sep, cov⟩ := grow_ok hx I on'
    generalize growQ st x = F at *
    have up : ∀ w ∈ F, w.2 ≤ x := fun w hw => by
      rw [← e2]
      rw [e1] at le sep hw
      exact sep_up le sep w hw
    cases hy : P[i + 1]? with
    | none =>
      have hl := List.getElem?_eq_none_iff.mp hy
      rw [if_neg (by omega)]
      refine ⟨le, sep, fun _ y _ => ?_, fun _ w hw p h => (by rw [hy] at h; cases h), fun z => nomatch z⟩
      by_cases q : y ≤ x
      · exact cov y q
      · have q : x < y := Rat.not_le.mp q
        refine ⟨fun ⟨w, hw, _, w2⟩ => ?_, fun z => ?_⟩
        · have := up w hw
          grind
        · exact absurd z (high y fun q' hq => by have := sorted_last hp hx hy q' hq; grind)
    | some p' =>
      have hl : i + 1 < P.length := (List.getElem?_eq_some_iff.mp hy).1
      obtain ⟨n1, n2⟩ := sorted_next hp hx hy
      have eg2 : P.getD (i + 1) 0 = p' := by rw [List.getD_eq_getElem?_getD, hy]; rfl
      rw [if_pos hl, eg2]
      have m1 : x < (x + p') / 2 := by grind
      have m2 : (x + p') / 2 < p' := by grind
      by_cases om : onB ((x + p') / 2) = true
      · rw [om]
        have all := gap x p' n2 _ m1 m2 ((hon _).mp om)
        refine ⟨le, sep, fun z => (nomatch z), fun z => (nomatch z), fun _ => ⟨f, v, p', e1, hy, by rw [e2]; exact n1, fun y hyx => cov y (by rw [← e2]; exact hyx), fun y y1 y2 => all y (by rw [← e2]; exact y1) y2⟩⟩
      · have om' : onB ((x + p') / 2) = false := by simpa using om
        rw [om']
        have noM : ¬ On ((x + p') / 2) := fun z => om ((hon _).mpr z)
        refine ⟨le, sep, fun _ y hyp => ?_, fun _ w hw p h => ?_, fun z => nomatch z⟩
        · have hyp := hyp p' hy
          by_cases q : y ≤ x
          · exact cov y q
          · have q : x < y := Rat.not_le.mp q
            refine ⟨fun ⟨w, hw, _, w2⟩ => ?_, fun z => ?_⟩
            · have := up w hw
              grind
            · exact absurd (gap x p' n2 y q hyp z _ (Rat.le_of_lt m1) (Rat.le_of_lt m2)) noM
        · rw [hy] at h
          have := up w hw
          have := Option.some.inj h
          grind
  · rw [if_neg on]
    have off : ¬ On x := fun z => on ((hon x).mpr z)
    have fr : st.2 = true := by
      cases q : st.2 with
      | true => rfl
      | false =>
        obtain ⟨f, w, p, _, hp', hw, _, ons⟩ := I.b q
        rw [hx] at hp'
        have ep := Option.some.inj hp'
        subst ep
        exact absurd (ons x (Rat.le_of_lt hw) Rat.le_refl) off
    have cv := I.a1 fr
    have up : ∀ w ∈ st.1, w.2 < x := fun w hw => I.a2 fr w hw x hx
    have below : ∀ y, y ≤ x → (Cov st.1 y ↔ On y) := fun y hy => by
      by_cases q : y < x
      · exact cv y fun p hp => by rw [hx] at hp; rw [← Option.some.inj hp]; exact q
      · have ey : y = x := by grind
        subst ey
        refine ⟨fun ⟨w, hw, _, w2⟩ => ?_, fun z => absurd z off⟩
        have := up w hw
        grind
    cases hy : P[i + 1]? with
    | none =>
      refine ⟨I.le, I.sep, fun _ y _ => ?_, fun _ w hw p h => (by rw [hy] at h; cases h), fun z => nomatch z⟩
      by_cases q : y ≤ x
      · exact below y q
      · have q : x < y := Rat.not_le.mp q
        refine ⟨fun ⟨w, hw, _, w2⟩ => ?_, fun z => ?_⟩
        · have := up w hw
          grind
        · exact absurd z (high y fun q' hq => by have := sorted_last hp hx hy q' hq; grind)
    | some p' =>
      obtain ⟨n1, n2⟩ := sorted_next hp hx hy
      refine ⟨I.le, I.sep, fun _ y hyp => ?_, fun _ w hw p h => ?_, fun z => nomatch z⟩
      · have hyp := hyp p' hy
        by_cases q : y ≤ x
        · exact below y q
        · have q : x < y := Rat.not_le.mp q
          refine ⟨fun ⟨w, hw, _, w2⟩ => ?_, fun z => ?_⟩
          · have := up w hw
            grind
          · exact absurd (gap x p' n2 y q hyp z x Rat.le_refl (Rat.le_of_lt n1)) off
      · rw [hy] at h
        have := up w hw
        have := Option.some.inj h
        grind
end
section
variable {b : Bar} {ls : List Line} {h : Int}
theorem run_ok (hne : ls ≠ []) : ∀ i, i ≤ (placesL b ls).length → SI (AllOn b ls h) (placesL b ls) i (runS (allOnQ b ls h) (placesL b ls) i)
  | 0, _ => by
    refine ⟨fun _ h => (nomatch h), .nil, fun _ x hx => ?_, fun _ _ h => (nomatch h), fun z => nomatch z⟩
    refine ⟨fun ⟨w, hw, _⟩ => (nomatch hw), fun on => ?_⟩
    refine absurd on (low_off hne fun q hq => ?_)
    cases hP : (placesL b ls)[0]? with
    | none =>
      have := List.getElem?_eq_none_iff.mp hP
      have e : placesL b ls = [] := List.length_eq_zero_iff.mp (by omega)
      rw [e] at hq
      cases hq
    | some p =>
      have h1 := sorted_first (byQ_pair _) hP q hq
      have h2 := hx p hP
      grind
  | i + 1, hi => by
    obtain ⟨x, hx⟩ : ∃ x, (placesL b ls)[i]? = some x := ⟨_, List.getElem?_eq_getElem (by omega)⟩
    exact step_ok (allOnQ b ls h) (fun x => allOnQ_iff) (byQ_pair _) (fun lo hi hP x h1 h2 on => gap_on hP h1 h2 on) (fun x hP => high_off hne hP) hx (run_ok hne i (by omega))
theorem run_fresh (hne : ls ≠ []) : (runS (allOnQ b ls h) (placesL b ls) (placesL b ls).length).2 = true := by
  cases q : (runS (allOnQ b ls h) (placesL b ls) (placesL b ls).length).2 with
  | true => rfl
  | false =>
    obtain ⟨_, _, p, _, hp, _⟩ := (run_ok (h := h) hne _ (Nat.le_refl _)).b q
    rw [List.getElem?_eq_none (Nat.le_refl _)] at hp
    cases hp
theorem stretQ_ok (hne : ls ≠ []) : (∀ w ∈ stretQ b ls h, w.1 ≤ w.2) ∧ ((stretQ b ls h).Pairwise fun v w => v.2 < w.1) ∧ ∀ x, Cov (stretQ b ls h) x ↔ AllOn b ls h x := by
  have I := run_ok (b := b) (h := h) hne _ (Nat.le_refl _)
  exact ⟨I.le, I.sep, fun x => I.a1 (run_fresh hne) x fun p hp => (by rw [List.getElem?_eq_none (Nat.le_refl _)] at hp; cases hp)⟩
def strQ (b : Bar) (ls : List Line) (h : Int) (p : Rat) : Option (Rat × Rat) := (stretQ b ls h).find? (inW p)
theorem strQ_some (hne : ls ≠ []) {p : Rat} {w : Rat × Rat} (e : strQ b ls h p = some w) : IsComp (AllOn b ls h) p w := by
  obtain ⟨le, sep, cov⟩ := stretQ_ok (b := b) (h := h) hne
  have h1 := List.find?_some e
  have h2 := List.mem_of_find?_eq_some e
  obtain ⟨a, c⟩ := inW_iff.mp h1
  exact (comp_of le sep h2 a c).congr cov
theorem strQ_none (hne : ls ≠ []) {p : Rat} : strQ b ls h p = none ↔ ¬ AllOn b ls h p := by
  rw [← (stretQ_ok (b := b) (h := h) hne).2.2 p]
  unfold strQ
  rw [List.find?_eq_none]
  constructor
  · rintro k ⟨w, hw, a, c⟩
    exact k w hw (inW_iff.mpr ⟨a, c⟩)
  · intro k w hw z
    obtain ⟨a, c⟩ := inW_iff.mp z
    exact k ⟨w, hw, a, c⟩
end
theorem one_on {b : Bar} {l : Line} {h : Int} {x : Rat} : AllOn b [l] h x ↔ OnL b l h x := ⟨fun k => k l (by simp), fun k l' hl => by rw [List.mem_singleton.mp hl]; exact k⟩
/-- one tooth: the law's stretch is the program's -/
theorem str_way {b : Bar} (hb : BOk b) (lead ph : Rat) (h : Int) (p : Rat) : strQ b [.lead lead ph] h p = wayQ b lead ph h p := by
  have hne : [Line.lead lead ph] ≠ [] := by simp
  cases e : strQ b [.lead lead ph] h p with
  | none =>
    have k := (strQ_none hne).mp e
    rw [one_on] at k
    exact ((wayQ_none hb).mpr k).symm
  | some w =>
    have k := (strQ_some hne e).congr fun x => one_on
    cases e2 : wayQ b lead ph h p with
    | none => exact absurd (k.on p k.l k.r) ((wayQ_none hb).mp e2)
    | some v => rw [(wayQ_some hb e2).uniq k]
/-! ### all teeth -/
theorem comp_and {A B : Rat → Prop} {p : Rat} {v w : Rat × Rat} (a : IsComp A p v) (c : IsComp B p w) : IsComp (fun x => A x ∧ B x) p (upQ v.1 w.1, loQ v.2 w.2) := by
  have l1 := a.l
  have l2 := c.l
  have r1 := a.r
  have r2 := c.r
  unfold upQ loQ
  refine ⟨?_, ?_, fun x h1 h2 => ?_, fun y hy => ?_, fun y hy => ?_⟩
  · show (if v.1 ≤ w.1 then w.1 else v.1) ≤ p
    split <;> assumption
  · show p ≤ (if v.2 ≤ w.2 then v.2 else w.2)
    split <;> assumption
  · have h1 : (if v.1 ≤ w.1 then w.1 else v.1) ≤ x := h1
    have h2 : x ≤ (if v.2 ≤ w.2 then v.2 else w.2) := h2
    refine ⟨a.on x ?_ ?_, c.on x ?_ ?_⟩ <;> split at h1 <;> split at h2 <;> grind
  · have hy : y < (if v.1 ≤ w.1 then w.1 else v.1) := hy
    show ∃ x, y ≤ x ∧ x < (if v.1 ≤ w.1 then w.1 else v.1) ∧ _
    split at hy
    · rename_i q
      obtain ⟨x, x1, x2, x3⟩ := c.lm y hy
      exact ⟨x, x1, by rw [if_pos q]; exact x2, fun z => x3 z.2⟩
    · rename_i q
      obtain ⟨x, x1, x2, x3⟩ := a.lm y hy
      exact ⟨x, x1, by rw [if_neg q]; exact x2, fun z => x3 z.1⟩
  · have hy : (if v.2 ≤ w.2 then v.2 else w.2) < y := hy
    show ∃ x, (if v.2 ≤ w.2 then v.2 else w.2) < x ∧ x ≤ y ∧ _
    split at hy
    · rename_i q
      obtain ⟨x, x1, x2, x3⟩ := a.rm y hy
      exact ⟨x, by rw [if_pos q]; exact x1, x2, fun z => x3 z.1⟩
    · rename_i q
      obtain ⟨x, x1, x2, x3⟩ := c.rm y hy
      exact ⟨x, by rw [if_neg q]; exact x1, x2, fun z => x3 z.2⟩
inductive FA2 {α β : Type} (R : α → β → Prop) : List α → List β → Prop
  | nil : FA2 R [] []
  | cons {a : α} {b : β} {l : List α} {m : List β} (h : R a b) (r : FA2 R l m) : FA2 R (a :: l) (b :: m)
theorem comp_fold {b : Bar} {h : Int} {p : Rat} : ∀ (ls : List Line) (ws : List (Rat × Rat)) (A : Rat → Prop) (v : Rat × Rat), IsComp A p v → FA2 (fun l w => IsComp (OnL b l h) p w) ls ws → IsComp (fun x => A x ∧ AllOn b ls h x) p (ws.foldl (fun a q => (upQ a.1 q.1, loQ a.2 q.2)) v)
  | [], [], A, v, a, _ => a.congr fun x => ⟨fun z => ⟨z, fun _ h => nomatch h⟩, fun z => z.1⟩
  | l :: ls, w :: ws, A, v, a, .cons hw r => (comp_fold ls ws _ _ (comp_and a hw) r).congr fun x => ⟨fun ⟨⟨z1, z2⟩, z3⟩ => ⟨z1, fun l' hl => by
      rcases List.mem_cons.mp hl with rfl | hl
      · exact z2
      · exact z3 l' hl⟩, fun ⟨z1, z2⟩ => ⟨⟨z1, z2 l (by simp)⟩, fun l' hl => z2 l' (List.mem_cons_of_mem _ hl)⟩⟩
end SC
/-! What the program reckons is what the law reckons. -/
namespace SC
def lineQ (n : Nut) (m : Mo) (ph : Rat) : Line := .lead n.lead (phaseQ n.lead ph m)
def linesQ (n : Nut) (m : Mo) : List Line := n.phs.map (lineQ n m)
def offLQ (b : Bar) (n : Nut) (m : Mo) : List Nat := (List.range n.phs.length).filter fun k => !atQ b (lineQ n m (n.phs.getD k 0)) n.h m.1
theorem at_way {b : Bar} (hb : BOk b) (n : Nut) (m : Mo) (ph : Rat) : atQ b (lineQ n m ph) n.h m.1 = true ↔ wayQ b n.lead (phaseQ n.lead ph m) n.h m.1 ≠ none := by
  rw [Ne, wayQ_none hb, Classical.not_not]
  exact atQ_iff
theorem off_same {b : Bar} (hb : BOk b) (n : Nut) (m : Mo) : offLQ b n m = offQ (teethQ b n m) := by
  unfold offLQ offQ
  rw [ofs_len]
  refine List.filter_congr fun k hk => ?_
  have hk := List.mem_range.mp hk
  have e1 : n.phs.getD k 0 = n.phs[k] := by rw [List.getD_eq_getElem?_getD, List.getElem?_eq_getElem hk]; rfl
  have e2 : (teethQ b n m)[k]? = some (wayQ b n.lead (phaseQ n.lead n.phs[k] m) n.h m.1) := by
    unfold teethQ
    rw [List.getElem?_map, List.getElem?_eq_getElem hk]
    rfl
  rw [e1, e2, Bool.eq_iff_iff, Bool.not_eq_true', decide_eq_true_eq]
  have k1 := at_way hb n m n.phs[k]
  constructor
  · intro z
    refine congrArg some ?_
    cases q : wayQ b n.lead (phaseQ n.lead n.phs[k] m) n.h m.1 with
    | none => rfl
    | some w =>
      have := k1.mpr (by rw [q]; simp)
      rw [this] at z
      cases z
  · intro z
    have z := Option.some.inj z
    cases q : atQ b (lineQ n m n.phs[k]) n.h m.1 with
    | false => rfl
    | true => exact absurd z (k1.mp q)
theorem off_nil {rows : List (Option (Rat × Rat))} : offQ rows = [] ↔ rows.any (fun w => w.isNone) = false := by
  unfold offQ
  rw [List.filter_eq_nil_iff, List.any_eq_false]
  constructor
  · intro h w hw z
    obtain ⟨k, hk⟩ := List.mem_iff_getElem?.mp hw
    refine h k (List.mem_range.mpr (List.getElem?_eq_some_iff.mp hk).1) (decide_eq_true ?_)
    rw [hk]
    cases w with
    | none => rfl
    | some v => cases z
  · intro h k hk z
    have z := of_decide_eq_true z
    exact h none (List.mem_of_getElem? z) rfl
theorem on_off {b : Bar} (hb : BOk b) (n : Nut) (m : Mo) : onQ b n m = decide (offLQ b n m = []) := by
  rw [off_same hb, Bool.eq_iff_iff, decide_eq_true_eq, off_nil]
  unfold onQ
  rw [Bool.not_eq_true']
theorem ways_same {b : Bar} (hb : BOk b) (n : Nut) (m : Mo) : (linesQ n m).map (fun l => strQ b [l] n.h m.1) = teethQ b n m := by
  unfold linesQ teethQ
  rw [List.map_map]
  refine List.map_congr_left fun ph _ => ?_
  exact str_way hb _ _ _ _
theorem sure_off {b : Bar} (hb : BOk b) (n : Nut) (m : Mo) : (sureQ (teethQ b n m) = none ↔ offLQ b n m ≠ []) := by
  rw [off_same hb, Ne, off_nil]
  unfold sureQ
  cases (teethQ b n m).any fun w => w.isNone <;> simp
/-- where each tooth is on, the law's one stretch is what the teeth share -/
theorem shared_same {b : Bar} (hb : BOk b) (n : Nut) (m : Mo) {ws : List (Rat × Rat)} (hne : n.phs ≠ []) (e : sureQ (teethQ b n m) = some ws) : strQ b (linesQ n m) n.h m.1 = some (sharedQ ws) := by
  obtain ⟨h1, h2⟩ := sure_some e
  have both : ∀ phs : List Rat, (phs.map fun ph => wayQ b n.lead (phaseQ n.lead ph m) n.h m.1).any (fun w => w.isNone) = false → FA2 (fun l w => IsComp (OnL b l n.h) m.1 w) (phs.map (lineQ n m)) ((phs.map fun ph => wayQ b n.lead (phaseQ n.lead ph m) n.h m.1).filterMap id) := by
    intro phs
    induction phs with
    | nil => exact fun _ => .nil
    | cons ph phs ih =>
      intro h
      rw [List.map_cons, List.any_cons] at h
      obtain ⟨q1, q2⟩ := Bool.or_eq_false_iff.mp h
      cases q : wayQ b n.lead (phaseQ n.lead ph m) n.h m.1 with
      | none =>
        rw [q] at q1
        cases q1
      | some w =>
        rw [List.map_cons, List.map_cons, q, List.filterMap_cons]
        exact .cons (wayQ_some hb q) (ih q2)
  have fa := both n.phs h1
  change FA2 _ (linesQ n m) ((teethQ b n m).filterMap id) at fa
  rw [← h2] at fa
  have hl : linesQ n m ≠ [] := by
    unfold linesQ
    simpa using hne
  revert fa hl
  generalize linesQ n m = ls
  intro fa hl
  cases fa with
  | nil => exact absurd rfl hl
  | @cons l w ls ws hw r =>
    have k := comp_fold ls ws _ _ hw r
    have k2 := k.congr (On' := AllOn b (l :: ls) n.h) fun x => ⟨fun ⟨z1, z2⟩ l' hl => by
      rcases List.mem_cons.mp hl with rfl | hl
      · exact z1
      · exact z2 l' hl, fun z => ⟨z l (by simp), fun l' hl => z l' (List.mem_cons_of_mem _ hl)⟩⟩
    cases q : strQ b (l :: ls) n.h m.1 with
    | none => exact absurd (k2.on _ k2.l k2.r) ((strQ_none hl).mp q)
    | some v => rw [(strQ_some hl q).uniq k2]; rfl
/-! ### the ways on -/
def phsQ (b : Bar) (lead : Rat) : List Rat := canonQ ((b.gs.filter fun g => g.line.isL lead).map fun g => g.line.ph)
def turnQ (n : Nut) (place ph : Rat) : Rat := fracQ ((n.phs.headD 0 + place - ph) / n.lead)
def waysLQ (b : Bar) (n : Nut) (place : Rat) : List Rat := canonQ (((phsQ b n.lead).map (turnQ n place)).filter fun a => decide (offLQ b n (place, a) = []))
theorem turn_ang {n : Nut} (h : n.lead ≠ 0) (place ph : Rat) : turnQ n place ph = angQ n place ph := by
  unfold turnQ angQ
  congr 1
  grind
theorem floor_add_int (a : Rat) (k : Int) : (a + (k : Rat)).floor = a.floor + k := by
  have h1 : ((a + (k : Rat)).floor : Rat) ≤ a + k := Rat.floor_le _
  have h2 : a + k < (((a + (k : Rat)).floor + 1 : Int) : Rat) := Rat.lt_floor_add_one _
  have h3 : ((a.floor : Int) : Rat) ≤ a := Rat.floor_le _
  have h4 : a < ((a.floor + 1 : Int) : Rat) := Rat.lt_floor_add_one _
  have h5 : ((a + (k : Rat)).floor : Rat) < ((a.floor + k + 1 : Int) : Rat) := by grind
  have h6 : ((a.floor + k : Int) : Rat) < (((a + (k : Rat)).floor + 1 : Int) : Rat) := by grind
  have h7 := Rat.intCast_lt_intCast.mp h5
  have h8 := Rat.intCast_lt_intCast.mp h6
  omega
theorem round_self {ph lead : Rat} (h : lead ≠ 0) (h0 : 0 ≤ ph) (h1 : ph < absQ lead) (N : Int) : roundQ (ph + lead * (N : Rat)) lead = ph := by
  have hp := absQ_pos h
  unfold roundQ
  have f0 : (ph / absQ lead).floor = 0 := by
    have a1 : ((ph / absQ lead).floor : Rat) ≤ ph / absQ lead := Rat.floor_le _
    have a2 : ph / absQ lead < (((ph / absQ lead).floor + 1 : Int) : Rat) := Rat.lt_floor_add_one _
    have q1 : 0 ≤ ph / absQ lead := by
      rw [Rat.div_def]
      exact Rat.mul_nonneg h0 (Rat.le_of_lt (Rat.inv_pos.mpr hp))
    have q2 : ph / absQ lead < 1 := (Rat.div_lt_iff hp).mpr (by grind)
    have b1 : ((ph / absQ lead).floor : Rat) < ((1 : Int) : Rat) := by grind
    have b2 : ((0 : Int) : Rat) < (((ph / absQ lead).floor + 1 : Int) : Rat) := by grind
    have c1 := Rat.intCast_lt_intCast.mp b1
    have c2 := Rat.intCast_lt_intCast.mp b2
    omega
  by_cases hl : 0 ≤ lead
  · have e : absQ lead = lead := by unfold absQ; rw [if_pos hl]
    rw [e] at f0 ⊢
    have e2 : (ph + lead * (N : Rat)) / lead = ph / lead + (N : Rat) := by grind
    rw [e2, floor_add_int, f0]
    grind
  · have e : absQ lead = -lead := by unfold absQ; rw [if_neg hl]
    rw [e] at f0 ⊢
    have e2 : (ph + lead * (N : Rat)) / -lead = ph / -lead + ((-N : Int) : Rat) := by grind
    rw [e2, floor_add_int, f0]
    grind
/-- the turn for a phase brings the first tooth onto it -/
theorem turn_back {n : Nut} {p0 place ph : Rat} (h : n.lead ≠ 0) (eh : n.phs.headD 0 = p0) (h0 : 0 ≤ ph) (h1 : ph < absQ n.lead) : phaseQ n.lead p0 (place, angQ n place ph) = ph := by
  unfold phaseQ angQ fracQ
  rw [eh]
  have e : ∀ f : Rat, p0 + (place - n.lead * (-((ph - p0 + -place) / n.lead) - f)) = ph + n.lead * f := fun f => by grind
  have k := round_self h h0 h1 (-((ph - p0 + -place) / n.lead)).floor
  rw [← e] at k
  exact k
theorem ways_law {b : Bar} (hb : BOk b) {n : Nut} (hn : NOk n) (place : Rat) : waysOnQ b n place = waysLQ b n place := by
  unfold waysOnQ waysLQ
  refine canonQ_congr fun q => ?_
  rw [List.mem_filter, List.mem_filter]
  have eo : onQ b n (place, q) = decide (offLQ b n (place, q) = []) := on_off hb n (place, q)
  rw [← eo]
  constructor
  · rintro ⟨hq, on⟩
    obtain ⟨ph, hph, rfl⟩ := List.mem_map.mp hq
    refine ⟨List.mem_map.mpr ⟨ph, ?_, turn_ang hn.l0 place ph⟩, on⟩
    obtain ⟨g, hg, rfl⟩ := List.mem_map.mp (mem_canonQ.mp hph)
    obtain ⟨g1, g2⟩ := List.mem_filter.mp hg
    exact mem_canonQ.mpr (List.mem_map.mpr ⟨g, List.mem_filter.mpr ⟨g1, (Bool.and_eq_true_iff.mp g2).1⟩, rfl⟩)
  · rintro ⟨hq, on⟩
    obtain ⟨ph, hph, rfl⟩ := List.mem_map.mp hq
    obtain ⟨g, hg, rfl⟩ := List.mem_map.mp (mem_canonQ.mp hph)
    obtain ⟨g1, g2⟩ := List.mem_filter.mp hg
    rw [turn_ang hn.l0] at on ⊢
    refine ⟨List.mem_map.mpr ⟨g.line.ph, ?_, rfl⟩, on⟩
    obtain ⟨l, p, e⟩ := isL_lead g2
    have k := (hb.all g g1).line
    rw [e] at k g2 ⊢
    have el : l = n.lead := of_decide_eq_true g2
    subst el
    obtain ⟨_, _, _, k0, k1⟩ := k
    obtain ⟨p0, ps, ep⟩ : ∃ p0 ps, n.phs = p0 :: ps := by
      cases h : n.phs with
      | nil => exact absurd h hn.ne
      | cons p ps => exact ⟨p, ps, rfl⟩
    have tb := turn_back (p0 := p0) (place := place) hn.l0 (by rw [ep]; rfl) k0 k1
    have k2 : (teethQ b n (place, angQ n place p)).any (fun w => w.isNone) = false := by
      have on' : (!(teethQ b n (place, angQ n place g.line.ph)).any fun w => w.isNone) = true := on
      rw [e, Bool.not_eq_true'] at on'
      exact on'
    unfold teethQ at k2
    rw [ep, List.map_cons, List.any_cons] at k2
    have k3 := (Bool.or_eq_false_iff.mp k2).1
    rw [tb] at k3
    have k4 : OnL b (.lead n.lead p) n.h place := by
      refine Classical.byContradiction fun z => ?_
      rw [(wayQ_none hb).mpr z] at k3
      cases k3
    obtain ⟨g', hg', e', hd, _⟩ := k4
    refine mem_canonQ.mpr (List.mem_map.mpr ⟨g', List.mem_filter.mpr ⟨hg', ?_⟩, by rw [e']⟩)
    rw [e']
    show (decide (n.lead = n.lead) && decide (n.h ≤ g'.dep)) = true
    rw [decide_eq_true rfl, decide_eq_true hd]
    rfl
end SC
/-! Lists that stand and are known to; more statements. -/
namespace SC
open PySem PySem.Spec PyProof.Rows L2
section
variable {C : Cn} {ρ ρ1 : Rho} {ta tb tc te : TE} {d e f : PyData} {P P' : PyData → Rho → Prop} {t u : TT} {as bs : TA} {E : XK} {ts us : TS} {Z Z' : Post} {ds es : List PyData}
theorem LX.mono {P P' : List PyData → Rho → Prop} (h : LX C te ρ P) (k : ∀ d ρ', P d ρ' → P' d ρ') : LX C te ρ P' := fun B G H σ o Q q => h B G H σ o Q fun a vs ds ρ' G' H' p => q a vs ds ρ' G' H' (k ds ρ' p)
theorem LX.of {P : List PyData → Rho → Prop} (h : LE C te ρ ds) (p : P ds ρ) : LX C te ρ P := h.mono fun _ _ ⟨e1, e2⟩ => by
  subst e1 e2
  exact p
theorem LE.cast (h : LE C te ρ ds) (e : ds = es) : LE C te ρ es := e ▸ h
theorem lx_var {i : Nat} (h : ρ[i]? = some (.std ds)) : LE C (tVar i) ρ ds := fun B G H σ o Q q => by
  obtain ⟨a, vs, e, e1, e2⟩ := o.sl i _ h
  exact ⟨.ref a, e, q a vs ds ρ G H ⟨rfl, rfl⟩ o Sx.refl e1 e2⟩
theorem lx_lst (h : DA C as ρ ds) (hl : ds.length ≤ 100000 := by exact Nat.le_of_ble_eq_true rfl) : LE C (tLst as) ρ ds := fun B G H σ o Q q => by
  refine h B G H σ o _ fun xs ds' ρ1 G1 H1 p1 o1 s1 dx => ⟨?_, fun p hp => ?_⟩
  · obtain ⟨rfl, rfl⟩ := p1
    rw [dpa_len dx]
    exact sz1000 hl
  · obtain ⟨rfl, rfl⟩ := p1
    obtain ⟨o2, s2⟩ := o1.newx (o := .lst xs) hp
    exact q _ _ _ _ _ _ ⟨rfl, rfl⟩ o2 (s1.trans s2) upd_same (dpall_up s2.g dx)
theorem lx_if {b : Bool} (h : DT C t ρ b) (h1 : b = true → LE C ta ρ ds) (h2 : b = false → LE C tb ρ ds) : LE C (tIf t ta tb) ρ ds := fun B G H σ o Q q => h B G H σ o _ fun b' ρ1 G1 H1 p o1 s1 => by
  obtain ⟨rfl, rfl⟩ := p
  cases b' with
  | true => exact h1 rfl B G1 H1 σ o1 Q fun a vs ds' ρ2 G2 H2 p2 o2 s2 => q a vs ds' ρ2 G2 H2 p2 o2 (s1.trans s2)
  | false => exact h2 rfl B G1 H1 σ o1 Q fun a vs ds' ρ2 G2 H2 p2 o2 s2 => q a vs ds' ρ2 G2 H2 p2 o2 (s1.trans s2)
theorem lx_cat (h : LE C ta ρ ds) (h2 : LE C tb ρ es) (hl : ds.length + es.length ≤ 100000) : LE C (tOp rCat ta tb) ρ (ds ++ es) := fun B G H σ o Q q => by
  refine h B G H σ o _ fun a vs ds' ρ1 G1 H1 p1 o1 s1 e1 dx => ?_
  obtain ⟨rfl, rfl⟩ := p1
  refine h2 B G1 H1 σ o1 _ fun c ws es' ρ2 G2 H2 p2 o2 s2 e2 dy => ?_
  obtain ⟨rfl, rfl⟩ := p2
  refine ⟨a, c, vs, ws, rfl, rfl, o2.gh _ _ (s2.g _ _ e1), o2.gh _ _ e2, ?_, fun p hp => ?_⟩
  · rw [dpa_len dx, dpa_len dy]
    exact sz1000 hl
  · obtain ⟨o3, s3⟩ := o2.newx (o := .lst (vs ++ ws)) hp
    exact q _ _ _ _ _ _ ⟨rfl, rfl⟩ o3 ((s1.trans s2).trans s3) upd_same (dpa_app (dpall_up (s2.g.trans s3.g) dx) (dpall_up s3.g dy))
/-- [x, ..] * k -/
theorem de_rep {k : Int} (h : DA C as ρ ds) (hk : 0 ≤ k) (hk2 : k ≤ 1000) (hl : ds.length ≤ 100) : DE C (tOp rRep (tLst as) (tC (.int k))) ρ (.list (List.replicate k.toNat ds).flatten) := fun B G H σ o Q q => by
  refine h B G H σ o _ fun xs ds' ρ1 G1 H1 p1 o1 s1 dx => ⟨?_, fun p hp => ?_⟩
  · obtain ⟨rfl, rfl⟩ := p1
    rw [dpa_len dx]
    exact sz1000 (by omega)
  · obtain ⟨rfl, rfl⟩ := p1
    obtain ⟨o2, s2⟩ := o1.newx (o := .lst xs) hp
    have hx := dpa_len dx
    refine ⟨p, k, xs, rfl, rfl, upd_same, by omega, by omega, ?_, fun r hr => ?_⟩
    · refine sz1000 ?_
      have h1 : xs.length ≤ 100 := by omega
      have h2 : k.toNat ≤ 1000 := by omega
      exact Nat.mul_le_mul h1 h2
    · have flat : ∀ n : Nat, DpAll C.K G1 (List.replicate n xs).flatten (List.replicate n ds').flatten := fun n => by
        induction n with
        | zero => exact .nil
        | succ n ih =>
          rw [List.replicate_succ, List.replicate_succ, List.flatten_cons, List.flatten_cons]
          exact dpa_app dx ih
      obtain ⟨o3, s3⟩ := o2.newx (o := .lst (List.replicate k.toNat xs).flatten) hr
      exact q _ _ _ _ _ ⟨rfl, rfl⟩ o3 ((s1.trans s2).trans s3) (.lst (.inl (.inl upd_same)) (dpall_up (s2.g.trans s3.g) (flat k.toNat)))
theorem ds_asgStd {i : Nat} (h : LE C te ρ ds) (k : Z.nx (ρ.set i (.std ds))) : DS C (tAsg te (gName i)) ρ Z := fun B G H σ D o k1 k2 k3 k4 => h B G H σ o _ fun a vs ds' ρ' G' H' p o' s e1 e2 => by
  obtain ⟨rfl, rfl⟩ := p
  exact k1 _ G' H' _ k (o'.set i _ (.std ds') (fun _ z => nomatch z) (fun _ z => nomatch z) ⟨a, vs, rfl, e1, e2⟩) s.g
theorem de_std {i : Nat} (h : ρ[i]? = some (.std ds)) : DE C (tVar i) ρ (.list ds) := (lx_var h).de
theorem ds_freezeS {i : Nat} {ds : List PyData} (e : ρ[i]? = some (.own ds)) (h : DS C ts (ρ.set i (.std ds)) Z) : DS C ts ρ Z := fun B G H σ D o k1 k2 k3 k4 => by
  obtain ⟨a, vs, ea, _, _, e3, e4⟩ := o.sl i _ e
  obtain ⟨o1, s⟩ := o.freezeS e ea e3 e4
  exact h B _ H σ D o1 (fun ρ2 G2 H2 σ2 p2 o2 s2 => k1 ρ2 G2 H2 σ2 p2 o2 (s.trans s2)) (fun v d ρ2 G2 H2 σ2 p2 o2 s2 => k2 v d ρ2 G2 H2 σ2 p2 o2 (s.trans s2))
    (fun ρ2 G2 H2 σ2 p2 o2 s2 => k3 ρ2 G2 H2 σ2 p2 o2 (s.trans s2)) (fun ρ2 G2 H2 σ2 p2 o2 s2 => k4 ρ2 G2 H2 σ2 p2 o2 (s.trans s2))
/-- x, xs, y = .., [..], True -/
theorem ds_par3Own {i j l : Nat} {b : Bool} (h : DE C ta ρ d) (h2 : DA C as ρ es) (hl : es.length ≤ 100000) (k : Z.nx (((ρ.set i (.dat d)).set j (.own es)).set l (.dat (.bool b)))) : DS C (tPar3 i j l (tCons ta (tCons (tLst as) (tCons (tC (.bl b)) tNil)))) ρ Z := fun B G H σ D o k1 k2 k3 k4 => by
  refine h B G H σ o _ fun x d' ρ1 G1 H1 p1 o1 s1 dx => ?_
  obtain ⟨rfl, rfl⟩ := p1
  refine h2 B G1 H1 σ o1 _ fun ys es' ρ2 G2 H2 p2 o2 s2 dy => ⟨?_, fun q hq => ?_⟩
  · obtain ⟨rfl, rfl⟩ := p2
    rw [dpa_len dy]
    exact sz1000 hl
  · obtain ⟨rfl, rfl⟩ := p2
    exact ⟨x, .ref q, .bl b, rfl, k1 _ G2 _ _ k (((o2.setd i (dp_up s2.g dx)).setown j hq dy).setd l (.bl b)) (s1.g.trans s2.g)⟩
end
end SC
namespace SC
open PySem PySem.Spec PyProof.Rows L2

theorem shp_line : ∀ l : Line, Shp 3 (dLine l)
  | .ring p => ⟨by simp [dLine, dQ, PyData.canLay0, PyData.canLayAll0, strOk_ring], by simp [dLine, dQ, PyData.depth, PyData.depthAll]⟩
  | .flute p => ⟨by simp [dLine, dQ, PyData.canLay0, PyData.canLayAll0, strOk_flute], by simp [dLine, dQ, PyData.depth, PyData.depthAll]⟩
  | .lead l p => ⟨by simp [dLine, dQ, PyData.canLay0, PyData.canLayAll0, strOk_lead], by simp [dLine, dQ, PyData.depth, PyData.depthAll]⟩
def ddQ (ps : List Rat) : List Rat := ps.foldl (fun f q => if q ∈ f then f else f ++ [q]) []
theorem dd_ok (ps : List Rat) : ∀ (f : List Rat), f.Nodup → (ps.foldl (fun f q => if q ∈ f then f else f ++ [q]) f).Nodup ∧ (∀ q, q ∈ ps.foldl (fun f q => if q ∈ f then f else f ++ [q]) f ↔ q ∈ f ∨ q ∈ ps) ∧ (ps.foldl (fun f q => if q ∈ f then f else f ++ [q]) f).length ≤ f.length + ps.length := by
  induction ps with
  | nil => exact fun f h => ⟨h, fun q => by simp, by simp⟩
  | cons p ps ih =>
    intro f h
    rw [List.foldl_cons]
    by_cases q : p ∈ f
    · rw [if_pos q]
      obtain ⟨h1, h2, h3⟩ := ih f h
      refine ⟨h1, fun r => (h2 r).trans ?_, by simp only [List.length_cons]; omega⟩
      constructor
      · rintro (z | z)
        · exact .inl z
        · exact .inr (List.mem_cons_of_mem _ z)
      · rintro (z | z)
        · exact .inl z
        · rcases List.mem_cons.mp z with rfl | z
          · exact .inl q
          · exact .inr z
    · rw [if_neg q]
      obtain ⟨h1, h2, h3⟩ := ih (f ++ [p]) (List.nodup_append.mpr ⟨h, by simp, fun a ha b hb => by
        rw [List.mem_singleton.mp hb]
        exact fun e => q (e ▸ ha)⟩)
      refine ⟨h1, fun r => (h2 r).trans ?_, ?_⟩
      · rw [List.mem_append, List.mem_singleton, List.mem_cons]
        constructor
        · rintro ((z | z) | z)
          · exact .inl z
          · exact .inr (.inl z)
          · exact .inr (.inr z)
        · rintro (z | z | z)
          · exact .inl (.inl z)
          · exact .inl (.inr z)
          · exact .inr z
      · rw [List.length_append] at h3
        simp only [List.length_cons, List.length_nil] at h3 ⊢
        omega
theorem any_dQ (f : List Rat) (q : Rat) : ((f.map dQ).any fun z => PyData.eqv z (dQ q)) = decide (q ∈ f) := by
  rw [List.any_map, Bool.eq_iff_iff, List.any_eq_true, decide_eq_true_eq]
  constructor
  · rintro ⟨r, hr, h⟩
    have h : PyData.eqv (dQ r) (dQ q) = true := h
    rw [eqv_dQ] at h
    rw [← of_decide_eq_true h]
    exact hr
  · intro h
    refine ⟨q, h, ?_⟩
    show PyData.eqv (dQ q) (dQ q) = true
    rw [eqv_dQ]
    exact decide_eq_true rfl
theorem shp_nums (f : List Rat) : SeqAt.shaped (.list (f.map dQ)) = true := (shp_lst (n := 2) fun d hd => by
  obtain ⟨q, _, rfl⟩ := List.mem_map.mp hd
  exact shp_dQ' q).ok (by decide)
theorem at_pred {α : Type} {l : List α} {p : Nat} {x : α} (h : l[p]? = some x) : atI l (((p + 1 : Nat) : Int) - 1) = some x := by
  rw [show ((p + 1 : Nat) : Int) - 1 = (p : Int) by omega]
  exact atI_nat h
theorem set_mid {α : Type} {A B : List α} {x y : α} {m : Nat} (h : A.length = m) : (A ++ x :: B).set m y = A ++ y :: B := by
  subst h
  rw [List.set_append_right _ _ (Nat.le_refl _), Nat.sub_self, List.set_cons_zero]
theorem ixN_nat {n p : Nat} (h : p < n) : ixN n (p : Int) = some p := by
  unfold ixN
  rw [if_pos (by omega)]
  simp
  omega
/-! _law_by_value -/
abbrev s_law_by_value : Stmt := topS 59
abbrev n_law_by_value : List Str := ["_law_parts_so", "_law_found", "_law_own", "_law_k", "_law_place_so"]
theorem sc_law_by_value : FnScope n_law_by_value ["_law_parts_so"] (defScope s_law_by_value) := ⟨rfl, rfl, rfl, by decide +kernel, rfl, by decide +kernel, by decide +kernel⟩
def Pre_law_by_value (ds : List PyData) (d : PyData) : Prop := ∃ ps : List Rat, ds = [.list (ps.map dQ)] ∧ ps.length ≤ 100 ∧ (∀ q ∈ ps, Sz 100 q) ∧ d = .list ((byQ ps).map dQ)
theorem ok_law_by_value {M : Md} (bi : Bi M.mg) (F : DefAt M "_law_by_value" s_law_by_value) (F_law_under : OkF M "_law_under" ["_law_one_so", "_law_other_so"] 1 (spP M.K Pre_law_under)) : OkF M "_law_by_value" ["_law_parts_so"] 2 (spP M.K Pre_law_by_value) := by
  refine okf_pure F sc_law_by_value (fun _ _ _ _ _ _ us hl => match us, hl with | [_], _ => rfl) (fun ds d h => by obtain ⟨ps, rfl, hl, hz, rfl⟩ := h; rfl) fun f cdv A outer s H E hr =>
    ⟨_, (pss_cons (ps_set (i := 1) sc_law_by_value.nd rfl (.inl rfl) (pe_lst pa_nil))
      (pss_cons (ps_for PassesOwn.never rfl (piL M.K (pv 0)) (pg_name (i := 2) sc_law_by_value.nd rfl (.inl rfl)) (pss_one (ps_if (pt_cmpR (knotInD M.K hr) (pv 2) (pv 1) (by with_unfolding_all rfl)) (pss_one (ps_expr (kapp M.K (pv 1) (pv 2)))) pss_nil)))
      (pss_cons (ps_for PassesOwn.never rfl (pi_range2 rfl bi.range (pa_cons pe_int (pa_cons (pe_callB (klen M.K) (by rfl) bi.len PySem.boot_len (pa_cons (pv 1) pa_nil)) pa_nil))) (pg_name (i := 3) sc_law_by_value.nd rfl (.inl rfl)) (pss_cons (ps_par (i := 4) (j := 2) (by rfl) sc_law_by_value.nd rfl rfl (by decide) rfl rfl (pa_cons (pv 3) (pa_cons (pe_ix (kixL M.K) (pv 1) (pv 3) (fun _ _ => rfl)) pa_nil)) (by rfl))
      (pss_cons (ps_while PassesOwn.never (PW.pt (pw_and (pt_cmpR op_gt (pv 4) pe_int (nomark _)) (pw_and1 (pt_val (pe_fn F_law_under (hr.mono (by decide)) (pa_cons (pv 2) (pa_cons (pe_ix (kixL M.K) (pv 1) (pe_op op_sub (pv 4) pe_int) (fun _ _ => rfl)) pa_nil))))))) (pss_cons (ps_asg (pe_ix (kixL M.K) (pv 1) (pe_op op_sub (pv 4) pe_int) (fun _ _ => rfl)) (pg_sub (pv 1) (pv 4) set_list))
      (pss_one (ps_set (i := 4) sc_law_by_value.nd rfl (.inl rfl) (pe_op op_sub (pv 4) pe_int)))))
      (pss_one (ps_asg (pv 2) (pg_sub (pv 1) (pv 4) set_list))))))
      (pss_one (ps_ret (pv 1)))))), fun ds d h => ?_⟩
  obtain ⟨ps, rfl, hl, hz, rfl⟩ := h
  refine ds_seq (ds_asgOwnD da_nil (Nat.zero_le _) ?_)
  refine ds_seq (ds_forD (js := [2]) (fun i ρ' => ∃ s2, ρ' = [.dat (.list (ps.map dQ)), .own ((ddQ (ps.take i)).map dQ), s2, .un, .un]) (dw_list (de_var rfl)) ⟨.un, rfl⟩ (fun i y ρ' ey iv => ?_) fun ρ' iv => ?_)
  · obtain ⟨s2, rfl⟩ := iv
    rw [List.getElem?_map] at ey
    obtain ⟨q, eq, rfl⟩ := Option.map_eq_some_iff.mp ey
    have et : ddQ (ps.take (i + 1)) = if q ∈ ddQ (ps.take i) then ddQ (ps.take i) else ddQ (ps.take i) ++ [q] := by
      unfold ddQ
      rw [take_snoc eq, List.foldl_append]
      rfl
    have hlen : (ddQ (ps.take i)).length ≤ 100 := by
      have := (dd_ok (ps.take i) [] .nil).2.2
      have h2 := List.length_take_le i ps
      have h3 : (ps.take i).length ≤ ps.length := by rw [List.length_take]; omega
      unfold ddQ
      simp only [List.length_nil, Nat.zero_add] at this
      omega
    refine ⟨[dQ q], gt_name, ?_⟩
    generalize ddQ (ps.take i) = f at *
    refine ds_ifD (b := !decide (q ∈ f)) ((dt_test (de_look (i := 1) (ds := f.map dQ) rfl (de_op (de_var (d := dQ q) rfl) (de_var (d := .list (f.map dQ)) rfl) (rd_notInD (shp_dQ q) (shp_nums f))))).cast (by rw [any_dQ])) (fun h => ?_) fun h => ?_
    · rw [Bool.not_eq_true', decide_eq_false_iff_not] at h
      refine ds_appendD (i := 1) rfl (de_var (d := dQ q) rfl) (by rw [List.length_map]; omega) ⟨.dat (dQ q), ?_⟩
      rw [et, if_neg h, List.map_append]
      rfl
    · rw [Bool.not_eq_false', decide_eq_true_eq] at h
      refine ds_next ⟨.dat (dQ q), ?_⟩
      rw [et, if_pos h]
      rfl
  · obtain ⟨s2, rfl⟩ := iv
    rw [List.length_map, List.take_length]
    obtain ⟨nd, mm, ll⟩ := dd_ok ps [] .nil
    change (ddQ ps).Nodup at nd
    change ∀ q, q ∈ ddQ ps ↔ _ at mm
    change (ddQ ps).length ≤ _ at ll
    simp only [List.length_nil, Nat.zero_add] at ll
    have zf : ∀ q ∈ ddQ ps, Sz 100 q := fun q hq => by
      rcases (mm q).mp hq with h | h
      · cases h
      · exact hz q h
    have mm' : ∀ q, q ∈ ddQ ps ↔ q ∈ ps := fun q => (mm q).trans ⟨fun h => h.elim (fun h => nomatch h) id, .inr⟩
    clear mm
    generalize ddQ ps = F at *
    have hn : (((F.length : Nat) : Int) - 1).toNat = F.length - 1 := by omega
    refine ds_seq (ds_forD (js := [3]) (fun i ρ' => ∃ (S R : List Rat) (s2 s3 s4 : Sl), (S ++ R).Perm F ∧ S.Pairwise (fun a b => a < b) ∧ S.length = min (i + 1) F.length ∧ ρ' = [.dat (.list (ps.map dQ)), .own ((S ++ R).map dQ), s2, s3, s4])
      (dw_rng2 (lo := 1) (hi := ((F.length : Nat) : Int)) (da_cons de_int (da_cons (de_look (i := 1) (ds := F.map dQ) rfl ((de_cb (da_cons (de_var rfl) da_nil) rc_lenL).cast (by rw [List.length_map]))) da_nil)) (by omega)) ?_ (fun i y ρ' ey iv => ?_) fun ρ' iv => ?_)
    · cases F with
      | nil => exact ⟨[], [], s2, .un, .un, .refl _, .nil, rfl, rfl⟩
      | cons a F => exact ⟨[a], F, s2, .un, .un, .refl _, List.pairwise_singleton _ _, by simp, rfl⟩
    · obtain ⟨S, R, s2, s3, s4, pm, sw, sl, rfl⟩ := iv
      obtain ⟨hi, rfl⟩ := rngD_get ey
      have pl := pm.length_eq
      rw [List.length_append] at pl
      have hS : S.length = i + 1 := by omega
      cases R with
      | nil =>
        simp only [List.length_nil] at pl
        omega
      | cons own R =>
      have ek : (1 : Int) + (i : Int) = ((S.length : Nat) : Int) := by omega
      rw [ek]
      have hown : own ∉ S := fun hm => by
        have nd2 : (S ++ own :: R).Nodup := pm.nodup_iff.mpr nd
        exact (List.nodup_append.mp nd2).2.2 own hm own (by simp) rfl
      have zown : Sz 100 own := zf own (pm.mem_iff.mp (by simp))
      have zS : ∀ q ∈ S, Sz 100 q := fun q hq => zf q (pm.mem_iff.mp (List.mem_append_left _ hq))
      have hix : ∀ (A B : List Rat) (x : Rat), (A ++ x :: B)[A.length]? = some x := fun A B x => by simp
      refine ⟨[.int ((S.length : Nat) : Int)], gt_name, ?_⟩
      refine ds_seq (ds_parD (d := .int ((S.length : Nat) : Int)) (e := dQ own) (da_cons (de_var rfl) (da_cons (de_ixOwn (i := 1) (ds := (S ++ own :: R).map dQ) rfl (de_var (d := .int ((S.length : Nat) : Int)) rfl) (atI_nat (by rw [List.getElem?_map, hix]; rfl))) da_nil)) ?_)
      -- the hole walks down
      refine ds_seq (ds_while (fun m ρ' => m ≤ S.length ∧ ∃ x, (∀ y ∈ S.drop m, own < y) ∧ ρ' = [.dat (.list (ps.map dQ)), .own ((S.take m ++ x :: (S.drop m ++ R)).map dQ), .dat (dQ own), .dat (.int ((S.length : Nat) : Int)), .dat (.int (m : Int))]) S.length ⟨Nat.le_refl _, own, ?_, ?_⟩ fun m ρ' iv => ?_)
      · rw [List.drop_length]
        exact fun _ h => nomatch h
      · rw [List.drop_length, List.take_length]
        rfl
      · obtain ⟨hm, x, hbig, rfl⟩ := iv
        have done : ((m = 0) ∨ ∃ p y, m = p + 1 ∧ S[p]? = some y ∧ ¬ own < y) → ∀ Z : Post, (∀ ρ', (∃ (S' R' : List Rat) (s2 s3 s4 : Sl), (S' ++ R').Perm F ∧ S'.Pairwise (fun a b => a < b) ∧ S'.length = min (i + 1 + 1) F.length ∧ ρ' = [.dat (.list (ps.map dQ)), .own ((S' ++ R').map dQ), s2, s3, s4]) → Z.nx ρ') → DS ⟨M.K, []⟩ (tAsg (tVar 2) (gSub (tVar 1) (tVar 4) rSetL)) [.dat (.list (ps.map dQ)), .own ((S.take m ++ x :: (S.drop m ++ R)).map dQ), .dat (dQ own), .dat (.int ((S.length : Nat) : Int)), .dat (.int (m : Int))] Z := fun stop Z hZ => by
          have tl : (S.take m).length = m := by rw [List.length_take]; omega
          refine ds_setitem (i := 1) (k := (m : Int)) (j := m) (d := dQ own) rfl (de_var rfl) (de_var rfl) (ixN_nat (by rw [List.length_map, List.length_append, tl]; simp only [List.length_cons]; omega)) (hZ _ ⟨S.take m ++ own :: S.drop m, R, .dat (dQ own), .dat (.int ((S.length : Nat) : Int)), .dat (.int (m : Int)), ?_, ?_, ?_, ?_⟩)
          · refine List.Perm.trans ?_ pm
            rw [List.append_assoc, List.cons_append]
            conv => rhs; rw [← List.take_append_drop m S, List.append_assoc]
            refine List.Perm.append_left _ ?_
            exact List.perm_middle.symm
          · have sp : (S.take m ++ S.drop m).Pairwise (fun a b => a < b) := by rw [List.take_append_drop]; exact sw
            obtain ⟨p1, p2, p3⟩ := List.pairwise_append.mp sp
            refine List.pairwise_append.mpr ⟨p1, List.pairwise_cons.mpr ⟨hbig, p2⟩, fun a ha c hc => ?_⟩
            rcases List.mem_cons.mp hc with rfl | hc
            · rcases stop with z | ⟨p, y, rfl, hy, hno⟩
              · subst z
                simp at ha
              · have hy' : y ∈ S := List.mem_of_getElem? hy
                have hle : a ≤ y := by
                  obtain ⟨j, hj⟩ := List.mem_iff_getElem?.mp ha
                  have hjl : j < p + 1 := by
                    have := (List.getElem?_eq_some_iff.mp hj).1
                    omega
                  rw [List.getElem?_take_of_lt hjl] at hj
                  obtain ⟨j1, rfl⟩ := List.getElem?_eq_some_iff.mp hj
                  obtain ⟨p1', rfl⟩ := List.getElem?_eq_some_iff.mp hy
                  rcases Nat.lt_or_ge j p with h | h
                  · exact Rat.le_of_lt (List.pairwise_iff_getElem.mp sw j p j1 p1' h)
                  · have e : j = p := by omega
                    subst e
                    exact Rat.le_refl
                have hne : y ≠ c := fun e => hown (e ▸ hy')
                grind
            · exact p3 a ha c hc
          · rw [List.length_append, tl]
            simp only [List.length_cons, List.length_drop]
            simp only [List.length_cons] at pl
            omega
          · have e : ((S.take m ++ x :: (S.drop m ++ R)).map dQ).set m (dQ own) = ((S.take m ++ own :: S.drop m) ++ R).map dQ := by
              rw [← List.map_set]
              congr 1
              rw [List.append_assoc, List.cons_append]
              exact set_mid tl
            show _ = ([.dat (.list (ps.map dQ)), .own (((S.take m ++ own :: S.drop m) ++ R).map dQ), .dat (dQ own), .dat (.int ((S.length : Nat) : Int)), .dat (.int (m : Int))] : Rho)
            rw [← e]
            rfl
        cases m with
        | zero =>
          refine (dt_and (b := false) (dt_test (de_op (de_var rfl) de_int rd_B0)) (fun z => ?_)).of ⟨fun z => ?_, fun _ => done (.inl rfl) _ fun _ h => h⟩
          · exact absurd (of_decide_eq_true z) (by decide)
          · rw [Bool.and_false] at z
            cases z
        | succ p =>
          obtain ⟨y, hy⟩ : ∃ y, S[p]? = some y := getlt (by omega)
          have hy' : y ∈ S := List.mem_of_getElem? hy
          have zy := zS y hy'
          have tl : (S.take (p + 1)).length = p + 1 := by rw [List.length_take]; omega
          have hat : (S.take (p + 1) ++ x :: (S.drop (p + 1) ++ R))[p]? = some y := by
            rw [List.getElem?_append_left (by omega), List.getElem?_take_of_lt (Nat.lt_succ_self p)]
            exact hy
          have hatD : atI ((S.take (p + 1) ++ x :: (S.drop (p + 1) ++ R)).map dQ) (((p + 1 : Nat) : Int) - 1) = some (dQ y) := at_pred (by rw [List.getElem?_map, hat]; rfl)
          have kix : ∀ r : Rho, r[1]? = some (.own ((S.take (p + 1) ++ x :: (S.drop (p + 1) ++ R)).map dQ)) → r[4]? = some (.dat (.int ((p + 1 : Nat) : Int))) → DE ⟨M.K, []⟩ (tOp (rIxL M.K) (tVar 1) (tOp (rI0 fun i j => .int (i - j)) (tVar 4) (tC (.int 1)))) r (dQ y) := fun r h1 h2 => de_ixOwn h1 (de_op (de_var h2) de_int rd_I0) hatD
          have e1 : decide ((0 : Int) < ((p + 1 : Nat) : Int)) = true := decide_eq_true (by omega)
          refine (dt_and (dt_test (de_op (de_var rfl) de_int rd_B0)) (fun _ => dt_B (de_call (da_cons (de_var (d := dQ own) rfl) (da_cons (kix _ rfl rfl) da_nil)) ⟨own, y, rfl, zown.mono (by decide), zy.mono (by decide), rfl⟩))).of ⟨fun z => ?_, fun z => ?_⟩
          · rw [e1, Bool.true_and] at z
            have z := of_decide_eq_true z
            refine ds_seq (ds_setitem (i := 1) (k := ((p + 1 : Nat) : Int)) (j := p + 1) (d := dQ y) rfl (kix _ rfl rfl) (de_var rfl) (ixN_nat (by rw [List.length_map, List.length_append, tl]; simp only [List.length_cons]; omega)) ?_)
            refine ds_asgD (d := .int ((p : Nat) : Int)) ((de_op (de_var rfl) de_int rd_I0).cast (congrArg PyData.int (by omega))) ⟨p, Nat.lt_succ_self p, by omega, y, ?_, ?_⟩
            · rw [List.drop_eq_getElem_cons (by omega)]
              intro q hq
              rcases List.mem_cons.mp hq with rfl | hq
              · rw [(List.getElem?_eq_some_iff.mp hy).2]
                exact z
              · exact hbig q hq
            · have e : ((S.take (p + 1) ++ x :: (S.drop (p + 1) ++ R)).map dQ).set (p + 1) (dQ y) = (S.take p ++ y :: (S.drop p ++ R)).map dQ := by
                rw [← List.map_set]
                congr 1
                rw [set_mid tl, take_snoc hy]
                have e3 : S.drop p = y :: S.drop (p + 1) := by
                  rw [List.drop_eq_getElem_cons (by omega), (List.getElem?_eq_some_iff.mp hy).2]
                rw [e3]
                simp
              show _ = ([.dat (.list (ps.map dQ)), .own ((S.take p ++ y :: (S.drop p ++ R)).map dQ), .dat (dQ own), .dat (.int ((S.length : Nat) : Int)), .dat (.int (p : Int))] : Rho)
              rw [← e]
              rfl
          · rw [e1, Bool.true_and] at z
            exact done (.inr ⟨p, y, rfl, hy, of_decide_eq_false z⟩) _ fun _ h => h
    · obtain ⟨S, R, s2, s3, s4, pm, sw, sl, rfl⟩ := iv
      rw [rngD_len, hn] at sl
      have pl := pm.length_eq
      rw [List.length_append] at pl
      have hR : R = [] := List.length_eq_zero_iff.mp (by omega)
      subst hR
      rw [List.append_nil] at pm ⊢
      refine ds_freeze (i := 1) rfl (ds_retD (de_var rfl) ?_)
      rw [byQ_the sw fun q => pm.mem_iff.trans (mm' q)]
/-! _law_at -/
abbrev s_law_at : Stmt := topS 68
abbrev n_law_at : List Str := ["_law_bar_so", "_law_line_so", "_law_height_so", "_law_place_so", "_law_its_so", "_law_start_so", "_law_end_so", "_law_depth_so"]
theorem sc_law_at : FnScope n_law_at ["_law_bar_so", "_law_line_so", "_law_height_so", "_law_place_so"] (defScope s_law_at) := ⟨rfl, rfl, rfl, by decide +kernel, rfl, by decide +kernel, by decide +kernel⟩
abbrev atG (l : Line) (h : Int) (x : Rat) (g : Groove) : Bool := decide (g.line = l) && (decide (h ≤ g.dep) && (!decide (x < g.s) && !decide (g.e < x)))
def Pre_law_at (ds : List PyData) (d : PyData) : Prop := ∃ b l h x, ds = [dBar b, dLine l, .int h, dQ x] ∧ BOk b ∧ Sz 100 x ∧ d = .bool (atQ b l h x)
theorem ok_law_at {M : Md} (bi : Bi M.mg) (F : DefAt M "_law_at" s_law_at) (F_law_under : OkF M "_law_under" ["_law_one_so", "_law_other_so"] 1 (spP M.K Pre_law_under)) : OkF M "_law_at" ["_law_bar_so", "_law_line_so", "_law_height_so", "_law_place_so"] 2 (spP M.K Pre_law_at) := by
  refine okf_pure F sc_law_at (fun _ _ _ _ _ _ us hl => match us, hl with | [_, _, _, _], _ => rfl) (fun ds d h => by obtain ⟨b, l, h, x, rfl, hb, hx, rfl⟩ := h; rfl) fun f cdv A outer s H E hr =>
    ⟨_, (pss_cons (ps_for PassesOwn.never rfl (piT M.K (pe_ix (kixT M.K) (pv 0) pe_int (fun _ _ => rfl))) (pgT M.K 4 (pgs_cons (pg_name (i := 4) sc_law_at.nd rfl (.inl rfl)) (pgs_cons (pg_name (i := 5) sc_law_at.nd rfl (.inl rfl)) (pgs_cons (pg_name (i := 6) sc_law_at.nd rfl (.inl rfl)) (pgs_cons (pg_name (i := 7) sc_law_at.nd rfl (.inl rfl)) pgs_nil))))) (pss_one (ps_if (PW.pt (pw_and (pt_cmpR (keqD M.K hr) (pv 4) (pv 1) (nomark _)) (pw_and (pt_cmpR op_ge (pv 7) (pv 2) (nomark _)) (pw_and (pt_not (pt_val (pe_fn F_law_under (hr.mono (by decide)) (pa_cons (pv 3) (pa_cons (pv 5) pa_nil))))) (pw_and1 (pt_not (pt_val (pe_fn F_law_under (hr.mono (by decide)) (pa_cons (pv 6) (pa_cons (pv 3) pa_nil)))))))))) (pss_one (ps_ret pe_bl)) pss_nil)))
      (pss_one (ps_ret pe_bl))), fun ds d h => ?_⟩
  obtain ⟨b, l, h, x, rfl, hb, hx, rfl⟩ := h
  refine ds_seq (ds_forD (js := [4, 5, 6, 7]) (fun i ρ' => (∀ g ∈ b.gs.take i, atG l h x g = false) ∧ ∃ s4 s5 s6 s7, ρ' = [.dat (dBar b), .dat (dLine l), .dat (.int h), .dat (dQ x), s4, s5, s6, s7]) (dw_tup (ds := b.gs.map dG) (de_op (de_var rfl) de_int (rd_ixT rfl))) ⟨fun _ h => (nomatch h), .un, .un, .un, .un, rfl⟩ (fun i y ρ' ey iv => ?_) fun ρ' iv => ?_)
  · obtain ⟨hno, s4, s5, s6, s7, rfl⟩ := iv
    rw [List.getElem?_map] at ey
    obtain ⟨g, eg, rfl⟩ := Option.map_eq_some_iff.mp ey
    have k := hb.all g (List.mem_of_getElem? eg)
    refine ⟨[dLine g.line, dQ g.s, dQ g.e, .int g.dep], gt_tup (.cons 4 (.cons 5 (.cons 6 (.cons 7 .nil)))) rfl rfl, ?_⟩
    refine ds_ifD (b := atG l h x g) ((dt_and (dt_test (de_op (de_var rfl) (de_var rfl) (rd_eqD (shp_dLine g.line) (shp_dLine l)))) fun _ => dt_and (dt_test (de_op (de_var rfl) (de_var rfl) rd_B0)) fun _ =>
      dt_and (dt_not (dt_B (de_call (da_cons (de_var rfl) (da_cons (de_var rfl) da_nil)) ⟨x, g.s, rfl, hx.mono (by decide), k.zs.mono (by decide), rfl⟩))) fun _ => dt_not (dt_B (de_call (da_cons (de_var rfl) (da_cons (de_var rfl) da_nil)) ⟨g.e, x, rfl, k.ze.mono (by decide), hx.mono (by decide), rfl⟩))).cast (by rw [eqv_dLine])) (fun z => ?_) fun z => ?_
    · refine ds_retD de_bl (congrArg PyData.bool ?_)
      unfold atQ
      exact (List.any_eq_true.mpr ⟨g, List.mem_of_getElem? eg, z⟩).symm
    · refine ds_next ⟨fun v hv => ?_, .dat (dLine g.line), .dat (dQ g.s), .dat (dQ g.e), .dat (.int g.dep), rfl⟩
      rcases mem_take_snoc eg hv with hv | rfl
      · exact hno v hv
      · exact z
  · obtain ⟨hno, s4, s5, s6, s7, rfl⟩ := iv
    refine ds_retD de_bl (congrArg PyData.bool ?_)
    rw [List.length_map, List.take_length] at hno
    unfold atQ
    exact (List.any_eq_false.mpr fun g hg z => absurd ((hno g hg).symm.trans z) (by decide)).symm
/-! _law_all_on -/
abbrev s_law_all_on : Stmt := topS 70
abbrev n_law_all_on : List Str := ["_law_bar_so", "_law_lines_so", "_law_height_so", "_law_place_so", "_law_own"]
theorem sc_law_all_on : FnScope n_law_all_on ["_law_bar_so", "_law_lines_so", "_law_height_so", "_law_place_so"] (defScope s_law_all_on) := ⟨rfl, rfl, rfl, by decide +kernel, rfl, by decide +kernel, by decide +kernel⟩
def Pre_law_all_on (ds : List PyData) (d : PyData) : Prop := ∃ b ls h x, ds = [dBar b, .list (ls.map dLine), .int h, dQ x] ∧ BOk b ∧ ls.length ≤ 16 ∧ Sz 100 x ∧ d = .bool (allOnQ b ls h x)
theorem ok_law_all_on {M : Md} (bi : Bi M.mg) (F : DefAt M "_law_all_on" s_law_all_on) (F_law_at : OkF M "_law_at" ["_law_bar_so", "_law_line_so", "_law_height_so", "_law_place_so"] 2 (spP M.K Pre_law_at)) : OkF M "_law_all_on" ["_law_bar_so", "_law_lines_so", "_law_height_so", "_law_place_so"] 3 (spP M.K Pre_law_all_on) := by
  refine okf_pure F sc_law_all_on (fun _ _ _ _ _ _ us hl => match us, hl with | [_, _, _, _], _ => rfl) (fun ds d h => by obtain ⟨b, ls, h, x, rfl, hb, hl, hx, rfl⟩ := h; rfl) fun f cdv A outer s H E hr =>
    ⟨_, (pss_one (ps_ret (pe_cmpR (keqD M.K hr) (pe_lc (own := [("_law_own", 4)]) rfl sc_law_all_on.nd (piL M.K (pv 1)) (blkOk_by (N := n_law_all_on) (sc := defScope s_law_all_on) (by decide +kernel)) (fun _ _ _ _ _ => (pg_name (i := 4) sc_law_all_on.nd rfl (by first | exact .inl rfl | exact .inr rfl))) (fun _ _ _ _ _ => (pts_one (pt_not (pt_val (pe_fn F_law_at (hr.mono (by decide)) (pa_cons (pv 0) (pa_cons (pv 4) (pa_cons (pv 2) (pa_cons (pv 3) pa_nil))))))))) (fun _ _ _ _ _ => pe_int)) (pe_lst pa_nil) (nomark _)))), fun ds d h => ?_⟩
  obtain ⟨b, ls, h, x, rfl, hb, hl, hx, rfl⟩ := h
  refine ds_retD ((de_op (de_lcF (js := [4]) ls dLine (fun l => !atQ b l h x) (fun _ => .int 1) (dw_list (de_var rfl)) (by omega) inAll (plainR_un rfl plainR_nil) fun l hm => ⟨[dLine l], gt_name, ?_, fun _ => de_int⟩) (de_lst da_nil) (rd_eqD ?_ rfl)).cast (congrArg PyData.bool ?_)) rfl
  · exact dt_not (dt_B (de_call (da_cons (de_var rfl) (da_cons (de_var rfl) (da_cons (de_var rfl) (da_cons (de_var rfl) da_nil)))) ⟨b, l, h, x, rfl, hb, hx, rfl⟩))
  · refine (shp_lst (n := 1) fun d hd => ?_).ok (by decide)
    obtain ⟨_, _, rfl⟩ := List.mem_map.mp hd
    exact ⟨rfl, by simp [PyData.depth]⟩
  · unfold allOnQ
    clear hl
    induction ls with
    | nil => rfl
    | cons l ls ih =>
      rw [List.all_cons, List.filter_cons]
      cases q : atQ b l h x with
      | true => simpa using ih
      | false =>
        simp [PyData.eqv, PyData.eqvAll]
/-! _law_stretches -/
abbrev s_law_stretches : Stmt := topS 71
abbrev n_law_stretches : List Str := ["_law_bar_so", "_law_lines_so", "_law_height_so", "_law_mine_so", "_law_own", "_law_places_so", "_law_found", "_law_fresh", "_law_k", "_law_place_so", "_law_middle_so"]
theorem sc_law_stretches : FnScope n_law_stretches ["_law_bar_so", "_law_lines_so", "_law_height_so"] (defScope s_law_stretches) := ⟨rfl, rfl, rfl, by decide +kernel, rfl, by decide +kernel, by decide +kernel⟩
theorem shp_lines (ls : List Line) : SeqAt.shaped (.list (ls.map dLine)) = true := (shp_lst (n := 3) fun d hd => by
  obtain ⟨l, _, rfl⟩ := List.mem_map.mp hd
  exact shp_line l).ok (by decide)
theorem at_succ {α : Type} {l : List α} {p : Nat} {x : α} (h : l[p + 1]? = some x) : atI l ((p : Int) + 1) = some x := by
  rw [show (p : Int) + 1 = ((p + 1 : Nat) : Int) by omega]
  exact atI_nat h
theorem places_sz {b : Bar} (hb : BOk b) (ls : List Line) : ∀ q ∈ placesL b ls, Sz 40 q := fun q hq => by
  rcases List.mem_append.mp (mem_byQ.mp hq) with h | h
  · obtain ⟨g, hg, rfl⟩ := List.mem_map.mp h
    exact (hb.all g (List.mem_filter.mp hg).1).zs
  · obtain ⟨g, hg, rfl⟩ := List.mem_map.mp h
    exact (hb.all g (List.mem_filter.mp hg).1).ze
theorem run_len (on : Rat → Bool) (P : List Rat) : ∀ i, (runS on P i).1.length ≤ i
  | 0 => Nat.le_refl _
  | i + 1 => by
    have ih := run_len on P i
    show (stepS on P i (runS on P i)).1.length ≤ _
    unfold stepS
    split
    · show (growQ _ _).length ≤ _
      unfold growQ
      split
      · rw [List.length_append]
        simp only [List.length_cons, List.length_nil]
        omega
      · rw [List.length_set]
        omega
    · show (runS on P i).1.length ≤ _
      omega
theorem run_mem (on : Rat → Bool) (P : List Rat) : ∀ i, i ≤ P.length → ∀ w ∈ (runS on P i).1, w.1 ∈ P ∧ w.2 ∈ P
  | 0, _ => fun _ h => nomatch h
  | i + 1, hi => by
    have ih := run_mem on P i (by omega)
    have hx : P.getD i 0 ∈ P := by
      rw [List.getD_eq_getElem?_getD, List.getElem?_eq_getElem (by omega)]
      exact List.getElem_mem _
    show ∀ w ∈ (stepS on P i (runS on P i)).1, _
    unfold stepS
    split
    · show ∀ w ∈ growQ _ _, _
      unfold growQ
      split
      · intro w hw
        rcases List.mem_append.mp hw with h | h
        · exact ih w h
        · rw [List.mem_singleton.mp h]
          exact ⟨hx, hx⟩
      · intro w hw
        generalize (runS on P i).1 = f at *
        rcases List.eq_nil_or_concat f with rfl | ⟨f0, v, rfl⟩
        · simp at hw
        · rw [List.concat_eq_append, snoc_set] at hw
          rw [List.concat_eq_append] at ih
          rcases List.mem_append.mp hw with h | h
          · exact ih w (List.mem_append_left _ h)
          · rw [List.mem_singleton.mp h]
            refine ⟨?_, hx⟩
            show ((f0 ++ [v]).getD ((f0 ++ [v]).length - 1) (0, 0)).1 ∈ P
            rw [List.getD_eq_getElem?_getD, snoc_last]
            exact (ih v (by simp)).1
    · exact ih
theorem stretQ_sz {b : Bar} (hb : BOk b) (ls : List Line) (h : Int) : ∀ w ∈ stretQ b ls h, Sz 40 w.1 ∧ Sz 40 w.2 := fun w hw => by
  have k := run_mem (allOnQ b ls h) (placesL b ls) _ (Nat.le_refl _) w hw
  exact ⟨places_sz hb ls _ k.1, places_sz hb ls _ k.2⟩
theorem DS.mono' {C : Cn} {ts : TS} {ρ ρ' : Rho} {n : Rho → Prop} {Z : Post} (h : DS C ts ρ { nx := n }) (e : ρ' = ρ) (k : ∀ r, n r → Z.nx r) : DS C ts ρ' Z := by
  subst e
  exact h.mono k (fun _ _ z => z.elim) (fun _ z => z.elim) fun _ z => z.elim
def Pre_law_stretches (ds : List PyData) (d : PyData) : Prop := ∃ b ls h, ds = [dBar b, .list (ls.map dLine), .int h] ∧ BOk b ∧ ls.length ≤ 16 ∧ ls ≠ [] ∧ d = .list ((stretQ b ls h).map dP)
theorem ok_law_stretches {M : Md} (bi : Bi M.mg) (F : DefAt M "_law_stretches" s_law_stretches) (F_law_by_value : OkF M "_law_by_value" ["_law_parts_so"] 2 (spP M.K Pre_law_by_value)) (F_law_all_on : OkF M "_law_all_on" ["_law_bar_so", "_law_lines_so", "_law_height_so", "_law_place_so"] 3 (spP M.K Pre_law_all_on)) (F_law_quot : OkF M "_law_quot" ["_law_one_so", "_law_other_so"] 3 (spP M.K Pre_law_quot)) (F_law_sum : OkF M "_law_sum" ["_law_one_so", "_law_other_so"] 3 (spP M.K Pre_law_sum)) : OkF M "_law_stretches" ["_law_bar_so", "_law_lines_so", "_law_height_so"] 4 (spP M.K Pre_law_stretches) := by
  refine okf_pure F sc_law_stretches (fun _ _ _ _ _ _ us hl => match us, hl with | [_, _, _], _ => rfl) (fun ds d h => by obtain ⟨b, ls, h, rfl, hb, hl, hne, rfl⟩ := h; rfl) fun f cdv A outer s H E hr =>
    ⟨_, (pss_cons (ps_setLc (i := 3) (own := [("_law_own", 4)]) rfl sc_law_stretches.nd rfl rfl (sw_true rfl rfl rfl (by decide +kernel)) (piT M.K (pe_ix (kixT M.K) (pv 0) pe_int (fun _ _ => rfl))) (blkOk_by (N := n_law_stretches) (sc := defScope s_law_stretches) (by decide +kernel)) (fun _ _ _ _ _ => (pg_name (i := 4) sc_law_stretches.nd rfl (by first | exact .inl rfl | exact .inr rfl))) (fun _ _ _ _ _ => (pts_one (pt_cmpR (kinD M.K hr) (pe_ix (kixT M.K) (pv 4) pe_int (fun _ _ => rfl)) (pv 1) (by with_unfolding_all rfl)))) (fun _ _ _ _ _ => (pv 4)))
      (pss_cons (ps_par3 (i := 5) (j := 6) (l := 7) (by rfl) sc_law_stretches.nd rfl rfl rfl (by decide) (by decide) (by decide) rfl rfl rfl (pa_cons (pe_fn F_law_by_value (hr.mono (by decide)) (pa_cons (pe_op op_cat (pe_lc (own := [("_law_own", 4)]) rfl sc_law_stretches.nd (piL M.K (pv 3)) (blkOk_by (N := n_law_stretches) (sc := defScope s_law_stretches) (by decide +kernel)) (fun _ _ _ _ _ => (pg_name (i := 4) sc_law_stretches.nd rfl (by first | exact .inl rfl | exact .inr rfl))) (fun _ _ _ _ _ => pts_nil) (fun _ _ _ _ _ => (pe_ix (kixT M.K) (pv 4) pe_int (fun _ _ => rfl)))) (pe_lc (own := [("_law_own", 4)]) rfl sc_law_stretches.nd (piL M.K (pv 3)) (blkOk_by (N := n_law_stretches) (sc := defScope s_law_stretches) (by decide +kernel)) (fun _ _ _ _ _ => (pg_name (i := 4) sc_law_stretches.nd rfl (by first | exact .inl rfl | exact .inr rfl))) (fun _ _ _ _ _ => pts_nil) (fun _ _ _ _ _ => (pe_ix (kixT M.K) (pv 4) pe_int (fun _ _ => rfl))))) pa_nil)) (pa_cons (pe_lst pa_nil) (pa_cons pe_bl pa_nil))) (by rfl))
      (pss_cons (ps_for PassesOwn.never rfl (piE M.K bi.enumerate (pa_cons (pv 5) pa_nil)) (pgT M.K 2 (pgs_cons (pg_name (i := 8) sc_law_stretches.nd rfl (by first | exact .inl rfl | exact .inr rfl)) (pgs_cons (pg_name (i := 9) sc_law_stretches.nd rfl (by first | exact .inl rfl | exact .inr rfl)) pgs_nil))) (pss_one (ps_if (pt_val (pe_fn F_law_all_on (hr.mono (by decide)) (pa_cons (pv 0) (pa_cons (pv 1) (pa_cons (pv 2) (pa_cons (pv 9) pa_nil)))))) (pss_cons (ps_if (pt_val (pv 7)) (pss_one (ps_expr (kapp M.K (pv 6) (pe_tup (pa_cons (pv 9) (pa_cons (pv 9) pa_nil)))))) (pss_one (ps_asg (pe_tup (pa_cons (pe_ix (kixT M.K) (pe_ix (kixL M.K) (pv 6) (pe_un un_neg pe_int) (fun _ _ => rfl)) pe_int (fun _ _ => rfl)) (pa_cons (pv 9) pa_nil))) (pg_sub (pv 6) (pe_un un_neg pe_int) set_list))))
      (pss_cons (ps_set (i := 7) sc_law_stretches.nd rfl (by first | exact .inl rfl | exact .inr rfl) pe_bl)
      (pss_one (ps_if (pt_cmpR op_lt (pe_op op_add (pv 8) pe_int) (pe_callB (klen M.K) (by rfl) bi.len PySem.boot_len (pa_cons (pv 5) pa_nil)) (nomark _)) (pss_cons (ps_set (i := 10) sc_law_stretches.nd rfl (by first | exact .inl rfl | exact .inr rfl) (pe_fn F_law_quot (hr.mono (by decide)) (pa_cons (pe_fn F_law_sum (hr.mono (by decide)) (pa_cons (pv 9) (pa_cons (pe_ix (kixL M.K) (pv 5) (pe_op op_add (pv 8) pe_int) (fun _ _ => rfl)) pa_nil))) (pa_cons (pe_tup (pa_cons pe_int (pa_cons pe_int pa_nil))) pa_nil))))
      (pss_one (ps_set (i := 7) sc_law_stretches.nd rfl (by first | exact .inl rfl | exact .inr rfl) (pe_not (pe_fn F_law_all_on (hr.mono (by decide)) (pa_cons (pv 0) (pa_cons (pv 1) (pa_cons (pv 2) (pa_cons (pv 10) pa_nil))))))))) pss_nil)))) (pss_one (ps_set (i := 7) sc_law_stretches.nd rfl (by first | exact .inl rfl | exact .inr rfl) pe_bl)))))
      (pss_one (ps_ret (pv 6)))))), fun ds d h => ?_⟩
  obtain ⟨b, ls, h, rfl, hb, hl, hne, rfl⟩ := h
  have hm : (mineQ b ls).length ≤ 16 := Nat.le_trans (List.length_filter_le _ _) hb.few
  have hmz : ∀ g ∈ mineQ b ls, Sz 40 g.s ∧ Sz 40 g.e := fun g hg => ⟨(hb.all g (List.mem_filter.mp hg).1).zs, (hb.all g (List.mem_filter.mp hg).1).ze⟩
  refine ds_seq (ds_asgD (d := .list ((mineQ b ls).map dG)) (de_lcF (js := [4]) b.gs dG (fun g => ls.any fun l => decide (l = g.line)) dG (dw_tup (de_op (de_var rfl) de_int (rd_ixT rfl))) (by have := hb.few; omega) inAll (plainR_un rfl plainR_nil) fun g hg => ⟨[dG g], gt_name, ?_, fun _ => de_var rfl⟩) ?_)
  · refine (dt_test (de_op (de_op (de_var rfl) de_int (rd_ixT (d := dLine g.line) rfl)) (de_var rfl) (rd_inD (shp_dLine g.line) (shp_lines ls)))).cast ?_
    rw [List.any_map]
    congr 1
    funext l
    exact eqv_dLine l g.line
  have zP := places_sz hb ls
  have hpl : (placesL b ls).length ≤ 32 := by
    refine Nat.le_trans (byQ_len _) ?_
    rw [List.length_append, List.length_map, List.length_map]
    omega
  refine ds_seq (ds_par3Own (d := .list ((placesL b ls).map dQ)) (es := []) (b := true) (de_call (da_cons (lx_cat (lx_lcMM (js := [4]) (mineQ b ls) dG (fun g => dQ g.s) (dw_list (de_var rfl)) (by omega) inAll (plainR_un rfl plainR_nil) fun g hg => ⟨[dG g], gt_name, de_op (de_var rfl) de_int (rd_ixT rfl)⟩)
    (lx_lcMM (js := [4]) (mineQ b ls) dG (fun g => dQ g.e) (dw_list (de_var rfl)) (by omega) inAll (plainR_un rfl plainR_nil) fun g hg => ⟨[dG g], gt_name, de_op (de_var rfl) de_int (rd_ixT rfl)⟩) (by rw [List.length_map, List.length_map]; omega)).de da_nil) ⟨(mineQ b ls).map (·.s) ++ (mineQ b ls).map (·.e), ?_, ?_, ?_, rfl⟩) da_nil (Nat.zero_le _) ?_)
  · rw [List.map_append, List.map_map, List.map_map]
    rfl
  · rw [List.length_append, List.length_map, List.length_map]
    omega
  · intro q hq
    rcases List.mem_append.mp hq with hq | hq
    · obtain ⟨g, hg, rfl⟩ := List.mem_map.mp hq
      exact (hmz g hg).1.mono (by decide)
    · obtain ⟨g, hg, rfl⟩ := List.mem_map.mp hq
      exact (hmz g hg).2.mono (by decide)
  have SIi := fun i hi => run_ok (b := b) (h := h) hne i hi
  have hfl := fun i => run_len (allOnQ b ls h) (placesL b ls) i
  have est : stretQ b ls h = (runS (allOnQ b ls h) (placesL b ls) (placesL b ls).length).1 := rfl
  rw [est]
  generalize placesL b ls = P at *
  refine ds_seq (ds_forD (js := [8, 9]) (fun i ρ' => ∃ s8 s9 s10, ρ' = [.dat (dBar b), .dat (.list (ls.map dLine)), .dat (.int h), .dat (.list ((mineQ b ls).map dG)), .un, .dat (.list (P.map dQ)), .own ((runS (allOnQ b ls h) P i).1.map dP), .dat (.bool (runS (allOnQ b ls h) P i).2), s8, s9, s10])
    (dw_enum (da_cons (de_var rfl) da_nil)) ⟨.un, .un, .un, rfl⟩ (fun i y ρ' ey iv => ?_) fun ρ' iv => ?_)
  · obtain ⟨s8, s9, s10, rfl⟩ := iv
    obtain ⟨y, ey2, rfl⟩ := enumD_get ey
    rw [List.getElem?_map] at ey2
    obtain ⟨x, ex, rfl⟩ := Option.map_eq_some_iff.mp ey2
    have hi : i < P.length := (List.getElem?_eq_some_iff.mp ex).1
    have zx := zP x (List.mem_of_getElem? ex)
    have I := SIi i (by omega)
    have hf := hfl i
    have eg : P.getD i 0 = x := by rw [List.getD_eq_getElem?_getD, ex]; rfl
    have es : runS (allOnQ b ls h) P (i + 1) = stepS (allOnQ b ls h) P i (runS (allOnQ b ls h) P i) := rfl
    rw [es]
    unfold stepS
    rw [eg]
    refine ⟨[.int (i : Int), dQ x], gt_tup (.cons 8 (.cons 9 .nil)) rfl rfl, ?_⟩
    generalize runS (allOnQ b ls h) P i = st at *
    obtain ⟨f, fr⟩ := st
    refine ds_ifD (b := allOnQ b ls h x) (dt_B (de_call (da_cons (de_var rfl) (da_cons (de_var rfl) (da_cons (de_var rfl) (da_cons (de_var rfl) da_nil)))) ⟨b, ls, h, x, rfl, hb, hl, zx.mono (by decide), rfl⟩)) (fun hon => ?_) fun hon => ?_
    · rw [if_pos hon]
      refine ds_seq ?_
      have rest : ∀ F : List (Rat × Rat), DS ⟨M.K, []⟩ (tSeq (tAsg (tC (.bl true)) (gName 7)) (tIfS (tTest (tOp (rI0 fun i j => .bl (decide (i < j))) (tOp (rI0 fun i j => .int (i + j)) (tVar 8) (tC (.int 1))) (tCB (rLenQ M.K) (tCons (tVar 5) tNil))))
          (tSeq (tAsg (tCall (spP M.K Pre_law_quot) [] E0 (tCons (tCall (spP M.K Pre_law_sum) [] E0 (tCons (tVar 9) (tCons (tOp (rIxL M.K) (tVar 5) (tOp (rI0 fun i j => .int (i + j)) (tVar 8) (tC (.int 1)))) tNil))) (tCons (tTup (tCons (tC (.int 2)) (tCons (tC (.int 1)) tNil))) tNil))) (gName 10))
            (tAsg (tNotV (tCall (spP M.K Pre_law_all_on) [] E0 (tCons (tVar 0) (tCons (tVar 1) (tCons (tVar 2) (tCons (tVar 10) tNil)))))) (gName 7))) tNext)) [.dat (dBar b), .dat (.list (ls.map dLine)), .dat (.int h), .dat (.list ((mineQ b ls).map dG)), .un, .dat (.list (P.map dQ)), .own (F.map dP), .dat (.bool fr), .dat (.int (i : Int)), .dat (dQ x), s10]
          { nx := fun ρ' => ∃ s10, ρ' = [.dat (dBar b), .dat (.list (ls.map dLine)), .dat (.int h), .dat (.list ((mineQ b ls).map dG)), .un, .dat (.list (P.map dQ)), .own (F.map dP), .dat (.bool (if i + 1 < P.length then !allOnQ b ls h ((x + P.getD (i + 1) 0) / 2) else true)), .dat (.int (i : Int)), .dat (dQ x), s10] } := fun F => by
        refine ds_seq (ds_asgD (d := .bool true) de_bl ?_)
        refine ds_ifD (b := decide (i + 1 < P.length)) ((dt_test (de_op (de_op (de_var rfl) de_int rd_I0) (de_cb (da_cons (de_var rfl) da_nil) rc_lenL) rd_B0)).cast (by rw [List.length_map]; exact decide_eq_decide.mpr (by omega))) (fun hlt => ?_) fun hlt => ?_
        · have hlt := of_decide_eq_true hlt
          obtain ⟨x2, ex2⟩ := getlt hlt
          have eg2 : P.getD (i + 1) 0 = x2 := by rw [List.getD_eq_getElem?_getD, ex2]; rfl
          have zx2 := zP x2 (List.mem_of_getElem? ex2)
          rw [if_pos hlt, eg2]
          have z2 : Sz 2 (2 : Rat) := ⟨by decide, by decide⟩
          have zs := zx.add zx2
          have zm : Sz 100 ((x + x2) / 2) := (zs.div z2 (by decide)).mono (by decide)
          refine ds_seq (ds_asgD (d := dQ ((x + x2) / 2)) (de_call (da_cons (de_call (da_cons (de_var (d := dQ x) rfl) (da_cons (de_op (de_var (d := .list (P.map dQ)) rfl) (de_op (de_var (d := .int (i : Int)) rfl) de_int rd_I0) (rd_ixL (d := dQ x2) (at_succ (by rw [List.getElem?_map, ex2]; rfl)))) da_nil)) ⟨x, x2, rfl, zx.mono (by decide), zx2.mono (by decide), rfl⟩) (da_cons (de_tup (da_cons de_int (da_cons de_int da_nil))) da_nil)) ⟨x + x2, 2, rfl, zs.mono (by decide), z2.mono (by decide), by decide, rfl⟩) ?_)
          refine ds_asgD (d := .bool (!allOnQ b ls h ((x + x2) / 2))) (de_notV (de_call (da_cons (de_var rfl) (da_cons (de_var rfl) (da_cons (de_var rfl) (da_cons (de_var rfl) da_nil)))) ⟨b, ls, h, (x + x2) / 2, rfl, hb, hl, zm, rfl⟩)) ⟨.dat (dQ ((x + x2) / 2)), rfl⟩
        · have hlt := of_decide_eq_false hlt
          rw [if_neg hlt]
          exact ds_next ⟨s10, rfl⟩
      have fin : ∀ ρ' (F : List (Rat × Rat)), F = growQ (f, fr) x → (∃ s10, ρ' = ([.dat (dBar b), .dat (.list (ls.map dLine)), .dat (.int h), .dat (.list ((mineQ b ls).map dG)), .un, .dat (.list (P.map dQ)), .own (F.map dP), .dat (.bool (if i + 1 < P.length then !allOnQ b ls h ((x + P.getD (i + 1) 0) / 2) else true)), .dat (.int (i : Int)), .dat (dQ x), s10] : Rho)) →
          ∃ s8 s9 s10, ρ' = ([.dat (dBar b), .dat (.list (ls.map dLine)), .dat (.int h), .dat (.list ((mineQ b ls).map dG)), .un, .dat (.list (P.map dQ)), .own ((growQ (f, fr) x).map dP), .dat (.bool (if i + 1 < P.length then !allOnQ b ls h ((x + P.getD (i + 1) 0) / 2) else true)), s8, s9, s10] : Rho) := fun ρ' F e ⟨s10, h⟩ => ⟨_, _, s10, by rw [← e]; exact h⟩
      refine ds_ifD (b := fr) (dt_B (de_var (d := .bool fr) rfl)) (fun hfr => ?_) fun hfr => ?_
      · refine ds_appendD (i := 6) (ds := f.map dP) (d := dP (x, x)) rfl (de_tup (da_cons (de_var rfl) (da_cons (de_var rfl) da_nil))) (by rw [List.length_map]; have hf : f.length ≤ i := hf; omega) ?_
        refine (rest (f ++ [(x, x)])).mono' ?_ ?_
        · rw [List.map_append]; rfl
        · exact fun ρ' h => fin ρ' _ (by rw [hfr]; rfl) h
      · obtain ⟨f0, w, p, e0, _⟩ := I.b hfr
        have e0 : f = f0 ++ [w] := e0
        subst e0
        have hatD : atI ((f0 ++ [w]).map dP) (-1) = some (dP w) := getneg1 (by rw [List.length_map, List.getElem?_map, snoc_last]; rfl)
        refine ds_setitem (i := 6) (ds := (f0 ++ [w]).map dP) (k := -1) (j := f0.length) (d := dP (w.1, x)) rfl (de_tup (da_cons (de_op (de_ixOwn (i := 6) rfl (de_un de_int ru_int) hatD) de_int (rd_ixT rfl)) (da_cons (de_var rfl) da_nil))) (de_un de_int ru_int) ?_ ?_
        · unfold ixN
          rw [if_neg (by decide), if_pos (by rw [List.length_map, List.length_append]; simp; omega)]
          congr 1
          rw [List.length_map, List.length_append]
          simp
          omega
        · refine (rest (f0 ++ [(w.1, x)])).mono' ?_ ?_
          · rw [List.map_append, List.map_append]
            have e : (List.map dP f0 ++ List.map dP [w]).set f0.length (dP (w.1, x)) = List.map dP f0 ++ List.map dP [(w.1, x)] := set_mid (B := []) (by rw [List.length_map])
            rw [← e]
            rfl
          · refine fun ρ' h => fin ρ' _ ?_ h
            unfold growQ
            rw [hfr, if_neg (by simp)]
            show _ = (f0 ++ [w]).set ((f0 ++ [w]).length - 1) _
            rw [snoc_set]
            congr 3
            show w.1 = ((f0 ++ [w]).getD ((f0 ++ [w]).length - 1) (0, 0)).1
            rw [List.getD_eq_getElem?_getD, snoc_last]
            rfl
    · rw [if_neg (by rw [hon]; decide)]
      exact ds_asgD (d := .bool true) de_bl ⟨.dat (.int (i : Int)), .dat (dQ x), s10, rfl⟩
  · obtain ⟨s8, s9, s10, rfl⟩ := iv
    rw [enumD_len, List.length_map]
    exact ds_freeze (i := 6) rfl (ds_retD (de_var rfl) rfl)
/-! _law_stretch -/
abbrev s_law_stretch : Stmt := topS 72
abbrev n_law_stretch : List Str := ["_law_bar_so", "_law_lines_so", "_law_height_so", "_law_place_so", "_law_start_so", "_law_end_so"]
theorem sc_law_stretch : FnScope n_law_stretch ["_law_bar_so", "_law_lines_so", "_law_height_so", "_law_place_so"] (defScope s_law_stretch) := ⟨rfl, rfl, rfl, by decide +kernel, rfl, by decide +kernel, by decide +kernel⟩
def Pre_law_stretch (ds : List PyData) (d : PyData) : Prop := ∃ b ls h x, ds = [dBar b, .list (ls.map dLine), .int h, dQ x] ∧ BOk b ∧ ls.length ≤ 16 ∧ ls ≠ [] ∧ Sz 100 x ∧ d = dO (strQ b ls h x)
theorem ok_law_stretch {M : Md} (bi : Bi M.mg) (F : DefAt M "_law_stretch" s_law_stretch) (F_law_stretches : OkF M "_law_stretches" ["_law_bar_so", "_law_lines_so", "_law_height_so"] 4 (spP M.K Pre_law_stretches)) (F_law_under : OkF M "_law_under" ["_law_one_so", "_law_other_so"] 1 (spP M.K Pre_law_under)) : OkF M "_law_stretch" ["_law_bar_so", "_law_lines_so", "_law_height_so", "_law_place_so"] 5 (spP M.K Pre_law_stretch) := by
  refine okf_pure F sc_law_stretch (fun _ _ _ _ _ _ us hl => match us, hl with | [_, _, _, _], _ => rfl) (fun ds d h => by obtain ⟨b, ls, h, x, rfl, hb, hl, hne, hx, rfl⟩ := h; rfl) fun f cdv A outer s H E hr =>
    ⟨_, (pss_cons (ps_for PassesOwn.never rfl (piL M.K (pe_fn F_law_stretches (hr.mono (by decide)) (pa_cons (pv 0) (pa_cons (pv 1) (pa_cons (pv 2) pa_nil))))) (pgT M.K 2 (pgs_cons (pg_name (i := 4) sc_law_stretch.nd rfl (.inl rfl)) (pgs_cons (pg_name (i := 5) sc_law_stretch.nd rfl (.inl rfl)) pgs_nil))) (pss_one (ps_if (PW.pt (pw_and (pt_not (pt_val (pe_fn F_law_under (hr.mono (by decide)) (pa_cons (pv 3) (pa_cons (pv 4) pa_nil))))) (pw_and1 (pt_not (pt_val (pe_fn F_law_under (hr.mono (by decide)) (pa_cons (pv 5) (pa_cons (pv 3) pa_nil)))))))) (pss_one (ps_ret (pe_tup (pa_cons (pv 4) (pa_cons (pv 5) pa_nil))))) pss_nil)))
      (pss_one (ps_ret pe_non))), fun ds d h => ?_⟩
  obtain ⟨b, ls, h, x, rfl, hb, hl, hne, hx, rfl⟩ := h
  have hz := stretQ_sz hb ls h
  have ef : strQ b ls h x = (stretQ b ls h).find? (inW x) := rfl
  refine ds_seq (ds_forD (js := [4, 5]) (fun i ρ' => (∀ w ∈ (stretQ b ls h).take i, inW x w = false) ∧ ∃ s4 s5, ρ' = [.dat (dBar b), .dat (.list (ls.map dLine)), .dat (.int h), .dat (dQ x), s4, s5]) (dw_list (de_call (da_cons (de_var rfl) (da_cons (de_var rfl) (da_cons (de_var rfl) da_nil))) ⟨b, ls, h, rfl, hb, hl, hne, rfl⟩)) ⟨fun _ h => (nomatch h), .un, .un, rfl⟩ (fun i y ρ' ey iv => ?_) fun ρ' iv => ?_)
  · obtain ⟨hno, s4, s5, rfl⟩ := iv
    rw [List.getElem?_map] at ey
    obtain ⟨w, ew, rfl⟩ := Option.map_eq_some_iff.mp ey
    have hw := hz w (List.mem_of_getElem? ew)
    refine ⟨[dQ w.1, dQ w.2], gt_tup (.cons 4 (.cons 5 .nil)) rfl rfl, ?_⟩
    have eb : (!decide (x < w.1) && !decide (w.2 < x)) = inW x w := by
      unfold inW
      rw [Bool.eq_iff_iff]
      simp only [Bool.and_eq_true, Bool.not_eq_true', decide_eq_false_iff_not, decide_eq_true_eq, Rat.not_lt]
    refine ds_ifD (b := inW x w) ((dt_and (dt_not (dt_B (de_call (da_cons (de_var rfl) (da_cons (de_var rfl) da_nil)) ⟨x, w.1, rfl, hx.mono (by decide), hw.1.mono (by decide), rfl⟩))) fun _ => dt_not (dt_B (de_call (da_cons (de_var rfl) (da_cons (de_var rfl) da_nil)) ⟨w.2, x, rfl, hw.2.mono (by decide), hx.mono (by decide), rfl⟩))).cast eb) (fun z => ?_) fun z => ?_
    · refine ds_retD (d := dP w) (de_tup (da_cons (de_var rfl) (da_cons (de_var rfl) da_nil))) ?_
      rw [ef, find_at ew hno z]
      rfl
    · refine ds_next ⟨fun v hv => ?_, .dat (dQ w.1), .dat (dQ w.2), rfl⟩
      rcases mem_take_snoc ew hv with hv | rfl
      · exact hno v hv
      · exact z
  · obtain ⟨hno, s4, s5, rfl⟩ := iv
    refine ds_retD de_non ?_
    rw [List.length_map, List.take_length] at hno
    rw [ef, List.find?_eq_none.mpr fun v hv => by rw [hno v hv]; simp]
    rfl
end SC
/-! How far a rounded number lies, how long it is. -/
namespace SC
theorem round_range (a : Rat) {b : Rat} (h : b ≠ 0) : 0 ≤ roundQ a b ∧ roundQ a b < absQ b := by
  have hp := absQ_pos h
  have h1 : ((a / absQ b).floor : Rat) ≤ a / absQ b := Rat.floor_le _
  have h2 : a / absQ b < (((a / absQ b).floor + 1 : Int) : Rat) := Rat.lt_floor_add_one _
  have h3 : a / absQ b * absQ b = a := by grind
  have h4 : ((a / absQ b).floor : Rat) * absQ b ≤ a / absQ b * absQ b := Rat.mul_le_mul_of_nonneg_right h1 (Rat.le_of_lt hp)
  have h5 : a / absQ b * absQ b < (((a / absQ b).floor + 1 : Int) : Rat) * absQ b := Rat.mul_lt_mul_of_pos_right h2 hp
  have h6 : (((a / absQ b).floor + 1 : Int) : Rat) * absQ b = ((a / absQ b).floor : Rat) * absQ b + absQ b := by grind
  unfold roundQ
  constructor <;> grind
theorem Sz.round2 {n m : Nat} {a b : Rat} (ha : Sz n a) (hb : Sz m b) (h : b ≠ 0) : Sz (n + 2 * m) (roundQ a b) := by
  obtain ⟨r0, r1⟩ := round_range a h
  have hden : (roundQ a b).den ≤ a.den * b.den := by
    unfold roundQ
    generalize (a / absQ b).floor = N
    have hd2 : ((N : Rat) * absQ b).den ≤ b.den := by
      have s := divInt_small ((N : Rat).num * (absQ b).num) (((N : Rat).den : Int) * (absQ b).den) (Int.mul_ne_zero (den_int_ne _) (den_int_ne _))
      rw [← q_mul, Rat.den_intCast, absQ_den] at s
      have := s.2
      simp only [Int.natAbs_mul, Int.natAbs_natCast] at this
      omega
    rw [Rat.sub_eq_add_neg]
    have s := divInt_small (a.num * ((-((N : Rat) * absQ b)).den : Int) + (-((N : Rat) * absQ b)).num * (a.den : Int)) ((a.den : Int) * ((-((N : Rat) * absQ b)).den : Int)) (Int.mul_ne_zero (den_int_ne _) (den_int_ne _))
    rw [← q_add, Rat.neg_den] at s
    have := s.2
    rw [Int.natAbs_mul, Int.natAbs_natCast, Int.natAbs_natCast] at this
    exact Nat.le_trans this (Nat.mul_le_mul_left _ hd2)
  have hd3 : (roundQ a b).den < 2 ^ (n + m) := Nat.lt_of_le_of_lt hden (two_mul_lt ha.2 hb.2)
  have hn0 := Rat.num_nonneg.mpr r0
  have hn1 : (roundQ a b).num * ((absQ b).den : Int) < (absQ b).num * ((roundQ a b).den : Int) := (Rat.lt_iff _ _).mp r1
  rw [absQ_num, absQ_den] at hn1
  generalize roundQ a b = r at *
  have hb1 : (1 : Int) ≤ (b.den : Int) := by have := b.den_pos; omega
  have hn2 : r.num ≤ r.num * (b.den : Int) := by
    have := Int.mul_le_mul_of_nonneg_left hb1 hn0
    omega
  have hn3 : r.num.natAbs < b.num.natAbs * r.den := by
    have e : ((b.num.natAbs * r.den : Nat) : Int) = (b.num.natAbs : Int) * (r.den : Int) := Int.natCast_mul ..
    omega
  have hn4 : b.num.natAbs * r.den < 2 ^ (m + (n + m)) := two_mul_lt hb.1 hd3
  refine ⟨?_, ?_⟩
  · rw [show n + 2 * m = m + (n + m) by omega]
    omega
  · exact Nat.lt_of_lt_of_le hd3 (Nat.pow_le_pow_right (by decide) (by omega))
end SC
namespace SC
open PySem PySem.Spec PyProof.Rows L2

theorem phase_law (lead ph : Rat) (m : Mo) : roundQ (ph + m.1 - lead * m.2) lead = phaseQ lead ph m := by
  unfold phaseQ
  congr 1
  grind
theorem phs_get {n : Nut} {k : Nat} (h : k < n.phs.length) : n.phs[k]? = some (n.phs.getD k 0) := by rw [List.getD_eq_getElem?_getD, List.getElem?_eq_getElem h]; rfl
theorem phs_mem {n : Nut} {k : Nat} (h : k < n.phs.length) : n.phs.getD k 0 ∈ n.phs := List.mem_of_getElem? (phs_get h)
theorem rng0 (n : Nat) : rngD 0 n = (List.range n).map fun i : Nat => PyData.int (i : Int) := by
  unfold rngD
  refine List.map_congr_left fun i _ => ?_
  rw [Int.zero_add]
theorem shp_ints (l : List Nat) : SeqAt.shaped (.tuple (l.map fun i : Nat => PyData.int (i : Int))) = true := (shp_tup (n := 1) fun d hd => by
  obtain ⟨i, _, rfl⟩ := List.mem_map.mp hd
  exact ⟨rfl, by simp [PyData.depth]⟩).ok (by decide)
theorem eqv_nil (l : List Nat) : PyData.eqv (.tuple (l.map fun i : Nat => PyData.int (i : Int))) (.tuple []) = decide (l = []) := by
  cases l <;> simp [PyData.eqv, PyData.eqvAll]
theorem sz0 : Sz 1 (0 : Rat) := ⟨by decide, by decide⟩
/-! _law_tooth_line -/
abbrev s_law_tooth_line : Stmt := topS 67
abbrev n_law_tooth_line : List Str := ["_law_nut_so", "_law_motion_so", "_law_k", "_law_own"]
theorem sc_law_tooth_line : FnScope n_law_tooth_line ["_law_nut_so", "_law_motion_so", "_law_k"] (defScope s_law_tooth_line) := ⟨rfl, rfl, rfl, by decide +kernel, rfl, by decide +kernel, by decide +kernel⟩
def Pre_law_tooth_line (ds : List PyData) (d : PyData) : Prop := ∃ n m k, ds = [dNut n, dP m, .int (k : Nat)] ∧ NOk n ∧ MOk m ∧ k < n.phs.length ∧ d = dLine (lineQ n m (n.phs.getD k 0))
theorem ok_law_tooth_line {M : Md} (bi : Bi M.mg) (F : DefAt M "_law_tooth_line" s_law_tooth_line) (F_law_less : OkF M "_law_less" ["_law_one_so", "_law_other_so"] 4 (spP M.K Pre_law_less)) (F_law_sum : OkF M "_law_sum" ["_law_one_so", "_law_other_so"] 3 (spP M.K Pre_law_sum)) (F_law_prod : OkF M "_law_prod" ["_law_one_so", "_law_other_so"] 3 (spP M.K Pre_law_prod)) (F_law_round : OkF M "_law_round" ["_law_one_so", "_law_other_so"] 5 (spP M.K Pre_law_round)) : OkF M "_law_tooth_line" ["_law_nut_so", "_law_motion_so", "_law_k"] 6 (spP M.K Pre_law_tooth_line) := by
  refine okf_pure F sc_law_tooth_line (fun _ _ _ _ _ _ us hl => match us, hl with | [_, _, _], _ => rfl) (fun ds d h => by obtain ⟨n, m, k, rfl, hn, hm, hk, rfl⟩ := h; rfl) fun f cdv A outer s H E hr =>
    ⟨_, (pss_cons (ps_set (i := 3) sc_law_tooth_line.nd rfl (.inl rfl) (pe_fn F_law_less (hr.mono (by decide)) (pa_cons (pe_fn F_law_sum (hr.mono (by decide)) (pa_cons (pe_ix (kixT M.K) (pe_ix (kixT M.K) (pv 0) pe_int (fun _ _ => rfl)) (pv 2) (fun _ _ => rfl)) (pa_cons (pe_ix (kixT M.K) (pv 1) pe_int (fun _ _ => rfl)) pa_nil))) (pa_cons (pe_fn F_law_prod (hr.mono (by decide)) (pa_cons (pe_ix (kixT M.K) (pv 0) pe_int (fun _ _ => rfl)) (pa_cons (pe_ix (kixT M.K) (pv 1) pe_int (fun _ _ => rfl)) pa_nil))) pa_nil))))
      (pss_one (ps_ret (pe_tup (pa_cons pe_str (pa_cons (pe_ix (kixT M.K) (pv 0) pe_int (fun _ _ => rfl)) (pa_cons (pe_fn F_law_round (hr.mono (by decide)) (pa_cons (pv 3) (pa_cons (pe_ix (kixT M.K) (pv 0) pe_int (fun _ _ => rfl)) pa_nil))) pa_nil))))))), fun ds d h => ?_⟩
  obtain ⟨n, m, k, rfl, hn, hm, hk, rfl⟩ := h
  have zp := hn.all _ (phs_mem hk)
  have hg := phs_get hk
  generalize n.phs.getD k 0 = ph at *
  have z1 := zp.add hm.z1
  have z2 := hn.z.mul hm.z2
  have z3 := z1.sub z2
  refine ds_seq (ds_asgD (d := dQ (ph + m.1 - n.lead * m.2)) (de_call (da_cons (de_call (da_cons (de_op (de_op (de_var rfl) de_int (rd_ixT (d := .tuple (n.phs.map dQ)) rfl)) (de_var rfl) (rd_ixT (d := dQ ph) (atI_nat (by rw [List.getElem?_map, hg]; rfl)))) (da_cons (de_op (de_var rfl) de_int (rd_ixT (d := dQ m.1) rfl)) da_nil)) ⟨ph, m.1, rfl, zp.mono (by decide), hm.z1.mono (by decide), rfl⟩)
    (da_cons (de_call (da_cons (de_op (de_var rfl) de_int (rd_ixT (d := dQ n.lead) rfl)) (da_cons (de_op (de_var rfl) de_int (rd_ixT (d := dQ m.2) rfl)) da_nil)) ⟨n.lead, m.2, rfl, hn.z.mono (by decide), hm.z2.mono (by decide), rfl⟩) da_nil)) ⟨ph + m.1, n.lead * m.2, rfl, z1.mono (by decide), z2.mono (by decide), rfl⟩) ?_)
  refine ds_retD (de_tup (da_cons de_str (da_cons (de_op (de_var rfl) de_int (rd_ixT (d := dQ n.lead) rfl)) (da_cons (de_call (da_cons (de_var rfl) (da_cons (de_op (de_var rfl) de_int (rd_ixT (d := dQ n.lead) rfl)) da_nil)) ⟨ph + m.1 - n.lead * m.2, n.lead, rfl, z3.mono (by decide), hn.z.mono (by decide), hn.l0, rfl⟩) da_nil)))) ?_
  rw [phase_law]
  rfl
/-! _law_off -/
abbrev s_law_off : Stmt := topS 69
abbrev n_law_off : List Str := ["_law_bar_so", "_law_nut_so", "_law_motion_so", "_law_k"]
theorem sc_law_off : FnScope n_law_off ["_law_bar_so", "_law_nut_so", "_law_motion_so"] (defScope s_law_off) := ⟨rfl, rfl, rfl, by decide +kernel, rfl, by decide +kernel, by decide +kernel⟩
def Pre_law_off (ds : List PyData) (d : PyData) : Prop := ∃ b n m, ds = [dBar b, dNut n, dP m] ∧ BOk b ∧ NOk n ∧ MOk m ∧ d = .tuple ((offLQ b n m).map fun k : Nat => .int (k : Int))
theorem ok_law_off {M : Md} (bi : Bi M.mg) (F : DefAt M "_law_off" s_law_off) (F_law_at : OkF M "_law_at" ["_law_bar_so", "_law_line_so", "_law_height_so", "_law_place_so"] 2 (spP M.K Pre_law_at)) (F_law_tooth_line : OkF M "_law_tooth_line" ["_law_nut_so", "_law_motion_so", "_law_k"] 6 (spP M.K Pre_law_tooth_line)) : OkF M "_law_off" ["_law_bar_so", "_law_nut_so", "_law_motion_so"] 7 (spP M.K Pre_law_off) := by
  refine okf_pure F sc_law_off (fun _ _ _ _ _ _ us hl => match us, hl with | [_, _, _], _ => rfl) (fun ds d h => by obtain ⟨b, n, m, rfl, hb, hn, hm, rfl⟩ := h; rfl) fun f cdv A outer s H E hr =>
    ⟨_, (pss_one (ps_ret (pe_callTy (ktupOf M.K) (by rfl) bi.tuple (by decide +kernel) (pa_cons (pe_lc (own := [("_law_k", 3)]) rfl sc_law_off.nd (pi_range1 rfl bi.range (pa_cons (pe_callB (klen M.K) (by rfl) bi.len PySem.boot_len (pa_cons (pe_ix (kixT M.K) (pv 1) pe_int (fun _ _ => rfl)) pa_nil)) pa_nil)) (blkOk_by (N := n_law_off) (sc := defScope s_law_off) (by decide +kernel)) (fun _ _ _ _ _ => (pg_name (i := 3) sc_law_off.nd rfl (by first | exact .inl rfl | exact .inr rfl))) (fun _ _ _ _ _ => (pts_one (pt_not (pt_val (pe_fn F_law_at (hr.mono (by decide)) (pa_cons (pv 0) (pa_cons (pe_fn F_law_tooth_line (hr.mono (by decide)) (pa_cons (pv 1) (pa_cons (pv 2) (pa_cons (pv 3) pa_nil)))) (pa_cons (pe_ix (kixT M.K) (pv 1) pe_int (fun _ _ => rfl)) (pa_cons (pe_ix (kixT M.K) (pv 2) pe_int (fun _ _ => rfl)) pa_nil))))))))) (fun _ _ _ _ _ => (pv 3))) pa_nil)))), fun ds d h => ?_⟩
  obtain ⟨b, n, m, rfl, hb, hn, hm, rfl⟩ := h
  have hf := hn.few
  refine ds_retD (de_cb (da_cons (de_lcF (js := [3]) (List.range n.phs.length) (fun k : Nat => .int (k : Int)) (fun k => !atQ b (lineQ n m (n.phs.getD k 0)) n.h m.1) (fun k : Nat => .int (k : Int)) ?_ (by rw [List.length_range]; omega) inAll (plainR_un rfl plainR_nil) fun k hk => ⟨[.int (k : Int)], gt_name, ?_, fun _ => de_var rfl⟩) da_nil) rc_tupL) rfl
  · rw [← rng0]
    exact dw_rng1 (da_cons ((de_cb (da_cons (de_op (de_var rfl) de_int (rd_ixT (d := .tuple (n.phs.map dQ)) rfl)) da_nil) rc_lenT).cast (by rw [List.length_map])) da_nil) (by omega)
  · have hk := List.mem_range.mp hk
    exact dt_not (dt_B (de_call (da_cons (de_var rfl) (da_cons (de_call (da_cons (de_var rfl) (da_cons (de_var rfl) (da_cons (de_var rfl) da_nil))) ⟨n, m, k, rfl, hn, hm, hk, rfl⟩) (da_cons (de_op (de_var rfl) de_int (rd_ixT (d := .int n.h) rfl)) (da_cons (de_op (de_var rfl) de_int (rd_ixT (d := dQ m.1) rfl)) da_nil)))) ⟨b, lineQ n m (n.phs.getD k 0), n.h, m.1, rfl, hb, hm.z1.mono (by decide), rfl⟩))
/-! _law_phases -/
abbrev s_law_phases : Stmt := topS 73
abbrev n_law_phases : List Str := ["_law_bar_so", "_law_lead_so", "_law_own"]
theorem sc_law_phases : FnScope n_law_phases ["_law_bar_so", "_law_lead_so"] (defScope s_law_phases) := ⟨rfl, rfl, rfl, by decide +kernel, rfl, by decide +kernel, by decide +kernel⟩
def Pre_law_phases (ds : List PyData) (d : PyData) : Prop := ∃ b lead, ds = [dBar b, dQ lead] ∧ BOk b ∧ d = .list ((phsQ b lead).map dQ)
theorem ok_law_phases {M : Md} (bi : Bi M.mg) (F : DefAt M "_law_phases" s_law_phases)  : OkF M "_law_phases" ["_law_bar_so", "_law_lead_so"] 1 (spP M.K Pre_law_phases) := by
  refine okf_pure F sc_law_phases (fun _ _ _ _ _ _ us hl => match us, hl with | [_, _], _ => rfl) (fun ds d h => by obtain ⟨b, lead, rfl, hb, rfl⟩ := h; rfl) fun f cdv A outer s H E hr =>
    ⟨_, (pss_one (ps_ret (pe_callB (ksorted M.K M.P M.w) (by rfl) bi.sorted (by decide +kernel) (pa_cons (pe_callTy (kset M.K M.P M.w hr) (by rfl) bi.set (by decide +kernel) (pa_cons (pe_lc (own := [("_law_own", 2)]) rfl sc_law_phases.nd (piT M.K (pe_ix (kixT M.K) (pv 0) pe_int (fun _ _ => rfl))) (blkOk_by (N := n_law_phases) (sc := defScope s_law_phases) (by decide +kernel)) (fun _ _ _ _ _ => (pg_name (i := 2) sc_law_phases.nd rfl (by first | exact .inl rfl | exact .inr rfl))) (fun _ _ _ _ _ => (pts_one (pt_cmpR (keqD M.K hr) (pe_slice (kslT M.K) (pe_ix (kixT M.K) (pv 2) pe_int (fun _ _ => rfl)) po_none (po_some pe_int)) (pe_tup (pa_cons pe_str (pa_cons (pv 1) pa_nil))) (nomark _)))) (fun _ _ _ _ _ => (pe_ix (kixT M.K) (pe_ix (kixT M.K) (pv 2) pe_int (fun _ _ => rfl)) pe_int (fun _ _ => rfl)))) pa_nil)) pa_nil)))), fun ds d h => ?_⟩
  obtain ⟨b, lead, rfl, hb, rfl⟩ := h
  have k := fun {Pr : Program} {w : World} => de_sortsetQ (C := ⟨M.K, []⟩) (ρ := [.dat (dBar b), .dat (dQ lead), .un]) (Pr := Pr) (w := w) (qs := (b.gs.filter fun g => g.line.isL lead).map fun g => g.line.ph) 40 (te := tLc (iTup M.K (tOp (rIxT M.K) (tVar 0) (tC (.int 1)))) (gName 2) (tTest (tOp (rEqD M.K) (tSl (rSlA M.K) (tOp (rIxT M.K) (tVar 2) (tC (.int 0))) (fun _ H Q => Q none H) (tPart (tC (.int 2)))) (tTup (tCons (tC (.str "lead")) (tCons (tVar 1) tNil))))) (tOp (rIxT M.K) (tOp (rIxT M.K) (tVar 2) (tC (.int 0))) (tC (.int 2))) [2]) ?_ ?_ ?_
  · exact ds_retD k rfl
  · rw [List.map_map]
    refine de_lcF (js := [2]) b.gs dG (fun g => g.line.isL lead) (fun g => dQ g.line.ph) (dw_tup (de_op (de_var rfl) de_int (rd_ixT rfl))) (by have := hb.few; omega) inAll (plainR_un rfl plainR_nil) fun g hg => ⟨[dG g], gt_name, ?_, fun hg2 => ?_⟩
    · refine (dt_test (de_op (de_slT (ds := lineDs g.line) ((de_op (de_var rfl) de_int (rd_ixT rfl)).cast (line_ds g.line)) ox_none (ox_part de_int)) (de_tup (da_cons de_str (da_cons (de_var rfl) da_nil))) (rd_eqD (shp_cut g.line) shp_lead))).cast ?_
      rw [eqv_cut]
    · obtain ⟨l, p, e⟩ := isL_lead hg2
      refine de_op ((de_op (de_var rfl) de_int (rd_ixT (d := dLine g.line) rfl)).cast (line_ds g.line)) de_int (rd_ixT (d := dQ g.line.ph) ?_)
      rw [e]
      rfl
  · rw [List.length_map]
    have := List.length_filter_le (fun g => g.line.isL lead) b.gs
    have := hb.few
    omega
  · intro q hq
    obtain ⟨g, hg, rfl⟩ := List.mem_map.mp hq
    obtain ⟨h1, h2⟩ := List.mem_filter.mp hg
    obtain ⟨l, p, e⟩ := isL_lead h2
    have k := (hb.all g h1).line
    rw [e] at k ⊢
    exact ⟨k.2.2.2.1, k.2.1⟩
/-! _law_turn_for -/
abbrev s_law_turn_for : Stmt := topS 74
abbrev n_law_turn_for : List Str := ["_law_nut_so", "_law_phase_so", "_law_place_so", "_law_own"]
theorem sc_law_turn_for : FnScope n_law_turn_for ["_law_nut_so", "_law_phase_so", "_law_place_so"] (defScope s_law_turn_for) := ⟨rfl, rfl, rfl, by decide +kernel, rfl, by decide +kernel, by decide +kernel⟩
def Pre_law_turn_for (ds : List PyData) (d : PyData) : Prop := ∃ n ph place, ds = [dNut n, dQ ph, dQ place] ∧ NOk n ∧ Sz 40 ph ∧ Sz 40 place ∧ d = dQ (turnQ n place ph)
theorem ok_law_turn_for {M : Md} (bi : Bi M.mg) (F : DefAt M "_law_turn_for" s_law_turn_for) (F_law_less : OkF M "_law_less" ["_law_one_so", "_law_other_so"] 4 (spP M.K Pre_law_less)) (F_law_sum : OkF M "_law_sum" ["_law_one_so", "_law_other_so"] 3 (spP M.K Pre_law_sum)) (F_law_angle : OkF M "_law_angle" ["_law_one_so"] 1 (spP M.K Pre_law_angle)) (F_law_quot : OkF M "_law_quot" ["_law_one_so", "_law_other_so"] 3 (spP M.K Pre_law_quot)) : OkF M "_law_turn_for" ["_law_nut_so", "_law_phase_so", "_law_place_so"] 5 (spP M.K Pre_law_turn_for) := by
  refine okf_pure F sc_law_turn_for (fun _ _ _ _ _ _ us hl => match us, hl with | [_, _, _], _ => rfl) (fun ds d h => by obtain ⟨n, ph, place, rfl, hn, hp, hz, rfl⟩ := h; rfl) fun f cdv A outer s H E hr =>
    ⟨_, (pss_cons (ps_set (i := 3) sc_law_turn_for.nd rfl (.inl rfl) (pe_fn F_law_less (hr.mono (by decide)) (pa_cons (pe_fn F_law_sum (hr.mono (by decide)) (pa_cons (pe_ix (kixT M.K) (pe_ix (kixT M.K) (pv 0) pe_int (fun _ _ => rfl)) pe_int (fun _ _ => rfl)) (pa_cons (pv 2) pa_nil))) (pa_cons (pv 1) pa_nil))))
      (pss_one (ps_ret (pe_fn F_law_angle (hr.mono (by decide)) (pa_cons (pe_fn F_law_quot (hr.mono (by decide)) (pa_cons (pv 3) (pa_cons (pe_ix (kixT M.K) (pv 0) pe_int (fun _ _ => rfl)) pa_nil))) pa_nil))))), fun ds d h => ?_⟩
  obtain ⟨n, ph, place, rfl, hn, hp, hz, rfl⟩ := h
  obtain ⟨p0, ps, ep⟩ : ∃ p0 ps, n.phs = p0 :: ps := by
    cases h : n.phs with
    | nil => exact absurd h hn.ne
    | cons p ps => exact ⟨p, ps, rfl⟩
  have zp : Sz 40 p0 := hn.all p0 (by rw [ep]; exact List.mem_cons_self)
  have z1 := zp.add hz
  have z2 := z1.sub hp
  refine ds_seq (ds_asgD (d := dQ (p0 + place - ph)) (de_call (da_cons (de_call (da_cons (de_op (de_op (de_var rfl) de_int (rd_ixT (d := .tuple (n.phs.map dQ)) rfl)) de_int (rd_ixT (d := dQ p0) (by rw [ep]; exact atI_zero))) (da_cons (de_var rfl) da_nil)) ⟨p0, place, rfl, zp.mono (by decide), hz.mono (by decide), rfl⟩) (da_cons (de_var rfl) da_nil)) ⟨p0 + place, ph, rfl, z1.mono (by decide), hp.mono (by decide), rfl⟩) ?_)
  refine ds_retD (de_call (da_cons (de_call (da_cons (de_var rfl) (da_cons (de_op (de_var rfl) de_int (rd_ixT (d := dQ n.lead) rfl)) da_nil)) ⟨p0 + place - ph, n.lead, rfl, z2.mono (by decide), hn.z.mono (by decide), hn.l0, rfl⟩) da_nil) ⟨(p0 + place - ph) / n.lead, rfl, rfl⟩) ?_
  unfold turnQ
  rw [ep]
  rfl

theorem phs_szL {b : Bar} (hb : BOk b) (lead : Rat) : ∀ ph ∈ phsQ b lead, Sz 40 ph ∧ 0 ≤ ph ∧ ph < absQ lead := fun ph hph => by
  obtain ⟨g, hg, rfl⟩ := List.mem_map.mp (mem_canonQ.mp hph)
  obtain ⟨h1, h2⟩ := List.mem_filter.mp hg
  obtain ⟨l, p, e⟩ := isL_lead h2
  have k := (hb.all g h1).line
  rw [e] at k h2 ⊢
  have el : l = lead := of_decide_eq_true h2
  subst el
  exact ⟨k.2.1, k.2.2.2⟩
theorem phs_lenL {b : Bar} (hb : BOk b) (lead : Rat) : (phsQ b lead).length ≤ 16 := by
  refine Nat.le_trans (canonQ_len _) ?_
  rw [List.length_map]
  exact Nat.le_trans (List.length_filter_le _ _) hb.few
theorem turn_sz {n : Nut} (hn : NOk n) {place ph : Rat} (hz : Sz 40 place) (hp : Sz 40 ph) : Sz 162 (turnQ n place ph) ∧ 0 ≤ turnQ n place ph := by
  obtain ⟨p0, ps, ep⟩ : ∃ p0 ps, n.phs = p0 :: ps := by
    cases h : n.phs with
    | nil => exact absurd h hn.ne
    | cons p ps => exact ⟨p, ps, rfl⟩
  have zp : Sz 40 (n.phs.headD 0) := by
    rw [ep]
    exact hn.all p0 (by rw [ep]; exact List.mem_cons_self)
  exact ⟨(((zp.add hz).sub hp).div hn.z hn.l0).frac, frac_nonneg _⟩
/-! _law_ways -/
abbrev s_law_ways : Stmt := topS 81
abbrev n_law_ways : List Str := ["_law_bar_so", "_law_nut_so", "_law_place_so", "_law_turns_so", "_law_own"]
theorem sc_law_ways : FnScope n_law_ways ["_law_bar_so", "_law_nut_so", "_law_place_so"] (defScope s_law_ways) := ⟨rfl, rfl, rfl, by decide +kernel, rfl, by decide +kernel, by decide +kernel⟩
def Pre_law_ways (ds : List PyData) (d : PyData) : Prop := ∃ b n place, ds = [dBar b, dNut n, dQ place] ∧ BOk b ∧ NOk n ∧ Sz 40 place ∧ d = .tuple ((waysLQ b n place).map dQ)
theorem ok_law_ways {M : Md} (bi : Bi M.mg) (F : DefAt M "_law_ways" s_law_ways) (F_law_phases : OkF M "_law_phases" ["_law_bar_so", "_law_lead_so"] 1 (spP M.K Pre_law_phases)) (F_law_turn_for : OkF M "_law_turn_for" ["_law_nut_so", "_law_phase_so", "_law_place_so"] 5 (spP M.K Pre_law_turn_for)) (F_law_off : OkF M "_law_off" ["_law_bar_so", "_law_nut_so", "_law_motion_so"] 7 (spP M.K Pre_law_off)) : OkF M "_law_ways" ["_law_bar_so", "_law_nut_so", "_law_place_so"] 8 (spP M.K Pre_law_ways) := by
  refine okf_pure F sc_law_ways (fun _ _ _ _ _ _ us hl => match us, hl with | [_, _, _], _ => rfl) (fun ds d h => by obtain ⟨b, n, place, rfl, hb, hn, hz, rfl⟩ := h; rfl) fun f cdv A outer s H E hr =>
    ⟨_, (pss_cons (ps_setLc (i := 3) (own := [("_law_own", 4)]) rfl sc_law_ways.nd rfl rfl (sw_true rfl rfl rfl (by decide +kernel)) (piL M.K (pe_fn F_law_phases (hr.mono (by decide)) (pa_cons (pv 0) (pa_cons (pe_ix (kixT M.K) (pv 1) pe_int (fun _ _ => rfl)) pa_nil)))) (blkOk_by (N := n_law_ways) (sc := defScope s_law_ways) (by decide +kernel)) (fun _ _ _ _ _ => (pg_name (i := 4) sc_law_ways.nd rfl (by first | exact .inl rfl | exact .inr rfl))) (fun _ _ _ _ _ => pts_nil) (fun _ _ _ _ _ => (pe_fn F_law_turn_for (hr.mono (by decide)) (pa_cons (pv 1) (pa_cons (pv 4) (pa_cons (pv 2) pa_nil))))))
      (pss_one (ps_ret (pe_callTy (ktupOf M.K) (by rfl) bi.tuple (by decide +kernel) (pa_cons (pe_callB (ksorted M.K M.P M.w) (by rfl) bi.sorted (by decide +kernel) (pa_cons (pe_callTy (kset M.K M.P M.w hr) (by rfl) bi.set (by decide +kernel) (pa_cons (pe_lc (own := [("_law_own", 4)]) rfl sc_law_ways.nd (piL M.K (pv 3)) (blkOk_by (N := n_law_ways) (sc := defScope s_law_ways) (by decide +kernel)) (fun _ _ _ _ _ => (pg_name (i := 4) sc_law_ways.nd rfl (by first | exact .inl rfl | exact .inr rfl))) (fun _ _ _ _ _ => (pts_one (pt_cmpR (keqD M.K hr) (pe_fn F_law_off (hr.mono (by decide)) (pa_cons (pv 0) (pa_cons (pv 1) (pa_cons (pe_tup (pa_cons (pv 2) (pa_cons (pv 4) pa_nil))) pa_nil)))) (pe_tup pa_nil) (nomark _)))) (fun _ _ _ _ _ => (pv 4))) pa_nil)) pa_nil)) pa_nil))))), fun ds d h => ?_⟩
  obtain ⟨b, n, place, rfl, hb, hn, hz, rfl⟩ := h
  have hpl := phs_lenL hb n.lead
  refine ds_seq (ds_asgD (d := .list (((phsQ b n.lead).map (turnQ n place)).map dQ)) ?_ ?_)
  · rw [List.map_map]
    exact de_lcMM (js := [4]) (phsQ b n.lead) dQ (fun ph => dQ (turnQ n place ph)) (dw_list (de_call (da_cons (de_var rfl) (da_cons (de_op (de_var rfl) de_int (rd_ixT (d := dQ n.lead) rfl)) da_nil)) ⟨b, n.lead, rfl, hb, rfl⟩)) (by omega) inAll (plainR_un rfl plainR_nil) fun ph hph =>
      ⟨[dQ ph], gt_name, de_call (da_cons (de_var rfl) (da_cons (de_var rfl) (da_cons (de_var rfl) da_nil))) ⟨n, ph, place, rfl, hn, (phs_szL hb _ ph hph).1, hz, rfl⟩⟩
  have zt : ∀ a ∈ (phsQ b n.lead).map (turnQ n place), Sz 162 a ∧ 0 ≤ a := fun a ha => by
    obtain ⟨ph, hph, rfl⟩ := List.mem_map.mp ha
    exact turn_sz hn hz (phs_szL hb _ ph hph).1
  have lt : ((phsQ b n.lead).map (turnQ n place)).length ≤ 16 := by rw [List.length_map]; exact hpl
  have ew : waysLQ b n place = canonQ (((phsQ b n.lead).map (turnQ n place)).filter fun a => decide (offLQ b n (place, a) = [])) := rfl
  rw [ew]
  generalize (phsQ b n.lead).map (turnQ n place) = ts at *
  refine ds_retD (de_cb (da_cons (de_sortsetQ (qs := ts.filter fun a => decide (offLQ b n (place, a) = [])) 162 (de_lcF (js := [4]) ts dQ (fun a => decide (offLQ b n (place, a) = [])) dQ (dw_list (de_var rfl)) (by omega) inAll (plainR_un rfl plainR_nil) fun a ha => ⟨[dQ a], gt_name, ?_, fun _ => de_var rfl⟩) ?_ ?_) da_nil) rc_tupL) rfl
  · exact (dt_test (de_op (de_call (da_cons (de_var rfl) (da_cons (de_var rfl) (da_cons (de_tup (ds := [dQ place, dQ a]) (da_cons (de_var rfl) (da_cons (de_var rfl) da_nil))) da_nil))) ⟨b, n, (place, a), rfl, hb, hn, ⟨hz, (zt a ha).1.mono (by decide)⟩, rfl⟩) (de_tup da_nil) (rd_eqD (shp_ints _) rfl))).cast (eqv_nil _)
  · have := List.length_filter_le (fun a => decide (offLQ b n (place, a) = [])) ts
    omega
  · intro q hq
    have := zt q (List.mem_filter.mp hq).1
    exact ⟨this.2, this.1⟩
/-! _law_lead_line -/
abbrev s_law_lead_line : Stmt := topS 63
abbrev n_law_lead_line : List Str := ["_law_lead_so", "_law_place_so", "_law_angle_so"]
theorem sc_law_lead_line : FnScope n_law_lead_line ["_law_lead_so", "_law_place_so", "_law_angle_so"] (defScope s_law_lead_line) := ⟨rfl, rfl, rfl, by decide +kernel, rfl, by decide +kernel, by decide +kernel⟩
def Pre_law_lead_line (ds : List PyData) (d : PyData) : Prop := ∃ lead place a, ds = [dQ lead, dQ place, dQ a] ∧ Sz 100 lead ∧ lead ≠ 0 ∧ Sz 100 place ∧ Sz 100 a ∧ d = dLine (.lead lead (roundQ (place - lead * a) lead))
theorem ok_law_lead_line {M : Md} (bi : Bi M.mg) (F : DefAt M "_law_lead_line" s_law_lead_line) (F_law_round : OkF M "_law_round" ["_law_one_so", "_law_other_so"] 5 (spP M.K Pre_law_round)) (F_law_less : OkF M "_law_less" ["_law_one_so", "_law_other_so"] 4 (spP M.K Pre_law_less)) (F_law_prod : OkF M "_law_prod" ["_law_one_so", "_law_other_so"] 3 (spP M.K Pre_law_prod)) : OkF M "_law_lead_line" ["_law_lead_so", "_law_place_so", "_law_angle_so"] 6 (spP M.K Pre_law_lead_line) := by
  refine okf_pure F sc_law_lead_line (fun _ _ _ _ _ _ us hl => match us, hl with | [_, _, _], _ => rfl) (fun ds d h => by obtain ⟨lead, place, a, rfl, hl, h0, hp, ha, rfl⟩ := h; rfl) fun f cdv A outer s H E hr =>
    ⟨_, (pss_one (ps_ret (pe_tup (pa_cons pe_str (pa_cons (pv 0) (pa_cons (pe_fn F_law_round (hr.mono (by decide)) (pa_cons (pe_fn F_law_less (hr.mono (by decide)) (pa_cons (pv 1) (pa_cons (pe_fn F_law_prod (hr.mono (by decide)) (pa_cons (pv 0) (pa_cons (pv 2) pa_nil))) pa_nil))) (pa_cons (pv 0) pa_nil))) pa_nil)))))), fun ds d h => ?_⟩
  obtain ⟨lead, place, a, rfl, hl, h0, hp, ha, rfl⟩ := h
  have z1 := hl.mul ha
  have z2 := hp.sub z1
  exact ds_retD (de_tup (da_cons de_str (da_cons (de_var rfl) (da_cons (de_call (da_cons (de_call (da_cons (de_var rfl) (da_cons (de_call (da_cons (de_var rfl) (da_cons (de_var rfl) da_nil)) ⟨lead, a, rfl, hl.mono (by decide), ha.mono (by decide), rfl⟩) da_nil)) ⟨place, lead * a, rfl, hp.mono (by decide), z1.mono (by decide), rfl⟩) (da_cons (de_var rfl) da_nil)) ⟨place - lead * a, lead, rfl, z2.mono (by decide), hl.mono (by decide), h0, rfl⟩) da_nil)))) rfl
end SC
/-! Sets of tuples of any depth, with texts in them: what set() and sorted() make of them. -/
namespace NS
open PySem PySem.Spec PyProof.Rows L2
abbrev Row := Addr × NestedKey
section
variable {P : Program} {w : World} {A : Around} {E : Value → Shared → Prop} {s : Shared}
/-- the tuple of a row -/
def At (h : Heap) (p : Row) : Prop := NestedIs h p.2 (.ref p.1) ∧ p.2.depth ≤ 8
/-- not of a class statement / hashed by what it shows -/
def NoCls (P : Program) (w : World) (n : Nat) (s : Shared) (v : Value) : Prop := ∀ (A : Around) (E : Value → Shared → Prop) (Q : Bool → Shared → Prop), Q false s → wpAny (model P w) A (ofAClassStatement n v) Q E s
def HasBy (P : Program) (w : World) (n : Nat) (s : Shared) (v : Value) : Prop := ∀ (A : Around) (E : Value → Shared → Prop) (Q : Bool → Shared → Prop), (∀ b, Q b s) → wpAny (model P w) A (hashByValue n v) Q E s
theorem NoCls.flat {n : Nat} {v : Value} (h : ∀ a, v ≠ .ref a) : NoCls P w n s v := fun A E Q q => by
  cases v with
  | ref a => exact absurd rfl (h a)
  | _ => cases n <;> exact wpAny_pure q
theorem HasBy.flat {n : Nat} {v : Value} (h : ∀ a, v ≠ .ref a) : HasBy P w n s v := fun A E Q q => by
  cases v with
  | ref a => exact absurd rfl (h a)
  | _ => cases n <;> exact wpAny_pure (q _)
theorem NoCls.deep {n m : Nat} {a : Addr} {o : Obj} {vs : Array Value} (g : s.heap.get? a = some o) (c : o.cls = .type "tuple") (d : o.data = .seq vs m) (each : ∀ v ∈ vs.toList, NoCls P w n s v) : NoCls P w (n + 1) s (.ref a) := fun A E Q q => by
  have isT : s.TypeIs (.ref a) "tuple" := ⟨o, g, c⟩
  unfold ofAClassStatement
  refine wpAny_bind (wpAny_typeOf isT ?_); dsimp only
  have tt : (("tuple" : String) == "tuple") = true := by decide
  simp only [tt, if_true, Bool.not_true, Bool.false_eq_true, if_false]
  try refine wpAny_bind (wpAny_pure ?_); simp only [Bool.not_true, Bool.false_eq_true, if_false]
  show wpAny _ A (seqItems? (.ref a) >>= _) _ _ s
  refine wpAny_bind (wpAny_seqItems g d ?_); dsimp only
  refine wpAny_bind ?_
  show wpAny _ A (forIn vs _ _) _ _ s
  rw [← Array.forIn_toList]
  refine wpAny_forIn_list _ (fun left r u => r.1 = none ∧ u = s ∧ ∀ v ∈ left, NoCls P w n s v) _ ?_ ?_ _ _ ⟨rfl, rfl, each⟩
  · rintro v left r u ⟨z, rfl, all⟩
    refine wpAny_bind (all v List.mem_cons_self _ _ _ ?_); simp only [Bool.false_eq_true, if_false]
    exact wpAny_pure ⟨rfl, rfl, fun x hx => all x (List.mem_cons_of_mem _ hx)⟩
  · rintro ⟨r1, r2⟩ u ⟨z, rfl, _⟩
    simp only at z; subst z; exact wpAny_pure q
theorem HasBy.deep {n m : Nat} {a : Addr} {o : Obj} {vs : Array Value} (g : s.heap.get? a = some o) (c : o.cls = .type "tuple") (d : o.data = .seq vs m) (each : ∀ v ∈ vs.toList, HasBy P w n s v) : HasBy P w (n + 1) s (.ref a) := fun A E Q q => by
  have isT : s.TypeIs (.ref a) "tuple" := ⟨o, g, c⟩
  unfold hashByValue
  refine wpAny_bind (wpAny_specialOf isT F.slot_tuple_hash.lookup ?_)
  show wpAny _ A (seqItems? (.ref a) >>= _) _ _ s
  refine wpAny_bind (wpAny_seqItems g d ?_)
  refine wpAny_bind ?_
  show wpAny _ A (forIn vs _ _) _ _ s
  rw [← Array.forIn_toList]
  refine wpAny_forIn_list _ (fun left r u => (r.1 = none ∨ r.1 = some false) ∧ u = s ∧ ∀ v ∈ left, HasBy P w n s v) _ ?_ ?_ _ _ ⟨.inl rfl, rfl, each⟩
  · rintro v left r u ⟨z, rfl, all⟩
    refine wpAny_bind (all v List.mem_cons_self _ _ _ fun b => ?_)
    cases b with
    | true => simp only [Bool.not_true, Bool.false_eq_true, if_false]; exact wpAny_pure ⟨.inl rfl, rfl, fun x hx => all x (List.mem_cons_of_mem _ hx)⟩
    | false => simp only [Bool.not_false, if_true]; exact wpAny_pure (wpAny_pure (q false))
  · rintro ⟨r1, r2⟩ u ⟨z, rfl, _⟩
    simp only at z
    rcases z with z | z <;> subst z <;> exact wpAny_pure (q _)
mutual
theorem noCls_key : ∀ (k : NestedKey) (v : Value) (n : Nat) (s : Shared), NestedIs s.heap k v → k.depth ≤ n → NoCls P w n s v
  | .none, _, _, _, h, _ => by cases h; exact .flat fun _ z => nomatch z
  | .num _, _, _, _, h, _ => by cases h <;> exact .flat fun _ z => nomatch z
  | .text _, _, _, _, h, _ => by cases h; exact .flat fun _ z => nomatch z
  | .tup ks, _, 0, _, _, l => by simp only [NestedKey.depth] at l; omega
  | .tup ks, _, n + 1, s, h, l => by
    simp only [NestedKey.depth] at l
    cases h with
    | tup g c d each => exact .deep g c d (noCls_keys ks _ n s each (by omega))
theorem noCls_keys : ∀ (ks : List NestedKey) (vs : List Value) (n : Nat) (s : Shared), NestedAll s.heap ks vs → NestedKey.depthAll ks ≤ n → ∀ v ∈ vs, NoCls P w n s v
  | [], _, _, _, h, _, v, hv => by cases h; cases hv
  | k :: ks, _, n, s, h, l, v, hv => by
    simp only [NestedKey.depthAll] at l
    cases h with
    | cons h1 h2 => rcases List.mem_cons.mp hv with rfl | hv; exact noCls_key k _ n s h1 (by omega); exact noCls_keys ks _ n s h2 (by omega) v hv
end
mutual
theorem hasBy_key : ∀ (k : NestedKey) (v : Value) (n : Nat) (s : Shared), NestedIs s.heap k v → k.depth ≤ n → HasBy P w n s v
  | .none, _, _, _, h, _ => by cases h; exact .flat fun _ z => nomatch z
  | .num _, _, _, _, h, _ => by cases h <;> exact .flat fun _ z => nomatch z
  | .text _, _, _, _, h, _ => by cases h; exact .flat fun _ z => nomatch z
  | .tup ks, _, 0, _, _, l => by simp only [NestedKey.depth] at l; omega
  | .tup ks, _, n + 1, s, h, l => by
    simp only [NestedKey.depth] at l
    cases h with
    | tup g c d each => exact .deep g c d (hasBy_keys ks _ n s each (by omega))
theorem hasBy_keys : ∀ (ks : List NestedKey) (vs : List Value) (n : Nat) (s : Shared), NestedAll s.heap ks vs → NestedKey.depthAll ks ≤ n → ∀ v ∈ vs, HasBy P w n s v
  | [], _, _, _, h, _, v, hv => by cases h; cases hv
  | k :: ks, _, n, s, h, l, v, hv => by
    simp only [NestedKey.depthAll] at l
    cases h with
    | cons h1 h2 => rcases List.mem_cons.mp hv with rfl | hv; exact hasBy_key k _ n s h1 (by omega); exact hasBy_keys ks _ n s h2 (by omega) v hv
end
/-- nobody sees a search -/
theorem unseen {p : Row} {Q : Bool → Shared → Prop} (hp : At s.heap p) {ys : List Value} (hy : ∀ y ∈ ys, ∃ r : Row, y = Value.ref r.1 ∧ At s.heap r) (h : Q false s) : wpAny (model P w) A (searchCouldBeSeen (.ref p.1) ys) Q E s := by
  unfold searchCouldBeSeen
  refine wpAny_bind ?_
  refine wpAny_forIn_list _ (fun left r u => r.1 = none ∧ u = s ∧ ∀ y ∈ left, ∃ r : Row, y = Value.ref r.1 ∧ At s.heap r) _ ?_ ?_ _ _ ⟨rfl, rfl, hy⟩
  · rintro v left r u ⟨z, rfl, all⟩
    obtain ⟨r0, rfl, a0⟩ := all v List.mem_cons_self
    have left' : ∀ y ∈ left, ∃ r : Row, y = Value.ref r.1 ∧ At u.heap r := fun x hx => all x (List.mem_cons_of_mem _ hx)
    dsimp only
    by_cases same : (p.1 == r0.1 || (carriedByValue (.ref p.1) && carriedByValue (.ref r0.1))) = true
    · exact wp_if_pos same (wpAny_pure ⟨rfl, rfl, left'⟩)
    · refine wp_if_neg same (wpAny_bind (quiet_key _ _ 8 _ hp.1 hp.2 _ _ _ ?_)); simp only [Bool.not_true, Bool.false_eq_true, if_false]
      refine wpAny_bind (quiet_key _ _ 8 _ a0.1 a0.2 _ _ _ ?_); simp only [Bool.not_true, Bool.false_eq_true, if_false]
      refine wpAny_bind (noCls_key _ _ 8 _ hp.1 hp.2 _ _ _ ?_); simp only [Bool.false_eq_true, if_false]
      refine wpAny_bind (noCls_key _ _ 8 _ a0.1 a0.2 _ _ _ ?_); simp only [Bool.false_eq_true, if_false]
      exact wpAny_pure ⟨rfl, rfl, left'⟩
  · rintro ⟨r1, r2⟩ u ⟨z, rfl, _⟩
    simp only at z; subst z; exact wpAny_pure h
end
end NS
/-! The set itself: searching. -/
namespace NS
open PySem PySem.Spec PyProof.Rows L2
/-- a row's hash, what the table keeps of the rows -/
abbrev hR (w : World) (p : Row) : Int := p.2.hash w
def kept (w : World) (L : List Row) : List (Int × Value) := L.map fun p => (hR w p, Value.ref p.1)
structure NSet (w : World) (h : Heap) (a : Addr) (L : List Row) (es : Array (Int × Value)) (ep : Nat) (t : SetTable) : Prop where
  at_ : ∃ o, h.get? a = some o ∧ o.ExactSet ∧ o.data = .set es ep t
  rows : es.toList = kept w L
  tab : TabOk t (L.map (hR w))
  nd : (L.map (·.2)).Nodup
  tup : ∀ p ∈ L, At h p
  led : w.params.followText "set-order" = true ∨ t.led = true
  room : L.length * 5 < t.mask * 3
  few : L.length < 64
theorem kept_len {w : World} {L : List Row} {es : Array (Int × Value)} (e : es.toList = kept w L) : es.size = L.length := by
  rw [← Array.length_toList, e]; exact List.length_map _
theorem kept_at {w : World} {L : List Row} {es : Array (Int × Value)} (e : es.toList = kept w L) {i : Nat} {p : Row} (h : L[i]? = some p) : es[i]? = some (hR w p, Value.ref p.1) := by
  rw [← Array.getElem?_toList, e]; unfold kept; rw [List.getElem?_map, h]; rfl
section
variable {P : Program} {w : World} {A : Around} {E : Value → Shared → Prop} {s : Shared} {a : Addr} {L : List Row} {es : Array (Int × Value)} {ep : Nat} {t : SetTable}
theorem NSet.tsz (S : NSet w s.heap a L es ep t) : t.place.toList.length = L.length := by
  rw [Array.length_toList, S.tab.sz]; exact List.length_map _
theorem fits_of (e1 : t.place.size = es.size) (e2 : t.dummies = #[]) (l : es.size ≤ t.mask) : t.fits es.size = true := by
  unfold SetTable.fits SetTable.fill
  rw [e2, Bool.and_eq_true, beq_iff_eq, decide_eq_true_eq]
  exact ⟨e1, by show t.place.size + 0 ≤ t.mask; omega⟩
theorem NSet.fits (S : NSet w s.heap a L es ep t) : t.fits es.size = true := by
  have e1 := kept_len S.rows; have e2 := S.tsz; have e3 := S.room; rw [Array.length_toList] at e2
  exact fits_of (by omega) S.tab.dm (by omega)
theorem NSet.stays (S : NSet w s.heap a L es ep t) : ¬ t.gaveWay = true := by
  unfold SetTable.gaveWay; rw [mask_odd S.tab.mok]; decide
/-- the c-th stand of a search for the hash h -/
abbrev stand (m : Nat) (h : Int) (c : Nat) : SetTable.Probe := nth m (runAt m (SetTable.bits h % (m + 1)) (SetTable.bits h)) c
theorem stand_on (m : Nat) (h : Int) (c q : Nat) : nth m (stand m h c) q = stand m h (c + q) := (nth_add m c _ q).symm
theorem nth_plain (m : Nat) : ∀ (n : Nat) (p : SetTable.Probe), p.dummy = none → (nth m p n).dummy = none
  | 0, _, h => h
  | n + 1, p, h => nth_plain m n (adv m p) (by unfold adv; split <;> exact h)
/-- from its c-th stand on, a search ends as it must; K is the first empty slot of its way -/
theorem seek (S : NSet w s.heap a L es ep t) {x : Row} (hx : At s.heap x) (u : A.units + 8 < cLine) {K : Nat} (lK : K < 10 * SetTable.turns t.mask) (free : way t.mask (hR w x) K ∉ t.place.toList)
    (full : ∀ c, c < K → way t.mask (hR w x) c ∈ t.place.toList) {Q : SetFound → Shared → Prop} (yes : x.2 ∈ L.map (·.2) → Q (.there none) s) (no : x.2 ∉ L.map (·.2) → Q (.free (way t.mask (hR w x) K) false) s) :
    ∀ (f c : Nat) (st : Option SetTable.Probe), st.getD (t.probeStart (hR w x)) = stand t.mask (hR w x) c → c ≤ K → K - c < f →
      (∀ (i : Nat) p, L[i]? = some p → p.2 = x.2 → ∃ c', c ≤ c' ∧ c' < K ∧ t.place.toList[i]? = some (way t.mask (hR w x) c')) → wpAny (model P w) A (setSearchFrom a (.ref x.1) (hR w x) true f st) Q E s
  | 0, _, _, _, _, l, _ => absurd l (Nat.not_lt_zero _)
  | f + 1, c, st, est, lc, lf, ahead => by
    obtain ⟨o, g, ex, d⟩ := S.at_
    have hash_at : ∀ (i : Nat) p, L[i]? = some p → (fun i => (es[i]?.map (·.1)).getD 0) i = hR w p := fun i p h => by show (es[i]?.map (·.1)).getD 0 = _; rw [kept_at S.rows h]; rfl
    have spot : ∀ q, (nth t.mask (stand t.mask (hR w x) c) q).j = way t.mask (hR w x) (c + q) := fun q => congrArg SetTable.Probe.j (stand_on t.mask (hR w x) c q)
    have toK : c + (K - c) = K := by omega
    rw [setSearchFrom_succ]
    refine wpAny_bind (wpAny_setState_of g d S.fits ?_); dsimp only
    refine wp_if_neg S.stays ?_
    try refine wpAny_bind (wpAny_pure ?_)
    rcases go_spec t S.tab.ris S.tab.dm (fun i => (es[i]?.map (·.1)).getD 0) (hR w x) (10 * SetTable.turns t.mask) (K - c) (stand t.mask (hR w x) c) (nth_plain _ c _ rfl) (by omega) (fun q l => by rw [spot]; exact full (c + q) (by omega)) (by rw [spot, toK]; exact free) with ⟨q, i, lq, pi, _, before, met⟩ | ⟨before, met⟩
    · have met' : t.probe (fun i => (es[i]?.map (·.1)).getD 0) (hR w x) (st.getD (t.probeStart (hR w x))) = some (.candidate (way t.mask (hR w x) (c + q)) i (stand t.mask (hR w x) (c + (q + 1)))) := by
        rw [est, ← spot, ← stand_on]; exact met
      rw [met']; dsimp only
      rw [spot] at pi
      have li : i < L.length := by rw [← S.tsz]; exact (List.getElem?_eq_some_iff.mp pi).1
      obtain ⟨p, ep0⟩ : ∃ p, L[i]? = some p := ⟨_, List.getElem?_eq_getElem li⟩
      have inL : p ∈ L := List.mem_of_getElem? ep0
      have live : t.slot (way t.mask (hR w x) (c + q)) = .live i := slot_live S.tab.ris pi
      have further : wpAny (model P w) A (searchRest a (.ref x.1) (hR w x) true f es t (way t.mask (hR w x) (c + q)) i (stand t.mask (hR w x) (c + (q + 1)))) Q E s := by
        unfold searchRest
        rw [kept_at S.rows ep0]; dsimp only
        refine wpAny_bind (wpAny_holding ((nestedKind P w).eqBool u (S.tup p inL) hx ?_))
        refine wpAny_bind (wpAny_setState_of g d S.fits ?_); dsimp only
        by_cases same : p.2 = x.2
        · exact wp_if_pos (by simp [same]) (wpAny_pure (yes (List.mem_map.mpr ⟨p, inL, same⟩)))
        · refine wp_if_neg (by simp [same]) ?_
          try refine wpAny_bind (wpAny_pure ?_)
          rw [sameMem]; dsimp only
          simp only [if_true, live, kept_at S.rows ep0]
          refine wpAny_bind (wpAny_isSame_ref_self (wpAny_bind (wpAny_pure ?_))); simp only [if_true]
          refine wp_if_neg (by simp [same]) ?_
          refine seek S hx u lK free full yes no f (c + (q + 1)) _ rfl (by omega) (by omega) fun i0 p0 h0 k0 => ?_
          obtain ⟨c', a1, a2, a3⟩ := ahead i0 p0 h0 k0
          refine ⟨c', ?_, a2, a3⟩
          rcases Nat.lt_trichotomy c' (c + q) with z | z | z
          · exact absurd ((hash_at i0 p0 h0).trans (congrArg (NestedKey.hash w) k0)) (before (c' - c) i0 (by omega) (by rw [spot, show c + (c' - c) = c' by omega]; exact a3))
          · rw [z] at a3
            have l2 := slot_live S.tab.ris a3
            rw [live] at l2; injection l2 with l2
            rw [← l2, ep0] at h0
            exact absurd ((congrArg Prod.snd (Option.some.inj h0)).trans k0) same
          · omega
      by_cases l : t.led = true
      · refine wp_if_neg (by simp [l]) ?_
        try refine wpAny_bind (wpAny_pure ?_)
        exact further
      · refine wp_if_pos (by simp [l]) (wpAny_bind (unseen hx (fun y hy => ?_) ?_))
        · obtain ⟨e, he, rfl⟩ := List.mem_map.mp hy
          have he2 : e ∈ es.toList := by
            have z : e ∈ es ∧ e.1 = hR w x := by simpa using he
            simpa using z.1
          rw [S.rows] at he2
          obtain ⟨r, hr, rfl⟩ := List.mem_map.mp he2
          exact ⟨r, rfl, S.tup r hr⟩
        · refine wp_if_neg (by decide) ?_
          try refine wpAny_bind (wpAny_pure ?_)
          exact further
    · have met' : t.probe (fun i => (es[i]?.map (·.1)).getD 0) (hR w x) (st.getD (t.probeStart (hR w x))) = some (.empty (way t.mask (hR w x) K) none) := by
        have z := spot (K - c); rw [toK] at z
        rw [est, ← z]; exact met
      rw [met']; dsimp only
      refine wpAny_pure (no fun hm => ?_)
      obtain ⟨p0, m0, k0⟩ := List.mem_map.mp hm
      obtain ⟨i0, l0, e0⟩ := List.getElem_of_mem m0
      have h0 : L[i0]? = some p0 := by rw [List.getElem?_eq_getElem l0, e0]
      obtain ⟨c', a1, a2, a3⟩ := ahead i0 p0 h0 k0
      exact before (c' - c) i0 (by omega) (by rw [spot, show c + (c' - c) = c' by omega]; exact a3) ((hash_at i0 p0 h0).trans (congrArg (NestedKey.hash w) k0))
/-- the search that adding asks for -/
theorem seek_all (S : NSet w s.heap a L es ep t) {x : Row} (hx : At s.heap x) (u : A.units + 8 < cLine) {Q : SetFound → Shared → Prop} (yes : x.2 ∈ L.map (·.2) → Q (.there none) s)
    (no : ∀ K, x.2 ∉ L.map (·.2) → way t.mask (hR w x) K ∉ t.place.toList → (∀ c, c < K → way t.mask (hR w x) c ∈ t.place.toList) → Q (.free (way t.mask (hR w x) K) false) s) : wpAny (model P w) A (setSearch a (.ref x.1) (hR w x) true) Q E s := by
  have rm := S.room
  obtain ⟨K, lK, free, full⟩ := S.tab.first (by rw [List.length_map]; omega) (hR w x)
  have small : K < 100000 := by
    have z : 10 * SetTable.turns t.mask ≤ 1420 := by unfold SetTable.turns; rcases S.tab.mok with e | e | e <;> omega
    omega
  unfold setSearch
  refine seek S hx u lK free full yes (fun n => no K n free full) 100000 0 none rfl (Nat.zero_le _) (by omega) fun i p hp hk => ?_
  have hi : (L.map (hR w))[i]? = some (hR w x) := by rw [List.getElem?_map, hp]; show some (NestedKey.hash w p.2) = _; rw [hk]
  have li : i < t.place.toList.length := by rw [S.tsz]; exact (List.getElem?_eq_some_iff.mp hp).1
  obtain ⟨c, lc, e⟩ := S.tab.before free hi (List.getElem?_eq_getElem li)
  exact ⟨c, Nat.zero_le _, lc, by rw [List.getElem?_eq_getElem li, e]⟩
end
end NS
/-! The set itself: adding. -/
namespace NS
open PySem PySem.Spec PyProof.Rows L2
section
variable {P : Program} {w : World} {A : Around} {E : Value → Shared → Prop} {s : Shared} {a : Addr} {L : List Row} {es : Array (Int × Value)} {ep : Nat} {t : SetTable}
theorem At.but {h h' : Heap} {p : Row} {a : Addr} {o : Obj} {es : Array (Int × Value)} {ep : Nat} {t : SetTable} (x : At h p) (g : h.get? a = some o) (d : o.data = .set es ep t) (b : Heap.SameBut a h h') : At h' p :=
  ⟨NestedIs.at (fun c o' vs n e1 e2 => (b.2 c fun z => by subst z; rw [g] at e1; cases e1; rw [d] at e2; cases e2).trans e1) _ _ x.1, x.2⟩
theorem At.keeps {h h' : Heap} {p : Row} (x : At h p) (k : ∀ c o, h.get? c = some o → h'.get? c = some o) : At h' p := ⟨NestedIs.at (fun c o _ _ e _ => k c o e) _ _ x.1, x.2⟩
/-- what a new order of the rows keeps -/
theorem reorder (w : World) (L : List Row) (es : Array (Int × Value)) (order : Array Nat) (e : es.toList = kept w L) (pm : order.toList.Perm (List.range L.length)) :
    ∃ L2, (order.filterMap (es[·]?)).toList = kept w L2 ∧ L2.Perm L ∧ L2.map (hR w) = order.toList.map fun i => (es.map (·.1)).getD i 0 := by
  have one : ∀ l : List Nat, (∀ i ∈ l, i < L.length) → l.filterMap (fun i => es[i]?) = kept w (l.filterMap fun i => L[i]?) ∧ (l.filterMap fun i => L[i]?).map (hR w) = l.map fun i => (es.map (·.1)).getD i 0 := by
    intro l; induction l with
    | nil => intro _; exact ⟨rfl, rfl⟩
    | cons i l ih =>
      intro hl
      have li := hl i List.mem_cons_self
      obtain ⟨e1, e2⟩ := ih fun j hj => hl j (List.mem_cons_of_mem _ hj)
      have eL : L[i]? = some L[i] := List.getElem?_eq_getElem li
      have eE := kept_at e eL
      have eH : (es.map (·.1)).getD i 0 = hR w L[i] := by rw [Array.getD_eq_getD_getElem?, Array.getElem?_map, eE]; rfl
      rw [List.filterMap_cons_some eE, List.filterMap_cons_some eL, List.map_cons, List.map_cons, e1, e2, eH]
      exact ⟨rfl, rfl⟩
  obtain ⟨e1, e2⟩ := one order.toList fun i hi => List.mem_range.mp (pm.mem_iff.mp hi)
  refine ⟨_, by first | (rw [Array.toList_filterMap]; exact e1) | simpa using e1, ?_, e2⟩
  have all : ∀ n, n ≤ L.length → (List.range n).filterMap (fun i => L[i]?) = L.take n := by
    intro n; induction n with
    | zero => intro _; rfl
    | succ n ih =>
      intro hn
      have eN : L[n]? = some L[n] := List.getElem?_eq_getElem hn
      rw [List.range_succ, List.filterMap_append, ih (by omega), List.take_succ, eN, List.filterMap_cons_some eN]; rfl
  have z := pm.filterMap fun i => L[i]?
  rw [all L.length (Nat.le_refl _), List.take_length] at z
  exact z
/-- a larger table -/
theorem widen {o : Obj} (g : s.heap.get? a = some o) (ex : o.ExactSet) (d : o.data = .set es ep t) (rows : es.toList = kept w L) (psz : t.place.size = es.size) (nodm : t.dummies = #[]) (lm : es.size ≤ t.mask) (nd : (L.map (·.2)).Nodup) (tup : ∀ p ∈ L, At s.heap p)
    (ld : w.params.followText "set-order" = true ∨ t.led = true) (few : L.length < 64) {wanted M : Nat} (eM : SetTable.sizeAbove wanted - 1 = M) (okM : MaskOk M) (le : SetTable.sizeAbove wanted ≤ 128) (lr : L.length * 5 < M * 3) {Q : Unit → Shared → Prop}
    (q : ∀ h' L' es' ep' t', Heap.SameBut a s.heap h' → NSet w h' a L' es' ep' t' → L'.Perm L → Q () { s with heap := h' }) : wpAny (model P w) A (setRelay a wanted) Q E s := by
  have n1 := kept_len rows
  obtain ⟨t', order, e, pm, T, e1, e2, _, _⟩ := relaid_ok t (hs := es.map (·.1)) (wanted := wanted) eM okM (by rw [Array.size_map, n1]; omega)
  rw [Array.size_map, n1] at pm
  obtain ⟨L2, r1, r2, r3⟩ := reorder w L es order rows pm
  rw [← r3] at T
  have n2 : (order.filterMap (es[·]?)).size = es.size := by rw [kept_len r1, r2.length_eq, n1]
  rw [setRelay_eq]
  refine wpAny_bind (wpAny_setState_of g d (fits_of psz nodm lm) ?_); dsimp only
  refine wp_if_neg (by rw [sizeLine_eq]; omega) ?_
  try refine wpAny_bind (wpAny_pure ?_)
  rw [e]; dsimp only
  refine wpAny_bind (wp_if_neg (by rw [n2]; simp) ?_)
  try refine wpAny_bind (wpAny_pure ?_)
  refine wpAny_pure ?_; dsimp only
  refine wpAny_storeSet_of g d ?_ (by rw [n2, n1, sizeLine_eq]; omega)
  have but : Heap.SameBut a s.heap (s.heap.update a (Obj.putSet (order.filterMap (es[·]?)) t')) := Heap.SameBut.update ..
  exact q _ L2 (order.filterMap (es[·]?)) (ep + 1) t' but ⟨⟨_, store_at g d, ⟨ex.1, ex.2.1, ex.2.2⟩, rfl⟩, r1, T, (r2.map (·.2)).nodup_iff.mpr nd, fun p hp => (tup p (r2.mem_iff.mp hp)).but g d but, by rw [e2]; exact ld, by rw [r2.length_eq, e1]; exact lr, by rw [r2.length_eq]; exact few⟩ r2
/-- adding one -/
theorem put_in (S : NSet w s.heap a L es ep t) {x : Row} (hx : At s.heap x) (u : A.units + 8 < cLine) (few : L.length + 1 < 64) {Q : Bool → Shared → Prop}
    (q : ∀ b h' L' es' ep' t', Heap.SameBut a s.heap h' → NSet w h' a L' es' ep' t' → (x.2 ∈ L.map (·.2) → L' = L) → (x.2 ∉ L.map (·.2) → L'.Perm (x :: L)) → Q b { s with heap := h' }) : wpAny (model P w) A (setAddHashed a (.ref x.1) (hR w x)) Q E s := by
  obtain ⟨o, g, ex, d⟩ := S.at_
  have n1 := kept_len S.rows
  have rm := S.room
  unfold setAddHashed
  refine wpAny_holding ?_
  rw [show (100000 : Nat) = 99999 + 1 from rfl, setAddHashedIn_succ]
  refine wpAny_bind (wpAny_setState_of g d S.fits ?_); dsimp only
  refine wp_if_neg (by simp [byScan, Value.scannable]) ?_
  try refine wpAny_bind (wpAny_pure ?_)
  refine wpAny_bind (seek_all S hx u (fun hm => ?_) fun K hm free full => ?_)
  · exact wpAny_pure (q false s.heap L es ep t (Heap.SameBut.refl a s.heap) S (fun _ => rfl) fun z => absurd hm z)
  · dsimp only
    refine wpAny_bind (wpAny_setState_of g d S.fits ?_); dsimp only
    obtain ⟨c1, c2, c3, c4, c5, _, _, _, c9⟩ := S.tab.put free full
    generalize t.put (way t.mask (hR w x) K) = tp at c1 c3 c4 c5 c9 ⊢
    obtain ⟨t1, p⟩ := tp
    dsimp only at c1 c3 c4 c5 c9 ⊢
    subst c1
    have rows1 : (SetTable.insertAt es (SetTable.below t.place (way t.mask (hR w x) K)) (hR w x, Value.ref x.1)).toList = kept w (L.take (SetTable.below t.place (way t.mask (hR w x) K)) ++ x :: L.drop (SetTable.below t.place (way t.mask (hR w x) K))) := by
      rw [SetTable.toList_insertAt, S.rows]; unfold kept; rw [List.map_append, List.map_cons, List.map_take, List.map_drop]
    generalize SetTable.below t.place (way t.mask (hR w x) K) = p at c2 c3 rows1 ⊢
    have pm := put_perm L p x
    have n2 : (L.take p ++ x :: L.drop p).length = L.length + 1 := pm.length_eq
    rw [← List.map_take, ← List.map_drop, ← List.map_cons, ← List.map_append] at c3
    generalize L.take p ++ x :: L.drop p = L1 at pm n2 c3 rows1
    have nd1 : (L1.map (·.2)).Nodup := (pm.map (·.2)).nodup_iff.mpr (by rw [List.map_cons]; exact List.nodup_cons.mpr ⟨hm, S.nd⟩)
    have n3 := kept_len rows1
    generalize SetTable.insertAt es p (hR w x, Value.ref x.1) = es1 at rows1 n3 ⊢
    have last : ∀ t2 : SetTable, t2.place = t1.place → t2.dummies = t1.dummies → t2.mask = t1.mask → t2.led = t1.led →
        wpAny (model P w) A (do storeSet a es1 t2; (if (!false && t2.tooFull) = true then (do setRelay a (SetTable.grown (es.size + 1)); pure true) else pure true)) Q E s := by
      intro t2 f1 f2 f3 f4
      obtain ⟨mk, pl, du, fi, le, mv, pn⟩ := t2
      obtain ⟨mk1, pl1, du1, fi1, le1, mv1, pn1⟩ := t1
      dsimp only at f1 f2 f3 f4
      subst f1; subst f2; subst f3; subst f4
      have T2 : TabOk (SetTable.mk mk pl du fi le mv pn) (L1.map (hR w)) := ⟨c3.ris, c3.dm, c3.sz, c3.mok, c3.bd, c3.reach⟩
      have fill2 : (SetTable.mk mk pl du fi le mv pn).fill = (L.map (hR w)).length + 1 := c9
      have m2 : mk = t.mask := c4
      have l2 : le = t.led := c5
      refine wpAny_bind (wpAny_storeSet_of g d ?_ (by rw [n3, n2, sizeLine_eq]; omega))
      have but : Heap.SameBut a s.heap (s.heap.update a (Obj.putSet es1 (SetTable.mk mk pl du fi le mv pn))) := Heap.SameBut.update ..
      have g1 := store_at (es' := es1) (t' := SetTable.mk mk pl du fi le mv pn) g d
      generalize s.heap.update a (Obj.putSet es1 (SetTable.mk mk pl du fi le mv pn)) = h1 at but g1 ⊢
      have tup1 : ∀ p ∈ L1, At h1 p := fun p hp => by
        rcases List.mem_cons.mp (pm.mem_iff.mp hp) with rfl | hp
        · exact hx.but g d but
        · exact (S.tup p hp).but g d but
      have ld1 : w.params.followText "set-order" = true ∨ (SetTable.mk mk pl du fi le mv pn).led = true := by show _ ∨ le = true; rw [l2]; exact S.led
      rw [List.length_map] at fill2
      by_cases over : (SetTable.mk mk pl du fi le mv pn).tooFull = true
      · refine wp_if_pos (by rw [over]; rfl) (wpAny_bind ?_)
        have big : (L.length + 1) * 5 ≥ t.mask * 3 := by
          have z := over; unfold SetTable.tooFull at z
          rw [decide_eq_true_eq, fill2] at z
          rw [← m2]; exact z
        have two : (t.mask = 7 ∧ L.length = 4) ∨ (t.mask = 31 ∧ L.length = 18) := by
          rcases S.tab.mok with e | e | e <;> rw [e] at big rm
          · exact .inl ⟨e, by omega⟩
          · exact .inr ⟨e, by omega⟩
          · omega
        have go : ∀ M, SetTable.sizeAbove (SetTable.grown (L.length + 1)) - 1 = M → MaskOk M → SetTable.sizeAbove (SetTable.grown (L.length + 1)) ≤ 128 → (L.length + 1) * 5 < M * 3 →
            wpAny (model P w) A (setRelay a (SetTable.grown (es.size + 1))) (fun _ s' => wpAny (model P w) A (pure true) Q E s') E { s with heap := h1 } := fun M b1 b2 b3 b4 => by
          rw [n1]
          refine widen (s := { s with heap := h1 }) g1 ⟨ex.1, ex.2.1, ex.2.2⟩ rfl rows1 (by rw [T2.sz, List.length_map, n3]) T2.dm (by show es1.size ≤ mk; rw [n3, n2, m2]; rcases two with ⟨e, z⟩ | ⟨e, z⟩ <;> omega) nd1 tup1 ld1 (by rw [n2]; exact few) b1 b2 b3 (by rw [n2]; exact b4) fun h2 L2 es2 ep2 t2 but2 S2 pm2 => ?_
          exact wpAny_pure (q true h2 L2 es2 ep2 t2 (but.trans but2) S2 (fun z => absurd z hm) fun _ => pm2.trans pm)
        rcases two with ⟨_, z⟩ | ⟨_, z⟩
        · exact go 31 (by rw [z, size_20]) (.inr (.inl rfl)) (by rw [z, size_20]; decide) (by omega)
        · exact go 127 (by rw [z, size_76]) (.inr (.inr rfl)) (by rw [z, size_76]; decide) (by omega)
      · refine wp_if_neg (by simp [over]) ?_
        refine wpAny_pure (q true h1 L1 es1 (ep + 1) _ but ⟨⟨_, g1, ⟨ex.1, ex.2.1, ex.2.2⟩, rfl⟩, rows1, T2, nd1, tup1, ld1, ?_, by rw [n2]; exact few⟩ (fun z => absurd z hm) fun _ => pm)
        have z := over; unfold SetTable.tooFull at z
        rw [decide_eq_true_eq, fill2] at z
        rw [n2]
        show (L.length + 1) * 5 < mk * 3
        have z : ¬ (L.length + 1) * 5 ≥ mk * 3 := z
        omega
    by_cases pl : t1.plain = true
    · first
        | (refine wpAny_bind ?_; refine wp_if_pos pl ?_; refine hasBy_key _ _ 8 _ hx.1 hx.2 _ _ _ fun b => ?_)
        | refine wp_if_pos pl (wpAny_bind (hasBy_key _ _ 8 _ hx.1 hx.2 _ _ _ fun b => ?_))
      cases b with
      | true => simp only [if_true]; exact last t1 rfl rfl rfl rfl
      | false => simp only [Bool.false_eq_true, if_false]; exact last { t1 with plain := false } rfl rfl rfl rfl
    · first
        | (refine wpAny_bind ?_; refine wp_if_neg pl ?_; refine wpAny_pure ?_)
        | refine wp_if_neg pl (wpAny_bind (wpAny_pure ?_))
      simp only [if_true]
      exact last t1 rfl rfl rfl rfl
end
end NS
/-! The set itself: set(xs). -/
namespace NS
open PySem PySem.Spec PyProof.Rows L2
/-- of the first i rows the set has each key once -/
structure Has (ks : List Row) (i : Nat) (L : List Row) : Prop where
  sub : ∀ p ∈ L, p ∈ ks.take i
  all : ∀ p ∈ ks.take i, p.2 ∈ L.map (·.2)
  len : L.length ≤ i
theorem Has.in_ {ks L : List Row} {i : Nat} (g : Has ks i L) : ∀ p ∈ L, p ∈ ks := fun p hp => List.mem_of_mem_take (g.sub p hp)
theorem Has.next {ks L L' : List Row} {i : Nat} {x : Row} (g : Has ks i L) (h : ks[i]? = some x) (c1 : x.2 ∈ L.map (·.2) → L' = L) (c2 : x.2 ∉ L.map (·.2) → L'.Perm (x :: L)) : Has ks (i + 1) L' := by
  have tk := take_next h
  have inT : ∀ p, p ∈ ks.take (i + 1) ↔ p ∈ ks.take i ∨ p = x := fun p => by rw [tk, List.mem_append, List.mem_singleton]
  rcases Classical.em (x.2 ∈ L.map (·.2)) with c | c
  · rw [c1 c]
    refine ⟨fun p hp => (inT p).2 (.inl (g.sub p hp)), fun p hp => ?_, Nat.le_succ_of_le g.len⟩
    rcases (inT p).1 hp with z | rfl
    · exact g.all p z
    · exact c
  · have pm := c2 c
    refine ⟨fun p hp => ?_, fun p hp => ?_, by rw [pm.length_eq, List.length_cons]; exact Nat.succ_le_succ g.len⟩
    · rcases List.mem_cons.mp (pm.mem_iff.mp hp) with z | z
      · exact (inT p).2 (.inr z)
      · exact (inT p).2 (.inl (g.sub p z))
    · rw [(pm.map (·.2)).mem_iff, List.map_cons]
      rcases (inT p).1 hp with z | rfl
      · exact List.mem_cons_of_mem _ (g.all p z)
      · exact List.mem_cons_self
section
variable {P : Program} {w : World} {A : Around} {E : Value → Shared → Prop} {s : Shared}
theorem NSet.on {h h' : Heap} {a : Addr} {L : List Row} {es : Array (Int × Value)} {ep : Nat} {t : SetTable} (S : NSet w h a L es ep t) (k : ∀ o, h.get? a = some o → h'.get? a = some o) (tup : ∀ p ∈ L, At h' p) : NSet w h' a L es ep t := by
  obtain ⟨o, g, r⟩ := S.at_
  exact ⟨⟨o, k o g, r⟩, S.rows, S.tab, S.nd, tup, S.led, S.room, S.few⟩
/-- a set as it is made -/
abbrev set0 (w : World) : Obj := { cls := .type "set", dict := none, data := .set #[] 0 (.fresh 0 0 (!w.params.followText "set-order")) }
theorem NSet.first {h : Heap} {a : Addr} (g : h.get? a = some (set0 w)) : NSet w h a [] #[] 0 (.fresh 0 0 (!w.params.followText "set-order")) where
  at_ := ⟨_, g, ⟨rfl, rfl, rfl⟩, rfl⟩
  rows := rfl
  tab := ⟨List.Pairwise.nil, rfl, rfl, .inl rfl, fun x hx => (nomatch hx), fun i h j hi => (by simp at hi)⟩
  nd := .nil
  tup := fun p hp => nomatch hp
  led := by cases w.params.followText "set-order"; exact .inr rfl; exact .inl rfl
  room := show 0 * 5 < 7 * 3 by decide
  few := show 0 < 64 by decide
/-- the loop of set.update -/
theorem filled {I : Addr} {fp wr : List Addr} {G : Array GenState → Array GenState → Prop} {n : Nat} {Pv : Nat → Value → Prop} {St : Nat → Shared → Prop} {R : Result → Shared → Prop} (W : WalksS P w A.in1 I fp wr G n Pv St) (D : Addr) (nfp : D ∉ fp) (ks : List Row) (en : n = ks.length)
    (few : ks.length < 64) (vals : ∀ i v, Pv i v → ∃ p, ks[i]? = some p ∧ v = .ref p.1) (h0 : Heap) (tup : ∀ p ∈ ks, At h0 p) (newD : h0.get? D = none) (newW : ∀ b ∈ wr, h0.get? b = none) (u : A.in1.units + 8 < cLine) :
    ∀ (k i : Nat) (s : Shared), n - i = k → i ≤ n → St i s → (∀ b o, h0.get? b = some o → s.heap.get? b = some o) → (∃ L es ep t, NSet w s.heap D L es ep t ∧ Has ks i L) →
      (∀ s' L es ep t, Moved (D :: wr) G s s' → NSet w s'.heap D L es ep t → Has ks n L → (∀ b o, h0.get? b = some o → s'.heap.get? b = some o) → R (.ok (.ret .none)) s') → codeAny (model P w) A (.builtin "set.update.loop" ⟨[.ref D, .ref I], []⟩) R s := by
  have nwr : D ∉ wr := fun z => nfp (W.sub _ z)
  have wider : ∀ b ∈ wr, b ∈ D :: wr := fun b hb => List.mem_cons_of_mem _ hb
  have keepsM : ∀ {s s' : Shared}, Moved wr G s s' → (∀ b o, h0.get? b = some o → s.heap.get? b = some o) → ∀ b o, h0.get? b = some o → s'.heap.get? b = some o := fun m k b o e => m.heap b o (fun z => by rw [newW b z] at e; cases e) (k b o e)
  intro k
  induction k with
  | zero =>
    intro i s z hi st kp ⟨L, es, ep, t, S, g⟩ fin
    obtain rfl : i = n := by omega
    refine codeAny_builtin F.entry_set_update_loop ?_; rw [Around.under_plainId F.plain_set_update_loop _]
    show wpAny _ A.in1 (pyNext (.ref I) >>= _) _ _ s
    refine wpAny_bind (W.done s _ _ st fun s' m => ?_)
    exact wpAny_pure (fin s' L es ep t (m.mono wider) (S.on (fun o e => m.heap D o nwr e) fun p hp => (tup p (g.in_ p hp)).keeps (keepsM m kp)) g (keepsM m kp))
  | succ k ih =>
    intro i s z hi st kp ⟨L, es, ep, t, S, g⟩ fin
    have lt : i < n := by omega
    refine codeAny_builtin F.entry_set_update_loop ?_; rw [Around.under_plainId F.plain_set_update_loop _]
    show wpAny _ A.in1 (pyNext (.ref I) >>= _) _ _ s
    refine wpAny_bind (W.item i s _ _ lt st fun v s' pv st' m => ?_)
    obtain ⟨p, ep0, rfl⟩ := vals i v pv
    have kp' := keepsM m kp
    have S' : NSet w s'.heap D L es ep t := S.on (fun o e => m.heap D o nwr e) fun q hq => (tup q (g.in_ q hq)).keeps kp'
    have hx : At s'.heap p := (tup p (List.mem_of_getElem? ep0)).keeps kp'
    show wpAny _ A.in1 (holding [Value.ref p.1] (setAdd D (.ref p.1)) >>= _) _ _ s'
    refine wpAny_bind (wpAny_holding ?_); unfold setAdd
    refine wpAny_holding (wpAny_bind ((nestedKind P w).pyHash u hx ?_))
    refine put_in (s := { s' with toks := s'.toks + p.2.draws }) S' hx u (by have := g.len; omega) fun b h' L' es' ep' t' but S2 c1 c2 => ?_
    have kp2 : ∀ b o, h0.get? b = some o → h'.get? b = some o := fun b o e => (but.2 b fun z => by rw [z, newD] at e; cases e).trans (kp' b o e)
    refine wpAny_pure ⟨plainId_quiet F.plain_set_update_loop _, ih (i + 1) _ (by omega) lt (W.frame _ s' _ _ st' (Nat.le_add_right _ _) fun b hb o e => ?_) kp2 ⟨L', es', ep', t', S2, g.next ep0 c1 c2⟩ fun s'' L2 es2 ep2 t2 m2 S3 g2 kp3 => ?_⟩
    · rw [but.2 b fun z : b = D => nfp (by rw [← z]; exact hb)]; exact e
    · refine fin s'' L2 es2 ep2 t2 (Moved.trans W.gtrans ((m.mono wider).then_heap (Nat.le_add_right _ _) fun b o hb e => ?_) m2) S3 g2 kp3
      rw [but.2 b fun z : b = D => hb (by rw [z]; exact List.mem_cons_self)]; exact e
/-- set(xs), xs a list of such tuples -/
theorem call_set {l : Addr} {items : Array Value} (ks : List Row) {Q : Value → Shared → Prop} (hh : A.handled = none) (hl : s.heap.IsList l items) (hit : items.toList = ks.map fun p => Value.ref p.1) (tup : ∀ p ∈ ks, At s.heap p) (few : ks.length < 64) (u : A.units + 16 < cLine)
    (h : ∀ (h' : Heap) (tk : Nat) L es ep t, NSet w h' s.heap.objs.size L es ep t → Has ks ks.length L → (∀ b o, s.heap.get? b = some o → h'.get? b = some o) → Q (.ref s.heap.objs.size) { s with heap := h', toks := tk }) : wpAny (model P w) A (call (.type "set") [.ref l]) Q E s := by
  have isz : items.size = ks.length := by rw [← Array.length_toList, hit]; exact List.length_map _
  obtain ⟨c, tl, hmro⟩ := F.called_set.mro
  have hmade := F.called_set.made; have hsub := F.called_set.sub
  refine wpAny_call (codeAny_of_tree ?_)
  show wpAny _ _ (callAny (.type "set") _) _ _ s
  refine wpAny_pure ⟨Code.quiet_builtin _ (by decide +kernel), codeAny_builtin F.entry_type_call ?_⟩; rw [Around.under_plain (weight_type_call_type "set" [.ref l] []) rfl]
  have h1 := F.called_set.notType; have h2 := F.called_set.canCreate; have hct := F.typeCall_set_1 (.ref l)
  repeat (any_goals (first | assumption | wp_step))
  refine codeAny_mono (code_set_led1 (.ref l) (E := E) (Q₁ := fun obj s₁ => obj = .ref s.heap.objs.size ∧ s₁ = { s with heap := s.heap.push (set0 w) }) ⟨rfl, rfl⟩) fun r s₁ hr => ?_
  cases r with
  | error e => exact hr
  | ok fl =>
    cases fl with
    | ret obj =>
      obtain ⟨rfl, rfl⟩ := hr
      have gS : (s.heap.push (set0 w)).get? s.heap.objs.size = some (set0 w) := Heap.get?_push_size _ rfl
      have hT : Shared.TypeIs { s with heap := s.heap.push (set0 w) } (.ref s.heap.objs.size) "set" := ⟨_, gS, rfl⟩
      have hli := F.called_set.init.lookup; have hbi := F.called_set.init.bind (.ref s.heap.objs.size)
      repeat (any_goals (first | assumption | wp_step))
      refine codeAny_mono (codeAny_call_builtin (R := wants (fun r s₂ => r = .none ∧ ∃ h' tk L es ep t, s₂ = { s with heap := h', toks := tk } ∧ NSet w h' s.heap.objs.size L es ep t ∧ Has ks ks.length L ∧ (∀ b o, s.heap.get? b = some o → h'.get? b = some o)) E) F.called_set.init.plain F.entry_set_init (check_set_init_1 hT ?_)) fun r₂ s₂ hr₂ => ?_
      · obtain ⟨ol, hol, hcl, nl, hdl⟩ := hl
        obtain ⟨ocls, odict, odata, oslots⟩ := ol
        simp only at hcl hdl; subst hcl; subst hdl
        have hol' : (s.heap.push (set0 w)).get? l = some { cls := .type "list", dict := odict, data := .seq items nl, slots := oslots } := Heap.get?_push_of_some _ hol
        have hsls := F.sub_list_set; have hslf := F.sub_list_frozenset
        have hne : (Value.type "list" == Value.type "dict") = false := by decide
        have hl1 : (s.heap.push (set0 w)).IsList l items := ⟨_, hol', rfl, nl, rfl⟩
        unfold Builtin.«set.__init__» noKeywords Builtin.Frozenset.updateFrom
        generalize hPI : pyIter = PI
        wp_walk
        subst hPI
        refine wpAny_pyIter_list hl1 (wpAny_bind (wpAny_runValue ?_))
        have ltl : l < s.heap.objs.size := Heap.lt_size hol
        have sz1 : (s.heap.push (set0 w)).objs.size = s.heap.objs.size + 1 := Heap.size_push ..
        have h3 : A.in1.in1.in1.handled = none := by simp [hh]
        have neI : l ≠ (s.heap.push (set0 w)).objs.size := by rw [sz1]; exact Nat.ne_of_lt (Nat.lt_succ_of_lt ltl)
        have nfp : s.heap.objs.size ∉ [(s.heap.push (set0 w)).objs.size, l] := by rw [sz1]; simp only [List.mem_cons, List.not_mem_nil, or_false, not_or]; exact ⟨Nat.ne_of_lt (Nat.lt_succ_self _), Nat.ne_of_gt ltl⟩
        have vals : ∀ (i : Nat) (v : Value), items[i]? = some v → ∃ p, ks[i]? = some p ∧ v = .ref p.1 := fun i v hv => by
          rw [← Array.getElem?_toList, hit, List.getElem?_map] at hv
          obtain ⟨p, e1, e2⟩ := Option.map_eq_some_iff.mp hv
          exact ⟨p, e1, e2.symm⟩
        have fresh : ∀ b, s.heap.objs.size ≤ b → s.heap.get? b = none := fun b hb => by
          cases z : s.heap.get? b with
          | none => rfl
          | some o => exact absurd (Nat.lt_of_lt_of_le (Heap.lt_size z) hb) (Nat.lt_irrefl _)
        refine filled ((Walks.list h3 _ l neI items).toS) s.heap.objs.size nfp ks isz few vals s.heap tup (fresh _ (Nat.le_refl _)) (fun b hb => fresh b (by rw [List.mem_singleton.mp hb, sz1]; exact Nat.le_succ _)) (by simp only [Around.in1_units] at *; omega) (items.size - 0) 0 _ (by omega) (Nat.zero_le _)
          ⟨⟨_, Heap.get?_push_size _ rfl, rfl, rfl⟩, hl1.push _⟩ (fun b o e => Heap.get?_push_of_some _ (Heap.get?_push_of_some _ e)) ?_ ?_
        · exact ⟨[], #[], 0, _, NSet.first (Heap.get?_push_of_some _ gS), ⟨fun p z => (nomatch z), fun p z => (by simp at z), Nat.le_refl _⟩⟩
        · intro s' L es ep t m S g k
          obtain ⟨h', g2, d', tk', os'⟩ := s'
          obtain rfl : g2 = s.gens := m.gens
          obtain rfl : d' = s.drawn := m.drawn
          obtain rfl : os' = s.os := m.os
          show wpAny _ _ _ _ _ _
          refine wpAny_pure ?_
          show wpAny _ _ (ret Value.none) _ _ _
          rw [isz] at g
          exact wpAny_pure ⟨rfl, h', tk', L, es, ep, t, rfl, S, g, k⟩
      · cases r₂ with
        | error e => exact hr₂
        | ok fl₂ =>
          cases fl₂ with
          | ret r =>
            obtain ⟨rfl, h', tk, L, es, ep, t, rfl, S, g, k⟩ := hr₂
            repeat (any_goals (first | assumption | wp_step))
            exact h _ _ _ _ _ _ S g k
          | _ => exact hr₂.elim
    | _ => exact hr.elim
end
end NS
/-! The set itself: sorted(set). -/
namespace NS
open PySem PySem.Spec PyProof.Rows L2
section
variable {P : Program} {w : World} {A : Around} {E : Value → Shared → Prop} {s : Shared} {a : Addr} {L : List Row} {es : Array (Int × Value)} {ep : Nat} {t : SetTable}
/-- values that are rows' tuples are the tuples of some rows -/
theorem rows_of_vals : ∀ {vs : List Value}, (∀ v ∈ vs, ∃ q ∈ L, v = Value.ref q.1) → ∃ L1 : List Row, vs = L1.map (fun q => Value.ref q.1) ∧ ∀ q ∈ L1, q ∈ L
  | [], _ => ⟨[], rfl, fun q hq => nomatch hq⟩
  | v :: vs, hv => by
    obtain ⟨q, hq, e⟩ := hv v List.mem_cons_self
    obtain ⟨L1, e1, sub⟩ := rows_of_vals (vs := vs) fun u hu => hv u (List.mem_cons_of_mem _ hu)
    refine ⟨q :: L1, by rw [List.map_cons, e, e1], fun r hr => ?_⟩
    rcases List.mem_cons.mp hr with rfl | hr
    · exact hq
    · exact sub r hr
theorem each_refs : ∀ (L1 : List Row), PySem.W.EachIs (fun (v : Value) (p : Row) => v = Value.ref p.1) (L1.map fun q => Value.ref q.1) L1
  | [] => .nil
  | p :: r => .cons rfl (each_refs r)
theorem refs_each : ∀ {vs : List Value} {L1 : List Row}, PySem.W.EachIs (fun (v : Value) (p : Row) => v = Value.ref p.1) vs L1 → vs = L1.map fun q => Value.ref q.1
  | _, _, .nil => rfl
  | _, _, .cons e r => by rw [e, refs_each r]; rfl
theorem each_reads {h : Heap} {b : Addr} : ∀ {L1 : List Row}, (∀ p ∈ L1, Reads h (.ref p.1) p.2.data []) → PySem.W.EachIs (fun v (p : Row) => ∃ as, Reads h v p.2.data as ∧ b ∉ as) (L1.map fun q => Value.ref q.1) L1
  | [], _ => .nil
  | p :: r, k => .cons ⟨[], k p List.mem_cons_self, by simp⟩ (each_reads fun q hq => k q (List.mem_cons_of_mem _ hq))
/-- sorted(set) -/
theorem call_sorted (S : NSet w s.heap a L es ep t) (hh : A.handled = none) (rd : ∀ p ∈ L, Reads s.heap (.ref p.1) p.2.data []) (al : W.AllAlike (L.map fun p => p.2.data)) (so : W.Sortable (L.map fun p => p.2.data)) (u : ∀ p ∈ L, A.units + 16 + p.2.data.depth < cLine) {Q : Value → Shared → Prop}
    (q : ∀ s' p (out : Array Value) (c : Nat) (L' : List Row), (∀ b o, s.heap.get? b = some o → s'.heap.get? b = some o) → s'.gens = s.gens → s'.os = s.os → s.heap.objs.size ≤ p → s'.heap.get? p = some (seqObj "list" out c) → out.toList = L'.map (fun q => Value.ref q.1) → (∀ q ∈ L', q ∈ L) → (∀ q ∈ L, q.2 ∈ L'.map (·.2)) → L'.length = L.length → Q (.ref p) s') :
    wpAny (model P w) A (call (.builtin "sorted") [.ref a]) Q E s := by
  obtain ⟨o, g, ex, d⟩ := S.at_
  have n1 := kept_len S.rows; have few := S.few
  refine Calls.call_function_entry kind_sorted plain_sorted entry_sorted (args_sorted1 _) ?_; unfold Builtin.«sorted»
  refine wpAny_bind (m := checkCount "sorted" 1 1 _) (wpAny_pure (wpAny_bind (collect_set (A := A.in1) hh ⟨o, g, ex.1, d⟩ S.fits (by unfold scanBound; omega) S.tab.ris S.led fun s1 vs k1 zs g1 o1 pm => ?_)))
  have e2 : es.toList.map (·.2) = L.map fun q => Value.ref q.1 := by rw [S.rows]; unfold kept; rw [List.map_map]; rfl
  rw [e2] at pm
  obtain ⟨L1, rfl, sub⟩ := rows_of_vals (L := L) (vs := vs) fun v hv => by
    obtain ⟨q, hq, e⟩ := List.mem_map.mp (pm.mem_iff.mp hv)
    exact ⟨q, hq, e.symm⟩
  have n2 : L1.length = L.length := by have z := pm.length_eq; rw [List.length_map, List.length_map] at z; exact z
  have all : ∀ q ∈ L, q.2 ∈ L1.map (·.2) := fun q hq => by
    obtain ⟨r, hr, e⟩ := List.mem_map.mp (pm.mem_iff.mpr (List.mem_map.mpr ⟨q, hq, rfl⟩))
    injection e with e
    have a1 := (S.tup q hq).1
    have a2 := (S.tup r (sub r hr)).1
    rw [e] at a2
    exact List.mem_map.mpr ⟨r, hr, NestedIs.inj _ _ _ a2 a1⟩
  have insub : ∀ x ∈ L1.map (fun p : Row => p.2.data), x ∈ L.map (fun p : Row => p.2.data) := fun x hx => by
    obtain ⟨r, hr, rfl⟩ := List.mem_map.mp hx
    exact List.mem_map.mpr ⟨r, sub r hr, rfl⟩
  have al1 : W.AllAlike (L1.map fun p => p.2.data) := fun x hx y hy => al x (insub x hx) y (insub y hy)
  have so1 : W.Sortable (L1.map fun p => p.2.data) := so.elim (fun z => .inl fun x hx => z x (insub x hx)) fun z => .inr fun x hx => z x (insub x hx)
  have n3 : (L1.map fun q => Value.ref q.1).length ≤ sizeLine := by rw [List.length_map, n2, sizeLine_eq]; omega
  refine wpAny_bind (wpAny_newList ?_ (by first | exact n3 | (rw [List.size_toArray]; exact n3)))
  have gL : (s1.heap.push (seqObj "list" (L1.map fun q => Value.ref q.1).toArray 0)).get? s1.heap.objs.size = some (seqObj "list" (L1.map fun q => Value.ref q.1).toArray 0) := Heap.get?_push_size _ rfl
  refine wpAny_bind (wpAny_holding (W.list_sort_data (s := { s1 with heap := s1.heap.push (seqObj "list" (L1.map fun q => Value.ref q.1).toArray 0) }) (bs := L1) (enc := fun p : Row => p.2.data) gL (each_refs L1)
    (each_reads fun p hp => PyProof.Rows.Reads.keeps (fun b o e => Heap.get?_push_of_some _ (k1 b o e)) (rd p (sub p hp))) al1 so1 (by rw [n2, sizeLine_eq]; omega) (fun p hp => ?_) fun out n4 he => ?_))
  · have z := u p (sub p hp)
    simp only [Around.in1_units] at *
    omega
  have eo := refs_each he
  have pmS : (L1.mergeSort (W.dataLe false fun p : Row => p.2.data)).Perm L1 := List.mergeSort_perm ..
  obtain ⟨c, hc⟩ := sortedHeap_at (vs := L1.map fun q => Value.ref q.1) (out := out.toArray) gL
  refine wpAny_pure ⟨_, rfl, q _ s1.heap.objs.size out.toArray c _ (fun b o' e => ?_) g1 o1 zs hc (by simpa using eo) (fun r hr => sub r (pmS.mem_iff.mp hr)) (fun r hr => (pmS.map (·.2)).mem_iff.mpr (all r hr)) (by rw [pmS.length_eq, n2])⟩
  have z := k1 b o' e
  have lt := Heap.lt_size z
  show (sortedHeap (s1.heap.push (seqObj "list" (L1.map fun q => Value.ref q.1).toArray 0)) s1.heap.objs.size (L1.map fun q => Value.ref q.1) out.toArray).get? b = some o'
  rw [sortedHeap_old (Nat.ne_of_lt lt) (by rw [size_push']; exact Nat.lt_succ_of_lt lt)]
  exact Heap.get?_push_of_some _ z
end
end NS
/-! sorted(set(grooves)) as a reading. -/
namespace SC
open PySem PySem.Spec PyProof.Rows L2 NS
/-! ### a datum in the heap, as a key -/
section
variable {X : Cx} {pins : List (Addr × Obj)} {σ : L2.St} {H : Hp} {s : Shared}
mutual
theorem key_is (I : Inv X pins σ H s) : ∀ (k : NestedKey) (v : V) (u : Value), Dp X.K H v k.data → RelV v u → NestedIs s.heap k u ∧ Reads s.heap u k.data []
  | .none, _, _, h, r => by
    cases dp_non h; cases r; exact ⟨.none, .none⟩
  | .num i, _, _, h, r => by
    cases dp_int h; obtain ⟨t, rfl⟩ := r; exact ⟨.int _ _, .int _ _⟩
  | .text x, v, _, h, r => by
    have e : v = .str x := by cases h; rfl
    subst e; obtain ⟨t, rfl⟩ := r; exact ⟨.text _ _, .str _ _⟩
  | .tup ks, _, _, h, r => by
    obtain ⟨a, xs, rfl, sq, ha⟩ := dp_tup h
    obtain rfl := r
    obtain ⟨its, rv, ⟨o, g, c, n, d⟩, _⟩ := I.tuple sq
    obtain ⟨q1, q2⟩ := keys_are I ks xs its ha rv
    exact ⟨.tup g c d (by simpa using q1), .tuple g c d (by simpa using q2)⟩
theorem keys_are (I : Inv X pins σ H s) : ∀ (ks : List NestedKey) (vs : List V) (us : List Value), DpAll X.K H vs (NestedKey.datas ks) → Vals vs us → NestedAll s.heap ks us ∧ ReadsAll s.heap us (NestedKey.datas ks) []
  | [], _, _, h, r => by
    cases h; cases r; exact ⟨.nil, .nil⟩
  | k :: ks, _, _, h, r => by
    cases h with
    | cons h1 h2 =>
      cases r with
      | cons r1 r2 =>
        obtain ⟨a1, b1⟩ := key_is I k _ _ h1 r1
        obtain ⟨a2, b2⟩ := keys_are I ks _ _ h2 r2
        exact ⟨.cons a1 a2, .cons b1 b2⟩
end
end
/-! ### the set's object -/
def NSet0 (w : World) (h : Heap) (a : Addr) (L : List NS.Row) : Prop := ∃ (es : Array (Int × Value)) (ep : Nat) (t : SetTable), (∃ o, h.get? a = some o ∧ o.ExactSet ∧ o.data = .set es ep t) ∧ es.toList = kept w L ∧ TabOk t (L.map (hR w)) ∧ (L.map (·.2)).Nodup ∧
  (w.params.followText "set-order" = true ∨ t.led = true) ∧ L.length * 5 < t.mask * 3 ∧ L.length < 64
def SetNO (w : World) (a : Addr) (L : List NS.Row) : HO := .ext fun h => NSet0 w h a L
theorem setNO_ok {P : Program} {w : World} {H : Hp} {h : Heap} {a : Addr} {L : List NS.Row} {es : Array (Int × Value)} {ep : Nat} {t : SetTable} (S : NSet w h a L es ep t) : ObjOk P w H h a (SetNO w a L) := by
  have ⟨o, g, r⟩ := S.at_
  refine ⟨⟨es, ep, t, S.at_, S.rows, S.tab, S.nd, S.led, S.room, S.few⟩, ⟨o, g⟩, fun h1 h2 p k => ?_⟩
  have ⟨es', ep', t', ⟨o', g', r'⟩, z⟩ := p
  exact ⟨es', ep', t', ⟨o', k o' g', r'⟩, z⟩
/-- the rows' tuples stand -/
def RowsAt (K : PySem.W.Frag) (H : Hp) (ks : List NS.Row) : Prop := ∀ p ∈ ks, Dp K H (.ref p.1) p.2.data ∧ p.2.depth ≤ 8
def rSetN (K : PySem.W.Frag) (P : Program) (w : World) : List V → Hp → VK → Prop := fun xs H Q => ∃ (l : Addr) (ks : List NS.Row), xs = [V.ref l] ∧ SqL K H l (ks.map fun p => V.ref p.1) ∧ RowsAt K H ks ∧ ks.length < 64 ∧
  ∀ a L, H a = none → (∀ p ∈ L, p ∈ ks) → L.length ≤ ks.length → Q (.ref a) (upd H a (SetNO w a L))
def rSortedN (K : PySem.W.Frag) (P : Program) (w : World) : List V → Hp → VK → Prop := fun vs H Q => ∃ (a : Addr) (L : List NS.Row), vs = [V.ref a] ∧ H a = some (SetNO w a L) ∧ RowsAt K H L ∧ PySem.W.AllAlike (L.map fun p => p.2.data) ∧ PySem.W.Sortable (L.map fun p => p.2.data) ∧ (∀ p ∈ L, p.2.data.depth ≤ 8) ∧
  ∀ (L' : List NS.Row) (p : Addr), (∀ q ∈ L', q ∈ L) → L'.length = L.length → H p = none → Q (.ref p) (upd H p (.lst (L'.map fun q => V.ref q.1)))
theorem vals_refs : ∀ {ks : List NS.Row} {us : List Value}, Vals (ks.map fun p => V.ref p.1) us → us = ks.map fun p => Value.ref p.1
  | [], _, .nil => rfl
  | p :: ks, _, .cons r t => by
    cases r; rw [vals_refs t]; rfl
theorem refs_vals : ∀ (ks : List NS.Row), Vals (ks.map fun p => V.ref p.1) (ks.map fun p => Value.ref p.1)
  | [] => .nil
  | p :: ks => .cons rfl (refs_vals ks)
theorem ksetN {X : Cx} (K : PySem.W.Frag) (P : Program) (w : World) {k : Nat} (hr : Room k X.A) (hc : X.calm = true := by rfl) (h : X.K = K := by rfl) (hP : X.prog = P := by rfl) (hw : X.w = w := by rfl) : CallR X (.type "set") (rSetN K P w) := by
  subst h hP hw
  intro pins s σ H xs us Q I r ⟨l, ks, e, sq, rows, few, q⟩
  subst e
  rw [Vals.ref1 r]
  obtain ⟨its, rv, pl, hz⟩ := I.list sq
  have room := hu65 hr
  refine call_set (P := X.prog) (w := X.w) ks (I.ok.hd hc) pl.isList (by simpa using vals_refs rv) (fun p hp => ⟨(key_is I p.2 (.ref p.1) (.ref p.1) (rows p hp).1 rfl).1, (rows p hp).2⟩) few (by omega) fun h' tk L es ep t S g kp => ?_
  exact ⟨.ref s.heap.objs.size, upd H s.heap.objs.size (SetNO X.w s.heap.objs.size L), I.laid (t' := tk) kp (Nat.le_refl _) (setNO_ok S), rfl, q _ L (I.hok.fresh (Nat.le_refl _)) g.in_ g.len⟩
theorem ksortedN {X : Cx} (K : PySem.W.Frag) (P : Program) (w : World) {k : Nat} (hr : Room k X.A) (hc : X.calm = true := by rfl) (h : X.K = K := by rfl) (hP : X.prog = P := by rfl) (hw : X.w = w := by rfl) : CallR X (.builtin "sorted") (rSortedN K P w) := by
  subst h hP hw
  intro pins s σ H vs us Q I r ⟨a, L, e, ha, rows, al, so, dep, q⟩
  subst e
  have R0 : NSet0 X.w s.heap a L := (I.hok a _ ha).1
  obtain ⟨es, ep, t, h1, h2, h3, h4, h5, h6, h7⟩ := R0
  have key := fun (p : NS.Row) (hp : p ∈ L) => key_is I p.2 (.ref p.1) (.ref p.1) (rows p hp).1 rfl
  have S : NSet X.w s.heap a L es ep t := ⟨h1, h2, h3, h4, fun p hp => ⟨(key p hp).1, (rows p hp).2⟩, h5, h6, h7⟩
  rw [Vals.ref1 r]
  have room := hu65 hr
  refine call_sorted (P := X.prog) S (I.ok.hd hc) (fun p hp => (key p hp).2) al so (fun p hp => by have := dep p hp; omega) fun s' p out c L' kp g o hp hg hout sub _ len => ?_
  have n1 : (L'.map fun q => V.ref q.1).length ≤ sizeLine := by rw [List.length_map, sizeLine_eq]; omega
  have hn : H p = none := I.hok.fresh hp
  have hv : Vals (L'.map fun q => V.ref q.1) out.toList := by rw [hout]; exact refs_vals L'
  have J : Inv X pins σ (upd H p (.lst (L'.map fun q => V.ref q.1))) { s with heap := s'.heap, gens := s'.gens, drawn := s'.drawn, toks := s'.toks } := I.call (ch := []) (Un.laid kp hp hn) (I.hok.laid kp hp ⟨n1, out.toList, c, hv, hg⟩) (by rw [g]; exact I.bare) (fun _ z => nomatch z)
  have e : s' = { s with heap := s'.heap, gens := s'.gens, drawn := s'.drawn, toks := s'.toks } := by cases s'; cases s; cases o; rfl
  rw [e]
  exact ⟨.ref p, _, J, rfl, q L' p sub len hn⟩
/-! ### grooves as keys -/
def kQ (q : Rat) : NestedKey := .tup [.num q.num, .num (q.den : Int)]
def kLine : Line → NestedKey
  | .ring p => .tup [.text "ring", kQ p]
  | .flute p => .tup [.text "flute", kQ p]
  | .lead l p => .tup [.text "lead", kQ l, kQ p]
def kG (g : Groove) : NestedKey := .tup [kLine g.line, kQ g.s, kQ g.e, .num g.dep]
theorem kG_data (g : Groove) : (kG g).data = dG g := by
  obtain ⟨l, a, b, d⟩ := g
  cases l <;> rfl
theorem kG_depth (g : Groove) : (kG g).depth ≤ 8 := by
  obtain ⟨l, a, b, d⟩ := g
  cases l <;> simp [kG, kLine, kQ, NestedKey.depth, NestedKey.depthAll]
theorem dG_depth (g : Groove) : (dG g).depth ≤ 8 := by
  obtain ⟨l, a, b, d⟩ := g
  cases l <;> simp [dG, dLine, dQ, PyData.depth, PyData.depthAll]
theorem dG_alike (g g' : Groove) : PySem.W.alike (dG g) (dG g') = true := by
  obtain ⟨l, a, b, d⟩ := g
  obtain ⟨l', a', b', d'⟩ := g'
  cases l <;> cases l' <;> simp [dG, dLine, dQ, PySem.W.alike, PySem.W.alikeAll]
theorem rows_in {K : PySem.W.Frag} {G : Hp} : ∀ {gs : List Groove} {xs : List V}, DpAll K G xs (gs.map dG) → ∃ ks : List NS.Row, xs = ks.map (fun p => V.ref p.1) ∧ ks.length = gs.length ∧ ∀ p ∈ ks, Dp K G (.ref p.1) p.2.data ∧ ∃ g ∈ gs, p.2 = kG g
  | [], _, .nil => ⟨[], rfl, rfl, fun p hp => nomatch hp⟩
  | g :: gs, _, .cons h t => by
    obtain ⟨ks, rfl, e2, e3⟩ := rows_in t
    obtain ⟨a, xs, rfl, _, _⟩ := dp_tup (show Dp K G _ (.tuple _) from h)
    refine ⟨(a, kG g) :: ks, rfl, congrArg Nat.succ e2, fun p hp => ?_⟩
    rcases List.mem_cons.mp hp with rfl | hp
    · exact ⟨by rw [kG_data]; exact h, g, List.mem_cons_self, rfl⟩
    · obtain ⟨z, g', hg, e⟩ := e3 p hp
      exact ⟨z, g', List.mem_cons_of_mem _ hg, e⟩
theorem rows_out {K : PySem.W.Frag} {G : Hp} {gs : List Groove} : ∀ {L : List NS.Row}, (∀ p ∈ L, Dp K G (.ref p.1) p.2.data ∧ ∃ g ∈ gs, p.2 = kG g) → ∃ gs' : List Groove, DpAll K G (L.map fun p => V.ref p.1) (gs'.map dG) ∧ gs'.length = L.length ∧ ∀ g ∈ gs', g ∈ gs
  | [], _ => ⟨[], .nil, rfl, fun g hg => nomatch hg⟩
  | p :: L, h => by
    obtain ⟨gs', e1, e2, e3⟩ := rows_out (L := L) fun q hq => h q (List.mem_cons_of_mem _ hq)
    obtain ⟨z, g, hg, e⟩ := h p List.mem_cons_self
    rw [e, kG_data] at z
    refine ⟨g :: gs', .cons z e1, congrArg Nat.succ e2, fun x hx => ?_⟩
    rcases List.mem_cons.mp hx with rfl | hx
    · exact hg
    · exact e3 x hx
theorem dx_sortsetG {C : Cn} {ρ : Rho} {te : TE} {Pr : Program} {w : World} {P : PyData → Rho → Prop} {gs : List Groove} (h : DE C te ρ (.list (gs.map dG))) (hl : gs.length < 64) (k : ∀ gs' : List Groove, (∀ g ∈ gs', g ∈ gs) → gs'.length ≤ gs.length → P (.list (gs'.map dG)) ρ) :
    DX C (tCB (rSortedN C.K Pr w) (tCons (tCB (rSetN C.K Pr w) (tCons te tNil)) tNil)) ρ P := fun B G H σ o Q q => by
  refine h B G H σ o _ fun v d ρ1 G1 H1 p o1 s1 dv => ?_
  obtain ⟨rfl, rfl⟩ := p
  obtain ⟨l, xs, rfl, sq, ha⟩ := dp_lst dv
  obtain ⟨ks, rfl, e2, e3⟩ := rows_in ha
  refine ⟨l, ks, rfl, o1.gh.seq sq, fun p hp => ⟨dp_up o1.gh (e3 p hp).1, ?_⟩, by omega, fun a L na sub len => ?_⟩
  · obtain ⟨_, g, _, e⟩ := e3 p hp
    rw [e]; exact kG_depth g
  obtain ⟨o2, s2⟩ := o1.newx (o := SetNO w a L) na
  have ex2 := Ext.new (o := SetNO w a L) o1.gh na
  have inL : ∀ p ∈ L, Dp C.K (upd G1 a (SetNO w a L)) (.ref p.1) p.2.data ∧ ∃ g ∈ gs, p.2 = kG g := fun p hp => ⟨dp_up ex2.g (e3 p (sub p hp)).1, (e3 p (sub p hp)).2⟩
  have dat : ∀ x ∈ L.map (fun p : NS.Row => p.2.data), ∃ g, x = dG g := fun x hx => by
    obtain ⟨p, hp, rfl⟩ := List.mem_map.mp hx
    obtain ⟨_, g, _, e⟩ := inL p hp
    exact ⟨g, by rw [e, kG_data]⟩
  refine ⟨a, L, rfl, upd_same, fun p hp => ⟨dp_up o2.gh (inL p hp).1, ?_⟩, fun x hx y hy => ?_, .inl fun x hx => ?_, fun p hp => ?_, fun L' p sub' len' np => ?_⟩
  · obtain ⟨_, g, _, e⟩ := inL p hp
    rw [e]; exact kG_depth g
  · obtain ⟨g, rfl⟩ := dat x hx
    obtain ⟨g', rfl⟩ := dat y hy
    exact dG_alike g g'
  · obtain ⟨g, rfl⟩ := dat x hx
    exact ⟨_, _, rfl⟩
  · obtain ⟨_, g, _, e⟩ := inL p hp
    rw [e, kG_data]; exact dG_depth g
  obtain ⟨gs', f1, f2, f3⟩ := rows_out (L := L') fun r hr => inL r (sub' r hr)
  obtain ⟨o3, s3⟩ := o2.newx (o := .lst (L'.map fun q => V.ref q.1)) np
  have ex3 := Ext.new (o := .lst (L'.map fun q => V.ref q.1)) o2.gh np
  exact q _ _ _ _ _ (k gs' f3 (by omega)) o3 ((s1.trans s2).trans s3) (.lst (.inl (.inl upd_same)) (dpall_up ex3.g f1))
end SC
namespace SC
open PySem PySem.Spec PyProof.Rows L2

section
variable {C : Cn} {ρ : Rho} {te ta : TE} {n : Nat} {P : PyData → Rho → Prop}
theorem dx_take {b : Nat} (h0 : ρ[0]? = some (.tin n)) (ht : DE C te ρ (.int (b : Int))) (hn : n + 1 ≤ 1000000) (hb : 0 < b) (hb2 : b < 2 ^ 40) (k : ∀ r : Nat, r < b → P (.int (r : Int)) (ρ.set 0 (.tin (n + 1)))) :
    DX C (tCall (spN C.K 1 pre_law_take post_law_take) [] E0 (tCons (tVar 0) (tCons te tNil))) ρ P := dx_draw h0 (ax_cons (ht.of (ax_nil ⟨n, h0, hn, ⟨b, rfl, hb, hb2⟩, fun d hd => by
  obtain ⟨r, hr, rfl⟩ := hd b rfl
  exact k r hr⟩)))
theorem dx_of {gs : List PyData} (h0 : ρ[0]? = some (.tin n)) (ht : DE C te ρ (.list gs)) (hn : n + 1 ≤ 1000000) (hg : gs ≠ []) (hg2 : gs.length ≤ 1000) (k : ∀ d ∈ gs, P d (ρ.set 0 (.tin (n + 1)))) :
    DX C (tCall (spN C.K 1 pre_law_of post_law_of) [] E0 (tCons (tVar 0) (tCons te tNil))) ρ P := dx_draw h0 (ax_cons (ht.of (ax_nil ⟨n, h0, hn, ⟨gs, rfl, hg, hg2⟩, fun d hd => k d (hd gs rfl)⟩)))
theorem de_lit (q : Rat) {a b : Int} (h : q.num = a ∧ (q.den : Int) = b := by decide +kernel) : DE C (tTup (tCons (tC (.int a)) (tCons (tC (.int b)) tNil))) ρ (dQ q) := (de_tup (da_cons de_int (da_cons de_int da_nil))).cast (by rw [← h.1, ← h.2]; rfl)
theorem rd_notN {d : PyData} : RD C (fun x y H Q => y = .non ∧ Q (.bl (decide (x ≠ .non))) H) d .none (.bool (!isNonD d)) := fun G H x y s dx dy Q q => by
  refine ⟨dp_non dy, ?_⟩
  rw [decide_not, dp_isNon dx]
  exact q _ G H (Ext.refl s) (.bl _)
end
theorem nn_divInt {r b : Nat} (hb : 0 < b) : 0 ≤ Rat.divInt (r : Int) (b : Int) := by
  rw [← Rat.num_nonneg, Rat.num_divInt]
  have h1 : (b : Int).sign = 1 := Int.sign_eq_one_of_pos (by omega)
  rw [h1]
  exact Int.ediv_nonneg (by omega) (by omega)
theorem sz_divInt {r b n : Nat} (hb : 0 < b) (h1 : r < 2 ^ n) (h2 : b < 2 ^ n) : Sz n (Rat.divInt (r : Int) (b : Int)) := by
  have s := divInt_small (r : Int) (b : Int) (by omega)
  simp only [Int.natAbs_natCast] at s
  exact ⟨by omega, by omega⟩
theorem lt1_divInt {r b : Nat} (hb : 0 < b) (h : r < b) : Rat.divInt (r : Int) (b : Int) < 1 := by
  rw [Rat.divInt_eq_div]
  refine (Rat.div_lt_iff (by exact_mod_cast hb)).mpr ?_
  have : ((r : Int) : Rat) < ((b : Int) : Rat) := Rat.intCast_lt_intCast.mpr (by omega)
  grind
def LineOk : Line → Prop
  | .ring p => Sz 40 p ∧ 0 ≤ p
  | .flute p => Sz 40 p
  | .lead l p => Sz 40 l ∧ Sz 15 p ∧ l ≠ 0 ∧ 0 ≤ p ∧ p < absQ l
theorem lead_ok {lead a : Rat} {n : Nat} (hl : Sz 3 lead) (h0 : lead ≠ 0) (ha : Sz n a) (hn : n ≤ 4) : LineOk (.lead lead (roundQ (0 - lead * a) lead)) := by
  obtain ⟨r0, r1⟩ := round_range (0 - lead * a) h0
  have z := (sz0.sub (hl.mul ha)).round2 hl h0
  exact ⟨hl.mono (by decide), z.mono (by omega), h0, r0, r1⟩
/-! _law_fraction -/
abbrev s_law_fraction : Stmt := topS 60
abbrev n_law_fraction : List Str := ["_law_tin", "_law_most_so", "_law_bottoms_so", "_law_bottom_so"]
theorem sc_law_fraction : FnScope n_law_fraction ["_law_tin", "_law_most_so", "_law_bottoms_so"] (defScope s_law_fraction) := ⟨rfl, rfl, rfl, by decide +kernel, rfl, by decide +kernel, by decide +kernel⟩
def pre_law_fraction (ds : List PyData) : Prop := ∃ (m : Nat) (bs : List Nat), ds = [.int (m : Int), .list (bs.map fun b : Nat => .int (b : Int))] ∧ bs ≠ [] ∧ bs.length ≤ 100 ∧ (∀ b ∈ bs, 1 ≤ b ∧ b ≤ 100) ∧ m ≤ 100
def post_law_fraction (ds : List PyData) (d : PyData) : Prop := ∃ q, d = dQ q ∧ 0 ≤ q ∧ Sz 40 q
theorem ok_law_fraction {M : Md} (bi : Bi M.mg) (F : DefAt M "_law_fraction" s_law_fraction) (F_law_of : OkF M "_law_of" ["_law_tin", "_law_goods_so"] 2 (spN M.K 1 pre_law_of post_law_of)) (F_law_part : OkF M "_law_part" ["_law_top_so", "_law_bottom_so"] 2 (spP M.K Pre_law_part)) (F_law_take : OkF M "_law_take" ["_law_tin", "_law_below_so"] 1 (spN M.K 1 pre_law_take post_law_take)) : OkF M "_law_fraction" ["_law_tin", "_law_most_so", "_law_bottoms_so"] 3 (spN M.K 2 pre_law_fraction post_law_fraction) := by
  refine okf_draw F sc_law_fraction (fun _ _ _ _ _ _ us hl => match us, hl with | [_, _, _], _ => rfl) (fun ds h => by obtain ⟨m, bs, rfl, h0, hl, hb, hm⟩ := h; rfl) fun f cdv A outer s H E hr =>
    ⟨_, (pss_cons (ps_set (i := 3) sc_law_fraction.nd rfl (.inl rfl) (pe_fn F_law_of (hr.mono (by decide)) (pa_cons (pv 0) (pa_cons (pv 2) pa_nil))))
      (pss_one (ps_ret (pe_fn F_law_part (hr.mono (by decide)) (pa_cons (pe_fn F_law_take (hr.mono (by decide)) (pa_cons (pv 0) (pa_cons (pe_op op_add (pe_op op_mulW (pv 1) (pv 3)) pe_int) pa_nil))) (pa_cons (pv 3) pa_nil)))))), fun n ds h hn => ?_⟩
  obtain ⟨m, bs, rfl, h0, hl, hb, hm⟩ := h
  refine ds_seq (ds_asg (dx_of (n := n) rfl (de_var (d := .list (bs.map fun b : Nat => .int (b : Int))) rfl) (by omega) (by simpa using h0) (by rw [List.length_map]; omega) fun d hd => ?_))
  obtain ⟨b, hbm, rfl⟩ := List.mem_map.mp hd
  obtain ⟨b1, b2⟩ := hb b hbm
  have hmb : m * b ≤ 10000 := Nat.mul_le_mul hm b2
  refine ds_ret (dx_call (ax_cons (dx_take (n := n + 1) (b := m * b + 1) rfl ((de_op (de_op (de_var (d := .int (m : Int)) rfl) (de_var (d := .int (b : Int)) rfl) (rd_I (wide_mul (a := 20) (b := 20) ?_ ?_ (by decide) (by decide) (by decide)))) de_int rd_I0).cast ?_) (by omega) (by omega) ?_ fun r hr => ax_cons ((de_var (d := .int (b : Int)) rfl).of (ax_nil ⟨_, ⟨(r : Int), (b : Int), rfl, by omega, ?_, rfl⟩, ⟨_, rfl, nn_divInt (by omega), sz_divInt (by omega) ?_ ?_⟩, n + 2, by omega, rfl⟩)))))
  · have : (2 : Nat) ^ 20 = 1048576 := by decide
    omega
  · have : (2 : Nat) ^ 20 = 1048576 := by decide
    omega
  · rfl
  · have : (2 : Nat) ^ 40 = 1099511627776 := by decide
    omega
  · rw [Int.natAbs_natCast]
    exact Nat.lt_of_lt_of_le (show b < 2 ^ 20 by have : (2 : Nat) ^ 20 = 1048576 := by decide
                                                 omega) (Nat.pow_le_pow_right (by decide) (by decide))
  · have : (2 : Nat) ^ 40 = 1099511627776 := by decide
    omega
  · have : (2 : Nat) ^ 40 = 1099511627776 := by decide
    omega
/-! _law_drawn_angle -/
abbrev s_law_drawn_angle : Stmt := topS 61
abbrev n_law_drawn_angle : List Str := ["_law_tin", "_law_bottom_so"]
theorem sc_law_drawn_angle : FnScope n_law_drawn_angle ["_law_tin"] (defScope s_law_drawn_angle) := ⟨rfl, rfl, rfl, by decide +kernel, rfl, by decide +kernel, by decide +kernel⟩
def pre_law_drawn_angle (ds : List PyData) : Prop := ds = []
def post_law_drawn_angle (ds : List PyData) (d : PyData) : Prop := ∃ q, d = dQ q ∧ 0 ≤ q ∧ q < 1 ∧ Sz 4 q
theorem ok_law_drawn_angle {M : Md} (bi : Bi M.mg) (F : DefAt M "_law_drawn_angle" s_law_drawn_angle) (F_law_of : OkF M "_law_of" ["_law_tin", "_law_goods_so"] 2 (spN M.K 1 pre_law_of post_law_of)) (F_law_part : OkF M "_law_part" ["_law_top_so", "_law_bottom_so"] 2 (spP M.K Pre_law_part)) (F_law_take : OkF M "_law_take" ["_law_tin", "_law_below_so"] 1 (spN M.K 1 pre_law_take post_law_take)) : OkF M "_law_drawn_angle" ["_law_tin"] 3 (spN M.K 2 pre_law_drawn_angle post_law_drawn_angle) := by
  refine okf_draw F sc_law_drawn_angle (fun _ _ _ _ _ _ us hl => match us, hl with | [_], _ => rfl) (fun ds h => by rw [show ds = [] from h]; rfl) fun f cdv A outer s H E hr =>
    ⟨_, (pss_cons (ps_set (i := 1) sc_law_drawn_angle.nd rfl (.inl rfl) (pe_fn F_law_of (hr.mono (by decide)) (pa_cons (pv 0) (pa_cons (pe_lst (pa_cons pe_int (pa_cons pe_int (pa_cons pe_int (pa_cons pe_int (pa_cons pe_int (pa_cons pe_int (pa_cons pe_int (pa_cons pe_int (pa_cons pe_int pa_nil)))))))))) pa_nil))))
      (pss_one (ps_ret (pe_fn F_law_part (hr.mono (by decide)) (pa_cons (pe_fn F_law_take (hr.mono (by decide)) (pa_cons (pv 0) (pa_cons (pv 1) pa_nil))) (pa_cons (pv 1) pa_nil)))))), fun n ds h hn => ?_⟩
  have h : ds = [] := h
  subst h
  refine ds_seq (ds_asg (dx_of (n := n) (gs := [1, 2, 4, 3, 2, 4, 6, 8, 12].map fun b : Nat => PyData.int (b : Int)) rfl (de_lst (da_cons de_int (da_cons de_int (da_cons de_int (da_cons de_int (da_cons de_int (da_cons de_int (da_cons de_int (da_cons de_int (da_cons de_int da_nil)))))))))) (by omega) (by simp) (by decide) fun d hd => ?_))
  obtain ⟨b, hbm, rfl⟩ := List.mem_map.mp hd
  have key : ∀ b ∈ [1, 2, 4, 3, 2, 4, 6, 8, 12], 1 ≤ b ∧ b ≤ 12 := by decide
  have hb := key b hbm
  refine ds_ret (dx_call (ax_cons (dx_take (n := n + 1) (b := b) rfl (de_var (d := .int (b : Int)) rfl) (by omega) (by omega) ?_ fun r hr => ax_cons ((de_var (d := .int (b : Int)) rfl).of (ax_nil ⟨_, ⟨(r : Int), (b : Int), rfl, by omega, ?_, rfl⟩, ⟨_, rfl, nn_divInt (by omega), lt1_divInt (by omega) hr, sz_divInt (by omega) (by omega) (by omega)⟩, n + 2, by omega, rfl⟩)))))
  · have : (2 : Nat) ^ 40 = 1099511627776 := by decide
    omega
  · rw [Int.natAbs_natCast]
    exact Nat.lt_of_lt_of_le (show b < 2 ^ 4 by omega) (Nat.pow_le_pow_right (by decide) (by decide))
/-! _law_drawn_lead -/
abbrev s_law_drawn_lead : Stmt := topS 62
abbrev n_law_drawn_lead : List Str := ["_law_tin", "_law_own"]
theorem sc_law_drawn_lead : FnScope n_law_drawn_lead ["_law_tin"] (defScope s_law_drawn_lead) := ⟨rfl, rfl, rfl, by decide +kernel, rfl, by decide +kernel, by decide +kernel⟩
def pre_law_drawn_lead (ds : List PyData) : Prop := ds = []
def post_law_drawn_lead (ds : List PyData) (d : PyData) : Prop := ∃ q, d = dQ q ∧ q ≠ 0 ∧ Sz 3 q
theorem ok_law_drawn_lead {M : Md} (bi : Bi M.mg) (F : DefAt M "_law_drawn_lead" s_law_drawn_lead) (F_law_of : OkF M "_law_of" ["_law_tin", "_law_goods_so"] 2 (spN M.K 1 pre_law_of post_law_of)) (F_law_take : OkF M "_law_take" ["_law_tin", "_law_below_so"] 1 (spN M.K 1 pre_law_take post_law_take)) (F_law_minus : OkF M "_law_minus" ["_law_one_so"] 1 (spP M.K Pre_law_minus)) : OkF M "_law_drawn_lead" ["_law_tin"] 3 (spN M.K 2 pre_law_drawn_lead post_law_drawn_lead) := by
  refine okf_draw F sc_law_drawn_lead (fun _ _ _ _ _ _ us hl => match us, hl with | [_], _ => rfl) (fun ds h => by rw [show ds = [] from h]; rfl) fun f cdv A outer s H E hr =>
    ⟨_, (pss_cons (ps_set (i := 1) sc_law_drawn_lead.nd rfl (.inl rfl) (pe_fn F_law_of (hr.mono (by decide)) (pa_cons (pv 0) (pa_cons (pe_lst (pa_cons (pe_tup (pa_cons pe_int (pa_cons pe_int pa_nil))) (pa_cons (pe_tup (pa_cons pe_int (pa_cons pe_int pa_nil))) (pa_cons (pe_tup (pa_cons pe_int (pa_cons pe_int pa_nil))) (pa_cons (pe_tup (pa_cons pe_int (pa_cons pe_int pa_nil))) (pa_cons (pe_tup (pa_cons pe_int (pa_cons pe_int pa_nil))) (pa_cons (pe_tup (pa_cons pe_int (pa_cons pe_int pa_nil))) (pa_cons (pe_tup (pa_cons pe_int (pa_cons pe_int pa_nil))) (pa_cons (pe_tup (pa_cons pe_int (pa_cons pe_int pa_nil))) (pa_cons (pe_tup (pa_cons pe_int (pa_cons pe_int pa_nil))) pa_nil)))))))))) pa_nil))))
      (pss_one (ps_ret (pe_ifExp (pt_cmpR op_gt (pe_fn F_law_take (hr.mono (by decide)) (pa_cons (pv 0) (pa_cons pe_int pa_nil))) pe_int (nomark _)) (pv 1) (pe_fn F_law_minus (hr.mono (by decide)) (pa_cons (pv 1) pa_nil)))))), fun n ds h hn => ?_⟩
  have h : ds = [] := h
  subst h
  refine ds_seq (ds_asg (dx_of (n := n) (gs := ([1, 2, 1/2, 3/2, 3, 1, 2, 4/3, 2/3] : List Rat).map dQ) rfl (de_lst (da_cons (de_lit 1) (da_cons (de_lit 2) (da_cons (de_lit (1/2)) (da_cons (de_lit (3/2)) (da_cons (de_lit 3) (da_cons (de_lit 1) (da_cons (de_lit 2) (da_cons (de_lit (4/3)) (da_cons (de_lit (2/3)) da_nil)))))))))) (by omega) (by simp) (by decide) fun d hd => ?_))
  obtain ⟨q, hq, rfl⟩ := List.mem_map.mp hd
  have hq2 : q ≠ 0 ∧ Sz 3 q := by
    have key : ∀ q ∈ ([1, 2, 1/2, 3/2, 3, 1, 2, 4/3, 2/3] : List Rat), q ≠ 0 ∧ q.num.natAbs < 2 ^ 3 ∧ q.den < 2 ^ 3 := by decide +kernel
    exact key q hq
  refine ds_ret (dx_if (tx_test (dx_op (dx_take (n := n + 1) (b := 3) rfl de_int (by omega) (by decide) (by decide) fun r hr => de_int.of ⟨_, rd_B0, _, rfl, fun _ => ?_, fun _ => ?_⟩))))
  · exact (de_var (d := dQ q) rfl).of ⟨⟨q, rfl, hq2⟩, n + 2, by omega, rfl⟩
  · exact dx_call (ax_cons ((de_var (d := dQ q) rfl).of (ax_nil ⟨_, ⟨q, rfl, rfl⟩, ⟨-q, rfl, fun z => hq2.1 (by grind), hq2.2.neg⟩, n + 2, by omega, rfl⟩)))

section
variable {C : Cn} {ρ : Rho} {te ta tb : TE} {n : Nat} {P : PyData → Rho → Prop}
theorem dx_angle (h0 : ρ[0]? = some (.tin n)) (hn : n + 2 ≤ 1000000) (k : ∀ q, 0 ≤ q → q < 1 → Sz 4 q → P (dQ q) (ρ.set 0 (.tin (n + 2)))) :
    DX C (tCall (spN C.K 2 pre_law_drawn_angle post_law_drawn_angle) [] E0 (tCons (tVar 0) tNil)) ρ P := dx_draw h0 (ax_nil ⟨n, h0, hn, rfl, fun d hd => by
  obtain ⟨q, rfl, h1, h2, h3⟩ := hd
  exact k q h1 h2 h3⟩)
theorem dx_lead (h0 : ρ[0]? = some (.tin n)) (hn : n + 2 ≤ 1000000) (k : ∀ q, q ≠ 0 → Sz 3 q → P (dQ q) (ρ.set 0 (.tin (n + 2)))) :
    DX C (tCall (spN C.K 2 pre_law_drawn_lead post_law_drawn_lead) [] E0 (tCons (tVar 0) tNil)) ρ P := dx_draw h0 (ax_nil ⟨n, h0, hn, rfl, fun d hd => by
  obtain ⟨q, rfl, h1, h2⟩ := hd
  exact k q h1 h2⟩)
theorem dx_frac {m : Nat} {bs : List Nat} (h0 : ρ[0]? = some (.tin n)) (hn : n + 2 ≤ 1000000) (ht : DE C ta ρ (.int (m : Int))) (ht2 : DE C tb ρ (.list (bs.map fun b : Nat => .int (b : Int)))) (hb0 : bs ≠ []) (hbl : bs.length ≤ 100) (hb : ∀ b ∈ bs, 1 ≤ b ∧ b ≤ 100) (hm : m ≤ 100)
    (k : ∀ q, 0 ≤ q → Sz 40 q → P (dQ q) (ρ.set 0 (.tin (n + 2)))) : DX C (tCall (spN C.K 2 pre_law_fraction post_law_fraction) [] E0 (tCons (tVar 0) (tCons ta (tCons tb tNil)))) ρ P :=
  dx_draw h0 (ax_cons (ht.of (ax_cons (ht2.of (ax_nil ⟨n, h0, hn, ⟨m, bs, rfl, hb0, hbl, hb, hm⟩, fun d hd => by
    obtain ⟨q, rfl, h1, h2⟩ := hd
    exact k q h1 h2⟩)))))
end
/-! _law_line -/
abbrev s_law_line : Stmt := topS 64
abbrev n_law_line : List Str := ["_law_tin", "_law_kind_so", "_law_lead_so"]
theorem sc_law_line : FnScope n_law_line ["_law_tin"] (defScope s_law_line) := ⟨rfl, rfl, rfl, by decide +kernel, rfl, by decide +kernel, by decide +kernel⟩
def pre_law_line (ds : List PyData) : Prop := ds = []
def post_law_line (ds : List PyData) (d : PyData) : Prop := ∃ l, d = dLine l ∧ LineOk l
theorem ok_law_line {M : Md} (bi : Bi M.mg) (F : DefAt M "_law_line" s_law_line) (F_law_take : OkF M "_law_take" ["_law_tin", "_law_below_so"] 1 (spN M.K 1 pre_law_take post_law_take)) (F_law_fraction : OkF M "_law_fraction" ["_law_tin", "_law_most_so", "_law_bottoms_so"] 3 (spN M.K 2 pre_law_fraction post_law_fraction)) (F_law_drawn_angle : OkF M "_law_drawn_angle" ["_law_tin"] 3 (spN M.K 2 pre_law_drawn_angle post_law_drawn_angle)) (F_law_drawn_lead : OkF M "_law_drawn_lead" ["_law_tin"] 3 (spN M.K 2 pre_law_drawn_lead post_law_drawn_lead)) (F_law_lead_line : OkF M "_law_lead_line" ["_law_lead_so", "_law_place_so", "_law_angle_so"] 6 (spP M.K Pre_law_lead_line)) : OkF M "_law_line" ["_law_tin"] 7 (spN M.K 5 pre_law_line post_law_line) := by
  refine okf_draw F sc_law_line (fun _ _ _ _ _ _ us hl => match us, hl with | [_], _ => rfl) (fun ds h => by rw [show ds = [] from h]; rfl) fun f cdv A outer s H E hr =>
    ⟨_, (pss_cons (ps_set (i := 1) sc_law_line.nd rfl (.inl rfl) (pe_fn F_law_take (hr.mono (by decide)) (pa_cons (pv 0) (pa_cons pe_int pa_nil))))
      (pss_cons (ps_if (pt_cmpR (keqD M.K hr) (pv 1) pe_int (nomark _)) (pss_one (ps_ret (pe_tup (pa_cons pe_str (pa_cons (pe_fn F_law_fraction (hr.mono (by decide)) (pa_cons (pv 0) (pa_cons pe_int (pa_cons (pe_lst (pa_cons pe_int (pa_cons pe_int (pa_cons pe_int (pa_cons pe_int pa_nil))))) pa_nil)))) pa_nil))))) pss_nil)
      (pss_cons (ps_if (pt_cmpR (keqD M.K hr) (pv 1) pe_int (nomark _)) (pss_one (ps_ret (pe_tup (pa_cons pe_str (pa_cons (pe_fn F_law_drawn_angle (hr.mono (by decide)) (pa_cons (pv 0) pa_nil)) pa_nil))))) pss_nil)
      (pss_cons (ps_set (i := 2) sc_law_line.nd rfl (.inl rfl) (pe_fn F_law_drawn_lead (hr.mono (by decide)) (pa_cons (pv 0) pa_nil)))
      (pss_one (ps_ret (pe_fn F_law_lead_line (hr.mono (by decide)) (pa_cons (pv 2) (pa_cons (pe_tup (pa_cons pe_int (pa_cons pe_int pa_nil))) (pa_cons (pe_fn F_law_drawn_angle (hr.mono (by decide)) (pa_cons (pv 0) pa_nil)) pa_nil)))))))))), fun n ds h hn => ?_⟩
  have h : ds = [] := h
  subst h
  refine ds_seq (ds_asg (dx_take (n := n) (b := 6) rfl de_int (by omega) (by decide) (by decide) fun r hr => ?_))
  refine ds_seq (ds_ifD (b := PyData.eqv (.int (r : Int)) (.int 0)) (dt_test (de_op (de_var rfl) de_int (rd_eqD rfl rfl))) (fun _ => ?_) fun _ => ds_next ?_)
  · refine ds_ret (dx_tup (ax_cons (de_str.of (ax_cons (dx_frac (n := n + 1) (m := 4) (bs := [1, 2, 1, 3]) rfl (by omega) de_int (de_lst (da_cons de_int (da_cons de_int (da_cons de_int (da_cons de_int da_nil))))) (by simp) (by decide) (by decide) (by decide) fun q h0 hq => ax_nil ⟨by show 2 ≤ 100000; decide, ⟨.ring q, rfl, hq, h0⟩, n + 3, by omega, rfl⟩)))))
  refine ds_seq (ds_ifD (b := PyData.eqv (.int (r : Int)) (.int 1)) (dt_test (de_op (de_var rfl) de_int (rd_eqD rfl rfl))) (fun _ => ?_) fun _ => ds_next ?_)
  · refine ds_ret (dx_tup (ax_cons (de_str.of (ax_cons (dx_angle (n := n + 1) rfl (by omega) fun q h0 h1 hq => ax_nil ⟨by show 2 ≤ 100000; decide, ⟨.flute q, rfl, hq.mono (by decide)⟩, n + 3, by omega, rfl⟩)))))
  refine ds_seq (ds_asg (dx_lead (n := n + 1) rfl (by omega) fun l l0 hl => ?_))
  refine ds_ret (dx_call (ax_cons ((de_var (d := dQ l) rfl).of (ax_cons ((de_lit 0).of (ax_cons (dx_angle (n := n + 3) rfl (by omega) fun q h0 h1 hq => ax_nil ⟨_, ⟨l, 0, q, rfl, hl.mono (by decide), l0, sz0.mono (by decide), hq.mono (by decide), rfl⟩, ⟨_, rfl, lead_ok hl l0 hq (by decide)⟩, n + 5, by omega, rfl⟩)))))))
/-! _law_groove -/
abbrev s_law_groove : Stmt := topS 65
abbrev n_law_groove : List Str := ["_law_tin", "_law_length_so", "_law_line_so", "_law_depth_so", "_law_near_so", "_law_far_so", "_law_ends_so"]
theorem sc_law_groove : FnScope n_law_groove ["_law_tin", "_law_length_so", "_law_line_so"] (defScope s_law_groove) := ⟨rfl, rfl, rfl, by decide +kernel, rfl, by decide +kernel, by decide +kernel⟩
def kindL : Line → Str
  | .ring _ => "ring"
  | .flute _ => "flute"
  | .lead _ _ => "lead"
def isRing : Line → Bool
  | .ring _ => true
  | _ => false
theorem isRing_ring {l : Line} (h : isRing l = true) : ∃ p, l = .ring p := by
  cases l with
  | ring p => exact ⟨p, rfl⟩
  | _ => cases h
theorem kind_at (l : Line) : atI (lineDs l) 0 = some (.str (kindL l)) := by cases l <;> rfl
theorem shp_ring : SeqAt.shaped (.str "ring") = true := by decide +kernel
theorem kind_shp (l : Line) : SeqAt.shaped (.str (kindL l)) = true := by
  cases l with
  | ring p => exact shp_ring
  | flute p => exact (show SeqAt.shaped (.str "flute") = true by decide +kernel)
  | lead l p => exact (show SeqAt.shaped (.str "lead") = true by decide +kernel)
theorem kind_ring (l : Line) : PyData.eqv (.str (kindL l)) (.str "ring") = isRing l := by
  cases l with
  | ring p => simp [PyData.eqv, kindL, isRing]
  | flute p => simp [PyData.eqv, kindL, isRing, str_ne (a := "flute") (b := "ring")]
  | lead l p => simp [PyData.eqv, kindL, isRing, str_ne (a := "lead") (b := "ring")]
theorem dLine_inj {a b : Line} (h : dLine a = dLine b) : a = b := by
  have k := eqv_dLine a b
  rw [h, eqv_dLine, decide_eq_true rfl] at k
  exact of_decide_eq_true k.symm
def pre_law_groove (ds : List PyData) : Prop := ∃ len l, ds = [dQ len, dLine l] ∧ 0 ≤ len ∧ Sz 40 len ∧ LineOk l
def post_law_groove (ds : List PyData) (d : PyData) : Prop := ∀ len l, ds = [dQ len, dLine l] → (d = .none ∧ ∃ p, l = .ring p) ∨ ∃ g, d = dG g ∧ g.line = l ∧ 0 ≤ g.s ∧ g.s ≤ g.e ∧ Sz 40 g.s ∧ Sz 40 g.e
theorem ok_law_groove {M : Md} (bi : Bi M.mg) (F : DefAt M "_law_groove" s_law_groove) (F_law_take : OkF M "_law_take" ["_law_tin", "_law_below_so"] 1 (spN M.K 1 pre_law_take post_law_take)) (F_law_under : OkF M "_law_under" ["_law_one_so", "_law_other_so"] 1 (spP M.K Pre_law_under)) (F_law_fraction : OkF M "_law_fraction" ["_law_tin", "_law_most_so", "_law_bottoms_so"] 3 (spN M.K 2 pre_law_fraction post_law_fraction)) (F_law_by_value : OkF M "_law_by_value" ["_law_parts_so"] 2 (spP M.K Pre_law_by_value)) : OkF M "_law_groove" ["_law_tin", "_law_length_so", "_law_line_so"] 4 (spN M.K 6 pre_law_groove post_law_groove) := by
  refine okf_draw F sc_law_groove (fun _ _ _ _ _ _ us hl => match us, hl with | [_, _, _], _ => rfl) (fun ds h => by obtain ⟨len, l, rfl, l0, zl, hl⟩ := h; rfl) fun f cdv A outer s H E hr =>
    ⟨_, (pss_cons (ps_set (i := 3) sc_law_groove.nd rfl (.inl rfl) (pe_op op_add pe_int (pe_fn F_law_take (hr.mono (by decide)) (pa_cons (pv 0) (pa_cons pe_int pa_nil)))))
      (pss_cons (ps_if (pt_cmpR (keqD M.K hr) (pe_ix (kixT M.K) (pv 2) pe_int (fun _ _ => rfl)) pe_str (nomark _)) (pss_one (ps_ret (pe_ifExp (pt_val (pe_fn F_law_under (hr.mono (by decide)) (pa_cons (pv 1) (pa_cons (pe_ix (kixT M.K) (pv 2) pe_int (fun _ _ => rfl)) pa_nil)))) pe_non (pe_tup (pa_cons (pv 2) (pa_cons (pe_ix (kixT M.K) (pv 2) pe_int (fun _ _ => rfl)) (pa_cons (pe_ix (kixT M.K) (pv 2) pe_int (fun _ _ => rfl)) (pa_cons (pv 3) pa_nil)))))))) pss_nil)
      (pss_cons (ps_if (pt_cmpR (keqD M.K hr) (pe_fn F_law_take (hr.mono (by decide)) (pa_cons (pv 0) (pa_cons pe_int pa_nil))) pe_int (nomark _)) (pss_cons (ps_par (i := 4) (j := 5) (by rfl) sc_law_groove.nd rfl rfl (by decide) rfl rfl (pa_cons (pe_fn F_law_fraction (hr.mono (by decide)) (pa_cons (pv 0) (pa_cons pe_int (pa_cons (pe_lst (pa_cons pe_int (pa_cons pe_int (pa_cons pe_int pa_nil)))) pa_nil)))) (pa_cons (pe_fn F_law_fraction (hr.mono (by decide)) (pa_cons (pv 0) (pa_cons pe_int (pa_cons (pe_lst (pa_cons pe_int (pa_cons pe_int (pa_cons pe_int pa_nil)))) pa_nil)))) pa_nil)) (by rfl))
      (pss_cons (ps_set (i := 6) sc_law_groove.nd rfl (.inl rfl) (pe_fn F_law_by_value (hr.mono (by decide)) (pa_cons (pe_lst (pa_cons (pv 4) (pa_cons (pv 5) pa_nil))) pa_nil)))
      (pss_one (ps_if (PW.pt (pw_and (pt_cmpR (keqD M.K hr) (pe_callB (klen M.K) (by rfl) bi.len PySem.boot_len (pa_cons (pv 6) pa_nil)) pe_int (nomark _)) (pw_and1 (pt_not (pt_val (pe_fn F_law_under (hr.mono (by decide)) (pa_cons (pv 1) (pa_cons (pe_ix (kixL M.K) (pv 6) pe_int (fun _ _ => rfl)) pa_nil)))))))) (pss_one (ps_ret (pe_tup (pa_cons (pv 2) (pa_cons (pe_ix (kixL M.K) (pv 6) pe_int (fun _ _ => rfl)) (pa_cons (pe_ix (kixL M.K) (pv 6) pe_int (fun _ _ => rfl)) (pa_cons (pv 3) pa_nil))))))) pss_nil)))) pss_nil)
      (pss_one (ps_ret (pe_tup (pa_cons (pv 2) (pa_cons (pe_tup (pa_cons pe_int (pa_cons pe_int pa_nil))) (pa_cons (pv 1) (pa_cons (pv 3) pa_nil)))))))))), fun n ds h hn => ?_⟩
  obtain ⟨len, l, rfl, l0, zl, hl⟩ := h
  have same : ∀ {d : PyData}, ((d = .none ∧ ∃ p, l = .ring p) ∨ ∃ g, d = dG g ∧ g.line = l ∧ 0 ≤ g.s ∧ g.s ≤ g.e ∧ Sz 40 g.s ∧ Sz 40 g.e) → post_law_groove [dQ len, dLine l] d := fun {d} h len' l' e => by
    have e2 : dLine l = dLine l' := by
      have e := List.cons_eq_cons.mp e
      exact (List.cons_eq_cons.mp e.2).1
    rw [← dLine_inj e2]
    exact h
  refine ds_seq (ds_asg (dx_op (de_int.of (dx_take (n := n) (b := 4) rfl de_int (by omega) (by decide) (by decide) fun r hr => ⟨_, rd_I0, ?_⟩))))
  generalize hdep : (1 : Int) + (r : Int) = dep
  have whole : ∀ {m : Nat} {s4 s5 s6 : Sl}, m ≤ n + 6 → (∀ p, l ≠ .ring p) → DS ⟨M.K, []⟩ (tRet (tTup (tCons (tVar 2) (tCons (tTup (tCons (tC (.int 0)) (tCons (tC (.int 1)) tNil))) (tCons (tVar 1) (tCons (tVar 3) tNil)))))) [.tin m, .dat (dQ len), .dat (dLine l), .dat (.int dep), s4, s5, s6] { nx := fun _ => False, rt := fun d ρ' => post_law_groove [dQ len, dLine l] d ∧ ∃ m, m ≤ n + 6 ∧ ρ'[0]? = some (.tin m) } := fun {m s4 s5 s6} hm hk =>
    ds_retD (de_tup (da_cons (de_var rfl) (da_cons (de_lit 0) (da_cons (de_var rfl) (da_cons (de_var rfl) da_nil))))) ⟨same (.inr ⟨⟨l, 0, len, dep⟩, rfl, rfl, Rat.le_refl, l0, sz0.mono (by decide), zl⟩), m, hm, rfl⟩
  refine ds_seq (ds_ifD (b := isRing l) ((dt_test (de_op ((de_op ((de_var (d := dLine l) rfl).cast (line_ds l)) de_int (rd_ixT (kind_at l)))) de_str (rd_eqD (kind_shp l) shp_ring))).cast (kind_ring l)) (fun hk => ?_) fun hk => ds_next ?_)
  · obtain ⟨p, rfl⟩ := isRing_ring hk
    obtain ⟨zp, p0⟩ := hl
    have kp : ∀ r : Rho, r[2]? = some (.dat (dLine (.ring p))) → DE ⟨M.K, []⟩ (tOp (rIxT M.K) (tVar 2) (tC (.int 1))) r (dQ p) := fun r hr => de_op (de_var hr) de_int (rd_ixT rfl)
    refine ds_ret (dx_if ((dt_B (de_call (da_cons (de_var rfl) (da_cons (kp _ rfl) da_nil)) ⟨len, p, rfl, zl.mono (by decide), zp.mono (by decide), rfl⟩)).of ⟨fun _ => de_non.of ⟨same (.inl ⟨rfl, p, rfl⟩), n + 1, by omega, rfl⟩, fun _ => ?_⟩))
    exact (de_tup (da_cons (de_var rfl) (da_cons (kp _ rfl) (da_cons (kp _ rfl) (da_cons (de_var rfl) da_nil))))).of ⟨same (.inr ⟨⟨.ring p, p, p, dep⟩, rfl, rfl, p0, Rat.le_refl, zp, zp⟩), n + 1, by omega, rfl⟩
  have nr : ∀ p, l ≠ .ring p := fun p e => by
    subst e
    cases hk
  refine ds_seq (ds_if (tx_test (dx_op (dx_take (n := n + 1) (b := 3) rfl de_int (by omega) (by decide) (by decide) fun r2 hr2 => de_int.of ⟨_, rd_eqD rfl rfl, _, rfl, fun _ => ?_, fun _ => ds_next (whole (by omega) nr)⟩))))
  refine ds_seq (ds_par (ax_cons (dx_frac (n := n + 2) (m := 4) (bs := [1, 2, 4]) rfl (by omega) de_int (de_lst (da_cons de_int (da_cons de_int (da_cons de_int da_nil)))) (by simp) (by decide) (by decide) (by decide) fun q1 q10 zq1 => ax_cons (dx_frac (n := n + 4) (m := 4) (bs := [1, 2, 3]) rfl (by omega) de_int (de_lst (da_cons de_int (da_cons de_int (da_cons de_int da_nil)))) (by simp) (by decide) (by decide) (by decide) fun q2 q20 zq2 => ax_nil ⟨_, _, rfl, ?_⟩))))
  have good : ∀ q ∈ byQ [q1, q2], 0 ≤ q ∧ Sz 40 q := fun q hq => by
    have := mem_byQ.mp hq
    simp only [List.mem_cons, List.not_mem_nil, or_false] at this
    rcases this with rfl | rfl
    · exact ⟨q10, zq1⟩
    · exact ⟨q20, zq2⟩
  have hb := byQ_pair [q1, q2]
  refine ds_seq (ds_asgD (d := .list ((byQ [q1, q2]).map dQ)) (de_call (da_cons (de_lst (da_cons (de_var rfl) (da_cons (de_var rfl) da_nil))) da_nil) ⟨[q1, q2], rfl, by simp, fun q hq => ?_, rfl⟩) ?_)
  · simp only [List.mem_cons, List.not_mem_nil, or_false] at hq
    rcases hq with rfl | rfl
    · exact zq1.mono (by decide)
    · exact zq2.mono (by decide)
  generalize byQ [q1, q2] = ends at *
  by_cases h2 : ends.length = 2
  · obtain ⟨a, c, rfl⟩ : ∃ a c, ends = [a, c] := by
      match ends, h2 with
      | [a, c], _ => exact ⟨a, c, rfl⟩
    have hac : a < c := by simpa using hb
    obtain ⟨ga, za⟩ := good a (by simp)
    obtain ⟨gc, zc⟩ := good c (by simp)
    refine ds_if ((dt_and (a := true) ((dt_test (de_op (de_cb (da_cons (de_var rfl) da_nil) rc_lenL) de_int (rd_eqD rfl rfl))).cast rfl) fun _ => dt_not (dt_B (de_call (da_cons (de_var rfl) (da_cons (de_op (de_var rfl) de_int (rd_ixL (d := dQ c) rfl)) da_nil)) ⟨len, c, rfl, zl.mono (by decide), zc.mono (by decide), rfl⟩))).of ⟨fun _ => ?_, fun _ => ds_next (whole (by omega) nr)⟩)
    exact ds_retD (de_tup (da_cons (de_var rfl) (da_cons (de_op (de_var rfl) de_int (rd_ixL (d := dQ a) rfl)) (da_cons (de_op (de_var rfl) de_int (rd_ixL (d := dQ c) rfl)) (da_cons (de_var rfl) da_nil))))) ⟨same (.inr ⟨⟨l, a, c, dep⟩, rfl, rfl, ga, Rat.le_of_lt hac, za, zc⟩), n + 6, by omega, rfl⟩
  · refine ds_if ((dt_and (b := false) (dt_test (de_op (de_cb (da_cons (de_var rfl) da_nil) rc_lenL) de_int (rd_eqD rfl rfl))) (fun z => ?_)).of ⟨fun z => ?_, fun _ => ds_next (whole (by omega) nr)⟩)
    · exfalso
      simp only [PyData.eqv, List.length_map, beq_iff_eq] at z
      omega
    · rw [Bool.and_false] at z
      cases z
end SC
namespace SC
open PySem PySem.Spec PyProof.Rows L2

theorem canonQ_ne {qs : List Rat} (h : qs ≠ []) : canonQ qs ≠ [] := fun z => by
  obtain ⟨q, hq⟩ := List.exists_mem_of_ne_nil qs h
  have := mem_canonQ.mpr hq
  rw [z] at this
  cases this
theorem nut_ok {lead : Rat} {qs : List Rat} {h : Int} (hl : Sz 40 lead) (h0 : lead ≠ 0) (hne : qs ≠ []) (hlen : qs.length ≤ 16) (hz : ∀ q ∈ qs, Sz 40 q) : NOk ⟨lead, canonQ qs, h⟩ :=
  ⟨Nat.le_trans (canonQ_len qs) hlen, canonQ_ne hne, hl, h0, fun q hq => hz q (mem_canonQ.mp hq)⟩
theorem range_nat {k : Nat} : (k : Int).toNat = k := by simp
/-! _law_nut -/
abbrev s_law_nut : Stmt := topS 66
abbrev n_law_nut : List Str := ["_law_tin", "_law_lead_so", "_law_phases_so", "_law_lap"]
theorem sc_law_nut : FnScope n_law_nut ["_law_tin", "_law_lead_so"] (defScope s_law_nut) := ⟨rfl, rfl, rfl, by decide +kernel, rfl, by decide +kernel, by decide +kernel⟩
def pre_law_nut (ds : List PyData) : Prop := ∃ lead, ds = [dQ lead] ∧ Sz 3 lead ∧ lead ≠ 0
def post_law_nut (ds : List PyData) (d : PyData) : Prop := ∃ n, d = dNut n ∧ NOk n
theorem ok_law_nut {M : Md} (bi : Bi M.mg) (F : DefAt M "_law_nut" s_law_nut) (F_law_take : OkF M "_law_take" ["_law_tin", "_law_below_so"] 1 (spN M.K 1 pre_law_take post_law_take)) (F_law_lead_line : OkF M "_law_lead_line" ["_law_lead_so", "_law_place_so", "_law_angle_so"] 6 (spP M.K Pre_law_lead_line)) (F_law_drawn_angle : OkF M "_law_drawn_angle" ["_law_tin"] 3 (spN M.K 2 pre_law_drawn_angle post_law_drawn_angle)) : OkF M "_law_nut" ["_law_tin", "_law_lead_so"] 7 (spN M.K 8 pre_law_nut post_law_nut) := by
  refine okf_draw F sc_law_nut (fun _ _ _ _ _ _ us hl => match us, hl with | [_, _], _ => rfl) (fun ds h => by obtain ⟨lead, rfl, hl, h0⟩ := h; rfl) fun f cdv A outer s H E hr =>
    ⟨_, (pss_cons (ps_setLc (i := 2) (own := [("_law_lap", 3)]) rfl sc_law_nut.nd rfl rfl (sw_true rfl rfl rfl (by decide +kernel)) (pi_range1 rfl bi.range (pa_cons (pe_op op_add pe_int (pe_fn F_law_take (hr.mono (by decide)) (pa_cons (pv 0) (pa_cons pe_int pa_nil)))) pa_nil)) (blkOk_by (N := n_law_nut) (sc := defScope s_law_nut) (by decide +kernel)) (fun _ _ _ _ _ => (pg_name (i := 3) sc_law_nut.nd rfl (by first | exact .inl rfl | exact .inr rfl))) (fun _ _ _ _ _ => pts_nil) (fun _ _ _ _ _ => (pe_ix (kixT M.K) (pe_fn F_law_lead_line (hr.mono (by decide)) (pa_cons (pv 1) (pa_cons (pe_tup (pa_cons pe_int (pa_cons pe_int pa_nil))) (pa_cons (pe_fn F_law_drawn_angle (hr.mono (by decide)) (pa_cons (pv 0) pa_nil)) pa_nil)))) pe_int (fun _ _ => rfl))))
      (pss_one (ps_ret (pe_tup (pa_cons (pv 1) (pa_cons (pe_callTy (ktupOf M.K) (by rfl) bi.tuple (by decide +kernel) (pa_cons (pe_callB (ksorted M.K M.P M.w) (by rfl) bi.sorted (by decide +kernel) (pa_cons (pe_callTy (kset M.K M.P M.w hr) (by rfl) bi.set (by decide +kernel) (pa_cons (pv 2) pa_nil)) pa_nil)) pa_nil)) (pa_cons (pe_op op_add pe_int (pe_fn F_law_take (hr.mono (by decide)) (pa_cons (pv 0) (pa_cons pe_int pa_nil)))) pa_nil))))))), fun n ds h hn => ?_⟩
  obtain ⟨lead, rfl, hl, h0⟩ := h
  refine ds_seq (ds_asg (LX.dx (lx_lc (js := [3]) inAll (fun i acc ρ' => ∃ (qs : List Rat) (m : Nat), acc = qs.map dQ ∧ qs.length = i ∧ (∀ q ∈ qs, 0 ≤ q ∧ Sz 40 q) ∧ m = n + 1 + 2 * i ∧ ρ' = [.tin m, .dat (dQ lead), .un, .un])
    (wx_rng1 (ax_cons (dx_op (de_int.of (dx_take (n := n) (b := 3) rfl de_int (by omega) (by decide) (by decide) fun r hr => ⟨_, rd_I0, ax_nil ⟨_, rfl, by omega, by omega, ?_, ⟨[], n + 1, rfl, rfl, fun _ h => (nomatch h), rfl, rfl⟩, fun i y acc ρ' ey iv => ?_, fun acc ρ' iv => ?_⟩⟩))))))))
  · rw [rngD_len]
    omega
  · obtain ⟨qs, m, rfl, hi, hq, rfl, rfl⟩ := iv
    have hi2 := (rngD_get ey).1
    refine ⟨[y], gt_name, dt_yes.of ⟨fun _ => ?_, fun z => nomatch z⟩⟩
    refine dx_op (dx_call (ax_cons ((de_var (d := dQ lead) rfl).of (ax_cons ((de_lit 0).of (ax_cons (dx_angle (n := n + 1 + 2 * i) rfl (by omega) fun a a0 a1 za => ax_nil ⟨_, ⟨lead, 0, a, rfl, hl.mono (by decide), h0, sz0.mono (by decide), za.mono (by decide), rfl⟩, de_int.of ⟨dQ (roundQ (0 - lead * a) lead), rd_ixT rfl, ?_⟩⟩)))))))
    obtain ⟨z1, z2, z3, z4, z5⟩ := lead_ok hl h0 za (by decide)
    refine ⟨qs ++ [roundQ (0 - lead * a) lead], n + 1 + 2 * (i + 1), ?_, ?_, fun q hq2 => ?_, rfl, ?_⟩
    · rw [List.map_append]
      rfl
    · rw [List.length_append, hi]
      rfl
    · rcases List.mem_append.mp hq2 with h | h
      · exact hq q h
      · rw [List.mem_singleton.mp h]
        exact ⟨z4, z2.mono (by decide)⟩
    · show ([.tin (n + 1 + 2 * i + 2), .dat (dQ lead), .un, .un] : Rho) = _
      rw [show n + 1 + 2 * i + 2 = n + 1 + 2 * (i + 1) by omega]
  · obtain ⟨qs, m, rfl, hi, hq, rfl, rfl⟩ := iv
    rw [rngD_len] at hi
    have hi' : qs.length = 1 + r := by omega
    have hne : qs ≠ [] := fun z => by rw [z] at hi'; simp at hi'; omega
    have hm : n + 1 + 2 * (rngD 0 ((1 : Int) + (r : Int)).toNat).length = n + 1 + 2 * qs.length := by rw [rngD_len, ← hi]
    rw [hm]
    refine ds_ret (dx_tup (ax_cons ((de_var (d := dQ lead) rfl).of (ax_cons ((de_cb (da_cons (de_sortsetQ 40 (de_var (d := .list (qs.map dQ)) rfl) (by omega) hq) da_nil) rc_tupL).of (ax_cons (dx_op (de_int.of (dx_take (n := n + 1 + 2 * qs.length) (b := 3) rfl de_int (by omega) (by decide) (by decide) fun r2 hr2 => ⟨_, rd_I0, ax_nil ⟨by show 3 ≤ 100000; decide, ⟨⟨lead, canonQ qs, 1 + (r2 : Int)⟩, rfl, nut_ok (hl.mono (by decide)) h0 hne (by omega) fun q hqm => (hq q hqm).2⟩, n + 1 + 2 * qs.length + 1, by omega, rfl⟩⟩)))))))))
/-! _law_thread -/
abbrev s_law_thread : Stmt := topS 75
abbrev n_law_thread : List Str := ["_law_tin", "_law_lead_so", "_law_length_so", "_law_starts_so", "_law_found", "_law_lap", "_law_line_so", "_law_own"]
theorem sc_law_thread : FnScope n_law_thread ["_law_tin"] (defScope s_law_thread) := ⟨rfl, rfl, rfl, by decide +kernel, rfl, by decide +kernel, by decide +kernel⟩
theorem rd_notN1 {C : Cn} {d : PyData} : RD C (fun x y H Q => y = .non ∧ Q (.bl (!decide (x = .non))) H) d .none (.bool (!isNonD d)) := fun G H x y s dx dy Q q => by
  refine ⟨dp_non dy, ?_⟩
  rw [dp_isNon dx]
  exact q _ G H (Ext.refl s) (.bl _)
structure GFine (g : Groove) : Prop where
  s0 : 0 ≤ g.s
  se : g.s ≤ g.e
  zs : Sz 40 g.s
  ze : Sz 40 g.e
  line : LineOk g.line
theorem GFine.ok {g : Groove} (h : GFine g) {b : Bar} : GOk b g := by
  refine ⟨h.s0, h.se, h.zs, h.ze, ?_⟩
  have k := h.line
  cases q : g.line with
  | ring p => rw [q] at k; exact k.1
  | flute p => rw [q] at k; exact k
  | lead l p => rw [q] at k; exact ⟨k.1, k.2.1.mono (by decide), k.2.2⟩
theorem GFine.ph {g : Groove} (h : GFine g) : Sz 15 g.line.ph := by
  have k := h.line
  cases q : g.line with
  | ring p => exact sz0.mono (by decide)
  | flute p => exact sz0.mono (by decide)
  | lead l p => rw [q] at k; exact k.2.1
def pre_law_thread (ds : List PyData) : Prop := ds = []
def post_law_thread (ds : List PyData) (d : PyData) : Prop := ∃ b lead, d = .tuple [dBar b, dQ lead] ∧ BOk b ∧ lead ≠ 0 ∧ Sz 3 lead ∧ ∀ g ∈ b.gs, Sz 15 g.line.ph
theorem ok_law_thread {M : Md} (bi : Bi M.mg) (F : DefAt M "_law_thread" s_law_thread) (F_law_drawn_lead : OkF M "_law_drawn_lead" ["_law_tin"] 3 (spN M.K 2 pre_law_drawn_lead post_law_drawn_lead)) (F_law_of : OkF M "_law_of" ["_law_tin", "_law_goods_so"] 2 (spN M.K 1 pre_law_of post_law_of)) (F_law_take : OkF M "_law_take" ["_law_tin", "_law_below_so"] 1 (spN M.K 1 pre_law_take post_law_take)) (F_law_lead_line : OkF M "_law_lead_line" ["_law_lead_so", "_law_place_so", "_law_angle_so"] 6 (spP M.K Pre_law_lead_line)) (F_law_part : OkF M "_law_part" ["_law_top_so", "_law_bottom_so"] 2 (spP M.K Pre_law_part)) (F_law_drawn_angle : OkF M "_law_drawn_angle" ["_law_tin"] 3 (spN M.K 2 pre_law_drawn_angle post_law_drawn_angle)) (F_law_groove : OkF M "_law_groove" ["_law_tin", "_law_length_so", "_law_line_so"] 4 (spN M.K 6 pre_law_groove post_law_groove)) (F_law_line : OkF M "_law_line" ["_law_tin"] 7 (spN M.K 5 pre_law_line post_law_line)) : OkF M "_law_thread" ["_law_tin"] 8 (spN M.K 100 pre_law_thread post_law_thread) := by
  refine okf_draw F sc_law_thread (fun _ _ _ _ _ _ us hl => match us, hl with | [_], _ => rfl) (fun ds h => by rw [show ds = [] from h]; rfl) fun f cdv A outer s H E hr =>
    ⟨_, (pss_cons (ps_par (i := 1) (j := 2) (by rfl) sc_law_thread.nd rfl rfl (by decide) rfl rfl (pa_cons (pe_fn F_law_drawn_lead (hr.mono (by decide)) (pa_cons (pv 0) pa_nil)) (pa_cons (pe_fn F_law_of (hr.mono (by decide)) (pa_cons (pv 0) (pa_cons (pe_lst (pa_cons (pe_tup (pa_cons pe_int (pa_cons pe_int pa_nil))) (pa_cons (pe_tup (pa_cons pe_int (pa_cons pe_int pa_nil))) (pa_cons (pe_tup (pa_cons pe_int (pa_cons pe_int pa_nil))) pa_nil)))) pa_nil))) pa_nil)) (by rfl))
      (pss_cons (ps_par (i := 3) (j := 4) (by rfl) sc_law_thread.nd rfl rfl (by decide) rfl rfl (pa_cons (pe_op op_add pe_int (pe_fn F_law_take (hr.mono (by decide)) (pa_cons (pv 0) (pa_cons pe_int pa_nil)))) (pa_cons (pe_lst pa_nil) pa_nil)) (by rfl))
      (pss_cons (ps_for PassesOwn.never rfl (pi_range1 rfl bi.range (pa_cons (pv 3) pa_nil)) (pg_name (i := 5) sc_law_thread.nd rfl (.inl rfl)) (pss_cons (ps_set (i := 6) sc_law_thread.nd rfl (.inl rfl) (pe_fn F_law_lead_line (hr.mono (by decide)) (pa_cons (pv 1) (pa_cons (pe_tup (pa_cons pe_int (pa_cons pe_int pa_nil))) (pa_cons (pe_ifExp (pt_cmpR op_gt (pe_fn F_law_take (hr.mono (by decide)) (pa_cons (pv 0) (pa_cons pe_int pa_nil))) pe_int (nomark _)) (pe_fn F_law_part (hr.mono (by decide)) (pa_cons (pv 5) (pa_cons (pv 3) pa_nil))) (pe_fn F_law_drawn_angle (hr.mono (by decide)) (pa_cons (pv 0) pa_nil))) pa_nil)))))
      (pss_cons (ps_expr (kapp M.K (pv 4) (pe_fn F_law_groove (hr.mono (by decide)) (pa_cons (pv 0) (pa_cons (pv 2) (pa_cons (pv 6) pa_nil))))))
      (pss_one (ps_if (pt_cmpR (keqD M.K hr) (pe_fn F_law_take (hr.mono (by decide)) (pa_cons (pv 0) (pa_cons pe_int pa_nil))) pe_int (nomark _)) (pss_one (ps_expr (kapp M.K (pv 4) (pe_fn F_law_groove (hr.mono (by decide)) (pa_cons (pv 0) (pa_cons (pv 2) (pa_cons (pv 6) pa_nil))))))) pss_nil)))))
      (pss_cons (ps_set (i := 7) sc_law_thread.nd rfl (.inl rfl) (pe_fn F_law_groove (hr.mono (by decide)) (pa_cons (pv 0) (pa_cons (pv 2) (pa_cons (pe_fn F_law_line (hr.mono (by decide)) (pa_cons (pv 0) pa_nil)) pa_nil)))))
      (pss_cons (ps_set (i := 4) sc_law_thread.nd rfl (.inl rfl) (pe_op op_cat (pv 4) (pe_ifExp (pt_cmpR op_notN (pv 7) pe_non (nomark _)) (pe_lst (pa_cons (pv 7) pa_nil)) (pe_lst pa_nil))))
      (pss_one (ps_ret (pe_tup (pa_cons (pe_tup (pa_cons (pv 2) (pa_cons (pe_callTy (ktupOf M.K) (by rfl) bi.tuple (by decide +kernel) (pa_cons (pe_callB (ksortedN M.K M.P M.w hr) (by rfl) bi.sorted (by decide +kernel) (pa_cons (pe_callTy (ksetN M.K M.P M.w hr) (by rfl) bi.set (by decide +kernel) (pa_cons (pv 4) pa_nil)) pa_nil)) pa_nil)) pa_nil))) (pa_cons (pv 1) pa_nil)))))))))), fun n ds h hn => ?_⟩
  have h : ds = [] := h
  subst h
  refine ds_seq (ds_par (ax_cons (dx_lead (n := n) rfl (by omega) fun lead l0 zl => ax_cons (dx_of (n := n + 2) (gs := ([3, 4, 5/2] : List Rat).map dQ) rfl (de_lst (da_cons (de_lit 3) (da_cons (de_lit 4) (da_cons (de_lit (5/2)) da_nil)))) (by omega) (by simp) (by decide) fun d hd => ax_nil ⟨_, _, rfl, ?_⟩))))
  obtain ⟨len, hlen, rfl⟩ := List.mem_map.mp hd
  have key : ∀ q ∈ ([3, 4, 5/2] : List Rat), 0 ≤ q ∧ q.num.natAbs < 2 ^ 4 ∧ q.den < 2 ^ 4 := by decide +kernel
  obtain ⟨len0, zlen⟩ := key len hlen
  have zlen : Sz 40 len := Sz.mono (n := 4) zlen (by decide)
  refine ds_seq (ds_parOwn (dx_op (de_int.of (dx_take (n := n + 3) (b := 4) rfl de_int (by omega) (by decide) (by decide) fun r hr => ⟨_, rd_I0, ax_nil ⟨Nat.zero_le _, ?_⟩⟩))))
  have es : (1 : Int) + (r : Int) = ((1 + r : Nat) : Int) := by omega
  rw [es]
  have hst : 1 + r ≤ 4 := by omega
  have hst0 : 1 ≤ 1 + r := by omega
  generalize 1 + r = st at *
  have grv : ∀ (m : Nat) (l : Line) (r : Rho) (s : TE) (Pp : PyData → Rho → Prop), r[0]? = some (.tin m) → r[2]? = some (.dat (dQ len)) → m + 6 ≤ 1000000 → LineOk l → DE ⟨M.K, []⟩ s r (dLine l) → (∀ d, post_law_groove [dQ len, dLine l] d → Pp d (r.set 0 (.tin (m + 6)))) → DX ⟨M.K, []⟩ (tCall (spN M.K 6 pre_law_groove post_law_groove) [] E0 (tCons (tVar 0) (tCons (tVar 2) (tCons s tNil)))) r Pp := fun m l r s Pp h1 h2 h3 h4 h5 k =>
    dx_draw h1 (ax_cons ((de_var h2).of (ax_cons (h5.of (ax_nil ⟨m, h1, h3, ⟨len, l, rfl, len0, zlen, h4⟩, fun d hd => k d hd⟩)))))
  refine ds_seq (ds_forD (js := [5]) (fun i ρ' => ∃ (gs : List Groove) (m : Nat) (s5 s6 : Sl), gs.length ≤ 2 * i ∧ (∀ g ∈ gs, GFine g) ∧ m ≤ n + 4 + 20 * i ∧ ρ' = [.tin m, .dat (dQ lead), .dat (dQ len), .dat (.int (st : Int)), .own (gs.map dG), s5, s6, .un])
    (dw_rng1 (da_cons (de_var (d := .int (st : Int)) rfl) da_nil) (by omega)) ⟨[], n + 4, .un, .un, Nat.zero_le _, fun _ h => (nomatch h), by omega, rfl⟩ (fun i y ρ' ey iv => ?_) fun ρ' iv => ?_)
  · obtain ⟨gs, m, s5, s6, hgl, hg, hm, rfl⟩ := iv
    obtain ⟨hi, rfl⟩ := rngD_get ey
    rw [Int.zero_add]
    refine ⟨[.int (i : Int)], gt_name, ?_⟩
    have two : ∀ (a : Rat) (m2 : Nat), Sz 4 a → m2 ≤ m + 3 → DS ⟨M.K, []⟩ (tSeq (tDrop (tBM M.K "list" rAppend (tVar 4) (tCons (tCall (spN M.K 6 pre_law_groove post_law_groove) [] E0 (tCons (tVar 0) (tCons (tVar 2) (tCons (tVar 6) tNil)))) tNil)))
        (tIfS (tTest (tOp (rEqD M.K) (tCall (spN M.K 1 pre_law_take post_law_take) [] E0 (tCons (tVar 0) (tCons (tC (.int 3)) tNil))) (tC (.int 0)))) (tDrop (tBM M.K "list" rAppend (tVar 4) (tCons (tCall (spN M.K 6 pre_law_groove post_law_groove) [] E0 (tCons (tVar 0) (tCons (tVar 2) (tCons (tVar 6) tNil)))) tNil))) tNext))
        [.tin m2, .dat (dQ lead), .dat (dQ len), .dat (.int (st : Int)), .own (gs.map dG), .dat (.int (i : Int)), .dat (dLine (.lead lead (roundQ (0 - lead * a) lead))), .un]
        { nx := fun ρ' => ∃ (gs : List Groove) (m : Nat) (s5 s6 : Sl), gs.length ≤ 2 * (i + 1) ∧ (∀ g ∈ gs, GFine g) ∧ m ≤ n + 4 + 20 * (i + 1) ∧ ρ' = [.tin m, .dat (dQ lead), .dat (dQ len), .dat (.int (st : Int)), .own (gs.map dG), s5, s6, .un] } := fun a m2 za hm2 => by
      have ok := lead_ok zl l0 za (by decide)
      generalize hln : Line.lead lead (roundQ (0 - lead * a) lead) = ln at *
      have get : ∀ d, post_law_groove [dQ len, dLine ln] d → ∃ g, d = dG g ∧ GFine g := fun d hd => by
        rcases hd len ln rfl with ⟨_, p, e⟩ | ⟨g, e, e1, e2, e3, e4, e5⟩
        · rw [e] at hln
          cases hln
        · exact ⟨g, e, e2, e3, e4, e5, by rw [e1]; exact ok⟩
      refine ds_seq (ds_append (i := 4) rfl (grv m2 ln _ _ _ rfl rfl (by omega) ok (de_var rfl) fun d hd => ?_))
      obtain ⟨g1, rfl, f1⟩ := get d hd
      refine ⟨gs.map dG, rfl, by rw [List.length_map]; omega, ?_⟩
      have fin1 : ∀ x ∈ gs ++ [g1], GFine x := fun x hx => by
        rcases List.mem_append.mp hx with h | h
        · exact hg x h
        · rw [List.mem_singleton.mp h]
          exact f1
      have eo : gs.map dG ++ [dG g1] = (gs ++ [g1]).map dG := by rw [List.map_append]; rfl
      rw [eo]
      refine ds_if (tx_test (dx_op (dx_take (n := m2 + 6) (b := 3) rfl de_int (by omega) (by decide) (by decide) fun r hr => de_int.of ⟨_, rd_eqD rfl rfl, _, rfl, fun _ => ?_, fun _ => ?_⟩)))
      · refine ds_append (i := 4) rfl (grv (m2 + 7) ln _ _ _ rfl rfl (by omega) ok (de_var rfl) fun d2 hd2 => ?_)
        obtain ⟨g2, rfl, f2⟩ := get d2 hd2
        refine ⟨(gs ++ [g1]).map dG, rfl, by rw [List.length_map, List.length_append]; simp; omega, gs ++ [g1] ++ [g2], m2 + 13, .dat (.int (i : Int)), .dat (dLine ln), ?_, fun x hx => ?_, by omega, ?_⟩
        · simp only [List.length_append, List.length_cons, List.length_nil]
          omega
        · rcases List.mem_append.mp hx with h | h
          · exact fin1 x h
          · rw [List.mem_singleton.mp h]
            exact f2
        · rw [show (gs ++ [g1] ++ [g2]).map dG = (gs ++ [g1]).map dG ++ [dG g2] from List.map_append]
          rfl
      · exact ds_next ⟨gs ++ [g1], m2 + 7, .dat (.int (i : Int)), .dat (dLine ln), by simp only [List.length_append, List.length_cons, List.length_nil]; omega, fin1, by omega, rfl⟩
    refine ds_seq (ds_asg (dx_call (ax_cons ((de_var (d := dQ lead) rfl).of (ax_cons ((de_lit 0).of (ax_cons (dx_if (tx_test (dx_op (dx_take (n := m) (b := 3) rfl de_int (by omega) (by decide) (by decide) fun r hr => de_int.of ⟨_, rd_B0, _, rfl, fun _ => ?_, fun _ => ?_⟩)))))))))))
    · refine (de_call (da_cons (de_var (d := .int (i : Int)) rfl) (da_cons (de_var (d := .int (st : Int)) rfl) da_nil)) ⟨(i : Int), (st : Int), rfl, by omega, ?_, rfl⟩).of ?_
      · have za : Sz 4 (Rat.divInt (i : Int) (st : Int)) := sz_divInt (by omega) (by omega) (by omega)
        exact ax_nil ⟨_, ⟨lead, 0, _, rfl, zl.mono (by decide), l0, sz0.mono (by decide), za.mono (by decide), rfl⟩, (two _ (m + 1) za (by omega)).mono' rfl fun _ h => h⟩
      · rw [Int.natAbs_natCast]
        exact Nat.lt_of_lt_of_le (show st < 2 ^ 4 by omega) (Nat.pow_le_pow_right (by decide) (by decide))
    · refine dx_angle (n := m + 1) rfl (by omega) fun a a0 a1 za => ?_
      exact ax_nil ⟨_, ⟨lead, 0, a, rfl, zl.mono (by decide), l0, sz0.mono (by decide), za.mono (by decide), rfl⟩, (two a (m + 3) za (by omega)).mono' rfl fun _ h => h⟩
  · obtain ⟨gs, m, s5, s6, hgl, hg, hm, rfl⟩ := iv
    rw [rngD_len] at hgl hm
    refine ds_seq (ds_asg (dx_draw (n := m) rfl (ax_cons ((de_var (d := dQ len) rfl).of (ax_cons (dx_draw (n := m) rfl (ax_nil ⟨m, rfl, by omega, rfl, fun d hd => ?_⟩)))))))
    obtain ⟨ln, rfl, okl⟩ := hd
    refine ax_nil ⟨m + 5, rfl, by omega, ⟨len, ln, rfl, len0, zlen, okl⟩, fun d hd => ?_⟩
    have last : ∃ go : Option Groove, d = (match go with | none => .none | some g => dG g) ∧ ∀ g, go = some g → GFine g := by
      rcases hd len ln rfl with ⟨e, _⟩ | ⟨g, e, e1, e2, e3, e4, e5⟩
      · exact ⟨none, e, fun g h => nomatch h⟩
      · exact ⟨some g, e, fun g' h => by rw [← Option.some.inj h]; exact ⟨e2, e3, e4, e5, by rw [e1]; exact okl⟩⟩
    obtain ⟨go, rfl, hgo⟩ := last
    refine ds_freezeS (i := 4) (ds := gs.map dG) rfl ?_
    refine ds_seq (ds_asgD (d := .list ((gs ++ go.toList).map dG)) ((lx_cat (es := go.toList.map dG) (lx_var rfl) (lx_if (b := go.isSome) ((dt_test (de_op (de_var (i := 7) rfl) de_non rd_notN1)).cast ?_) (fun z => ?_) fun z => ?_) ?_).de.cast (by rw [List.map_append])) ?_)
    · cases go <;> rfl
    · cases go with
      | none => cases z
      | some g => exact lx_lst (da_cons (de_var (d := dG g) rfl) da_nil)
    · cases go with
      | none => exact lx_lst da_nil
      | some g => cases z
    · rw [List.length_map, List.length_map]
      cases go <;> simp <;> omega
    have hall : ∀ g ∈ gs ++ go.toList, GFine g := fun g hgm => by
      rcases List.mem_append.mp hgm with h | h
      · exact hg g h
      · cases go with
        | none => cases h
        | some g' =>
          rw [show g = g' by simpa using h]
          exact hgo g' rfl
    have hlen : (gs ++ go.toList).length ≤ 9 := by
      rw [List.length_append]
      cases go <;> simp <;> omega
    generalize gs ++ go.toList = all at *
    refine ds_ret (dx_tup (ax_cons (dx_tup (ax_cons ((de_var (d := dQ len) rfl).of (ax_cons (dx_cb (ax_cons (dx_sortsetG (gs := all) (de_var rfl) (by omega) fun gs' hgs hgl' => ax_nil ⟨_, rc_tupL, ax_nil ⟨by show 2 ≤ 100000; decide, ax_cons ((de_var (d := dQ lead) rfl).of (ax_nil ⟨by show 2 ≤ 100000; decide, ⟨⟨len, gs'⟩, lead, rfl, ⟨(by show gs'.length ≤ 16; omega), zlen, len0, fun g hgm => (hall g (hgs g hgm)).ok⟩, l0, zl, fun g hgm => (hall g (hgs g hgm)).ph⟩, m + 11, by omega, rfl⟩))⟩⟩)))))))))

theorem pulled {α : Type} {f : α → PyData} {l : List α} : ∀ {xs : List PyData}, (∀ x ∈ xs, x ∈ l.map f) → ∃ qs : List α, xs = qs.map f ∧ ∀ q ∈ qs, q ∈ l
  | [], _ => ⟨[], rfl, fun _ h => nomatch h⟩
  | x :: xs, h => by
    obtain ⟨q, hq, rfl⟩ := List.mem_map.mp (h x List.mem_cons_self)
    obtain ⟨qs, rfl, hs⟩ := pulled (xs := xs) fun y hy => h y (List.mem_cons_of_mem _ hy)
    refine ⟨q :: qs, rfl, fun r hr => ?_⟩
    rcases List.mem_cons.mp hr with rfl | hr
    · exact hq
    · exact hs r hr
theorem phs_sz15 {b : Bar} (h : ∀ g ∈ b.gs, Sz 15 g.line.ph) (lead : Rat) : ∀ ph ∈ phsQ b lead, Sz 15 ph := fun ph hph => by
  obtain ⟨g, hg, rfl⟩ := List.mem_map.mp (mem_canonQ.mp hph)
  exact h g (List.mem_filter.mp hg).1
theorem eqv_nilQ (l : List Rat) : PyData.eqv (.list (l.map dQ)) (.list []) = decide (l = []) := by
  cases l <;> simp [PyData.eqv, PyData.eqvAll]
/-! _law_thread_nut -/
abbrev s_law_thread_nut : Stmt := topS 76
abbrev n_law_thread_nut : List Str := ["_law_tin", "_law_bar_so", "_law_lead_so", "_law_phases_so", "_law_less_so", "_law_picked_so", "_law_own"]
theorem sc_law_thread_nut : FnScope n_law_thread_nut ["_law_tin", "_law_bar_so", "_law_lead_so"] (defScope s_law_thread_nut) := ⟨rfl, rfl, rfl, by decide +kernel, rfl, by decide +kernel, by decide +kernel⟩
def pre_law_thread_nut (ds : List PyData) : Prop := ∃ b lead, ds = [dBar b, dQ lead] ∧ BOk b ∧ lead ≠ 0 ∧ Sz 3 lead ∧ ∀ g ∈ b.gs, Sz 15 g.line.ph
def post_law_thread_nut (ds : List PyData) (d : PyData) : Prop := ∃ n, d = dNut n ∧ NOk n
theorem ok_law_thread_nut {M : Md} (bi : Bi M.mg) (F : DefAt M "_law_thread_nut" s_law_thread_nut) (F_law_phases : OkF M "_law_phases" ["_law_bar_so", "_law_lead_so"] 1 (spP M.K Pre_law_phases)) (F_law_take : OkF M "_law_take" ["_law_tin", "_law_below_so"] 1 (spN M.K 1 pre_law_take post_law_take)) (F_law_nut : OkF M "_law_nut" ["_law_tin", "_law_lead_so"] 7 (spN M.K 8 pre_law_nut post_law_nut)) (F_law_of : OkF M "_law_of" ["_law_tin", "_law_goods_so"] 2 (spN M.K 1 pre_law_of post_law_of)) (F_law_pick : OkF M "_law_pick" ["_law_tin", "_law_goods_so", "_law_count_so"] 2 (spN M.K 4 pre_law_pick post_law_pick)) (F_law_round : OkF M "_law_round" ["_law_one_so", "_law_other_so"] 5 (spP M.K Pre_law_round)) (F_law_less : OkF M "_law_less" ["_law_one_so", "_law_other_so"] 4 (spP M.K Pre_law_less)) : OkF M "_law_thread_nut" ["_law_tin", "_law_bar_so", "_law_lead_so"] 8 (spN M.K 10 pre_law_thread_nut post_law_thread_nut) := by
  refine okf_draw F sc_law_thread_nut (fun _ _ _ _ _ _ us hl => match us, hl with | [_, _, _], _ => rfl) (fun ds h => by obtain ⟨b, lead, rfl, hb, l0, zl, hg15⟩ := h; rfl) fun f cdv A outer s H E hr =>
    ⟨_, (pss_cons (ps_set (i := 3) sc_law_thread_nut.nd rfl (by first | exact .inl rfl | exact .inr rfl) (pe_fn F_law_phases (hr.mono (by decide)) (pa_cons (pv 1) (pa_cons (pv 2) pa_nil))))
      (pss_cons (ps_if (PW.pt (pw_or (pt_cmpR (keqD M.K hr) (pv 3) (pe_lst pa_nil) (nomark _)) (pw_or1 (pt_cmpR (keqD M.K hr) (pe_fn F_law_take (hr.mono (by decide)) (pa_cons (pv 0) (pa_cons pe_int pa_nil))) pe_int (nomark _))))) (pss_one (ps_ret (pe_fn F_law_nut (hr.mono (by decide)) (pa_cons (pv 0) (pa_cons (pv 2) pa_nil))))) pss_nil)
      (pss_cons (ps_set (i := 4) sc_law_thread_nut.nd rfl (by first | exact .inl rfl | exact .inr rfl) (pe_fn F_law_of (hr.mono (by decide)) (pa_cons (pv 0) (pa_cons (pv 3) pa_nil))))
      (pss_cons (ps_set (i := 5) sc_law_thread_nut.nd rfl (by first | exact .inl rfl | exact .inr rfl) (pe_fn F_law_pick (hr.mono (by decide)) (pa_cons (pv 0) (pa_cons (pv 3) (pa_cons (pe_op op_add pe_int (pe_fn F_law_take (hr.mono (by decide)) (pa_cons (pv 0) (pa_cons pe_int pa_nil)))) pa_nil)))))
      (pss_one (ps_ret (pe_tup (pa_cons (pv 2) (pa_cons (pe_callTy (ktupOf M.K) (by rfl) bi.tuple (by decide +kernel) (pa_cons (pe_callB (ksorted M.K M.P M.w) (by rfl) bi.sorted (by decide +kernel) (pa_cons (pe_callTy (kset M.K M.P M.w hr) (by rfl) bi.set (by decide +kernel) (pa_cons (pe_lc (own := [("_law_own", 6)]) rfl sc_law_thread_nut.nd (piL M.K (pv 5)) (blkOk_by (N := n_law_thread_nut) (sc := defScope s_law_thread_nut) (by decide +kernel)) (fun _ _ _ _ _ => (pg_name (i := 6) sc_law_thread_nut.nd rfl (by first | exact .inl rfl | exact .inr rfl))) (fun _ _ _ _ _ => pts_nil) (fun _ _ _ _ _ => (pe_fn F_law_round (hr.mono (by decide)) (pa_cons (pe_fn F_law_less (hr.mono (by decide)) (pa_cons (pv 6) (pa_cons (pv 4) pa_nil))) (pa_cons (pv 2) pa_nil))))) pa_nil)) pa_nil)) pa_nil)) (pa_cons (pe_fn F_law_of (hr.mono (by decide)) (pa_cons (pv 0) (pa_cons (pe_lst (pa_cons pe_int (pa_cons pe_int (pa_cons pe_int (pa_cons pe_int pa_nil))))) pa_nil))) pa_nil)))))))))), fun n ds h hn => ?_⟩
  obtain ⟨b, lead, rfl, hb, l0, zl, hg15⟩ := h
  have hpl := phs_lenL hb lead
  have hz := phs_sz15 hg15 lead
  refine ds_seq (ds_asgD (d := .list ((phsQ b lead).map dQ)) (de_call (da_cons (de_var rfl) (da_cons (de_var rfl) da_nil)) ⟨b, lead, rfl, hb, rfl⟩) ?_)
  generalize phsQ b lead = phs at *
  have toNut : ∀ m, m ≤ n + 1 → DX ⟨M.K, []⟩ (tCall (spN M.K 8 pre_law_nut post_law_nut) [] E0 (tCons (tVar 0) (tCons (tVar 2) tNil))) [.tin m, .dat (dBar b), .dat (dQ lead), .dat (.list (phs.map dQ)), .un, .un, .un] fun d ρ' => post_law_thread_nut [dBar b, dQ lead] d ∧ ∃ m, m ≤ n + 10 ∧ ρ'[0]? = some (.tin m) := fun m hm =>
    dx_draw (n := m) rfl (ax_cons ((de_var (d := dQ lead) rfl).of (ax_nil ⟨m, rfl, by omega, ⟨lead, rfl, zl, l0⟩, fun d hd => ⟨hd, m + 8, by omega, rfl⟩⟩)))
  have eb : DT ⟨M.K, []⟩ (tTest (tOp (rEqD M.K) (tVar 3) (tLst tNil))) [.tin n, .dat (dBar b), .dat (dQ lead), .dat (.list (phs.map dQ)), .un, .un, .un] (decide (phs = [])) := (dt_test (de_op (de_var rfl) (de_lst da_nil) (rd_eqD (shp_nums phs) rfl))).cast (eqv_nilQ phs)
  by_cases hne : phs = []
  · refine ds_seq (ds_if (tx_or (eb.of ⟨fun z => ?_, fun _ => ⟨fun _ => ds_ret (toNut n (by omega)), fun z => nomatch z⟩⟩)))
    rw [decide_eq_true hne] at z
    cases z
  refine ds_seq (ds_if (tx_or (eb.of ⟨fun _ => ?_, fun z => absurd (of_decide_eq_true z) hne⟩)))
  refine tx_test (dx_op (dx_take (n := n) (b := 4) rfl de_int (by omega) (by decide) (by decide) fun r hr => de_int.of ⟨_, rd_eqD rfl rfl, _, rfl, fun _ => ds_ret (toNut (n + 1) (by omega)), fun _ => ds_next ?_⟩))
  refine ds_seq (ds_asg (dx_of (n := n + 1) (gs := phs.map dQ) rfl (de_var rfl) (by omega) (by simpa using hne) (by rw [List.length_map]; omega) fun d hd => ?_))
  obtain ⟨less, hless, rfl⟩ := List.mem_map.mp hd
  have zless := hz less hless
  refine ds_seq (ds_asg (dx_draw (n := n + 2) rfl (ax_cons ((de_var (d := .list (phs.map dQ)) rfl).of (ax_cons (dx_op (de_int.of (dx_take (n := n + 2) (b := 3) rfl de_int (by omega) (by decide) (by decide) fun r2 hr2 => ⟨_, rd_I0, ax_nil ⟨n + 3, rfl, by omega, ⟨phs.map dQ, 1 + r2, by rw [show (1 : Int) + (r2 : Int) = ((1 + r2 : Nat) : Int) by omega], by rw [List.length_map]; omega, by omega⟩, fun d hd => ?_⟩⟩))))))))
  obtain ⟨xs, rfl, hxl, hxm⟩ := hd (phs.map dQ) (1 + r2) (by rw [show (1 : Int) + (r2 : Int) = ((1 + r2 : Nat) : Int) by omega])
  obtain ⟨qs, rfl, hqs⟩ := pulled hxm
  rw [List.length_map, List.length_map] at hxl
  have hp : 0 < phs.length := List.length_pos_iff.mpr hne
  have hql : 0 < qs.length ∧ qs.length ≤ 4 := by omega
  have zr : ∀ q ∈ qs, 0 ≤ roundQ (q - less) lead ∧ Sz 40 (roundQ (q - less) lead) := fun q hq => ⟨(round_range _ l0).1, (((hz q (hqs q hq)).sub zless).round2 zl l0).mono (by decide)⟩
  have klist : DE ⟨M.K, []⟩ (tLc (iList M.K (tVar 5)) (gName 6) tYes (tCall (spP M.K Pre_law_round) [] E0 (tCons (tCall (spP M.K Pre_law_less) [] E0 (tCons (tVar 6) (tCons (tVar 4) tNil))) (tCons (tVar 2) tNil))) [6]) [.tin (n + 7), .dat (dBar b), .dat (dQ lead), .dat (.list (phs.map dQ)), .dat (dQ less), .dat (.list (qs.map dQ)), .un] (.list ((qs.map fun q => roundQ (q - less) lead).map dQ)) := by
    rw [List.map_map]
    exact de_lcMM (js := [6]) qs dQ (fun q => dQ (roundQ (q - less) lead)) (dw_list (de_var rfl)) (by omega) inAll (plainR_un rfl plainR_nil) fun q hq => ⟨[dQ q], gt_name, de_call (da_cons (de_call (da_cons (de_var rfl) (da_cons (de_var rfl) da_nil)) ⟨q, less, rfl, (hz q (hqs q hq)).mono (by decide), zless.mono (by decide), rfl⟩) (da_cons (de_var rfl) da_nil)) ⟨q - less, lead, rfl, ((hz q (hqs q hq)).sub zless).mono (by decide), zl.mono (by decide), l0, rfl⟩⟩
  refine ds_ret (dx_tup (ax_cons ((de_var (d := dQ lead) rfl).of (ax_cons ((de_cb (da_cons (de_sortsetQ 40 klist (by rw [List.length_map]; omega) fun q hq => ?_) da_nil) rc_tupL).of (ax_cons (dx_of (n := n + 7) (gs := [1, 1, 2, 3].map fun b : Nat => PyData.int (b : Int)) rfl (de_lst (da_cons de_int (da_cons de_int (da_cons de_int (da_cons de_int da_nil))))) (by omega) (by simp) (by decide) fun d hd => ax_nil ⟨by show 3 ≤ 100000; decide, ?_, n + 8, by omega, rfl⟩)))))))
  · obtain ⟨q', hq', rfl⟩ := List.mem_map.mp hq
    exact zr q' hq'
  · obtain ⟨hh, _, rfl⟩ := List.mem_map.mp hd
    refine ⟨⟨lead, canonQ (qs.map fun q => roundQ (q - less) lead), (hh : Int)⟩, rfl, nut_ok (zl.mono (by decide)) l0 (fun z => ?_) (by rw [List.length_map]; omega) fun q hq => ?_⟩
    · have := congrArg List.length z
      rw [List.length_map] at this
      simp at this
      rw [this] at hql
      simp at hql
    · obtain ⟨q', hq', rfl⟩ := List.mem_map.mp hq
      exact (zr q' hq').2
/-! _law_stand -/
abbrev s_law_stand : Stmt := topS 77
abbrev n_law_stand : List Str := ["_law_tin", "_law_bar_so", "_law_nut_so", "_law_place_so", "_law_phases_so"]
theorem sc_law_stand : FnScope n_law_stand ["_law_tin", "_law_bar_so", "_law_nut_so"] (defScope s_law_stand) := ⟨rfl, rfl, rfl, by decide +kernel, rfl, by decide +kernel, by decide +kernel⟩
theorem dQ_half : PyData.tuple [.int (-1), .int 2] = dQ (-1/2) := by
  have h : ((-1/2 : Rat)).num = -1 ∧ (((-1/2 : Rat)).den : Int) = 2 := by decide +kernel
  unfold dQ
  rw [h.1, h.2]
def pre_law_stand (ds : List PyData) : Prop := ∃ b nu, ds = [dBar b, dNut nu] ∧ BOk b ∧ NOk nu
def post_law_stand (ds : List PyData) (d : PyData) : Prop := ∃ m, d = dP m ∧ MOk m
theorem ok_law_stand {M : Md} (bi : Bi M.mg) (F : DefAt M "_law_stand" s_law_stand) (F_law_of : OkF M "_law_of" ["_law_tin", "_law_goods_so"] 2 (spN M.K 1 pre_law_of post_law_of)) (F_law_phases : OkF M "_law_phases" ["_law_bar_so", "_law_lead_so"] 1 (spP M.K Pre_law_phases)) (F_law_take : OkF M "_law_take" ["_law_tin", "_law_below_so"] 1 (spN M.K 1 pre_law_take post_law_take)) (F_law_drawn_angle : OkF M "_law_drawn_angle" ["_law_tin"] 3 (spN M.K 2 pre_law_drawn_angle post_law_drawn_angle)) (F_law_turn_for : OkF M "_law_turn_for" ["_law_nut_so", "_law_phase_so", "_law_place_so"] 5 (spP M.K Pre_law_turn_for)) : OkF M "_law_stand" ["_law_tin", "_law_bar_so", "_law_nut_so"] 6 (spN M.K 5 pre_law_stand post_law_stand) := by
  refine okf_draw F sc_law_stand (fun _ _ _ _ _ _ us hl => match us, hl with | [_, _, _], _ => rfl) (fun ds h => by obtain ⟨b, nu, rfl, hb, hn'⟩ := h; rfl) fun f cdv A outer s H E hr =>
    ⟨_, (pss_cons (ps_set (i := 3) sc_law_stand.nd rfl (.inl rfl) (pe_fn F_law_of (hr.mono (by decide)) (pa_cons (pv 0) (pa_cons (pe_lst (pa_cons (pe_tup (pa_cons pe_int (pa_cons pe_int pa_nil))) (pa_cons (pe_ix (kixT M.K) (pv 1) pe_int (fun _ _ => rfl)) (pa_cons (pe_tup (pa_cons pe_int (pa_cons pe_int pa_nil))) (pa_cons (pe_tup (pa_cons pe_int (pa_cons pe_int pa_nil))) (pa_cons (pe_tup (pa_cons pe_int (pa_cons pe_int pa_nil))) (pa_cons (pe_tup (pa_cons pe_int (pa_cons pe_int pa_nil))) (pa_cons (pe_tup (pa_cons pe_int (pa_cons pe_int pa_nil))) (pa_cons (pe_tup (pa_cons (pe_un un_neg pe_int) (pa_cons pe_int pa_nil))) pa_nil))))))))) pa_nil))))
      (pss_cons (ps_set (i := 4) sc_law_stand.nd rfl (.inl rfl) (pe_fn F_law_phases (hr.mono (by decide)) (pa_cons (pv 1) (pa_cons (pe_ix (kixT M.K) (pv 2) pe_int (fun _ _ => rfl)) pa_nil))))
      (pss_cons (ps_if (PW.pt (pw_or (pt_cmpR (keqD M.K hr) (pv 4) (pe_lst pa_nil) (nomark _)) (pw_or1 (pt_cmpR (keqD M.K hr) (pe_fn F_law_take (hr.mono (by decide)) (pa_cons (pv 0) (pa_cons pe_int pa_nil))) pe_int (nomark _))))) (pss_one (ps_ret (pe_tup (pa_cons (pv 3) (pa_cons (pe_fn F_law_drawn_angle (hr.mono (by decide)) (pa_cons (pv 0) pa_nil)) pa_nil))))) pss_nil)
      (pss_one (ps_ret (pe_tup (pa_cons (pv 3) (pa_cons (pe_fn F_law_turn_for (hr.mono (by decide)) (pa_cons (pv 2) (pa_cons (pe_fn F_law_of (hr.mono (by decide)) (pa_cons (pv 0) (pa_cons (pv 4) pa_nil))) (pa_cons (pv 3) pa_nil)))) pa_nil)))))))), fun n ds h hn => ?_⟩
  obtain ⟨b, nu, rfl, hb, hn'⟩ := h
  refine ds_seq (ds_asg (dx_of (n := n) (gs := ([0, b.len, 1, 1/2, 3/2, 2, 9, -1/2] : List Rat).map dQ) rfl (de_lst (da_cons (de_lit 0) (da_cons (de_op (de_var (d := dBar b) rfl) de_int (rd_ixT rfl)) (da_cons (de_lit 1) (da_cons (de_lit (1/2)) (da_cons (de_lit (3/2)) (da_cons (de_lit 2) (da_cons (de_lit 9) (da_cons ((de_tup (da_cons (de_un de_int ru_int) (da_cons de_int da_nil))).cast dQ_half) da_nil))))))))) (by omega) (by simp) (by simp) fun d hd => ?_))
  obtain ⟨place, hplace, rfl⟩ := List.mem_map.mp hd
  have zplace : Sz 40 place := by
    have key : ∀ q ∈ ([0, 1, 1/2, 3/2, 2, 9, -1/2] : List Rat), q.num.natAbs < 2 ^ 40 ∧ q.den < 2 ^ 40 := by decide +kernel
    by_cases e : place = b.len
    · rw [e]
      exact hb.z
    · refine key place ?_
      simp only [List.mem_cons, List.not_mem_nil, or_false] at hplace ⊢
      rcases hplace with h | h | h | h | h | h | h | h
      · exact .inl h
      · exact absurd h e
      all_goals simp [h]
  have hpl := phs_lenL hb nu.lead
  have hzp := phs_szL hb nu.lead
  refine ds_seq (ds_asgD (d := .list ((phsQ b nu.lead).map dQ)) (de_call (da_cons (de_var rfl) (da_cons (de_op (de_var (d := dNut nu) rfl) de_int (rd_ixT (d := dQ nu.lead) rfl)) da_nil)) ⟨b, nu.lead, rfl, hb, rfl⟩) ?_)
  generalize phsQ b nu.lead = phs at *
  have toAng : ∀ m, m ≤ n + 2 → DX ⟨M.K, []⟩ (tTup (tCons (tVar 3) (tCons (tCall (spN M.K 2 pre_law_drawn_angle post_law_drawn_angle) [] E0 (tCons (tVar 0) tNil)) tNil))) [.tin m, .dat (dBar b), .dat (dNut nu), .dat (dQ place), .dat (.list (phs.map dQ))] fun d ρ' => post_law_stand [dBar b, dNut nu] d ∧ ∃ m, m ≤ n + 5 ∧ ρ'[0]? = some (.tin m) := fun m hm =>
    dx_tup (ax_cons ((de_var (d := dQ place) rfl).of (ax_cons (dx_angle (n := m) rfl (by omega) fun q q0 q1 zq => ax_nil ⟨by show 2 ≤ 100000; decide, ⟨(place, q), rfl, zplace, zq.mono (by decide)⟩, m + 2, by omega, rfl⟩))))
  have eb : DT ⟨M.K, []⟩ (tTest (tOp (rEqD M.K) (tVar 4) (tLst tNil))) [.tin (n + 1), .dat (dBar b), .dat (dNut nu), .dat (dQ place), .dat (.list (phs.map dQ))] (decide (phs = [])) := (dt_test (de_op (de_var rfl) (de_lst da_nil) (rd_eqD (shp_nums phs) rfl))).cast (eqv_nilQ phs)
  by_cases hne : phs = []
  · refine ds_seq (ds_if (tx_or (eb.of ⟨fun z => ?_, fun _ => ⟨fun _ => ds_ret (toAng (n + 1) (by omega)), fun z => nomatch z⟩⟩)))
    rw [decide_eq_true hne] at z
    cases z
  refine ds_seq (ds_if (tx_or (eb.of ⟨fun _ => ?_, fun z => absurd (of_decide_eq_true z) hne⟩)))
  refine tx_test (dx_op (dx_take (n := n + 1) (b := 4) rfl de_int (by omega) (by decide) (by decide) fun r hr => de_int.of ⟨_, rd_eqD rfl rfl, _, rfl, fun _ => ds_ret (toAng (n + 2) (by omega)), fun _ => ds_next ?_⟩))
  refine ds_ret (dx_tup (ax_cons ((de_var (d := dQ place) rfl).of (ax_cons (dx_call (ax_cons ((de_var (d := dNut nu) rfl).of (ax_cons (dx_of (n := n + 2) (gs := phs.map dQ) rfl (de_var rfl) (by omega) (by simpa using hne) (by rw [List.length_map]; omega) fun d hd => ?_)))))))))
  obtain ⟨ph, hph, rfl⟩ := List.mem_map.mp hd
  exact ax_cons ((de_var (d := dQ place) rfl).of (ax_nil ⟨_, ⟨nu, ph, place, rfl, hn', (hzp ph hph).1, zplace, rfl⟩, ax_nil ⟨by show 2 ≤ 100000; decide, ⟨(place, turnQ nu place ph), rfl, zplace, (turn_sz hn' zplace (hzp ph hph).1).1.mono (by decide)⟩, n + 3, by omega, rfl⟩⟩))
end SC
/-! Several except clauses with names; a lambda handed to a def, its table alone written. -/
namespace SC
open PySem PySem.Spec PyProof.Rows L2
/-! ### try: .. except A as n: .. except B as n: .. -/
abbrev Clause := Value × (Addr → Value → Option Addr → TS)
/-- slot i goes behind the suite -/
def gone (i : Nat) (D : Ends) : Ends := ⟨fun σ H => D.nx (σ.set i none) H, D.rt, fun σ H => D.bk (σ.set i none) H, fun σ H => D.ct (σ.set i none) H⟩
def wCls (K : PySem.W.Frag) (i : Nat) (Wo : L2.WX) (D : Ends) : List Clause → L2.WX
  | [] => Wo
  | q :: l => fun cls d σ H => ∃ b, PySem.W.exmOne K cls q.1 = some b ∧ (b = true → ∀ a, H a = none → q.2 a cls d (gone i D) (σ.set i (some (.ref a))) H) ∧ (b = false → wCls K i Wo D l cls d σ H)
inductive Clauses (X : Cx) (n : Str) : List ExceptHandler → List Clause → Prop
  | none : Clauses X n [] []
  | more {x : Str} {q : Clause} {st : Stmt} {sts : List Stmt} {p1 p2 : Pos} {hs : List ExceptHandler} {l : List Clause} (nm : Names X x q.1)
      (suite : ∀ (a : Addr) (oe : Obj) (cls : Value) (d : Option Addr) (pn : List (Addr × Obj)), Zc cls d oe → (∃ vs, oe.data = .fields vs) → PSs (X.suite a ((a, oe) :: pn)) (st :: sts) (q.2 a cls d)) (rest : Clauses X n hs l) :
      Clauses X n (.ExceptHandler (some (.Name x p1)) (some n) (st :: sts) p2 :: hs) (q :: l)
theorem ps_try_named {X : Cx} {i : Nat} {n : Str} {body : List Stmt} {h0 : ExceptHandler} {hs : List ExceptHandler} {l : List Clause} {pos : Pos} {tb : L2.WX → TS} {Wo : L2.WX} (est : X.stack = X.env :: X.outer) (efr : X.env.frame = some X.env.locals) (nd : X.N.Nodup) (at_ : X.N[i]? = some n)
    (loc : X.env.kindOf n = some .local) (tk : Takes X Wo) (hb : ∀ (W : L2.WX) (pn : List (Addr × Obj)) (xe : Value → Shared → Prop), Takes (X.tr pn xe) W → PassesOwn (model X.prog X.w) X.A X.env xe → PSs (X.tr pn xe) body (tb W)) (cl : Clauses X n (h0 :: hs) l) :
    PS X (.Try body (h0 :: hs) [] [] pos) (fun D σ H => tb (wCls X.K i Wo D l) D σ H) := by
  constructor
  intro pins s σ H D inv ht
  have okX := inv.ok
  have frames : X.A.frames = some (X.env :: X.outer) := okX.frames.trans (by rw [est])
  refine wpAny_Try_except ?_
  have runB := (hb (wCls X.K i Wo D l) (X.pn ++ pins) (fun e t1 => wpAny (model X.prog X.w) X.A (noteFrame e X.env) (fun _ t2 => wpAny (model X.prog X.w) X.A (setFlight e none) (fun _ t3 => wpAny (model X.prog X.w) X.A (handleBy e X.env (h0 :: hs)) (SP X pins D) X.xe t3) X.xe t2) X.xe t1) ?caught PassesOwn.looking).run [] s σ H D (inv.toTry _) ht
  case caught =>
    rintro u s' ⟨a, B, sI, pins', σ', H', cls, d, rfl, inv', nb, up, sky, na, eos, bare, want⟩
    have invI : Inv X pins σ' H' sI := inv'.ofTry okX
    rw [est] at sky
    show wpAny (model X.prog X.w) X.A (noteFrame (.ref a) X.env) _ _ _
    refine Sky.land Zc.steady frames efr sky fun hL fly upL => ?_
    have upI := up.trans upL
    have invL : Inv X pins σ' H' { s' with heap := hL } := invI.landed nb fly.1 upI eos bare
    obtain ⟨oe, vs, hoe, hz, hd⟩ := fly.there
    have outside : ∀ {hh : Heap} {ob : Obj} {ws : Array Value}, hh.FunFrames B (X.env :: X.outer) → hh.get? a = some ob → ob.data = .fields ws → a ∉ frs (X.env :: X.outer) := by
      intro hh ob ws ff g1 g2 mem
      obtain ⟨_, ob', g3, nof⟩ := ff.mem mem
      exact nof ws (by rw [g1] at g3; cases g3; exact g2)
    have nofr := outside fly.2.2.1 hoe hd
    have nl : a ≠ X.env.locals := fun e => nofr (List.mem_filterMap.mpr ⟨X.env, List.mem_cons_self, by rw [efr, e]⟩)
    have nf : a ∉ X.fs := fun mem => by
      obtain ⟨en, hen, g⟩ := List.mem_filterMap.mp mem
      exact nofr (List.mem_filterMap.mpr ⟨en, List.mem_cons_of_mem _ hen, g⟩)
    have invS := invL.suite hoe hd na nl nf
    -- the clauses, one behind the other
    suffices walk : ∀ {hs' : List ExceptHandler} {l' : List Clause}, Clauses X n hs' l' → wCls X.K i Wo D l' cls d σ' H' → wpAny (model X.prog X.w) X.A (handleBy (.ref a) X.env hs') (SP X pins D) X.xe { s' with heap := hL } from walk cl want
    intro hs' l' c
    induction c with
    | none =>
      intro w
      refine wpAny_handleBy_nil ?_
      obtain ⟨k1, k2, k3, ob, ws, T, oT, ts', g1, g2, g3, g4, g5⟩ := id fly
      unfold PySem.passOn
      refine wpAny_bind (wpAny_field g1 g3 g4 ?_)
      rw [if_neg (show ¬ ((Value.ref T == Value.none) = true) from by simp)]
      have out : wpAny (model X.prog X.w) X.A (setFlight (.ref a) X.env.frame) (fun _ s4 => wpAny (model X.prog X.w) X.A (throw (.ref a) : Sem Flow) (SP X pins D) X.xe s4) X.xe { s' with heap := hL } := by
        rw [efr]
        refine HandSPX.setFlight_upZ fly fun h4 held up4 => wpAny_throw (tk _ _ ⟨a, B, sI, pins, σ', H', cls, d, rfl, invI, nb, upI.trans up4, .inr (.inr ?_), na, eos, bare, w⟩)
        rw [est]
        exact held
      first
        | exact wpAny_bind (wpAny_pure (wpAny_bind out))
        | exact wpAny_bind out
    | @more x q st sts p1 p2 hs2 l2 nm suite rest ih =>
      rintro ⟨b, eb, yes, no⟩
      refine wpAny_handleBy_cons (codeAny_handlers_test ?_) (by intro z; cases z)
      have lookT : PySem.W.Looks (model X.prog X.w) hL (typeOf (.ref a)) cls := fun A Q E st k g => wpAny_typeOf_ref (k _ _ hoe) (by rw [hz.1]; exact g)
      have asks := PySem.W.exm_one (M := model X.prog X.w) invL.kIn lookT eb
      have name : ∀ {Q E : Value → Shared → Prop}, Q q.1 { s' with heap := hL } → wpAny (model X.prog X.w) (X.A.mark (some (.ref a))) (eval (.Name x p1) X.env) Q E { s' with heap := hL } := by
        intro Q E g
        obtain ⟨gl, dbg, hm | ⟨hm, hv, nn⟩⟩ := nm
        · exact ld_glob (X := X.suite a ((a, oe) :: (X.pn ++ pins))) invS gl hm g dbg
        · exact ld_blt (X := X.suite a ((a, oe) :: (X.pn ++ pins))) invS gl hm hv g nn dbg
      refine name (asks.here ?_)
      cases b with
      | false => exact ih (no rfl)
      | true =>
        refine codeAny_handlers_suite_as ?_
        refine HandSPX.lands_againZ fly fun h5 fly5 up5 => ?_
        have inv5 : Inv X pins σ' H' { s' with heap := h5 } := invI.landed nb fly5.1 (upI.trans up5) eos bare
        obtain ⟨oe5, vs5, hoe5, hz5, hd5⟩ := fly5.there
        refine store_ok (X := X.suite a ((a, oe5) :: (X.pn ++ pins))) (v := .ref a) (inv5.suite hoe5 hd5 na nl nf) nd at_ (.inl loc) rfl (fun s6 inv6 => ?_) (.inr loc)
        have unb : ∀ {σ7 : L2.St} {H7 : Hp} {s7 : Shared} {Q : Shared → Prop}, Inv (X.suite a ((a, oe5) :: (X.pn ++ pins))) [] σ7 H7 s7 → (∀ s8, Inv X pins (σ7.set i none) H7 s8 → Q s8) →
            wpAny (model X.prog X.w) X.A (do bindName X.env n .none; unbindBehindTheSuite X.env n p2) (fun _ s8 => Q s8) X.xe s7 := fun {σ7 H7 s7 Q} j k => gone_ok (j.unsuite okX) nd at_ loc k
        refine wpAny_mono ((suite a oe5 cls d (X.pn ++ pins) hz5 ⟨_, hd5⟩).run [] s6 _ H' _ inv6 (yes rfl a na)) (fun fl s7 post => ?_) (fun _ _ z => z.elim)
        cases fl with
        | ret u =>
          obtain ⟨v7, σ7, H7, j, rv, g⟩ := post
          exact unb j fun s8 j8 => ⟨_, _, _, j8, rv, g⟩
        | next =>
          obtain ⟨σ7, H7, j, g⟩ := post
          exact unb j fun s8 j8 => ⟨_, _, j8, g⟩
        | brk =>
          obtain ⟨σ7, H7, j, g⟩ := post
          exact unb j fun s8 j8 => ⟨_, _, j8, g⟩
        | cont =>
          obtain ⟨σ7, H7, j, g⟩ := post
          exact unb j fun s8 j8 => ⟨_, _, j8, g⟩
  refine wpAny_mono runB (fun fl s1 post => ?_) (fun _ _ z => z)
  cases fl with
  | next =>
    obtain ⟨σ1, H1, j, g⟩ := post
    exact wpAny_execs_nil ⟨σ1, H1, j.ofTry okX, g⟩
  | brk =>
    obtain ⟨σ1, H1, j, g⟩ := post
    exact ⟨σ1, H1, j.ofTry okX, g⟩
  | cont =>
    obtain ⟨σ1, H1, j, g⟩ := post
    exact ⟨σ1, H1, j.ofTry okX, g⟩
  | ret u =>
    obtain ⟨v, σ1, H1, j, rv, g⟩ := post
    exact ⟨v, σ1, H1, j.ofTry okX, rv, g⟩
end SC
/-! _law_heard, given a lambda. -/
namespace SC
open PySem PySem.Spec PyProof.Rows L2 LamX
abbrev s_law_heard : Stmt := topS 78
abbrev n_law_heard : List Str := ["_law_ask_so", "caught_so"]
theorem sc_law_heard : FnScope n_law_heard ["_law_ask_so"] (defScope s_law_heard) := ⟨rfl, rfl, rfl, by decide +kernel, rfl, by decide +kernel, by decide +kernel⟩
/-- what the heap says of the own errors -/
structure Errs (K : PySem.W.Frag) (mg : Str → Option Value) (N U Q : Addr) : Prop where
  gN : mg "NoTooth" = some (.ref N)
  gU : mg "Unfit" = some (.ref U)
  gQ : mg "NoPaper" = some (.ref Q)
  eN : PySem.W.exmOne K (.ref U) (.ref N) = some false
  eU : PySem.W.exmOne K (.ref U) (.ref U) = some true
  isV : PySem.W.kitOne K (.ref U) (.type "ValueError") = some true
  cU : ExcC K U
  bi : mg "isinstance" = none
  bv : mg "ValueError" = none
/-- what the def makes of the lambda's reading -/
def THeard (K : PySem.W.Frag) (U : Addr) : (XK → Hp → VK → Prop) → Hp → VK → Prop := fun tl H Q => tl (fun cls d H' => cls = .ref U ∧ d = none ∧ ∀ p, H' p = none → Q (.ref p) (upd H' p (.lst [.str "unfit", .bl true]))) H Q
theorem takes_len {X : Cx} {W : L2.WX} (tk : Takes X W) : Takes X fun cls d σ H => σ.length = X.N.length → W cls d σ H := fun u s' ⟨a, B, sI, pins, σ, H, cls, d, e, I, nb, up, sky, na, os, ag, w⟩ => tk u s' ⟨a, B, sI, pins, σ, H, cls, d, e, I, nb, up, sky, na, os, ag, w I.len⟩
/-- the suite for Unfit -/
def tUnfit (K : PySem.W.Frag) (U a : Addr) (cls : Value) (d : Option Addr) : TS := fun D σ H => (cls = .ref U ∧ d = none) ∧ tRet (tLst (tCons (tC (.str "unfit")) (tCons (tCB (rIsE K U a) (tCons (tVar 1) (tCons (tC (.ty "ValueError")) tNil))) tNil))) D σ H
theorem heard_gives {X : Cx} {N U P : Addr} (er : Errs X.K X.mg N U P) {g : Addr} {cdg : Value} {q : Str} : GivesTo X n_law_heard "_law_heard" (defScope s_law_heard) g cdg (defBody s_law_heard) "_law_ask_so" q (THeard X.K U) := by
  intro f c' s1 H1 Q tl act hc h
  refine ⟨_, pss_one (ps_try_named (X := (cxOf C8.CX0 X.prog X.w X.K X.mg X.base n_law_heard "_law_heard" (defScope s_law_heard) g cdg X.A X.stack s1 H1 C8.E0).nox) (i := 1) (n := "caught_so")
    (l := [(.ref N, fun _ _ _ => tNever), (.ref U, tUnfit X.K U), (.ref P, fun _ _ _ => tNever)])
    (tb := fun W D σ H => ∃ Ech : XK, (∀ cls d σ' H', Ech cls d H' → σ'.length = 2 → W cls d σ' H') ∧ σ[0]? = some (some (.ref f)) ∧ H c' = some (CodeO c' q) ∧ tl Ech H D.rt)
    rfl rfl sc_law_heard.nd rfl rfl L2.takes0 (fun W pn xe tk _ => ?_)
    (.more (x := "NoTooth") (q := (.ref N, fun _ _ _ => tNever)) ⟨rfl, by decide, .inl er.gN⟩ (fun a oe cls d pn _ _ => ⟨fun _ _ _ _ _ _ z => z.elim⟩) (.more (x := "Unfit") (q := (.ref U, tUnfit X.K U)) ⟨rfl, by decide, .inl er.gU⟩ (fun a oe cls d pn hz hf => ⟨fun pins s σ H D I h => ?_⟩)
      (.more (x := "NoPaper") (q := (.ref P, fun _ _ _ => tNever)) ⟨rfl, by decide, .inl er.gQ⟩ (fun a oe cls d pn _ _ => ⟨fun _ _ _ _ _ _ z => z.elim⟩) .none)))), ?_⟩
  · refine ⟨fun pins s' σ H' D I h' => ?_⟩
    obtain ⟨Ech, hW, h1, h2, h3⟩ := h'
    exact (pss_one (ps_ret (act _ pn xe Ech _ _ (takes_len tk) fun cls d σ' H' e hl => hW cls d σ' H' e hl))).run pins s' σ H' D I ⟨h1, h2, h3⟩
  · obtain ⟨⟨rfl, rfl⟩, h⟩ := h
    exact (pss_one (ps_ret (pe_lst (pa_cons pe_str (pa_cons (pe_callB (call_isE (X := (cxOf C8.CX0 X.prog X.w X.K X.mg X.base n_law_heard "_law_heard" (defScope s_law_heard) g cdg X.A X.stack s1 H1 C8.E0).nox) er.cU hz hf) (by rfl) er.bi (by decide +kernel) (pa_cons (pv 1) (pa_cons (pe_bltn (v := .ty "ValueError") (by rfl) er.bv (by decide +kernel) rfl) pa_nil))) pa_nil))))).run pins s σ H D I h
  · refine ⟨_, fun cls d σ' H' e hl => ?_, rfl, hc, h⟩
    obtain ⟨rfl, rfl, e⟩ := e
    refine ⟨false, er.eN, (fun z => nomatch z), fun _ => ⟨true, er.eU, fun _ a ha => ⟨⟨rfl, rfl⟩, ?_⟩, (fun z => nomatch z)⟩⟩
    refine ⟨.ref a, List.getElem?_set_self (by omega), .ty "ValueError", .type "ValueError", true, rfl, fun u r => ?_, er.isV, ?_⟩
    · cases r
      rfl
    · exact ⟨by show 2 ≤ sizeLine; exact sz1000 (by decide), fun p hp => e p hp⟩
end SC
/-! A lambda made and handed on: the table's object alone is written. -/
namespace SC
open PySem PySem.Spec PyProof.Rows L2 LamX
section
variable {X : Cx} {pins : List (Addr × Obj)} {σ : L2.St} {H : Hp} {s : Shared}
theorem lam_new {c P : Addr} {q : Str} {params : Arguments} {body : Expr} {scope : Scope} {pos : Pos} {E Q : Value → Shared → Prop} (inv : Inv X pins σ H s) (TB : TabB X.base X.mg c P) (cod : X.env.code = .ref c) (eq : q = X.env.qual ++ "<lambda>") (tab : TabS H P q) (nodef : defaultsOf params X.env = ([], []))
    (clo : ∀ y ∈ scope.names, y.2 = .free → ∃ c, X.env.cells.lookup y.1 = some c)
    (k : ∀ (f c1 : Addr) (pm ctv : Value) (H1 : Hp) (s1 : Shared), Inv X pins σ H1 s1 → (∀ b o, b ≠ P → H b = some o → H1 b = some o) → (∀ b, H b ≠ none → H1 b ≠ none) → TabS H1 P q →
      s1.heap.get? f = some (PySem.W.kla_obj "<lambda>" q params body scope (cloFrom X.env.cells scope.names []) pm c1 ctv) → H1 f = none → f ∉ frs X.stack → H1 c1 = some (CodeO c1 q) → Q (.ref f) s1) :
    wpAny (model X.prog X.w) X.A (eval (.Lambda params body scope pos) X.env) Q E s := by
  subst eq
  obtain ⟨ps, tP, tri, told⟩ := tab
  have onHeap : s.heap.get? P = some { cls := .none, data := .fields ps } := inv.hok P _ tP
  have away : ∀ f, s.heap.objs.size ≤ f → f ∉ frs X.stack := by
    intro f hf m
    rcases List.mem_cons.mp (inv.stkSub _ m) with e | e
    · exact absurd inv.lt (by rw [← e]; exact Nat.not_lt.mpr hf)
    · exact inv.nofs hf e
  refine PySem.W.kla_eval nodef ?_
  cases look : codeAmong pos ps.toList with
  | some cv =>
    obtain ⟨c1, rfl, known⟩ := told pos cv look
    refine PySem.W.kla_makeFunctionHit (mg := X.mg) (c := c) (P := P) (ps := ps) (closure_ok clo) inv.ok.glob (inv.mod.glob.keeps inv.bk) cod (TB.code.keeps inv.bk) onHeap tri look (TB.bm.keeps inv.bk) fun ctv h1 tk kept size => ?_
    exact k h1.objs.size c1 _ ctv H _ (inv.kept (t' := tk) fun b o e => Heap.get?_push_of_some _ (kept b o e)) (fun _ _ _ e => e) (fun _ e => e) ⟨ps, tP, tri, told⟩ (Heap.get?_push_size _ rfl) (inv.hok.fresh size) (away _ size) known
  | none =>
    refine PySem.W.kla_makeFunction (mg := X.mg) (c := c) (P := P) (ps := ps) (closure_ok clo) inv.ok.glob (inv.mod.glob.keeps inv.bk) cod (TB.code.keeps inv.bk) onHeap tri look TB.gP (TB.bm.keeps inv.bk) fun c1 ctv h1 tk kept ge lt rec_ tbl => ?_
    obtain ⟨c2, oc, vs, t, ec, g1, g2, g3⟩ := rec_
    injection ec with ec
    subst ec
    have new1 : H c1 = none := inv.hok.fresh ge
    have big : s.heap.objs.size ≤ h1.objs.size := Nat.le_trans ge (Nat.le_of_lt lt)
    have nPc : P ≠ c1 := ne_of_none tP new1
    have inv1 := inv_table (t' := tk) (more := #[rawInt pos.line, rawInt pos.col, .ref c1]) (h' := h1.push (PySem.W.kla_obj "<lambda>" (X.env.qual ++ "<lambda>") params body scope (cloFrom X.env.cells scope.names []) ((X.mg "__name__").getD .none) c1 ctv)) (q := X.env.qual ++ "<lambda>") inv tP
      (fun b o nb e => Heap.get?_push_of_some _ (kept b o nb e)) (Heap.get?_push_of_some _ tbl) ge ⟨oc, vs, t, Heap.get?_push_of_some _ g1, g2, g3⟩
    have here : ∀ b o, b ≠ P → H b = some o → upd (upd H P (.tbl (ps ++ #[rawInt pos.line, rawInt pos.col, .ref c1]))) c1 (CodeO c1 (X.env.qual ++ "<lambda>")) b = some o := fun b o nb e => by
      rw [upd_ne (ne_of_none e new1), upd_ne nb]
      exact e
    refine k h1.objs.size c1 _ ctv _ _ inv1 here (fun b e z => ?_) ⟨_, by rw [upd_ne nPc, upd_same], ?_, fun p' cv hcv => ?_⟩ (Heap.get?_push_size _ rfl) ?_ (away _ big) upd_same
    · by_cases hb : b = c1
      · rw [hb, upd_same] at z
        cases z
      · rw [upd_ne hb] at z
        by_cases hb2 : b = P
        · rw [hb2, upd_same] at z
          cases z
        · rw [upd_ne hb2] at z
          exact e z
    · have e : (ps ++ #[rawInt pos.line, rawInt pos.col, .ref c1]).toList = ps.toList ++ [rawInt pos.line, rawInt pos.col, .ref c1] := by simp
      rw [e]
      exact PySem.TriplesOk_snoc _ _ _ _ tri
    · have e : (ps ++ #[rawInt pos.line, rawInt pos.col, .ref c1]).toList = ps.toList ++ [rawInt pos.line, rawInt pos.col, .ref c1] := by simp
      rw [e] at hcv
      rcases among_app _ tri hcv with z | z
      · obtain ⟨c2, e1, e2⟩ := told p' cv z
        exact ⟨c2, e1, here _ _ (fun y => by rw [y, tP] at e2; exact codeO_ne ps (Option.some.inj e2).symm) e2⟩
      · exact ⟨c1, z, upd_same⟩
    · rw [upd_ne (Nat.ne_of_gt lt), upd_ne (Nat.ne_of_gt (Nat.lt_of_lt_of_le (Heap.lt_size onHeap) big))]
      exact inv.hok.fresh big
end
def tLamB (P : Addr) (q : Str) (TT : (XK → Hp → VK → Prop) → Hp → VK → Prop) (t : XK → TE) : TE := fun σ H Q => TabS H P q ∧ ∀ H1, (∀ b o, b ≠ P → H b = some o → H1 b = some o) → (∀ b, H b ≠ none → H1 b ≠ none) → TabS H1 P q → TT (fun E H' Q' => t E σ H' Q') H1 Q
theorem pe_lamB {X : Cx} {TT : (XK → Hp → VK → Prop) → Hp → VK → Prop} {x a q : Str} {g c P : Addr} {k : Nat} {pg : Arguments} {bg : List Stmt} {sg : Scope} {dV kV doc pm cdv ct oc : Value} {an od : Option Addr} {osl : Array (Option Value)} {Ng : List Str}
    {params : Arguments} {body : Expr} {scope : Scope} {t : XK → TE} {p lpos pos : Pos} (gl : Gl X x) (hm : X.mg x = some (.ref g)) (hk : PySem.W.keepIn X.K (.ref g) = true)
    (lk : X.K.lookup g = some ⟨oc, od, .func (PySem.W.fnOf x x pg bg sg dV kV doc pm an cdv ct), osl⟩) (hcg : PySem.W.codeIn X.K cdv x = true) (hb : L2.Binds X.K (PySem.W.fnOf x x pg bg sg dV kV doc pm an cdv ct) [a] []) (Sg : FnScope Ng [a] sg) (hNg : Ng[0]? = some a) (hva : Vis sg a)
    (gives : GivesTo X Ng x sg g cdv bg a q TT) (TB : TabB X.base X.mg c P) (cod : X.env.code = .ref c) (eq : q = X.env.qual ++ "<lambda>") (hr : Room (k + 2) X.A) (L : LamS X.env.scope scope) (nodef : defaultsOf params X.env = ([], []))
    (hbind : ∀ (q : Str) (cl : List (Str × Addr)) (pm cv ctv : Value), bindArgs (PySem.W.kla_fn "<lambda>" q params body scope cl pm cv ctv) ⟨[], []⟩ = pure [])
    (hbody : ∀ (A : Around) (outer : List Env) (s : Shared) (H : Hp) (E : XK) (f c' : Addr), Room k (A.deeper (lamEnv X scope s.heap.objs.size f c')) → PE (lamCx X A outer s H E scope f c') body (t E))
    (hdb : (x == ("__debug__" : Str)) = false := by decide) (hd : (a == ("__debug__" : Str)) = false := by decide) (hcd : (a == ("__classdict__" : Str)) = false := by decide) :
    PE X (.Call (.Name x p) [.Lambda params body scope lpos] [] pos) (tLamB P q TT t) := by
  constructor
  rintro pins s σ H Q inv ⟨tab, h⟩
  refine wpAny_Call_Name_kw (ld_glob inv gl hm ?_ hdb)
  refine PySem.W.callWith_K (h₀ := X.base) inv.ok.mod.kin hk ?_ (by rfl) (by rfl)
  show wpAny _ _ (spliced ((false, eval (.Lambda params body scope lpos) X.env) :: backTo pos (starEach [] X.env))) _ _ s
  refine Calls.spliced_cons (lam_new inv TB cod eq tab nodef (L.has inv.ok) fun f c1 pm1 ctv H1 s1 inv1 kept ne tab1 lf nf nfr known => ?_)
  refine Calls.spliced_nil ⟨inv1.kIn, ?_⟩
  subst eq
  have runs : codeAny (model X.prog X.w) X.A (.call (.ref g) ⟨[.ref f], []⟩) (CR C8.CX0 X.stack X.prog X.w H1 s1 Q C8.E0) s1 := by
    refine run_ofS (N := Ng) (ps := [a]) (us := [.ref f]) (vs := [.ref f]) lk hcg Sg hr inv1.env0 (hb s1 [.ref f] inv1.kIn rfl) (.cons rfl .nil) rfl fun hr1 => ?_
    obtain ⟨tt, p1, p2⟩ := gives f c1 s1 H1 Q (fun E H' Q' => t E σ H' Q') (fun W pn xe E p1 p2 tk hW => pe_act (i := 0) inv1 L lf nf nfr (hbind _ _ _ _ _) tk hW hr1 (fun A outer s H hr2 => hbody A outer s H E f c1 hr2) hNg hva hd hcd) known (h H1 kept ne tab1)
    exact ⟨tt, p1.nox, p2⟩
  refine wpAny_call (codeAny_mono runs fun r s2 hq => ?_)
  cases r with
  | error e => exact (show False from hq).elim
  | ok fl =>
    cases fl with
    | ret u => exact inv1.after hq
    | next => exact hq.elim
    | brk => exact hq.elim
    | cont => exact hq.elim
end SC
/-! Defs that make lambdas: the table of code objects is theirs to write. -/
namespace SC
open PySem PySem.Spec PyProof.Rows L2 LamX
section
variable {C : Cn} {B : Bs} {G H G' H' : Hp} {σ : L2.St} {ρ : Rho}
/-- all stands but the tables -/
theorem Ok.tabled (k : Ok C B G H σ ρ) (g : Same G G') (gh : Same G' H') (hh : ∀ b o, (∀ p ∈ C.T, b ≠ p.1) → H b = some o → H' b = some o) (nn : ∀ b, H b ≠ none → H' b ≠ none) (nw : ∀ b, H b ≠ none → G b = none → G' b = none) (T : Tabs C.T H') : Ok C B G' H' σ ρ ∧ Sx B G H G' H' := by
  have out : ∀ {a : Addr}, ¬ B.t a → ∀ p ∈ C.T, a ≠ p.1 := fun nt p hp e => nt (e ▸ k.tabt p hp)
  have lst : ∀ {a : Addr} {vs : List V}, H a = some (.lst vs) → ∀ p ∈ C.T, a ≠ p.1 := fun e p hp z => by
    obtain ⟨ps, h1, _⟩ := k.tab p hp
    rw [z, h1] at e
    cases e
  refine ⟨⟨k.len, gh, k.g0.trans g, fun a o nt e => hh a o (out nt) (k.h0 a o nt e), fun a e => nn a (k.h1 a e), fun a e1 e2 => nw a (k.h1 a e1) (k.new a e1 e2), k.tb, T, k.tabt, fun i s e => ?_, k.t0, k.sep⟩, ⟨g, fun a o nt e => hh a o (out nt) e, nn, nw⟩⟩
  have w := k.sl i s e
  cases s with
  | un => trivial
  | dat d =>
    obtain ⟨x, e1, e2⟩ := w
    exact ⟨x, e1, dp_up g e2⟩
  | own ds =>
    obtain ⟨a, vs, e1, e2, e3, e4, e5⟩ := w
    exact ⟨a, vs, e1, nw a (by rw [e4]; simp) e2, e3, hh a _ (lst e4) e4, dpall_up g e5⟩
  | std ds =>
    obtain ⟨a, vs, e1, e2, e3⟩ := w
    exact ⟨a, vs, e1, g _ _ e2, dpall_up g e3⟩
  | tin n =>
    obtain ⟨a, e1, e2, x, y, z, e3, r⟩ := w
    exact ⟨a, e1, e2, x, y, z, hh a _ (lst e3) e3, r⟩
end
/-- what is heard -/
def heardD : Option PyData → PyData
  | some d => d
  | none => .list [.str "unfit", .bool true]
theorem de_heard {K : PySem.W.Frag} {P : Addr} {q : Str} {ρ : Rho} {U : Addr} {Pre : List PyData → Option PyData → Prop} {as : TA} {ds : List PyData} {r : Option PyData} (h : DA ⟨K, [(P, q)]⟩ as ρ ds) (pre : Pre ds r) :
    DE ⟨K, [(P, q)]⟩ (tLamB P q (THeard K U) fun E => tCall (spE K U Pre) [] E as) ρ (heardD r) := fun B G H σ o Q k => by
  have nG : G P = none := o.tG (o.tabt (P, q) (by simp))
  refine ⟨o.tab (P, q) (by simp), fun H1 kept ne tab => ?_⟩
  obtain ⟨o1, s1⟩ := o.tabled (Same.refl G) (fun b u e => kept b u (fun z => by rw [z, nG] at e; cases e) (o.gh b u e)) (fun b u nb e => kept b u (nb (P, q) (by simp)) e) ne (fun _ _ e => e) (fun p hp => by rw [List.mem_singleton.mp hp]; exact tab)
  show tCall (spE K U Pre) [] _ as σ H1 Q
  refine h B G H1 σ o1 _ fun vs ds' ρ1 G2 H2 p o2 s2 dx => ?_
  obtain ⟨rfl, rfl⟩ := p
  refine ⟨G2, ds', r, pre, o2.gh, by rw [List.append_nil]; exact dx, ?_⟩
  cases r with
  | some d => exact fun v G3 H3 ex dv => k v d _ G3 H3 ⟨rfl, rfl⟩ (o2.on ex) ((s1.trans s2).trans ex.sx) dv
  | none =>
    refine fun G3 H3 ex => ⟨rfl, rfl, fun p hp => ?_⟩
    have o3 := o2.on ex
    obtain ⟨o4, s4⟩ := o3.newx (o := .lst [.str "unfit", .bl true]) hp
    exact k _ _ _ _ _ ⟨rfl, rfl⟩ o4 (((s1.trans s2).trans ex.sx).trans s4) (.lst (.inl (.inl upd_same)) (.cons (.str _) (.cons (.bl _) .nil)))
/-! ### promises -/
def DefAtC (M : Md) (x : Str) (st : Stmt) (c : Addr) : Prop := ∃ f fd, M.mg x = some (.ref f) ∧ FunD M.K x x (defArgs st) (defBody st) (defScope st) [] [] f fd ∧ fd.code = .ref c
/-- a def that makes lambdas, of data data -/
def spL (K : PySem.W.Frag) (P : Addr) (q : Str) (Pre : List PyData → PyData → Prop) : Sp := fun vs H Q _ => ∃ G ds d, Pre ds d ∧ Same G H ∧ DpAll K G vs ds ∧ TabS H P q ∧ G P = none ∧
  ∀ v G' H', Same G G' → Same G' H' → (∀ b o, b ≠ P → H b = some o → H' b = some o) → (∀ b, H b ≠ none → H' b ≠ none) → (∀ b, H b ≠ none → G b = none → G' b = none) → TabS H' P q → Dp K G' v d → Q v H'
theorem okf_lam {M : Md} {x : Str} {st : Stmt} {N ps : List Str} {k : Nat} {c P : Addr} {q : Str} {Pre : List PyData → PyData → Prop} (F : DefAtC M x st c) (S : FnScope N ps (defScope st)) (hb : BindOk x st ps) (len : ∀ ds d, Pre ds d → ds.length = ps.length)
    (body : ∀ (f : Addr) (A : Around) (outer : List Env) (s : Shared) (H : Hp) (E : XK), Room k (A.deeper (envOfC x (defScope st) s.heap.objs.size f (.ref c))) →
      ∃ t, PSs (cxOf CX0 M.P M.w M.K M.mg M.base N x (defScope st) f (.ref c) A outer s H E).nox (defBody st) t ∧ ∀ ds d, Pre ds d → DS ⟨M.K, [(P, q)]⟩ t (initR N ds) { nx := fun _ => False, rt := fun d' _ => d' = d }) : OkF M x ps (k + 1) (spL M.K P q Pre) := by
  obtain ⟨f, fd, h1, h2, h3⟩ := F
  obtain ⟨oc, od, dV, kV, doc, pm, an, cdv, ct, osl, rfl, lk, hcd, z1, z2⟩ := h2.ex
  have ec : cdv = .ref c := h3
  subst ec
  refine ⟨f, _, h1, h2.kp, h2.bindsN hb, fn_of lk hcd S (fun vs H Q E ⟨G, ds, d, pre, _, ha, _⟩ => (dpa_len ha).trans (len ds d pre)) fun A outer s H vs Q E hr h => ?_⟩
  obtain ⟨t, p1, p2⟩ := body f A outer s H E hr
  refine ⟨t, p1.nox, ?_⟩
  obtain ⟨G, ds, d, pre, gh, ha, tab, nG, fin⟩ := h
  have nH : H P ≠ none := by
    obtain ⟨ps, e, _⟩ := tab
    rw [e]
    simp
  refine p2 ds d pre ⟨G, H, fun b => b = P⟩ G H (L2.start N vs) _ ⟨start_len ha, gh, Same.refl _, fun a o _ e => e, fun a e => e, fun a _ e => e, fun a z => ?_, fun p hp => ?_, fun p hp => ?_, fun i s e => ?_, fun i n e => ?_, fun i j a ds' es ne e1 e2 e3 => ?_⟩
    (fun _ _ _ _ z => z.elim) (fun v d' ρ' G' H' σ' z o s dv => ?_) (fun _ _ _ _ z => z.elim) (fun _ _ _ _ z => z.elim)
  · have z : a = P := z
    rw [z]
    exact ⟨nH, nG⟩
  · rw [List.mem_singleton.mp hp]
    exact tab
  · rw [List.mem_singleton.mp hp]
  · have w := start_slots (N := N) ha i s e
    cases s with
    | dat d => exact w
    | un => trivial
    | own _ => exact w.elim
    | std _ => exact w.elim
    | tin _ => exact w.elim
  · exact (start_slots (N := N) ha i _ e).elim
  · exact (start_slots (N := N) ha i _ e1).elim
  · subst z
    exact fin v G' H' o.g0 o.gh (fun b u ne e => o.h0 b u ne e) (fun b e => o.h1 b e) (fun b e1 e2 => o.new b e1 e2) (o.tab (P, q) (by simp)) dv
theorem de_callL {K : PySem.W.Frag} {P : Addr} {q : Str} {ρ : Rho} {Pre : List PyData → PyData → Prop} {as : TA} {E : XK} {P' : PyData → Rho → Prop} (h : AX ⟨K, [(P, q)]⟩ as ρ fun ds ρ1 => ∃ d, Pre ds d ∧ P' d ρ1) : DX ⟨K, [(P, q)]⟩ (tCall (spL K P q Pre) [] E as) ρ P' := fun B G H σ o Q k => by
  refine h B G H σ o _ fun vs ds ρ1 G1 H1 p1 o1 s1 dx => ?_
  obtain ⟨d, pre, p⟩ := p1
  refine ⟨G1, ds, d, pre, o1.gh, by rw [List.append_nil]; exact dx, o1.tab (P, q) (by simp), o1.tG (o1.tabt (P, q) (by simp)), fun v G2 H2 g gh hh nn nw tab dv => ?_⟩
  obtain ⟨o2, s2⟩ := o1.tabled g gh (fun b u nb e => hh b u (nb (P, q) (by simp)) e) nn nw (fun p hp => by rw [List.mem_singleton.mp hp]; exact tab)
  exact k v d ρ1 G2 H2 p o2 (s1.trans s2) dv
/-! ### _law_heard, called with a lambda -/
theorem pe_heard {X : Cx} {M : Md} {N U Q P c : Addr} {q : Str} {k : Nat} {params : Arguments} {body : Expr} {scope : Scope} {t : XK → TE} {p lpos pos : Pos} (Fh : DefAt M "_law_heard" s_law_heard) (er : Errs M.K M.mg N U Q) (TB : TabB M.base M.mg c P) (hr : Room (k + 2) X.A)
    (hbody : ∀ (A : Around) (outer : List Env) (s : Shared) (H : Hp) (E : XK) (f c' : Addr), Room k (A.deeper (lamEnv X scope s.heap.objs.size f c')) → PE (lamCx X A outer s H E scope f c') body (t E))
    (hM : M = ⟨X.prog, X.w, X.K, X.mg, X.base⟩ := by rfl) (cod : X.env.code = .ref c := by rfl) (eq : q = X.env.qual ++ "<lambda>" := by rfl) (L : LamS X.env.scope scope := by exact lamS_by (by decide +kernel)) (gl : Gl X "_law_heard" := by rfl) (nodef : defaultsOf params X.env = ([], []) := by rfl)
    (hbind : ∀ (q : Str) (cl : List (Str × Addr)) (pm cv ctv : Value), bindArgs (PySem.W.kla_fn "<lambda>" q params body scope cl pm cv ctv) ⟨[], []⟩ = pure [] := by intros; rfl) :
    PE X (.Call (.Name "_law_heard" p) [.Lambda params body scope lpos] [] pos) (tLamB P q (THeard M.K U) t) := by
  subst hM
  obtain ⟨g, fd, h1, h2⟩ := Fh
  have kp := h2.kp
  have hb := h2.bindsN (ps := ["_law_ask_so"]) fun _ _ _ _ _ _ us hl => match us, hl with | [_], _ => rfl
  obtain ⟨oc, od, dV, kV, doc, pm, an, cdv, ct, osl, rfl, lk, hcd, z1, z2⟩ := h2.ex
  exact pe_lamB gl h1 kp lk hcd hb sc_law_heard rfl (by first | exact .inl rfl | exact .inr (.inl rfl)) (heard_gives er) TB cod eq hr L nodef hbind hbody
end SC
namespace SC
open PySem PySem.Spec PyProof.Rows L2

open LamX
/-! depth, shape, tuples alone -/
theorem dl_int (n : Nat) (i : Int) : depLt (n + 1) (.int i) := by simp [depLt]
theorem dl_bool (n : Nat) (i : Bool) : depLt (n + 1) (.bool i) := by simp [depLt]
theorem dl_str (n : Nat) (i : Str) : depLt (n + 1) (.str i) := by simp [depLt]
theorem dl_non (n : Nat) : depLt (n + 1) .none := by simp [depLt]
theorem dl_tup {n : Nat} {ds : List PyData} (hl : ds.length ≤ 100000) (h : ∀ d ∈ ds, depLt n d) : depLt (n + 1) (.tuple ds) := ⟨hl, h⟩
theorem dl_lst {n : Nat} {ds : List PyData} (hl : ds.length ≤ 100000) (h : ∀ d ∈ ds, depLt n d) : depLt (n + 1) (.list ds) := ⟨hl, h⟩
theorem all_cons {α : Type} {p : α → Prop} {a : α} {l : List α} (h : p a) (r : ∀ x ∈ l, p x) : ∀ x ∈ a :: l, p x := fun x hx => by
  rcases List.mem_cons.mp hx with rfl | hx
  · exact h
  · exact r x hx
theorem all_nil {α : Type} {p : α → Prop} : ∀ x ∈ ([] : List α), p x := fun _ h => nomatch h
theorem all_map {α β : Type} {p : β → Prop} {f : α → β} {l : List α} (h : ∀ a ∈ l, p (f a)) : ∀ x ∈ l.map f, p x := fun x hx => by
  obtain ⟨a, ha, rfl⟩ := List.mem_map.mp hx
  exact h a ha
theorem dl_Q (n : Nat) (q : Rat) : depLt (n + 2) (dQ q) := dl_tup (by show 2 ≤ 100000; decide) (all_cons (dl_int n _) (all_cons (dl_int n _) all_nil))
theorem dl_P (n : Nat) (p : Rat × Rat) : depLt (n + 3) (dP p) := dl_tup (by show 2 ≤ 100000; decide) (all_cons (dl_Q n _) (all_cons (dl_Q n _) all_nil))
theorem dl_line (n : Nat) : ∀ l : Line, depLt (n + 3) (dLine l)
  | .ring p => dl_tup (by show 2 ≤ 100000; decide) (all_cons (dl_str _ _) (all_cons (dl_Q n _) all_nil))
  | .flute p => dl_tup (by show 2 ≤ 100000; decide) (all_cons (dl_str _ _) (all_cons (dl_Q n _) all_nil))
  | .lead l p => dl_tup (by show 3 ≤ 100000; decide) (all_cons (dl_str _ _) (all_cons (dl_Q n _) (all_cons (dl_Q n _) all_nil)))
theorem dl_G (n : Nat) (g : Groove) : depLt (n + 4) (dG g) := dl_tup (by show 4 ≤ 100000; decide) (all_cons (dl_line n _) (all_cons (dl_Q (n + 1) _) (all_cons (dl_Q (n + 1) _) (all_cons (dl_int _ _) all_nil))))
theorem dl_bar (n : Nat) {b : Bar} (h : b.gs.length ≤ 16) : depLt (n + 6) (dBar b) := dl_tup (by show 2 ≤ 100000; decide) (all_cons (dl_Q (n + 3) _) (all_cons (dl_tup (by rw [List.length_map]; omega) (all_map fun g _ => dl_G n g)) all_nil))
theorem dl_nut (n : Nat) {u : Nut} (h : u.phs.length ≤ 16) : depLt (n + 6) (dNut u) := dl_tup (by show 3 ≤ 100000; decide) (all_cons (dl_Q (n + 3) _) (all_cons (dl_tup (by rw [List.length_map]; omega) (all_map fun q _ => dl_Q (n + 2) q)) (all_cons (dl_int _ _) all_nil)))
theorem to_Q (q : Rat) : tonly (dQ q) = true := by simp [dQ, tonly, tonlys]
theorem to_line (l : Line) : tonly (dLine l) = true := by cases l <;> simp [dLine, dQ, tonly, tonlys]
theorem to_G (g : Groove) : tonly (dG g) = true := by simp [dG, dQ, tonly, tonlys, to_line]
theorem to_bar (b : Bar) : tonly (dBar b) = true := by
  have h := tonlys_map (f := dG) (l := b.gs) fun g _ => to_G g
  simp [dBar, tonly, tonlys, to_Q, h]
theorem to_nut (n : Nut) : tonly (dNut n) = true := by
  have h := tonlys_map (f := dQ) (l := n.phs) fun g _ => to_Q g
  simp [dNut, tonly, tonlys, to_Q, h]
theorem to_P (p : Rat × Rat) : tonly (dP p) = true := by simp [dP, tonly, tonlys, to_Q]
theorem ab1 {b : Bar} (h : BOk b) : AB (dBar b) b := ⟨dl_bar 3 h.few, tup_only _ (to_bar b), h⟩
theorem ab2 {b : Bar} (h : BOk b) : AB (lstD (dBar b)) b := ⟨depLt_lst _ _ (dl_bar 3 h.few), tup_lst _ (to_bar b), h⟩
theorem an1 {n : Nut} (h : NOk n) : AN (dNut n) n := ⟨dl_nut 3 h.few, tup_only _ (to_nut n), h⟩
theorem an2 {n : Nut} (h : NOk n) : AN (lstD (dNut n)) n := ⟨depLt_lst _ _ (dl_nut 3 h.few), tup_lst _ (to_nut n), h⟩
theorem am1 {m : Mo} (h : MOk m) : AM (dP m) m := ⟨dl_P 6 m, tup_only _ (to_P m), h⟩
theorem am2 {m : Mo} (h : MOk m) : AM (lstD (dP m)) m := ⟨depLt_lst _ _ (dl_P 6 m), tup_lst _ (to_P m), h⟩
theorem shp_int (i : Int) : Shp 0 (.int i) := ⟨rfl, by simp [PyData.depth]⟩
theorem shp_bool (i : Bool) : Shp 0 (.bool i) := ⟨rfl, by simp [PyData.depth]⟩
theorem shp_offs (l : List Nat) : Shp 1 (.tuple (l.map fun i : Nat => PyData.int (i : Int))) := shp_tup (all_map fun i _ => shp_int _)
theorem shp_P (p : Rat × Rat) : Shp 3 (dP p) := shp_tup (all_cons (shp_dQ' _) (all_cons (shp_dQ' _) all_nil))
theorem strOk_unfit : PyData.strOk "unfit" = true := by decide +kernel
theorem shp_unfit : Shp 1 (.list [.str "unfit", .bool true]) := ⟨by simp [PyData.canLay0, PyData.canLayAll0, strOk_unfit], by simp [PyData.depth, PyData.depthAll]⟩
theorem dl_unfit (n : Nat) : depLt (n + 2) (.list [.str "unfit", .bool true]) := dl_lst (by show 2 ≤ 100000; decide) (all_cons (dl_str _ _) (all_cons (dl_bool _ _) all_nil))
theorem dl_offs (n : Nat) {l : List Nat} (h : l.length ≤ 16) : depLt (n + 2) (.tuple (l.map fun i : Nat => PyData.int (i : Int))) := dl_tup (by rw [List.length_map]; omega) (all_map fun i _ => dl_int _ _)
theorem shp_stops (ws : List (Rat × Rat)) (far : Bool) : Shp 3 (stopsQ ws far) := shp_tup (all_cons (shp_dQ' _) (all_cons ((shp_offs _).mono (by decide)) all_nil))
theorem dl_stops (n : Nat) {ws : List (Rat × Rat)} (h : ws.length ≤ 16) (far : Bool) : depLt (n + 4) (stopsQ ws far) := dl_tup (by show 2 ≤ 100000; decide) (all_cons (dl_Q _ _) (all_cons (dl_offs _ (Nat.le_trans (List.length_filter_le _ _) (by rw [List.length_range]; exact h))) all_nil))
theorem de_same {K : PySem.W.Frag} {T : List (Addr × Str)} {ρ : Rho} {ta tb : TE} {x : PyData} (h1 : DE ⟨K, T⟩ ta ρ x) (h2 : DE ⟨K, T⟩ tb ρ x) (hd : depLt 9 x) (hs : SeqAt.shaped x = true) : DE ⟨K, T⟩ (tCall (spP K (Pre_law_same 9)) [] E0 (tCons ta (tCons tb tNil))) ρ (.bool true) :=
  de_call (da_cons h1 (da_cons h2 da_nil)) ⟨x, rfl, hd, hs, rfl⟩
theorem de_lists {K : PySem.W.Frag} {T : List (Addr × Str)} {ρ : Rho} {ta : TE} {x : PyData} (h1 : DE ⟨K, T⟩ ta ρ x) (hd : depLt 9 x) : DE ⟨K, T⟩ (tCall (spP K (Pre_law_lists 9)) [] E0 (tCons ta tNil)) ρ (lstD x) := de_call (da_cons h1 da_nil) ⟨x, rfl, hd, rfl⟩
/-! _law_stand_right -/
abbrev s_law_stand_right : Stmt := topS 80
abbrev n_law_stand_right : List Str := ["_law_bar_so", "_law_nut_so", "_law_motion_so", "_law_lines_so", "_law_k", "_law_off_so", "_law_got", "_law_ways_so", "_law_own", "_law_told_so", "_law_all_so", "_law_stops_so", "_law_j"]
theorem sc_law_stand_right : FnScope n_law_stand_right ["_law_bar_so", "_law_nut_so", "_law_motion_so"] (defScope s_law_stand_right) := ⟨rfl, rfl, rfl, by decide +kernel, rfl, by decide +kernel, by decide +kernel⟩
theorem lines_range (n : Nut) (m : Mo) : linesQ n m = (List.range n.phs.length).map fun k => lineQ n m (n.phs.getD k 0) := by
  unfold linesQ
  apply List.ext_getElem?
  intro i
  rw [List.getElem?_map, List.getElem?_map]
  by_cases h : i < n.phs.length
  · rw [List.getElem?_range h, phs_get h]
    rfl
  · rw [List.getElem?_eq_none (by omega), List.getElem?_eq_none (by simp; omega)]
    rfl
theorem plain2 {ρ : Rho} {i j : Nat} {s t : Sl} (h1 : ρ[i]? = some s) (k1 : keepS (some s) = s) (h2 : ρ[j]? = some t) (k2 : keepS (some t) = t) : plainR ρ [i, j] := fun l hl => by
  rcases List.mem_cons.mp hl with rfl | hl
  · exact ⟨s, h1, k1⟩
  · rw [List.mem_singleton.mp hl]
    exact ⟨t, h2, k2⟩
abbrev qLam : Str := (envOfC "_law_stand_right" (defScope s_law_stand_right) 0 0 .none).qual ++ "<lambda>"
def Pre_law_stand_right (ds : List PyData) (d : PyData) : Prop := ∃ b n m, ds = [dBar b, dNut n, dP m] ∧ BOk b ∧ NOk n ∧ MOk m ∧ d = .bool true
theorem ok_law_stand_right {M : Md} (bi : Bi M.mg) {EN U EQ c P : Addr} (Fh : DefAt M "_law_heard" s_law_heard) (er : Errs M.K M.mg EN U EQ) (TB : TabB M.base M.mg c P) (F : DefAtC M "_law_stand_right" s_law_stand_right c) (F_law_tooth_line : OkF M "_law_tooth_line" ["_law_nut_so", "_law_motion_so", "_law_k"] 6 (spP M.K Pre_law_tooth_line)) (F_law_off : OkF M "_law_off" ["_law_bar_so", "_law_nut_so", "_law_motion_so"] 7 (spP M.K Pre_law_off)) (F_is_on : OkF M "is_on" ["bar", "nut", "motion"] 11 (spP M.K Pre_is_on)) (F_law_lists : OkF M "_law_lists" ["_law_matter"] 10 (spP M.K (Pre_law_lists 9))) (F_why_off : OkF M "why_off" ["bar", "nut", "motion"] 11 (spP M.K Pre_why_off)) (F_law_same : OkF M "_law_same" ["_law_got", "_law_due"] 10 (spP M.K (Pre_law_same 9))) (F_law_stretch : OkF M "_law_stretch" ["_law_bar_so", "_law_lines_so", "_law_height_so", "_law_place_so"] 5 (spP M.K Pre_law_stretch)) (F_tooth_stretch : OkE M "tooth_stretch" ["bar", "nut", "motion", "number"] 11 (spE M.K U Pre_tooth_stretch)) (F_how_far : OkE M "how_far" ["bar", "nut", "motion"] 12 (spE M.K U Pre_how_far)) (F_stops_at : OkE M "stops_at" ["bar", "nut", "motion", "far"] 12 (spE M.K U Pre_stops_at)) : OkF M "_law_stand_right" ["_law_bar_so", "_law_nut_so", "_law_motion_so"] 16 (spL M.K P qLam Pre_law_stand_right) := by
  refine okf_lam (q := qLam) F sc_law_stand_right (fun _ _ _ _ _ _ us hl => match us, hl with | [_, _, _], _ => rfl) (fun ds d h => by obtain ⟨b, n, m, rfl, _⟩ := h; rfl) fun f A outer s H E hr =>
    ⟨_, (pss_cons (ps_setLc (i := 3) (own := [("_law_k", 4)]) rfl sc_law_stand_right.nd rfl rfl (sw_true rfl rfl rfl (by decide +kernel)) (pi_range1 rfl bi.range (pa_cons (pe_callB (klen M.K) (by rfl) bi.len PySem.boot_len (pa_cons (pe_ix (kixT M.K) (pv 1) pe_int (fun _ _ => rfl)) pa_nil)) pa_nil)) (blkOk_by (N := n_law_stand_right) (sc := defScope s_law_stand_right) (by decide +kernel)) (fun _ _ _ _ _ => (pg_name (i := 4) sc_law_stand_right.nd rfl (by first | exact .inl rfl | exact .inr rfl))) (fun _ _ _ _ _ => pts_nil) (fun _ _ _ _ _ => (pe_fn F_law_tooth_line (hr.mono (by decide)) (pa_cons (pv 1) (pa_cons (pv 2) (pa_cons (pv 4) pa_nil))))))
      (pss_cons (ps_set (i := 5) sc_law_stand_right.nd rfl (by first | exact .inl rfl | exact .inr rfl) (pe_fn F_law_off (hr.mono (by decide)) (pa_cons (pv 0) (pa_cons (pv 1) (pa_cons (pv 2) pa_nil)))))
      (pss_cons (ps_set (i := 6) sc_law_stand_right.nd rfl (by first | exact .inl rfl | exact .inr rfl) (pe_lst (pa_cons (pe_fn F_is_on (hr.mono (by decide)) (pa_cons (pe_fn F_law_lists (hr.mono (by decide)) (pa_cons (pv 0) pa_nil)) (pa_cons (pv 1) (pa_cons (pv 2) pa_nil)))) (pa_cons (pe_fn F_why_off (hr.mono (by decide)) (pa_cons (pv 0) (pa_cons (pe_fn F_law_lists (hr.mono (by decide)) (pa_cons (pv 1) pa_nil)) (pa_cons (pv 2) pa_nil)))) pa_nil))))
      (pss_cons (ps_if (pt_not (pt_val (pe_fn F_law_same (hr.mono (by decide)) (pa_cons (pv 6) (pa_cons (pe_lst (pa_cons (pe_cmpR (keqD M.K hr) (pv 5) (pe_tup pa_nil) (nomark _)) (pa_cons (pv 5) pa_nil))) pa_nil))))) (pss_one (ps_ret pe_bl)) pss_nil)
      (pss_cons (ps_set (i := 7) sc_law_stand_right.nd rfl (by first | exact .inl rfl | exact .inr rfl) (pe_lc (own := [("_law_own", 8)]) rfl sc_law_stand_right.nd (piL M.K (pv 3)) (blkOk_by (N := n_law_stand_right) (sc := defScope s_law_stand_right) (by decide +kernel)) (fun _ _ _ _ _ => (pg_name (i := 8) sc_law_stand_right.nd rfl (by first | exact .inl rfl | exact .inr rfl))) (fun _ _ _ _ _ => pts_nil) (fun _ _ _ _ _ => (pe_fn F_law_stretch (hr.mono (by decide)) (pa_cons (pv 0) (pa_cons (pe_lst (pa_cons (pv 8) pa_nil)) (pa_cons (pe_ix (kixT M.K) (pv 1) pe_int (fun _ _ => rfl)) (pa_cons (pe_ix (kixT M.K) (pv 2) pe_int (fun _ _ => rfl)) pa_nil))))))))
      (pss_cons (ps_for PassesOwn.never rfl (piE M.K bi.enumerate (pa_cons (pv 7) pa_nil)) (pgT M.K 2 (pgs_cons (pg_name (i := 4) sc_law_stand_right.nd rfl (by first | exact .inl rfl | exact .inr rfl)) (pgs_cons (pg_name (i := 8) sc_law_stand_right.nd rfl (by first | exact .inl rfl | exact .inr rfl)) pgs_nil))) (pss_cons (ps_set (i := 9) sc_law_stand_right.nd rfl (by first | exact .inl rfl | exact .inr rfl) (pe_heard (k := 12) Fh er TB (hr.mono (by decide)) (fun A outer s H E f c1 hr => (pe_fnE F_tooth_stretch (hr.mono (by decide)) (pa_cons (pv 0) (pa_cons (pv 1) (pa_cons (pe_fn F_law_lists (hr.mono (by decide)) (pa_cons (pv 2) pa_nil)) (pa_cons (pv 4) pa_nil)))) (takes_of rfl rfl rfl rfl))) (L := lamS_by (sc := defScope s_law_stand_right) (by decide +kernel))))
      (pss_one (ps_if (pt_not (pt_val (pe_fn F_law_same (hr.mono (by decide)) (pa_cons (pv 9) (pa_cons (pe_ifExp (pt_cmpR op_isN (pv 8) pe_non (nomark _)) (pe_lst (pa_cons pe_str (pa_cons pe_bl pa_nil))) (pv 8)) pa_nil))))) (pss_one (ps_ret pe_bl)) pss_nil))))
      (pss_cons (ps_set (i := 6) sc_law_stand_right.nd rfl (by first | exact .inl rfl | exact .inr rfl) (pe_lst (pa_cons (pe_heard (k := 12) Fh er TB (hr.mono (by decide)) (fun A outer s H E f c1 hr => (pe_fnE F_how_far (hr.mono (by decide)) (pa_cons (pv 0) (pa_cons (pv 1) (pa_cons (pv 2) pa_nil))) (takes_of rfl rfl rfl rfl))) (L := lamS_by (sc := defScope s_law_stand_right) (by decide +kernel))) (pa_cons (pe_heard (k := 12) Fh er TB (hr.mono (by decide)) (fun A outer s H E f c1 hr => (pe_fnE F_stops_at (hr.mono (by decide)) (pa_cons (pe_fn F_law_lists (hr.mono (by decide)) (pa_cons (pv 0) pa_nil)) (pa_cons (pv 1) (pa_cons (pv 2) (pa_cons pe_bl pa_nil)))) (takes_of rfl rfl rfl rfl))) (L := lamS_by (sc := defScope s_law_stand_right) (by decide +kernel))) (pa_cons (pe_heard (k := 12) Fh er TB (hr.mono (by decide)) (fun A outer s H E f c1 hr => (pe_fnE F_stops_at (hr.mono (by decide)) (pa_cons (pv 0) (pa_cons (pv 1) (pa_cons (pv 2) (pa_cons pe_bl pa_nil)))) (takes_of rfl rfl rfl rfl))) (L := lamS_by (sc := defScope s_law_stand_right) (by decide +kernel))) pa_nil)))))
      (pss_cons (ps_if (pt_cmpR (kneD M.K hr) (pv 5) (pe_tup pa_nil) (nomark _)) (pss_one (ps_ret (pe_fn F_law_same (hr.mono (by decide)) (pa_cons (pv 6) (pa_cons (pe_op op_rep (pe_lst (pa_cons (pe_lst (pa_cons pe_str (pa_cons pe_bl pa_nil))) pa_nil)) pe_int) pa_nil))))) pss_nil)
      (pss_cons (ps_set (i := 10) sc_law_stand_right.nd rfl (by first | exact .inl rfl | exact .inr rfl) (pe_fn F_law_stretch (hr.mono (by decide)) (pa_cons (pv 0) (pa_cons (pv 3) (pa_cons (pe_ix (kixT M.K) (pv 1) pe_int (fun _ _ => rfl)) (pa_cons (pe_ix (kixT M.K) (pv 2) pe_int (fun _ _ => rfl)) pa_nil))))))
      (pss_cons (ps_setLc (i := 11) (own := [("_law_k", 4)]) rfl sc_law_stand_right.nd rfl rfl (sw_true rfl rfl rfl (by decide +kernel)) (piT M.K (pe_tup (pa_cons pe_int (pa_cons pe_int pa_nil)))) (blkOk_by (N := n_law_stand_right) (sc := defScope s_law_stand_right) (by decide +kernel)) (fun _ _ _ _ _ => (pg_name (i := 4) sc_law_stand_right.nd rfl (by first | exact .inl rfl | exact .inr rfl))) (fun _ _ _ _ _ => pts_nil) (fun _ _ _ _ _ => (pe_tup (pa_cons (pe_ix (kixT M.K) (pv 10) (pv 4) (fun _ _ => rfl)) (pa_cons (pe_callTy (ktupOf M.K) (by rfl) bi.tuple (by decide +kernel) (pa_cons (pe_lc (own := [("_law_j", 12), ("_law_own", 8)]) rfl sc_law_stand_right.nd (piE M.K bi.enumerate (pa_cons (pv 7) pa_nil)) (blkOk_by (N := n_law_stand_right) (sc := relS _ (defScope s_law_stand_right)) (by decide +kernel)) (fun _ _ _ _ _ => (pgT M.K 2 (pgs_cons (pg_name (i := 12) sc_law_stand_right.nd rfl (by first | exact .inl rfl | exact .inr rfl)) (pgs_cons (pg_name (i := 8) sc_law_stand_right.nd rfl (by first | exact .inl rfl | exact .inr rfl)) pgs_nil)))) (fun _ _ _ _ _ => (pts_one (pt_cmpR (keqD M.K hr) (pe_ix (kixT M.K) (pv 8) (pv 4) (fun _ _ => rfl)) (pe_ix (kixT M.K) (pv 10) (pv 4) (fun _ _ => rfl)) (nomark _)))) (fun _ _ _ _ _ => (pv 12))) pa_nil)) pa_nil)))))
      (pss_one (ps_ret (pe_fn F_law_same (hr.mono (by decide)) (pa_cons (pv 6) (pa_cons (pe_op op_cat (pe_lst (pa_cons (pv 10) pa_nil)) (pv 11)) pa_nil))))))))))))))), fun ds d h => ?_⟩
  obtain ⟨b, n, m, rfl, hb, hn, hm, rfl⟩ := h
  have hf := hn.few
  have hol : (offLQ b n m).length ≤ 16 := Nat.le_trans (List.length_filter_le _ _) (by rw [List.length_range]; exact hf)
  have hll : (linesQ n m).length = n.phs.length := List.length_map _
  have hne : linesQ n m ≠ [] := by
    unfold linesQ
    simpa using hn.ne
  -- the lines
  refine ds_seq (ds_asgD (d := .list ((linesQ n m).map dLine)) ?_ ?_)
  · have k := de_lcMM (C := ⟨M.K, [(P, qLam)]⟩) (ρ := initR n_law_stand_right [dBar b, dNut n, dP m]) (wi := iRng1 (tCons (tCB (rLenQ M.K) (tCons (tOp (rIxT M.K) (tVar 1) (tC (.int 1))) tNil)) tNil)) (g := gName 4) (te := tCall (spP M.K Pre_law_tooth_line) [] E0 (tCons (tVar 1) (tCons (tVar 2) (tCons (tVar 4) tNil)))) (js := [4]) (vs := [4]) (List.range n.phs.length) (fun k : Nat => .int (k : Int)) (fun k => dLine (lineQ n m (n.phs.getD k 0))) ?_ (by rw [List.length_range]; omega) inAll (plainR_un rfl plainR_nil) fun k hk => ⟨[.int (k : Int)], gt_name, ?_⟩
    · rw [lines_range, List.map_map]
      exact k
    · rw [← rng0]
      exact dw_rng1 (da_cons ((de_cb (da_cons (de_op (de_var rfl) de_int (rd_ixT (d := .tuple (n.phs.map dQ)) rfl)) da_nil) rc_lenT).cast (by rw [List.length_map])) da_nil) (by omega)
    · exact de_call (da_cons (de_var rfl) (da_cons (de_var rfl) (da_cons (de_var rfl) da_nil))) ⟨n, m, k, rfl, hn, hm, List.mem_range.mp hk, rfl⟩
  -- where it is off
  refine ds_seq (ds_asgD (d := .tuple ((offLQ b n m).map fun k : Nat => .int (k : Int))) (de_call (da_cons (de_var rfl) (da_cons (de_var rfl) (da_cons (de_var rfl) da_nil))) ⟨b, n, m, rfl, hb, hn, hm, rfl⟩) ?_)
  refine ds_seq (ds_asgD (d := .list [.bool (decide (offLQ b n m = [])), .tuple ((offLQ b n m).map fun k : Nat => .int (k : Int))]) ((de_lst (da_cons (de_call (da_cons (de_lists (de_var rfl) (dl_bar 3 hb.few)) (da_cons (de_var rfl) (da_cons (de_var rfl) da_nil))) ⟨_, _, _, b, n, m, rfl, ab2 hb, an1 hn, am1 hm, rfl⟩)
    (da_cons (de_call (da_cons (de_var rfl) (da_cons (de_lists (de_var rfl) (dl_nut 3 hn.few)) (da_cons (de_var rfl) da_nil))) ⟨_, _, _, b, n, m, rfl, ab1 hb, an2 hn, am1 hm, rfl⟩) da_nil))).cast (by rw [on_off hb, off_same hb])) ?_)
  refine ds_seq (ds_ifD (b := false) ((dt_not (dt_B (de_same (de_var rfl) (de_lst (da_cons ((de_op (de_var rfl) (de_tup da_nil) (rd_eqD (shp_ints _) rfl)).cast (by rw [eqv_nil])) (da_cons (de_var rfl) da_nil))) ?_ ?_))).cast rfl) (fun z => nomatch z) fun _ => ds_next ?_)
  · exact dl_lst (by show 2 ≤ 100000; decide) (all_cons (dl_bool _ _) (all_cons (dl_offs _ hol) all_nil))
  · exact (shp_lst (n := 1) (all_cons ((shp_bool _).mono (by decide)) (all_cons (shp_offs _) all_nil))).ok (by decide)
  -- the ways
  have tl := ofs_len b n m
  refine ds_seq (ds_asgD (d := .list ((teethQ b n m).map dO)) ?_ ?_)
  · rw [← ways_same hb, List.map_map]
    exact de_lcMM (js := [8]) (linesQ n m) dLine (fun l => dO (strQ b [l] n.h m.1)) (dw_list (de_var rfl)) (by omega) inAll (plainR_un rfl plainR_nil) fun l hl => ⟨[dLine l], gt_name, de_call (da_cons (de_var rfl) (da_cons (de_lst (da_cons (de_var rfl) da_nil)) (da_cons (de_op (de_var rfl) de_int (rd_ixT (d := .int n.h) rfl)) (da_cons (de_op (de_var rfl) de_int (rd_ixT (d := dQ m.1) rfl)) da_nil)))) ⟨b, [l], n.h, m.1, rfl, hb, by simp, by simp, hm.z1.mono (by decide), rfl⟩⟩
  -- each tooth
  refine ds_seq (ds_forD (js := [4, 8]) (fun i ρ' => ∃ k4 k8 s9, keepS (some k4) = k4 ∧ keepS (some k8) = k8 ∧ ρ' = [.dat (dBar b), .dat (dNut n), .dat (dP m), .dat (.list ((linesQ n m).map dLine)), k4, .dat (.tuple ((offLQ b n m).map fun k : Nat => .int (k : Int))), .dat (.list [.bool (decide (offLQ b n m = [])), .tuple ((offLQ b n m).map fun k : Nat => .int (k : Int))]), .dat (.list ((teethQ b n m).map dO)), k8, s9, .un, .un, .un])
    (dw_enum (da_cons (de_var rfl) da_nil)) ⟨.un, .un, .un, rfl, rfl, rfl⟩ (fun i y ρ' ey iv => ?_) fun ρ' iv => ?_)
  · obtain ⟨k4, k8, s9, _, _, rfl⟩ := iv
    obtain ⟨y, ey2, rfl⟩ := enumD_get ey
    rw [List.getElem?_map] at ey2
    obtain ⟨o, eo, rfl⟩ := Option.map_eq_some_iff.mp ey2
    have hi : i < n.phs.length := by
      have := (List.getElem?_eq_some_iff.mp eo).1
      omega
    have eg : (teethQ b n m).getD i none = o := by rw [List.getD_eq_getElem?_getD, eo]; rfl
    refine ⟨[.int (i : Int), dO o], gt_tup (.cons 4 (.cons 8 .nil)) rfl rfl, ?_⟩
    refine ds_seq (ds_asgD (d := heardD (o.map dP)) (de_heard (r := o.map dP) (da_cons (de_var rfl) (da_cons (de_var rfl) (da_cons (de_lists (de_var rfl) (dl_P 6 m)) (da_cons (de_var rfl) da_nil)))) ⟨_, _, _, b, n, m, i, rfl, ab1 hb, an1 hn, am2 hm, hi, by rw [eg]⟩) ?_)
    refine ds_ifD (b := false) ((dt_not (dt_B (de_same (x := heardD (o.map dP)) (de_var rfl) ?_ ?_ ?_))).cast rfl) (fun z => nomatch z) fun _ => ds_next ⟨_, _, .dat (heardD (o.map dP)), ?_, ?_, rfl⟩
    · cases o with
      | none => exact de_if (b := true) ((dt_test (de_op (de_var (d := .none) rfl) de_non rd_isN)).cast rfl) (fun _ => de_lst (da_cons de_str (da_cons de_bl da_nil))) fun z => nomatch z
      | some w => exact de_if (b := false) ((dt_test (de_op (de_var (d := dP w) rfl) de_non rd_isN)).cast rfl) (fun z => nomatch z) fun _ => de_var (d := dP w) rfl
    · cases o with
      | none => exact dl_unfit 7
      | some w => exact dl_P 6 w
    · cases o with
      | none => exact shp_unfit.ok (by decide)
      | some w => exact (shp_P w).ok (by decide)
    · rfl
    · rfl
  · obtain ⟨k4, k8, s9, e4, e8, rfl⟩ := iv
    have so := sure_off hb n m
    refine ds_forget 9 ?_
    -- all teeth
    refine ds_seq (ds_asgD (d := .list [heardD ((sureQ (teethQ b n m)).map fun ws => dP (sharedQ ws)), heardD ((sureQ (teethQ b n m)).map fun ws => stopsQ ws true), heardD ((sureQ (teethQ b n m)).map fun ws => stopsQ ws false)])
      (de_lst (da_cons (de_heard (da_cons (de_var rfl) (da_cons (de_var rfl) (da_cons (de_var rfl) da_nil))) ⟨_, _, _, b, n, m, rfl, ab1 hb, an1 hn, am1 hm, rfl⟩)
        (da_cons (de_heard (da_cons (de_lists (de_var rfl) (dl_bar 3 hb.few)) (da_cons (de_var rfl) (da_cons (de_var rfl) (da_cons de_bl da_nil)))) ⟨_, _, _, true, b, n, m, rfl, ab2 hb, an1 hn, am1 hm, rfl⟩)
          (da_cons (de_heard (da_cons (de_var rfl) (da_cons (de_var rfl) (da_cons (de_var rfl) (da_cons de_bl da_nil)))) ⟨_, _, _, false, b, n, m, rfl, ab1 hb, an1 hn, am1 hm, rfl⟩) da_nil)))) ?_)
    refine ds_seq (ds_ifD (b := !decide (offLQ b n m = [])) ((dt_test (de_op (de_var rfl) (de_tup da_nil) (rd_neD (shp_ints _) rfl))).cast (by rw [eqv_nil])) (fun hz => ?_) fun hz => ds_next ?_)
    · have hz : offLQ b n m ≠ [] := by simpa using hz
      have e : sureQ (teethQ b n m) = none := so.mpr hz
      rw [e]
      refine ds_retD (de_same (x := .list [.list [.str "unfit", .bool true], .list [.str "unfit", .bool true], .list [.str "unfit", .bool true]]) (de_var rfl) ((de_rep (k := 3) (da_cons (de_lst (da_cons de_str (da_cons de_bl da_nil))) da_nil) (by decide) (by decide) (by show 1 ≤ 100; decide)).cast rfl) ?_ ?_) rfl
      · exact dl_lst (by show 3 ≤ 100000; decide) (all_cons (dl_unfit 6) (all_cons (dl_unfit 6) (all_cons (dl_unfit 6) all_nil)))
      · exact (shp_lst (n := 1) (all_cons shp_unfit (all_cons shp_unfit (all_cons shp_unfit all_nil)))).ok (by decide)
    · have hz : offLQ b n m = [] := by simpa using hz
      cases es : sureQ (teethQ b n m) with
      | none => exact absurd hz (so.mp es)
      | some ws =>
      have sh := shared_same hb n m hn.ne es
      have wl := teeth_len es
      have em := sure_map (sure_some es).1
      rw [← (sure_some es).2] at em
      rw [em]
      refine ds_seq (ds_asgD (d := dP (sharedQ ws)) ((de_call (da_cons (de_var rfl) (da_cons (de_var rfl) (da_cons (de_op (de_var rfl) de_int (rd_ixT (d := .int n.h) rfl)) (da_cons (de_op (de_var rfl) de_int (rd_ixT (d := dQ m.1) rfl)) da_nil)))) ⟨b, linesQ n m, n.h, m.1, rfl, hb, by omega, hne, hm.z1.mono (by decide), rfl⟩).cast (by rw [sh]; rfl)) ?_)
      have hix : ∀ (far : Bool) (w : Rat × Rat), atI [dQ w.1, dQ w.2] (if far then 1 else 0) = some (dQ (sideQ far w)) := fun far w => by cases far <;> rfl
      refine ds_seq (ds_asgStd (ds := [true, false].map (stopsQ ws)) (lx_lcMM (js := [4]) [true, false] (fun far : Bool => PyData.int (if far then 1 else 0)) (stopsQ ws) (dw_tup (de_tup (da_cons de_int (da_cons de_int da_nil)))) (by show 2 ≤ 100000; decide) inAll (fun i hi => by rw [List.mem_singleton.mp hi]; exact ⟨k4, rfl, e4⟩) fun far hfar => ⟨[.int (if far then 1 else 0)], gt_name, ?_⟩) ?_)
      · refine de_tup (da_cons (de_op (de_var (d := dP (sharedQ ws)) rfl) (de_var (d := .int (if far then 1 else 0)) rfl) (rd_ixT (hix far _))) (da_cons (de_cb (da_cons (de_lcF (js := [12, 8]) (List.range ws.length) (fun i => .tuple [.int (i : Int), dP (ws.getD i (0, 0))]) (fun i => decide (sideQ far (ws.getD i (0, 0)) = sideQ far (sharedQ ws))) (fun i => .int (i : Int)) ?_ (by rw [List.length_range]; omega) inAll (plain2 rfl rfl rfl e8) fun i hi => ⟨[.int (i : Int), dP (ws.getD i (0, 0))], gt_tup (.cons 12 (.cons 8 .nil)) rfl rfl, ?_, fun _ => de_var rfl⟩) da_nil) rc_tupL) da_nil))
        · have k := dw_enum (C := ⟨M.K, [(P, qLam)]⟩) (as := tCons (tVar 7) tNil) (ds := ws.map dP) (ρ := setd (wipeR ([.dat (dBar b), .dat (dNut n), .dat (dP m), .dat (.list ((linesQ n m).map dLine)), k4, .dat (.tuple ((offLQ b n m).map fun k : Nat => .int (k : Int))), .dat (.list [heardD (some (dP (sharedQ ws))), heardD (some (stopsQ ws true)), heardD (some (stopsQ ws false))]), .dat (.list (ws.map dP)), k8, .un, .dat (dP (sharedQ ws)), .un, .un]) [4]) [4] [.int (if far then 1 else 0)]) (da_cons (de_var (i := 7) rfl) da_nil)
          rw [enum_range (0, 0)] at k
          exact k
        · exact (dt_test (de_op (de_op (de_var (d := dP (ws.getD i (0, 0))) rfl) (de_var (d := .int (if far then 1 else 0)) rfl) (rd_ixT (hix far _))) (de_op (de_var (d := dP (sharedQ ws)) rfl) (de_var (d := .int (if far then 1 else 0)) rfl) (rd_ixT (hix far _))) (rd_eqD (shp_dQ _) (shp_dQ _)))).cast (eqv_dQ _ _)
      · refine ds_retD (de_same (x := .list [dP (sharedQ ws), stopsQ ws true, stopsQ ws false]) (de_var rfl) ((lx_cat (lx_lst (da_cons (de_var (d := dP (sharedQ ws)) rfl) da_nil)) (lx_var rfl) (by show 3 ≤ 100000; decide)).de) ?_ ?_) rfl
        · exact dl_lst (by show 3 ≤ 100000; decide) (all_cons (dl_P 5 _) (all_cons (dl_stops 4 (by omega) _) (all_cons (dl_stops 4 (by omega) _) all_nil)))
        · exact (shp_lst (n := 3) (all_cons (shp_P _) (all_cons (shp_stops _ _) (all_cons (shp_stops _ _) all_nil)))).ok (by decide)
end SC
/-! The part made by hand, reckoned. -/
namespace SC
theorem way_of {b : Bar} (hb : BOk b) {l p : Rat} {h : Int} {x s e : Rat} (hon : ∀ y, OnL b (.lead l p) h y ↔ s ≤ y ∧ y ≤ e) (h1 : s ≤ x) (h2 : x ≤ e) : wayQ b l p h x = some (s, e) := by
  have k : IsComp (OnL b (.lead l p) h) x (s, e) := ⟨h1, h2, fun y a c => (hon y).mpr ⟨a, c⟩, fun y hy => ⟨y, Rat.le_refl, hy, fun z => by have := ((hon y).mp z).1; have hy : y < s := hy; grind⟩, fun y hy => ⟨y, hy, Rat.le_refl, fun z => by have := ((hon y).mp z).2; have hy : e < y := hy; grind⟩⟩
  cases q : wayQ b l p h x with
  | none => exact absurd ((hon x).mpr ⟨h1, h2⟩) ((wayQ_none hb).mp q)
  | some w => rw [(wayQ_some hb q).uniq k]
theorem way_no {b : Bar} (hb : BOk b) {l p : Rat} {h : Int} {x s e : Rat} (hon : ∀ y, OnL b (.lead l p) h y ↔ s ≤ y ∧ y ≤ e) (h1 : e < x) : wayQ b l p h x = none := (wayQ_none hb).mpr fun z => by
  have := ((hon x).mp z).2
  grind
def b0 : Bar := ⟨3, [⟨.lead 1 0, 0, 3, 1⟩, ⟨.lead 1 (1/2), 0, 2, 1⟩]⟩
def n0 : Nut := ⟨1, [0, 1/2], 1⟩
def b1 : Bar := ⟨3, [⟨.lead 1 0, 0, 1, 1⟩, ⟨.lead 1 0, 1, 3, 2⟩]⟩
def n1 : Nut := ⟨1, [0], 1⟩
theorem lead1 {p : Rat} (h : (0 ≤ p ∧ p < 1) ∧ p.num.natAbs < 2 ^ 40 ∧ p.den < 2 ^ 40) : Sz 40 (1 : Rat) ∧ Sz 40 p ∧ (1 : Rat) ≠ 0 ∧ 0 ≤ p ∧ p < absQ 1 := ⟨⟨by decide, by decide⟩, h.2, by decide, h.1.1, by
  have e : absQ 1 = 1 := by decide +kernel
  rw [e]
  exact h.1.2⟩
theorem b0_ok : BOk b0 := by
  refine ⟨by decide, ⟨by decide, by decide⟩, by decide +kernel, fun g hg => ?_⟩
  have hg : g = ⟨.lead 1 0, 0, 3, 1⟩ ∨ g = ⟨.lead 1 (1/2), 0, 2, 1⟩ := by simpa [b0] using hg
  rcases hg with rfl | rfl
  · exact ⟨by decide +kernel, by decide +kernel, ⟨by decide, by decide⟩, ⟨by decide, by decide⟩, lead1 (by decide +kernel)⟩
  · exact ⟨by decide +kernel, by decide +kernel, ⟨by decide, by decide⟩, ⟨by decide, by decide⟩, lead1 (by decide +kernel)⟩
theorem b1_ok : BOk b1 := by
  refine ⟨by decide, ⟨by decide, by decide⟩, by decide +kernel, fun g hg => ?_⟩
  have hg : g = ⟨.lead 1 0, 0, 1, 1⟩ ∨ g = ⟨.lead 1 0, 1, 3, 2⟩ := by simpa [b1] using hg
  rcases hg with rfl | rfl
  · exact ⟨by decide +kernel, by decide +kernel, ⟨by decide, by decide⟩, ⟨by decide, by decide⟩, lead1 (by decide +kernel)⟩
  · exact ⟨by decide +kernel, by decide +kernel, ⟨by decide, by decide⟩, ⟨by decide, by decide⟩, lead1 (by decide +kernel)⟩
theorem n0_ok : NOk n0 := ⟨by decide, by simp [n0], ⟨by decide, by decide⟩, by decide +kernel, fun p hp => by
  have hp : p = 0 ∨ p = 1/2 := by simpa [n0] using hp
  rcases hp with rfl | rfl
  · exact ⟨by decide +kernel, by decide +kernel⟩
  · exact ⟨by decide +kernel, by decide +kernel⟩⟩
theorem n1_ok : NOk n1 := ⟨by decide, by simp [n1], ⟨by decide, by decide⟩, by decide +kernel, fun p hp => by
  have hp : p = 0 := by simpa [n1] using hp
  rw [hp]
  exact ⟨by decide +kernel, by decide +kernel⟩⟩
theorem m_ok {a c : Rat} (h : (a.num.natAbs < 2 ^ 40 ∧ a.den < 2 ^ 40) ∧ c.num.natAbs < 2 ^ 40 ∧ c.den < 2 ^ 40) : MOk (a, c) := ⟨h.1, Sz.mono (n := 40) h.2 (by decide)⟩
theorem on_a (y : Rat) : OnL b0 (.lead 1 0) 1 y ↔ 0 ≤ y ∧ y ≤ 3 := by
  unfold OnL
  constructor
  · rintro ⟨g, hg, e, _, h1, h2⟩
    have hg : g = ⟨.lead 1 0, 0, 3, 1⟩ ∨ g = ⟨.lead 1 (1/2), 0, 2, 1⟩ := by simpa [b0] using hg
    rcases hg with rfl | rfl
    · exact ⟨h1, h2⟩
    · injection e with _ e
      exact absurd e (by decide +kernel)
  · exact fun ⟨h1, h2⟩ => ⟨⟨.lead 1 0, 0, 3, 1⟩, by simp [b0], rfl, by decide, h1, h2⟩
theorem on_b (y : Rat) : OnL b0 (.lead 1 (1/2)) 1 y ↔ 0 ≤ y ∧ y ≤ 2 := by
  unfold OnL
  constructor
  · rintro ⟨g, hg, e, _, h1, h2⟩
    have hg : g = ⟨.lead 1 0, 0, 3, 1⟩ ∨ g = ⟨.lead 1 (1/2), 0, 2, 1⟩ := by simpa [b0] using hg
    rcases hg with rfl | rfl
    · injection e with _ e
      exact absurd e (by decide +kernel)
    · exact ⟨h1, h2⟩
  · exact fun ⟨h1, h2⟩ => ⟨⟨.lead 1 (1/2), 0, 2, 1⟩, by simp [b0], rfl, by decide, h1, h2⟩
theorem on_c (y : Rat) : OnL b1 (.lead 1 0) 1 y ↔ 0 ≤ y ∧ y ≤ 3 := by
  unfold OnL
  constructor
  · rintro ⟨g, hg, e, _, h1, h2⟩
    have hg : g = ⟨.lead 1 0, 0, 1, 1⟩ ∨ g = ⟨.lead 1 0, 1, 3, 2⟩ := by simpa [b1] using hg
    rcases hg with rfl | rfl
    · have h1 : (0 : Rat) ≤ y := h1
      have h2 : y ≤ 1 := h2
      exact ⟨h1, by grind⟩
    · have h1 : (1 : Rat) ≤ y := h1
      have h2 : y ≤ 3 := h2
      exact ⟨by grind, h2⟩
  · rintro ⟨h1, h2⟩
    by_cases q : y ≤ 1
    · exact ⟨⟨.lead 1 0, 0, 1, 1⟩, by simp [b1], rfl, by decide, h1, q⟩
    · exact ⟨⟨.lead 1 0, 1, 3, 2⟩, by simp [b1], rfl, by decide, Rat.le_of_lt (Rat.not_le.mp q), h2⟩
theorem teeth_home : teethQ b0 n0 (0, 0) = [some (0, 3), some (0, 2)] := by
  have e1 : phaseQ 1 0 (0, 0) = 0 := by decide +kernel
  have e2 : phaseQ 1 (1/2) (0, 0) = 1/2 := by decide +kernel
  show [wayQ b0 1 (phaseQ 1 0 (0, 0)) 1 0, wayQ b0 1 (phaseQ 1 (1/2) (0, 0)) 1 0] = _
  rw [e1, e2, way_of b0_ok on_a (by decide +kernel) (by decide +kernel), way_of b0_ok on_b (by decide +kernel) (by decide +kernel)]
theorem teeth_end : teethQ b0 n0 (3, 0) = [some (0, 3), none] := by
  have e1 : phaseQ 1 0 (3, 0) = 0 := by decide +kernel
  have e2 : phaseQ 1 (1/2) (3, 0) = 1/2 := by decide +kernel
  show [wayQ b0 1 (phaseQ 1 0 (3, 0)) 1 3, wayQ b0 1 (phaseQ 1 (1/2) (3, 0)) 1 3] = _
  rw [e1, e2, way_of b0_ok on_a (by decide +kernel) (by decide +kernel), way_no b0_ok on_b (by decide +kernel)]
theorem teeth_half : teethQ b0 n0 (3, 1/2) = [none, some (0, 3)] := by
  have e1 : phaseQ 1 0 (3, 1/2) = 1/2 := by decide +kernel
  have e2 : phaseQ 1 (1/2) (3, 1/2) = 0 := by decide +kernel
  show [wayQ b0 1 (phaseQ 1 0 (3, 1/2)) 1 3, wayQ b0 1 (phaseQ 1 (1/2) (3, 1/2)) 1 3] = _
  rw [e1, e2, way_no b0_ok on_b (by decide +kernel), way_of b0_ok on_a (by decide +kernel) (by decide +kernel)]
theorem teeth_turn : teethQ b0 n0 (0, 1/2) = [some (0, 2), some (0, 3)] := by
  have e1 : phaseQ 1 0 (0, 1/2) = 1/2 := by decide +kernel
  have e2 : phaseQ 1 (1/2) (0, 1/2) = 0 := by decide +kernel
  show [wayQ b0 1 (phaseQ 1 0 (0, 1/2)) 1 0, wayQ b0 1 (phaseQ 1 (1/2) (0, 1/2)) 1 0] = _
  rw [e1, e2, way_of b0_ok on_b (by decide +kernel) (by decide +kernel), way_of b0_ok on_a (by decide +kernel) (by decide +kernel)]
theorem teeth_one : teethQ b1 n1 (0, 0) = [some (0, 3)] := by
  have e1 : phaseQ 1 0 (0, 0) = 0 := by decide +kernel
  show [wayQ b1 1 (phaseQ 1 0 (0, 0)) 1 0] = _
  rw [e1, way_of b1_ok on_c (by decide +kernel) (by decide +kernel)]
theorem ways_none : waysOnQ b0 n0 3 = [] := by
  have hd : ∀ ph, ph ∈ deepQ b0 n0.lead n0.h → ph = 0 ∨ ph = 1/2 := fun ph hph => by
    obtain ⟨g, hg, rfl⟩ := List.mem_map.mp (mem_canonQ.mp hph)
    have hg2 : g = ⟨.lead 1 0, 0, 3, 1⟩ ∨ g = ⟨.lead 1 (1/2), 0, 2, 1⟩ := by simpa [b0] using (List.mem_filter.mp hg).1
    rcases hg2 with rfl | rfl
    · exact .inl rfl
    · exact .inr rfl
  have e1 : angQ n0 3 0 = 0 := by decide +kernel
  have e2 : angQ n0 3 (1/2) = 1/2 := by decide +kernel
  have none : ((deepQ b0 n0.lead n0.h).map (angQ n0 3)).filter (fun a => onQ b0 n0 (3, a)) = [] := by
    rw [List.filter_eq_nil_iff]
    intro a ha
    obtain ⟨ph, hph, rfl⟩ := List.mem_map.mp ha
    unfold onQ
    rcases hd ph hph with rfl | rfl
    · rw [e1, teeth_end]
      decide
    · rw [e2, teeth_half]
      decide
  unfold waysOnQ
  rw [none]
  exact List.eq_nil_iff_forall_not_mem.mpr fun q hq => by
    have := mem_canonQ.mp hq
    cases this
end SC
namespace SC
open PySem PySem.Spec PyProof.Rows L2

open LamX
theorem pe_fn0 {X : Cx} {M : Md} {x : Str} {k : Nat} {sp : Sp} {p pos : Pos} (F : OkF M x [] k sp) (hr : Room k X.A) (hM : M = ⟨X.prog, X.w, X.K, X.mg, X.base⟩ := by rfl) (hg : Gl X x := by rfl) (hdb : (x == ("__debug__" : Str)) = false := by decide) :
    PE X (.Call (.Name x p) [] [] pos) (tCall sp [] E0 tNil) := by
  obtain ⟨f, fd, h1, h2, h3, h4⟩ := F
  subst hM
  exact pe_call0 h4 hr hg h1 h2 h3 .nil pass0 hdb
/-! _law_by_hand_right -/
abbrev s_law_by_hand_right : Stmt := topS 79
abbrev n_law_by_hand_right : List Str := ["_law_right_here", "_law_late", "_law_part_here", "_law_both", "_law_home", "_law_got"]
theorem sc_law_by_hand_right : FnScope n_law_by_hand_right [] (defScope s_law_by_hand_right) := ⟨rfl, rfl, rfl, by decide +kernel, rfl, by decide +kernel, by decide +kernel⟩
theorem off_end : offQ [some ((0 : Rat), (3 : Rat)), none] = [1] := by decide +kernel
theorem dq_lits : dQ 0 = .tuple [.int 0, .int 1] ∧ dQ 1 = .tuple [.int 1, .int 1] ∧ dQ (1/2) = .tuple [.int 1, .int 2] := by
  have h : ((0 : Rat).num = 0 ∧ ((0 : Rat).den : Int) = 1) ∧ ((1 : Rat).num = 1 ∧ ((1 : Rat).den : Int) = 1) ∧ ((1/2 : Rat).num = 1 ∧ ((1/2 : Rat).den : Int) = 2) := by decide +kernel
  unfold dQ
  rw [h.1.1, h.1.2, h.2.1.1, h.2.1.2, h.2.2.1, h.2.2.2]
  exact ⟨rfl, rfl, rfl⟩
theorem hand_b : AB (.tuple [dQ 3, .list [.list [dLine (.lead 1 0), dQ 0, dQ 3, .int 1], dG ⟨.lead 1 (1/2), 0, 2, 1⟩]]) b0 := by
  refine ⟨dl_tup (by show 2 ≤ 100000; decide) (all_cons (dl_Q 6 _) (all_cons (dl_lst (by show 2 ≤ 100000; decide) (all_cons (dl_lst (by show 4 ≤ 100000; decide) (all_cons (dl_line 3 _) (all_cons (dl_Q 4 _) (all_cons (dl_Q 4 _) (all_cons (dl_int _ _) all_nil))))) (all_cons (dl_G 3 _) all_nil))) all_nil)), ?_, b0_ok⟩
  have h1 := tup_only _ (to_Q 3)
  have h2 := tup_only _ (to_line (.lead 1 0))
  have h3 := tup_only _ (to_Q 0)
  have h4 := tup_only _ (to_G ⟨.lead 1 (1/2), 0, 2, 1⟩)
  simp only [tupD, tupDs, h1, h2, h3, h4]
  rfl
theorem hand_n : AN (.tuple [.list [.int 1, .int 1], .list [.tuple [.int 0, .int 1], .list [.int 1, .int 2]], .int 1]) n0 := by
  refine ⟨dl_tup (by show 3 ≤ 100000; decide) (all_cons (dl_lst (by show 2 ≤ 100000; decide) (all_cons (dl_int _ _) (all_cons (dl_int _ _) all_nil))) (all_cons (dl_lst (by show 2 ≤ 100000; decide) (all_cons (dl_tup (by show 2 ≤ 100000; decide) (all_cons (dl_int _ _) (all_cons (dl_int _ _) all_nil))) (all_cons (dl_lst (by show 2 ≤ 100000; decide) (all_cons (dl_int _ _) (all_cons (dl_int _ _) all_nil))) all_nil))) (all_cons (dl_int _ _) all_nil))), ?_, n0_ok⟩
  simp only [tupD, tupDs]
  show _ = PyData.tuple [dQ 1, .tuple [dQ 0, dQ (1/2)], .int 1]
  rw [dq_lits.1, dq_lits.2.1, dq_lits.2.2]
theorem hand_m : AM (.list [.tuple [.int 0, .int 1], .list [.int 1, .int 2]]) (0, 1/2) := by
  refine ⟨dl_lst (by show 2 ≤ 100000; decide) (all_cons (dl_tup (by show 2 ≤ 100000; decide) (all_cons (dl_int _ _) (all_cons (dl_int _ _) all_nil))) (all_cons (dl_lst (by show 2 ≤ 100000; decide) (all_cons (dl_int _ _) (all_cons (dl_int _ _) all_nil))) all_nil)), ?_, m_ok (by decide +kernel)⟩
  simp only [tupD, tupDs]
  show _ = PyData.tuple [dQ 0, dQ (1/2)]
  rw [dq_lits.1, dq_lits.2.2]
def Pre_law_by_hand_right (ds : List PyData) (d : PyData) : Prop := ds = [] ∧ d = .bool true
theorem ok_law_by_hand_right {M : Md} {U : Addr} (bi : Bi M.mg) (F : DefAt M "_law_by_hand_right" s_law_by_hand_right) (F_how_far : OkE M "how_far" ["bar", "nut", "motion"] 12 (spE M.K U Pre_how_far)) (F_stops_at : OkE M "stops_at" ["bar", "nut", "motion", "far"] 12 (spE M.K U Pre_stops_at)) (F_ways_on : OkF M "ways_on" ["bar", "nut", "far"] 11 (spP M.K Pre_ways_on)) (F_why_off : OkF M "why_off" ["bar", "nut", "motion"] 11 (spP M.K Pre_why_off)) (F_is_on : OkF M "is_on" ["bar", "nut", "motion"] 11 (spP M.K Pre_is_on)) (F_law_same : OkF M "_law_same" ["_law_got", "_law_due"] 10 (spP M.K (Pre_law_same 9))) : OkF M "_law_by_hand_right" [] 13 (spP M.K Pre_law_by_hand_right) := by
  refine okf_pure F sc_law_by_hand_right (fun _ _ _ _ _ _ us hl => match us, hl with | [], _ => rfl) (fun ds d h => by obtain ⟨rfl, rfl⟩ := h; rfl) fun f cdv A outer s H E hr =>
    ⟨_, (pss_cons (ps_asg (pe_tup (pa_cons (pe_tup (pa_cons pe_str (pa_cons (pe_tup (pa_cons pe_int (pa_cons pe_int pa_nil))) (pa_cons (pe_tup (pa_cons pe_int (pa_cons pe_int pa_nil))) pa_nil)))) (pa_cons (pe_tup (pa_cons pe_str (pa_cons (pe_tup (pa_cons pe_int (pa_cons pe_int pa_nil))) (pa_cons (pe_tup (pa_cons pe_int (pa_cons pe_int pa_nil))) pa_nil)))) pa_nil))) (pgT M.K 2 (pgs_cons (pg_name (i := 0) sc_law_by_hand_right.nd rfl (.inl rfl)) (pgs_cons (pg_name (i := 1) sc_law_by_hand_right.nd rfl (.inl rfl)) pgs_nil))))
      (pss_cons (ps_par (i := 2) (j := 3) (by rfl) sc_law_by_hand_right.nd rfl rfl (by decide) rfl rfl (pa_cons (pe_tup (pa_cons (pe_tup (pa_cons pe_int (pa_cons pe_int pa_nil))) (pa_cons (pe_tup (pa_cons (pe_tup (pa_cons (pv 0) (pa_cons (pe_tup (pa_cons pe_int (pa_cons pe_int pa_nil))) (pa_cons (pe_tup (pa_cons pe_int (pa_cons pe_int pa_nil))) (pa_cons pe_int pa_nil))))) (pa_cons (pe_tup (pa_cons (pv 1) (pa_cons (pe_tup (pa_cons pe_int (pa_cons pe_int pa_nil))) (pa_cons (pe_tup (pa_cons pe_int (pa_cons pe_int pa_nil))) (pa_cons pe_int pa_nil))))) pa_nil))) pa_nil))) (pa_cons (pe_tup (pa_cons (pe_tup (pa_cons pe_int (pa_cons pe_int pa_nil))) (pa_cons (pe_tup (pa_cons (pe_tup (pa_cons pe_int (pa_cons pe_int pa_nil))) (pa_cons (pe_tup (pa_cons pe_int (pa_cons pe_int pa_nil))) pa_nil))) (pa_cons pe_int pa_nil)))) pa_nil)) (by rfl))
      (pss_cons (ps_set (i := 4) sc_law_by_hand_right.nd rfl (.inl rfl) (pe_tup (pa_cons (pe_tup (pa_cons pe_int (pa_cons pe_int pa_nil))) (pa_cons (pe_tup (pa_cons pe_int (pa_cons pe_int pa_nil))) pa_nil))))
      (pss_cons (ps_set (i := 5) sc_law_by_hand_right.nd rfl (.inl rfl) (pe_lst (pa_cons (pe_fnE (E := fun _ _ _ => False) F_how_far (hr.mono (by decide)) (pa_cons (pv 2) (pa_cons (pv 3) (pa_cons (pv 4) pa_nil))) (L2.takes0)) (pa_cons (pe_fnE (E := fun _ _ _ => False) F_stops_at (hr.mono (by decide)) (pa_cons (pv 2) (pa_cons (pv 3) (pa_cons (pv 4) (pa_cons pe_bl pa_nil)))) (L2.takes0)) (pa_cons (pe_fn F_ways_on (hr.mono (by decide)) (pa_cons (pv 2) (pa_cons (pv 3) (pa_cons pe_bl pa_nil)))) (pa_cons (pe_fn F_why_off (hr.mono (by decide)) (pa_cons (pv 2) (pa_cons (pv 3) (pa_cons (pe_tup (pa_cons (pe_tup (pa_cons pe_int (pa_cons pe_int pa_nil))) (pa_cons (pe_tup (pa_cons pe_int (pa_cons pe_int pa_nil))) pa_nil))) pa_nil)))) (pa_cons (pe_fnE (E := fun _ _ _ => False) F_how_far (hr.mono (by decide)) (pa_cons (pe_tup (pa_cons (pe_tup (pa_cons pe_int (pa_cons pe_int pa_nil))) (pa_cons (pe_tup (pa_cons (pe_tup (pa_cons (pv 0) (pa_cons (pe_tup (pa_cons pe_int (pa_cons pe_int pa_nil))) (pa_cons (pe_tup (pa_cons pe_int (pa_cons pe_int pa_nil))) (pa_cons pe_int pa_nil))))) (pa_cons (pe_tup (pa_cons (pv 0) (pa_cons (pe_tup (pa_cons pe_int (pa_cons pe_int pa_nil))) (pa_cons (pe_tup (pa_cons pe_int (pa_cons pe_int pa_nil))) (pa_cons pe_int pa_nil))))) pa_nil))) pa_nil))) (pa_cons (pe_tup (pa_cons (pe_tup (pa_cons pe_int (pa_cons pe_int pa_nil))) (pa_cons (pe_tup (pa_cons (pe_tup (pa_cons pe_int (pa_cons pe_int pa_nil))) pa_nil)) (pa_cons pe_int pa_nil)))) (pa_cons (pv 4) pa_nil))) (L2.takes0)) pa_nil)))))))
      (pss_cons (ps_expr (kapp M.K (pv 5) (pe_fn F_is_on (hr.mono (by decide)) (pa_cons (pe_tup (pa_cons (pe_ix (kixT M.K) (pv 2) pe_int (fun _ _ => rfl)) (pa_cons (pe_lst (pa_cons (pe_callTy (klstOf M.K) (by rfl) bi.list (by decide +kernel) (pa_cons (pe_ix (kixT M.K) (pe_ix (kixT M.K) (pv 2) pe_int (fun _ _ => rfl)) pe_int (fun _ _ => rfl)) pa_nil)) (pa_cons (pe_ix (kixT M.K) (pe_ix (kixT M.K) (pv 2) pe_int (fun _ _ => rfl)) pe_int (fun _ _ => rfl)) pa_nil))) pa_nil))) (pa_cons (pe_tup (pa_cons (pe_lst (pa_cons pe_int (pa_cons pe_int pa_nil))) (pa_cons (pe_lst (pa_cons (pe_tup (pa_cons pe_int (pa_cons pe_int pa_nil))) (pa_cons (pe_lst (pa_cons pe_int (pa_cons pe_int pa_nil))) pa_nil))) (pa_cons pe_int pa_nil)))) (pa_cons (pe_lst (pa_cons (pe_tup (pa_cons pe_int (pa_cons pe_int pa_nil))) (pa_cons (pe_lst (pa_cons pe_int (pa_cons pe_int pa_nil))) pa_nil))) pa_nil))))))
      (pss_one (ps_ret (pe_fn F_law_same (hr.mono (by decide)) (pa_cons (pv 5) (pa_cons (pe_lst (pa_cons (pe_tup (pa_cons (pe_tup (pa_cons pe_int (pa_cons pe_int pa_nil))) (pa_cons (pe_tup (pa_cons pe_int (pa_cons pe_int pa_nil))) pa_nil))) (pa_cons (pe_tup (pa_cons (pe_tup (pa_cons pe_int (pa_cons pe_int pa_nil))) (pa_cons (pe_tup (pa_cons pe_int pa_nil)) pa_nil))) (pa_cons (pe_tup pa_nil) (pa_cons (pe_tup (pa_cons pe_int pa_nil)) (pa_cons (pe_tup (pa_cons (pe_tup (pa_cons pe_int (pa_cons pe_int pa_nil))) (pa_cons (pe_tup (pa_cons pe_int (pa_cons pe_int pa_nil))) pa_nil))) (pa_cons pe_bl pa_nil))))))) pa_nil)))))))))), fun ds d h => ?_⟩
  obtain ⟨rfl, rfl⟩ := h
  refine ds_seq (ds_asgT (js := [0, 1]) ((de_tup (ds := [dLine (.lead 1 0), dLine (.lead 1 (1/2))]) (da_cons (de_tup (ds := [.str "lead", dQ 1, dQ 0]) (da_cons de_str (da_cons (de_lit 1) (da_cons (de_lit 0) da_nil)))) (da_cons (de_tup (ds := [.str "lead", dQ 1, dQ (1/2)]) (da_cons de_str (da_cons (de_lit 1) (da_cons (de_lit (1/2)) da_nil)))) da_nil))).of ⟨_, gt_tup (.cons 0 (.cons 1 .nil)) rfl rfl, ?_⟩))
  refine ds_seq (ds_parD (d := dBar b0) (e := dNut n0) (da_cons (de_tup (ds := [dQ 3, .tuple [dG ⟨.lead 1 0, 0, 3, 1⟩, dG ⟨.lead 1 (1/2), 0, 2, 1⟩]]) (da_cons (de_lit 3) (da_cons (de_tup (da_cons (de_tup (da_cons (de_var rfl) (da_cons (de_lit 0) (da_cons (de_lit 3) (da_cons de_int da_nil))))) (da_cons (de_tup (da_cons (de_var rfl) (da_cons (de_lit 0) (da_cons (de_lit 2) (da_cons de_int da_nil))))) da_nil))) da_nil)))
    (da_cons (de_tup (ds := [dQ 1, .tuple [dQ 0, dQ (1/2)], .int 1]) (da_cons (de_lit 1) (da_cons (de_tup (da_cons (de_lit 0) (da_cons (de_lit (1/2)) da_nil))) (da_cons de_int da_nil)))) da_nil)) ?_)
  refine ds_seq (ds_asgD (d := dP (0, 0)) (de_tup (da_cons (de_lit 0) (da_cons (de_lit 0) da_nil))) ?_)
  have s1 : sureQ [some ((0 : Rat), (3 : Rat)), some (0, 2)] = some [(0, 3), (0, 2)] := rfl
  have sh : sharedQ [((0 : Rat), (3 : Rat)), (0, 2)] = (0, 2) := by decide +kernel
  have st : stopsQ [((0 : Rat), (3 : Rat)), (0, 2)] true = .tuple [dQ 2, .tuple [.int 1]] := by
    unfold stopsQ
    rw [sh]
    have e : (List.range 2).filter (fun i => decide (sideQ true ([((0 : Rat), (3 : Rat)), (0, 2)].getD i (0, 0)) = sideQ true (0, 2))) = [1] := by decide +kernel
    show PyData.tuple [dQ 2, .tuple (((List.range 2).filter _).map _)] = _
    rw [e]
    rfl
  have mh : MOk (0, 0) := m_ok (by decide +kernel)
  have me : MOk (3, 0) := m_ok (by decide +kernel)
  have mt : MOk (0, 1/2) := m_ok (by decide +kernel)
  refine ds_seq (ds_asgOwnD (ds := [dP (0, 2), .tuple [dQ 2, .tuple [.int 1]], .tuple [], .tuple [.int 1], dP (0, 3)]) (da_cons (de_callE (da_cons (de_var (d := dBar b0) rfl) (da_cons (de_var (d := dNut n0) rfl) (da_cons (de_var (d := dP (0, 0)) rfl) da_nil))) ⟨_, _, _, b0, n0, (0, 0), rfl, ab1 b0_ok, an1 n0_ok, am1 mh, by rw [teeth_home, s1, ← sh]; rfl⟩)
    (da_cons (de_callE (da_cons (de_var (d := dBar b0) rfl) (da_cons (de_var (d := dNut n0) rfl) (da_cons (de_var (d := dP (0, 0)) rfl) (da_cons de_bl da_nil)))) ⟨_, _, _, true, b0, n0, (0, 0), rfl, ab1 b0_ok, an1 n0_ok, am1 mh, by rw [teeth_home, s1, ← st]; rfl⟩)
      (da_cons (de_call (da_cons (de_var (d := dBar b0) rfl) (da_cons (de_var (d := dNut n0) rfl) (da_cons de_bl da_nil))) ⟨_, _, true, b0, n0, rfl, ab1 b0_ok, an1 n0_ok, by rw [show (if true = true then b0.len else 0) = (3 : Rat) from rfl, ways_none]; rfl⟩)
        (da_cons (de_call (da_cons (de_var (d := dBar b0) rfl) (da_cons (de_var (d := dNut n0) rfl) (da_cons (de_tup (ds := [dQ 3, dQ 0]) (da_cons (de_lit 3) (da_cons (de_lit 0) da_nil))) da_nil))) ⟨_, _, _, b0, n0, (3, 0), rfl, ab1 b0_ok, an1 n0_ok, am1 me, by rw [teeth_end, off_end]; rfl⟩)
          (da_cons (de_callE (da_cons (de_tup (ds := [dQ 3, .tuple [dG ⟨.lead 1 0, 0, 1, 1⟩, dG ⟨.lead 1 0, 1, 3, 2⟩]]) (da_cons (de_lit 3) (da_cons (de_tup (da_cons (de_tup (da_cons (de_var rfl) (da_cons (de_lit 0) (da_cons (de_lit 1) (da_cons de_int da_nil))))) (da_cons (de_tup (da_cons (de_var rfl) (da_cons (de_lit 1) (da_cons (de_lit 3) (da_cons de_int da_nil))))) da_nil))) da_nil))) (da_cons (de_tup (ds := [dQ 1, .tuple [dQ 0], .int 1]) (da_cons (de_lit 1) (da_cons (de_tup (da_cons (de_lit 0) da_nil)) (da_cons de_int da_nil)))) (da_cons (de_var (d := dP (0, 0)) rfl) da_nil))) ⟨_, _, _, b1, n1, (0, 0), rfl, ab1 b1_ok, an1 n1_ok, am1 mh, by rw [teeth_one]; rfl⟩) da_nil))))) (by show 5 ≤ 100000; decide) ?_)
  refine ds_seq (ds_appendD (d := .bool true) rfl (de_call (da_cons (de_tup (ds := [dQ 3, .list [.list [dLine (.lead 1 0), dQ 0, dQ 3, .int 1], dG ⟨.lead 1 (1/2), 0, 2, 1⟩]]) (da_cons (de_op (de_var (d := dBar b0) rfl) de_int (rd_ixT rfl)) (da_cons (de_lst (da_cons (de_cb (da_cons (de_op (de_op (de_var (d := dBar b0) rfl) de_int (rd_ixT (d := .tuple [dG ⟨.lead 1 0, 0, 3, 1⟩, dG ⟨.lead 1 (1/2), 0, 2, 1⟩]) rfl)) de_int (rd_ixT (d := dG ⟨.lead 1 0, 0, 3, 1⟩) rfl)) da_nil) rc_lstT) (da_cons (de_op (de_op (de_var (d := dBar b0) rfl) de_int (rd_ixT (d := .tuple [dG ⟨.lead 1 0, 0, 3, 1⟩, dG ⟨.lead 1 (1/2), 0, 2, 1⟩]) rfl)) de_int (rd_ixT (d := dG ⟨.lead 1 (1/2), 0, 2, 1⟩) rfl)) da_nil))) da_nil)))
    (da_cons (de_tup (ds := [.list [.int 1, .int 1], .list [.tuple [.int 0, .int 1], .list [.int 1, .int 2]], .int 1]) (da_cons (de_lst (da_cons de_int (da_cons de_int da_nil))) (da_cons (de_lst (da_cons (de_tup (da_cons de_int (da_cons de_int da_nil))) (da_cons (de_lst (da_cons de_int (da_cons de_int da_nil))) da_nil))) (da_cons de_int da_nil)))) (da_cons (de_lst (ds := [.tuple [.int 0, .int 1], .list [.int 1, .int 2]]) (da_cons (de_tup (da_cons de_int (da_cons de_int da_nil))) (da_cons (de_lst (da_cons de_int (da_cons de_int da_nil))) da_nil))) da_nil))) ⟨_, _, _, b0, n0, (0, 1/2), rfl, hand_b, hand_n, hand_m, by unfold onQ; rw [teeth_turn]; rfl⟩) (by show 5 < 100000; decide) ?_)
  refine ds_freeze (i := 5) rfl (ds_retD (de_same (x := .list [dP (0, 2), .tuple [dQ 2, .tuple [.int 1]], .tuple [], .tuple [.int 1], dP (0, 3), .bool true]) (de_var rfl) (de_lst (da_cons (de_tup (da_cons (de_lit 0) (da_cons (de_lit 2) da_nil))) (da_cons (de_tup (da_cons (de_lit 2) (da_cons (de_tup (da_cons de_int da_nil)) da_nil))) (da_cons (de_tup da_nil) (da_cons (de_tup (da_cons de_int da_nil)) (da_cons (de_tup (da_cons (de_lit 0) (da_cons (de_lit 3) da_nil))) (da_cons de_bl da_nil))))))) ?_ ?_) rfl)
  · exact dl_lst (by show 6 ≤ 100000; decide) (all_cons (dl_P 5 _) (all_cons (dl_tup (by show 2 ≤ 100000; decide) (all_cons (dl_Q 5 _) (all_cons (dl_tup (by show 1 ≤ 100000; decide) (all_cons (dl_int _ _) all_nil)) all_nil))) (all_cons (dl_tup (Nat.zero_le _) all_nil) (all_cons (dl_tup (by show 1 ≤ 100000; decide) (all_cons (dl_int _ _) all_nil)) (all_cons (dl_P 5 _) (all_cons (dl_bool _ _) all_nil))))))
  · exact (shp_lst (n := 3) (all_cons (shp_P _) (all_cons (shp_tup (n := 2) (all_cons (shp_dQ' _) (all_cons ((shp_tup (n := 0) (all_cons (shp_int _) all_nil)).mono (by decide)) all_nil))) (all_cons ((shp_tup (n := 0) all_nil).mono (by decide)) (all_cons ((shp_tup (n := 0) (all_cons (shp_int _) all_nil)).mono (by decide)) (all_cons (shp_P _) (all_cons ((shp_bool _).mono (by decide)) all_nil))))))).ok (by decide)
/-! _law_right -/
theorem tx_not {C : Cn} {ρ : Rho} {t : TT} {P : Bool → Rho → Prop} (h : TX C t ρ fun b ρ1 => P (!b) ρ1) : TX C (tNot t) ρ P := fun B G H σ o Q q => h B G H σ o _ fun b ρ1 G1 H1 p o1 s1 => q _ ρ1 G1 H1 p o1 s1
abbrev s_law_right : Stmt := topS 82
abbrev n_law_right : List Str := ["_law_tin", "_law_bar_so", "_law_lead_so", "_law_nut_so", "_law_got", "_law_lap"]
theorem sc_law_right : FnScope n_law_right ["_law_tin"] (defScope s_law_right) := ⟨rfl, rfl, rfl, by decide +kernel, rfl, by decide +kernel, by decide +kernel⟩
def spRight (K : PySem.W.Frag) (P : Addr) : Sp := fun vs H Q _ => ∃ a, vs = [.ref a] ∧ TinAt H a 0 ∧ TabS H P qLam ∧ ∀ H', Q (.bl true) H'
theorem ok_law_right {M : Md} {P zA : Addr} (bi : Bi M.mg) (hz : NoneAt M.K M.mg zA) (F : DefAt M "_law_right" s_law_right) (F_law_thread : OkF M "_law_thread" ["_law_tin"] 8 (spN M.K 100 pre_law_thread post_law_thread)) (F_law_thread_nut : OkF M "_law_thread_nut" ["_law_tin", "_law_bar_so", "_law_lead_so"] 8 (spN M.K 10 pre_law_thread_nut post_law_thread_nut)) (F_ways_on : OkF M "ways_on" ["bar", "nut", "far"] 11 (spP M.K Pre_ways_on)) (F_law_lists : OkF M "_law_lists" ["_law_matter"] 10 (spP M.K (Pre_law_lists 9))) (F_law_same : OkF M "_law_same" ["_law_got", "_law_due"] 10 (spP M.K (Pre_law_same 9))) (F_law_ways : OkF M "_law_ways" ["_law_bar_so", "_law_nut_so", "_law_place_so"] 8 (spP M.K Pre_law_ways)) (F_law_stand_right : OkF M "_law_stand_right" ["_law_bar_so", "_law_nut_so", "_law_motion_so"] 16 (spL M.K P qLam Pre_law_stand_right)) (F_law_stand : OkF M "_law_stand" ["_law_tin", "_law_bar_so", "_law_nut_so"] 6 (spN M.K 5 pre_law_stand post_law_stand)) : OkF M "_law_right" ["_law_tin"] 17 (spRight M.K P) := by
  refine okf_mk F sc_law_right (fun _ _ _ _ _ _ us hl => match us, hl with | [_], _ => rfl) (fun vs H Q E h => by obtain ⟨a, rfl, _⟩ := h; rfl) fun f cdv A outer s H vs Q E hr h =>
    ⟨_, (pss_cons (ps_asg (pe_fn F_law_thread (hr.mono (by decide)) (pa_cons (pv 0) pa_nil)) (pgT M.K 2 (pgs_cons (pg_name (i := 1) sc_law_right.nd rfl (.inl rfl)) (pgs_cons (pg_name (i := 2) sc_law_right.nd rfl (.inl rfl)) pgs_nil))))
      (pss_cons (ps_set (i := 3) sc_law_right.nd rfl (.inl rfl) (pe_fn F_law_thread_nut (hr.mono (by decide)) (pa_cons (pv 0) (pa_cons (pv 1) (pa_cons (pv 2) pa_nil)))))
      (pss_cons (ps_set (i := 4) sc_law_right.nd rfl (.inl rfl) (pe_lst (pa_cons (pe_fn F_ways_on (hr.mono (by decide)) (pa_cons (pv 1) (pa_cons (pv 3) (pa_cons pe_bl pa_nil)))) (pa_cons (pe_fn F_ways_on (hr.mono (by decide)) (pa_cons (pe_fn F_law_lists (hr.mono (by decide)) (pa_cons (pv 1) pa_nil)) (pa_cons (pe_fn F_law_lists (hr.mono (by decide)) (pa_cons (pv 3) pa_nil)) (pa_cons pe_bl pa_nil)))) pa_nil))))
      (pss_cons (ps_if (pt_not (pt_val (pe_fn F_law_same (hr.mono (by decide)) (pa_cons (pv 4) (pa_cons (pe_lst (pa_cons (pe_fn F_law_ways (hr.mono (by decide)) (pa_cons (pv 1) (pa_cons (pv 3) (pa_cons (pe_tup (pa_cons pe_int (pa_cons pe_int pa_nil))) pa_nil)))) (pa_cons (pe_fn F_law_ways (hr.mono (by decide)) (pa_cons (pv 1) (pa_cons (pv 3) (pa_cons (pe_ix (kixT M.K) (pv 1) pe_int (fun _ _ => rfl)) pa_nil)))) pa_nil))) pa_nil))))) (pss_one (ps_ret pe_bl)) pss_nil)
      (pss_cons (ps_for PassesOwn.never rfl (pi_range1 rfl bi.range (pa_cons pe_int pa_nil)) (pg_name (i := 5) sc_law_right.nd rfl (.inl rfl)) (pss_one (ps_if (pt_not (pt_val (pe_fn F_law_stand_right (hr.mono (by decide)) (pa_cons (pv 1) (pa_cons (pv 3) (pa_cons (pe_fn F_law_stand (hr.mono (by decide)) (pa_cons (pv 0) (pa_cons (pv 1) (pa_cons (pv 3) pa_nil)))) pa_nil)))))) (pss_one (ps_ret pe_bl)) pss_nil)))
      (pss_one (ps_ret pe_bl))))))), ?_⟩
  obtain ⟨a, rfl, tin, tab, fin⟩ := h
  have nH : H P ≠ none := by
    obtain ⟨ps, e, _⟩ := tab
    rw [e]
    simp
  have nA : H a ≠ none := by
    obtain ⟨x, y, z, e, _⟩ := tin
    rw [e]
    simp
  have start : Ok ⟨M.K, [(P, qLam)]⟩ ⟨fun _ => none, H, fun b => b = a ∨ b = P⟩ (fun _ => none) H (L2.start n_law_right [.ref a]) [.tin 0, .un, .un, .un, .un, .un] := by
    refine ⟨rfl, fun _ _ e => (nomatch e), Same.refl _, fun _ _ _ e => e, fun _ e => e, fun _ _ e => e, fun b hb => ?_, fun p hp => ?_, fun p hp => ?_, fun i s e => ?_, fun i n e => ?_, fun i j b ds es ne e1 e2 e3 => ?_⟩
    · rcases hb with rfl | rfl
      · exact ⟨nA, rfl⟩
      · exact ⟨nH, rfl⟩
    · rw [List.mem_singleton.mp hp]
      exact tab
    · rw [List.mem_singleton.mp hp]
      exact .inr rfl
    · match i, e with
      | 0, e => rw [← Option.some.inj e]; exact ⟨a, rfl, .inl rfl, tin⟩
      | 1, e => rw [← Option.some.inj e]; trivial
      | 2, e => rw [← Option.some.inj e]; trivial
      | 3, e => rw [← Option.some.inj e]; trivial
      | 4, e => rw [← Option.some.inj e]; trivial
      | 5, e => rw [← Option.some.inj e]; trivial
      | i + 6, e => cases e
    · match i, e with
      | 0, _ => rfl
      | 1, e => cases Option.some.inj e
      | 2, e => cases Option.some.inj e
      | 3, e => cases Option.some.inj e
      | 4, e => cases Option.some.inj e
      | 5, e => cases Option.some.inj e
      | i + 6, e => cases e
    · match i, e1 with
      | 0, e => cases Option.some.inj e
      | 1, e => cases Option.some.inj e
      | 2, e => cases Option.some.inj e
      | 3, e => cases Option.some.inj e
      | 4, e => cases Option.some.inj e
      | 5, e => cases Option.some.inj e
      | i + 6, e => cases e
  suffices walk : DS ⟨M.K, [(P, qLam)]⟩ _ [.tin 0, .un, .un, .un, .un, .un] { nx := fun _ => False, rt := fun d _ => d = .bool true } from
    walk _ _ H _ _ start (fun _ _ _ _ z => z.elim) (fun v d ρ' G' H' σ' z o s dv => by rw [z] at dv; rw [dp_bool dv]; exact fin H') (fun _ _ _ _ z => z.elim) fun _ _ _ _ z => z.elim
  refine ds_seq (ds_asgT (js := [1, 2]) (dx_draw (n := 0) rfl (ax_nil ⟨0, rfl, by omega, rfl, fun d hd => ?_⟩)))
  obtain ⟨b, lead, rfl, hb, l0, zl, hg15⟩ := hd
  refine ⟨[dBar b, dQ lead], gt_tup (.cons 1 (.cons 2 .nil)) rfl rfl, ?_⟩
  refine ds_seq (ds_asg (dx_draw (n := 100) rfl (ax_cons ((de_var (d := dBar b) rfl).of (ax_cons ((de_var (d := dQ lead) rfl).of (ax_nil ⟨100, rfl, by omega, ⟨b, lead, rfl, hb, l0, zl, hg15⟩, fun d hd => ?_⟩)))))))
  obtain ⟨n, rfl, hn⟩ := hd
  have len1 : ∀ place, (waysLQ b n place).length ≤ 16 := fun place => Nat.le_trans (canonQ_len _) (Nat.le_trans (List.length_filter_le _ _) (by rw [List.length_map]; exact phs_lenL hb _))
  refine ds_seq (ds_asgD (d := .list [.tuple ((waysLQ b n 0).map dQ), .tuple ((waysLQ b n b.len).map dQ)]) ((de_lst (da_cons (de_call (da_cons (de_var (d := dBar b) rfl) (da_cons (de_var (d := dNut n) rfl) (da_cons de_bl da_nil))) ⟨_, _, false, b, n, rfl, ab1 hb, an1 hn, rfl⟩)
    (da_cons (de_call (da_cons (de_lists (de_var (d := dBar b) rfl) (dl_bar 3 hb.few)) (da_cons (de_lists (de_var (d := dNut n) rfl) (dl_nut 3 hn.few)) (da_cons de_bl da_nil))) ⟨_, _, true, b, n, rfl, ab2 hb, an2 hn, rfl⟩) da_nil))).cast (by rw [← ways_law hb hn, ← ways_law hb hn]; rfl)) ?_)
  refine ds_seq (ds_ifD (b := false) ((dt_not (dt_B (de_same (de_var rfl) (de_lst (da_cons (de_call (da_cons (de_var (d := dBar b) rfl) (da_cons (de_var (d := dNut n) rfl) (da_cons (de_lit 0) da_nil))) ⟨b, n, 0, rfl, hb, hn, sz0.mono (by decide), rfl⟩) (da_cons (de_call (da_cons (de_var (d := dBar b) rfl) (da_cons (de_var (d := dNut n) rfl) (da_cons (de_op (de_var (d := dBar b) rfl) de_int (rd_ixT (d := dQ b.len) rfl)) da_nil))) ⟨b, n, b.len, rfl, hb, hn, hb.z, rfl⟩) da_nil))) ?_ ?_))).cast rfl) (fun z => nomatch z) fun _ => ds_next ?_)
  · exact dl_lst (by show 2 ≤ 100000; decide) (all_cons (dl_tup (by rw [List.length_map]; have := len1 0; omega) (all_map fun q _ => dl_Q 5 q)) (all_cons (dl_tup (by rw [List.length_map]; have := len1 b.len; omega) (all_map fun q _ => dl_Q 5 q)) all_nil))
  · exact (shp_lst (n := 3) (all_cons (shp_tup (all_map fun q _ => shp_dQ' q)) (all_cons (shp_tup (all_map fun q _ => shp_dQ' q)) all_nil))).ok (by decide)
  refine ds_seq (ds_forD (js := [5]) (fun i ρ' => ∃ s5, ρ' = [.tin (110 + 5 * i), .dat (dBar b), .dat (dQ lead), .dat (dNut n), .dat (.list [.tuple ((waysLQ b n 0).map dQ), .tuple ((waysLQ b n b.len).map dQ)]), s5]) (dw_rng1 (n := 5) (da_cons de_int da_nil) (by decide)) ⟨.un, rfl⟩ (fun i y ρ' ey iv => ?_) fun ρ' iv => ?_)
  · obtain ⟨s5, rfl⟩ := iv
    have hi := (rngD_get ey).1
    refine ⟨[y], gt_name, ?_⟩
    refine ds_if (tx_not (tx_B (de_callL (ax_cons ((de_var (d := dBar b) rfl).of (ax_cons ((de_var (d := dNut n) rfl).of (ax_cons (dx_draw (n := 110 + 5 * i) rfl (ax_cons ((de_var (d := dBar b) rfl).of (ax_cons ((de_var (d := dNut n) rfl).of (ax_nil ⟨110 + 5 * i, rfl, by omega, ⟨b, n, rfl, hb, hn⟩, fun d hd => ?_⟩))))))))))))))
    obtain ⟨m, rfl, hm⟩ := hd
    refine ax_nil ⟨.bool true, ⟨b, n, m, rfl, hb, hn, hm, rfl⟩, true, rfl, (fun z => nomatch z), fun _ => ds_next ⟨.dat y, ?_⟩⟩
    show ([.tin (110 + 5 * i + 5), .dat (dBar b), .dat (dQ lead), .dat (dNut n), _, .dat y] : Rho) = _
    rw [show 110 + 5 * i + 5 = 110 + 5 * (i + 1) by omega]
  · obtain ⟨s5, rfl⟩ := iv
    exact ds_retD de_bl rfl
/-! law -/
abbrev s_law : Stmt := topS 83
abbrev n_law : List Str := ["_law_script"]
theorem sc_law : FnScope n_law ["_law_script"] (defScope s_law) := ⟨rfl, rfl, rfl, by decide +kernel, rfl, by decide +kernel, by decide +kernel⟩
def spLaw (K : PySem.W.Frag) (P : Addr) : Sp := fun vs H Q _ => ∃ (a : Addr) (ns : List Int), vs = [.ref a] ∧ SqL K H a (ns.map V.int) ∧ ns.length ≤ 63 ∧ (∀ z ∈ ns, Builtin.Int.intBits z ≤ 1048576) ∧ TabS H P qLam ∧ K.lookup P = none ∧ ∀ H', Q (.bl true) H'
theorem fn_mk {M : Md} {x : Str} {st : Stmt} {N ps : List Str} {k : Nat} {sp : Sp} {f : Addr} {fd : FuncData} (F : FunD M.K x x (defArgs st) (defBody st) (defScope st) [] [] f fd) (S : FnScope N ps (defScope st)) (len : ∀ vs H Q E, sp vs H Q E → vs.length = ps.length)
    (body : ∀ (f : Addr) (cdv : Value) (A : Around) (outer : List Env) (s : Shared) (H : Hp) (vs : List V) (Q : VK) (E : XK), Room k (A.deeper (envOfC x (defScope st) s.heap.objs.size f cdv)) → sp vs H Q E →
      ∃ t, PSs (cxOf CX0 M.P M.w M.K M.mg M.base N x (defScope st) f cdv A outer s H E).nox (defBody st) t ∧ t { nx := fun _ H' => Q .non H', rt := Q } (L2.start N vs) H) : FnOk M.P M.w M.K M.mg M.base CX0 (k + 1) f fd ps sp := F.ok S len fun cdv A outer s H vs Q E hr h => by
  obtain ⟨t, a, b⟩ := body f cdv A outer s H vs Q E hr h
  exact ⟨t, a.nox, b⟩
theorem ok_law {M : Md} {P f0 : Addr} {fd0 : FuncData} (bi : Bi M.mg) (F : FunD M.K "law" "law" (defArgs s_law) (defBody s_law) (defScope s_law) [] [] f0 fd0) (F_law_right : OkF M "_law_right" ["_law_tin"] 17 (spRight M.K P)) (F_law_box : OkF M "_law_box" ["_law_script", "_law_k"] 1 (spBox M.K pre_law_box)) (F_law_cells : OkF M "_law_cells" ["_law_script", "_law_most_so"] 1 (spP M.K Pre_law_cells)) (F_law_by_hand_right : OkF M "_law_by_hand_right" [] 13 (spP M.K Pre_law_by_hand_right)) : FnOk M.P M.w M.K M.mg M.base CX0 18 f0 fd0 ["_law_script"] (spLaw M.K P) := by
  refine fn_mk F sc_law (fun vs H Q E h => by obtain ⟨a, ns, rfl, _⟩ := h; rfl) fun f cdv A outer s H vs Q E hr h =>
    ⟨_, (pss_one (ps_ret (pe_and (pe_fn0 F_law_by_hand_right (hr.mono (by decide))) (pe_one (pe_fn F_law_right (hr.mono (by decide)) (pa_cons (pe_fn F_law_box (hr.mono (by decide)) (pa_cons (pe_fn F_law_cells (hr.mono (by decide)) (pa_cons (pv 0) (pa_cons pe_int pa_nil))) (pa_cons pe_int pa_nil))) pa_nil)))))), ?_⟩
  obtain ⟨a, ns, rfl, sq, hl, hb, tab, nK, fin⟩ := h
  have nH : H P ≠ none := by
    obtain ⟨ps, e, _⟩ := tab
    rw [e]
    simp
  -- the standing heap: the script alone
  obtain ⟨G, gh, gP, gsq⟩ : ∃ G : Hp, Same G H ∧ G P = none ∧ SqL M.K G a (ns.map V.int) := by
    have nab : ∀ {o : HO}, H a = some o → (∀ ps, o ≠ .tbl ps) → P ≠ a := fun {o} e no z => by
      obtain ⟨ps, e2, _⟩ := tab
      rw [z, e] at e2
      exact no ps (Option.some.inj e2)
    have only : Same (fun b => if b = a then H b else none) H := fun b o e => by
      have e : (if b = a then H b else none) = some o := e
      split at e
      · exact e
      · cases e
    rcases sq with (h | ⟨o, h⟩) | h
    · exact ⟨_, only, if_neg (nab h fun _ z => nomatch z), .inl (.inl (by show (if a = a then H a else none) = _; rw [if_pos rfl]; exact h))⟩
    · exact ⟨_, only, if_neg (nab h fun _ z => nomatch z), .inl (.inr ⟨o, by show (if a = a then H a else none) = _; rw [if_pos rfl]; exact h⟩)⟩
    · exact ⟨fun _ => none, fun _ _ e => (nomatch e), rfl, .inr h⟩
  have start : Ok ⟨M.K, [(P, qLam)]⟩ ⟨G, H, fun b => b = P⟩ G H (L2.start n_law [.ref a]) [.dat (.list (ns.map .int))] := by
    refine ⟨rfl, gh, Same.refl _, fun _ _ _ e => e, fun _ e => e, fun _ _ e => e, fun b hb => ?_, fun p hp => ?_, fun p hp => ?_, fun i s e => ?_, fun i n e => ?_, fun i j b ds es ne e1 e2 e3 => ?_⟩
    · have hb : b = P := hb
      rw [hb]
      exact ⟨nH, gP⟩
    · rw [List.mem_singleton.mp hp]
      exact tab
    · rw [List.mem_singleton.mp hp]
    · match i, e with
      | 0, e => rw [← Option.some.inj e]; exact ⟨.ref a, rfl, .lst gsq (dpa_ints ns)⟩
      | i + 1, e => cases e
    · match i, e with
      | 0, e => cases Option.some.inj e
      | i + 1, e => cases e
    · match i, e1 with
      | 0, e => cases Option.some.inj e
      | i + 1, e => cases e
  have kc := cellsI_bits hl hb
  have k1 : DE ⟨M.K, [(P, qLam)]⟩ (tCall (spP M.K Pre_law_by_hand_right) [] E0 tNil) [.dat (.list (ns.map .int))] (.bool true) := de_call da_nil ⟨rfl, rfl⟩
  have k2 : DA ⟨M.K, [(P, qLam)]⟩ (tCons (tCall (spP M.K Pre_law_cells) [] E0 (tCons (tVar 0) (tCons (tC (.int 1)) tNil))) (tCons (tC (.int 0)) tNil)) [.dat (.list (ns.map .int))] [.list [.int (cellsI ns)], .int 0] := da_cons (de_call (da_cons (de_var rfl) (da_cons de_int da_nil)) ⟨ns, rfl, hl, hb, cellsI ns, rfl, rfl, kc⟩) (da_cons de_int da_nil)
  refine k1 _ G H _ start _ fun v d ρ1 G1 H1 p o1 s1 dv => ?_
  obtain ⟨rfl, rfl⟩ := p
  refine ⟨true, dp_bool dv, ?_⟩
  rw [if_pos rfl]
  refine k2 _ G1 H1 _ o1 (fun vs H2 => spBox M.K pre_law_box (vs ++ []) H2 (fun x H3 => spRight M.K P ([x] ++ []) H3 Q E0) E0) fun xs ds ρ2 G2 H2 p o2 s2 dx => ?_
  obtain ⟨rfl, rfl⟩ := p
  refine ⟨G2, _, ⟨cellsI ns, rfl, kc⟩, o2.gh, by rw [List.append_nil]; exact dx, fun p G3 H3 ex g3 h2 tin => ?_⟩
  exact ⟨p, rfl, tin, (o2.tab (P, qLam) (by simp)).ext ex.h, fun H' => fin H'⟩
end SC
namespace SC
open PySem PySem.Spec PyProof.Rows L2 LamX
/-- every def keeps its promise -/
structure Defs (M : Md) (c : Addr) : Prop where
  d_law_take : DefAt M "_law_take" s_law_take
  d_law_of : DefAt M "_law_of" s_law_of
  d_law_minus : DefAt M "_law_minus" s_law_minus
  d_law_drawn_lead : DefAt M "_law_drawn_lead" s_law_drawn_lead
  d_law_floor : DefAt M "_law_floor" s_law_floor
  d_law_common : DefAt M "_law_common" s_law_common
  d_law_part : DefAt M "_law_part" s_law_part
  d_law_quot : DefAt M "_law_quot" s_law_quot
  d_law_size : DefAt M "_law_size" s_law_size
  d_law_sum : DefAt M "_law_sum" s_law_sum
  d_law_less : DefAt M "_law_less" s_law_less
  d_law_times : DefAt M "_law_times" s_law_times
  d_law_round : DefAt M "_law_round" s_law_round
  d_law_prod : DefAt M "_law_prod" s_law_prod
  d_law_lead_line : DefAt M "_law_lead_line" s_law_lead_line
  d_law_drawn_angle : DefAt M "_law_drawn_angle" s_law_drawn_angle
  d_law_under : DefAt M "_law_under" s_law_under
  d_law_fraction : DefAt M "_law_fraction" s_law_fraction
  d_law_by_value : DefAt M "_law_by_value" s_law_by_value
  d_law_groove : DefAt M "_law_groove" s_law_groove
  d_law_line : DefAt M "_law_line" s_law_line
  d_law_thread : DefAt M "_law_thread" s_law_thread
  d_law_phases : DefAt M "_law_phases" s_law_phases
  d_law_nut : DefAt M "_law_nut" s_law_nut
  d_law_pick : DefAt M "_law_pick" s_law_pick
  d_law_thread_nut : DefAt M "_law_thread_nut" s_law_thread_nut
  d_tupled : DefAt M "tupled" s_tupled
  d_set_of : DefAt M "set_of" s_set_of
  d_deep_phases : DefAt M "deep_phases" s_deep_phases
  d_part_of : DefAt M "part_of" s_part_of
  d_part_plus : DefAt M "part_plus" s_part_plus
  d_part_minus : DefAt M "part_minus" s_part_minus
  d_part_less : DefAt M "part_less" s_part_less
  d_angle_of : DefAt M "angle_of" s_angle_of
  d_part_over : DefAt M "part_over" s_part_over
  d_places_in_order : DefAt M "places_in_order" s_places_in_order
  d_at_most : DefAt M "at_most" s_at_most
  d_upper : DefAt M "upper" s_upper
  d_ways_along : DefAt M "ways_along" s_ways_along
  d_way_at : DefAt M "way_at" s_way_at
  d_part_times : DefAt M "part_times" s_part_times
  d_part_size : DefAt M "part_size" s_part_size
  d_wholes_in : DefAt M "wholes_in" s_wholes_in
  d_round_by : DefAt M "round_by" s_round_by
  d_phase_at : DefAt M "phase_at" s_phase_at
  d_teeth_ways : DefAt M "teeth_ways" s_teeth_ways
  d_ways_on : DefAt M "ways_on" s_ways_on
  d_law_lists : DefAt M "_law_lists" s_law_lists
  d_law_same : DefAt M "_law_same" s_law_same
  d_law_angle : DefAt M "_law_angle" s_law_angle
  d_law_turn_for : DefAt M "_law_turn_for" s_law_turn_for
  d_law_at : DefAt M "_law_at" s_law_at
  d_law_tooth_line : DefAt M "_law_tooth_line" s_law_tooth_line
  d_law_off : DefAt M "_law_off" s_law_off
  d_law_ways : DefAt M "_law_ways" s_law_ways
  d_is_on : DefAt M "is_on" s_is_on
  d_why_off : DefAt M "why_off" s_why_off
  d_law_all_on : DefAt M "_law_all_on" s_law_all_on
  d_law_stretches : DefAt M "_law_stretches" s_law_stretches
  d_law_stretch : DefAt M "_law_stretch" s_law_stretch
  d_tooth_stretch : DefAt M "tooth_stretch" s_tooth_stretch
  d_lower : DefAt M "lower" s_lower
  d_shared_way : DefAt M "shared_way" s_shared_way
  d_sure_ways : DefAt M "sure_ways" s_sure_ways
  d_how_far : DefAt M "how_far" s_how_far
  d_stops_at : DefAt M "stops_at" s_stops_at
  d_law_stand_right : DefAtC M "_law_stand_right" s_law_stand_right c
  d_law_stand : DefAt M "_law_stand" s_law_stand
  d_law_right : DefAt M "_law_right" s_law_right
  d_law_box : DefAt M "_law_box" s_law_box
  d_law_cells : DefAt M "_law_cells" s_law_cells
  d_law_by_hand_right : DefAt M "_law_by_hand_right" s_law_by_hand_right
  d_law_heard : DefAt M "_law_heard" s_law_heard
theorem law_ok {M : Md} {zA U EN EQ c P f0 : Addr} {fd0 : FuncData} (bi : Bi M.mg) (hz : NoneAt M.K M.mg zA) (hu : ExcAt M.K M.mg "Unfit" U) (er : Errs M.K M.mg EN U EQ) (TB : TabB M.base M.mg c P) (D : Defs M c)
    (F : FunD M.K "law" "law" (defArgs s_law) (defBody s_law) (defScope s_law) [] [] f0 fd0) : FnOk M.P M.w M.K M.mg M.base CX0 18 f0 fd0 ["_law_script"] (spLaw M.K P) := by
  have F_law_take := ok_law_take bi D.d_law_take
  have F_law_of := ok_law_of bi D.d_law_of F_law_take
  have F_law_minus := ok_law_minus bi D.d_law_minus
  have F_law_drawn_lead := ok_law_drawn_lead bi D.d_law_drawn_lead F_law_of F_law_take F_law_minus
  have F_law_floor := ok_law_floor bi D.d_law_floor
  have F_law_common := ok_law_common bi D.d_law_common
  have F_law_part := ok_law_part bi D.d_law_part F_law_common
  have F_law_quot := ok_law_quot bi D.d_law_quot F_law_part
  have F_law_size := ok_law_size bi D.d_law_size
  have F_law_sum := ok_law_sum bi D.d_law_sum F_law_part
  have F_law_less := ok_law_less bi D.d_law_less F_law_sum F_law_minus
  have F_law_times := ok_law_times bi D.d_law_times F_law_part
  have F_law_round := ok_law_round bi D.d_law_round F_law_floor F_law_quot F_law_size F_law_less F_law_times
  have F_law_prod := ok_law_prod bi D.d_law_prod F_law_part
  have F_law_lead_line := ok_law_lead_line bi D.d_law_lead_line F_law_round F_law_less F_law_prod
  have F_law_drawn_angle := ok_law_drawn_angle bi D.d_law_drawn_angle F_law_of F_law_part F_law_take
  have F_law_under := ok_law_under bi D.d_law_under
  have F_law_fraction := ok_law_fraction bi D.d_law_fraction F_law_of F_law_part F_law_take
  have F_law_by_value := ok_law_by_value bi D.d_law_by_value F_law_under
  have F_law_groove := ok_law_groove bi D.d_law_groove F_law_take F_law_under F_law_fraction F_law_by_value
  have F_law_line := ok_law_line bi D.d_law_line F_law_take F_law_fraction F_law_drawn_angle F_law_drawn_lead F_law_lead_line
  have F_law_thread := ok_law_thread bi D.d_law_thread F_law_drawn_lead F_law_of F_law_take F_law_lead_line F_law_part F_law_drawn_angle F_law_groove F_law_line
  have F_law_phases := ok_law_phases bi D.d_law_phases
  have F_law_nut := ok_law_nut bi D.d_law_nut F_law_take F_law_lead_line F_law_drawn_angle
  have F_law_pick := ok_law_pick bi D.d_law_pick F_law_take
  have F_law_thread_nut := ok_law_thread_nut bi D.d_law_thread_nut F_law_phases F_law_take F_law_nut F_law_of F_law_pick F_law_round F_law_less
  have F_tupled := (ok_tupled bi D.d_tupled 9).mono (show 9 ≤ 10 by decide)
  have F_set_of := ok_set_of bi D.d_set_of
  have F_deep_phases := ok_deep_phases bi D.d_deep_phases F_set_of
  have F_part_of := ok_part_of bi D.d_part_of
  have F_part_plus := ok_part_plus bi D.d_part_plus F_part_of
  have F_part_minus := ok_part_minus bi D.d_part_minus
  have F_part_less := ok_part_less bi D.d_part_less F_part_plus F_part_minus
  have F_angle_of := ok_angle_of bi D.d_angle_of
  have F_part_over := ok_part_over bi D.d_part_over F_part_of
  have F_places_in_order := ok_places_in_order bi D.d_places_in_order F_part_of
  have F_at_most := ok_at_most bi D.d_at_most
  have F_upper := ok_upper bi D.d_upper F_at_most
  have F_ways_along := ok_ways_along bi D.d_ways_along F_places_in_order F_at_most F_upper
  have F_way_at := ok_way_at bi D.d_way_at F_ways_along F_at_most
  have F_part_times := ok_part_times bi D.d_part_times F_part_of
  have F_part_size := ok_part_size bi D.d_part_size
  have F_wholes_in := ok_wholes_in bi D.d_wholes_in F_part_over F_part_size
  have F_round_by := ok_round_by bi D.d_round_by F_part_less F_part_times F_wholes_in F_part_size
  have F_phase_at := ok_phase_at bi D.d_phase_at F_round_by F_part_plus F_part_less F_part_times
  have F_teeth_ways := ok_teeth_ways bi D.d_teeth_ways F_way_at F_phase_at
  have F_ways_on := ok_ways_on bi hz D.d_ways_on F_tupled F_deep_phases F_part_plus F_part_less F_part_minus F_angle_of F_part_over F_teeth_ways F_set_of
  have F_law_lists := (ok_law_lists bi D.d_law_lists 9).mono (show 9 ≤ 10 by decide)
  have F_law_same := (ok_law_same bi D.d_law_same 9).mono (show 9 ≤ 10 by decide)
  have F_law_angle := ok_law_angle bi D.d_law_angle
  have F_law_turn_for := ok_law_turn_for bi D.d_law_turn_for F_law_less F_law_sum F_law_angle F_law_quot
  have F_law_at := ok_law_at bi D.d_law_at F_law_under
  have F_law_tooth_line := ok_law_tooth_line bi D.d_law_tooth_line F_law_less F_law_sum F_law_prod F_law_round
  have F_law_off := ok_law_off bi D.d_law_off F_law_at F_law_tooth_line
  have F_law_ways := ok_law_ways bi D.d_law_ways F_law_phases F_law_turn_for F_law_off
  have F_is_on := ok_is_on bi D.d_is_on F_teeth_ways F_tupled
  have F_why_off := ok_why_off bi D.d_why_off F_teeth_ways F_tupled
  have F_law_all_on := ok_law_all_on bi D.d_law_all_on F_law_at
  have F_law_stretches := ok_law_stretches bi D.d_law_stretches F_law_by_value F_law_all_on F_law_quot F_law_sum
  have F_law_stretch := ok_law_stretch bi D.d_law_stretch F_law_stretches F_law_under
  have F_tooth_stretch := ok_tooth_stretch bi hu D.d_tooth_stretch F_tupled F_teeth_ways
  have F_lower := ok_lower bi D.d_lower F_at_most
  have F_shared_way := ok_shared_way bi D.d_shared_way F_upper F_lower
  have F_sure_ways := ok_sure_ways bi hu D.d_sure_ways F_teeth_ways F_tupled
  have F_how_far := ok_how_far bi hu D.d_how_far F_shared_way F_sure_ways
  have F_stops_at := ok_stops_at bi hu D.d_stops_at F_sure_ways F_shared_way
  have F_law_stand_right := ok_law_stand_right bi D.d_law_heard er TB D.d_law_stand_right F_law_tooth_line F_law_off F_is_on F_law_lists F_why_off F_law_same F_law_stretch F_tooth_stretch F_how_far F_stops_at
  have F_law_stand := ok_law_stand bi D.d_law_stand F_law_of F_law_phases F_law_take F_law_drawn_angle F_law_turn_for
  have F_law_right := ok_law_right bi hz D.d_law_right F_law_thread F_law_thread_nut F_ways_on F_law_lists F_law_same F_law_ways F_law_stand_right F_law_stand
  have F_law_box := ok_law_box bi D.d_law_box
  have F_law_cells := ok_law_cells bi D.d_law_cells
  have F_law_by_hand_right := ok_law_by_hand_right bi D.d_law_by_hand_right F_how_far F_stops_at F_ways_on F_why_off F_is_on F_law_same
  exact ok_law bi F F_law_right F_law_box F_law_cells F_law_by_hand_right
end SC
namespace SCH
open PySem PySem.Spec PyProof.Rows L2 LamX SC
def loose0 : List PySem.Str := ["NoTooth", "Unfit", "NoPaper", "NONE", "part_of", "part_plus", "part_minus", "part_less", "part_times", "part_over", "part_size", "at_most", "lower", "upper", "wholes_in", "round_by", "angle_of", "places_in_order", "tupled", "set_of", "phase_at", "ways_along", "way_at", "teeth_ways", "deep_phases", "is_on", "why_off", "ways_on", "tooth_stretch", "sure_ways"]
def loose1 : List PySem.Str := ["shared_way", "how_far", "stops_at", "_law_box", "_law_take", "_law_cells", "_law_of", "_law_pick", "_law_lists", "_law_same", "_law_common", "_law_part", "_law_sum", "_law_minus", "_law_less", "_law_prod", "_law_quot", "_law_times", "_law_under", "_law_size", "_law_floor", "_law_round", "_law_angle", "_law_by_value", "_law_fraction", "_law_drawn_angle", "_law_drawn_lead", "_law_lead_line", "_law_line", "_law_groove"]
def loose2 : List PySem.Str := ["_law_nut", "_law_tooth_line", "_law_at", "_law_off", "_law_all_on", "_law_stretches", "_law_stretch", "_law_phases", "_law_turn_for", "_law_thread", "_law_thread_nut", "_law_stand", "_law_heard", "_law_by_hand_right", "_law_stand_right", "_law_ways", "_law_right"]
def loose : List PySem.Str := loose0 ++ loose1 ++ loose2
def d_law_take : He.DefD := ⟨("_law_take", none), "_law_take", "_law_take", defArgs s_law_take, defBody s_law_take, defScope s_law_take, [], []⟩
def d_law_of : He.DefD := ⟨("_law_of", none), "_law_of", "_law_of", defArgs s_law_of, defBody s_law_of, defScope s_law_of, [], []⟩
def d_law_minus : He.DefD := ⟨("_law_minus", none), "_law_minus", "_law_minus", defArgs s_law_minus, defBody s_law_minus, defScope s_law_minus, [], []⟩
def d_law_drawn_lead : He.DefD := ⟨("_law_drawn_lead", none), "_law_drawn_lead", "_law_drawn_lead", defArgs s_law_drawn_lead, defBody s_law_drawn_lead, defScope s_law_drawn_lead, [], []⟩
def d_law_floor : He.DefD := ⟨("_law_floor", none), "_law_floor", "_law_floor", defArgs s_law_floor, defBody s_law_floor, defScope s_law_floor, [], []⟩
def d_law_common : He.DefD := ⟨("_law_common", none), "_law_common", "_law_common", defArgs s_law_common, defBody s_law_common, defScope s_law_common, [], []⟩
def d_law_part : He.DefD := ⟨("_law_part", none), "_law_part", "_law_part", defArgs s_law_part, defBody s_law_part, defScope s_law_part, [], []⟩
def d_law_quot : He.DefD := ⟨("_law_quot", none), "_law_quot", "_law_quot", defArgs s_law_quot, defBody s_law_quot, defScope s_law_quot, [], []⟩
def d_law_size : He.DefD := ⟨("_law_size", none), "_law_size", "_law_size", defArgs s_law_size, defBody s_law_size, defScope s_law_size, [], []⟩
def d_law_sum : He.DefD := ⟨("_law_sum", none), "_law_sum", "_law_sum", defArgs s_law_sum, defBody s_law_sum, defScope s_law_sum, [], []⟩
def d_law_less : He.DefD := ⟨("_law_less", none), "_law_less", "_law_less", defArgs s_law_less, defBody s_law_less, defScope s_law_less, [], []⟩
def d_law_times : He.DefD := ⟨("_law_times", none), "_law_times", "_law_times", defArgs s_law_times, defBody s_law_times, defScope s_law_times, [], []⟩
def d_law_round : He.DefD := ⟨("_law_round", none), "_law_round", "_law_round", defArgs s_law_round, defBody s_law_round, defScope s_law_round, [], []⟩
def d_law_prod : He.DefD := ⟨("_law_prod", none), "_law_prod", "_law_prod", defArgs s_law_prod, defBody s_law_prod, defScope s_law_prod, [], []⟩
def d_law_lead_line : He.DefD := ⟨("_law_lead_line", none), "_law_lead_line", "_law_lead_line", defArgs s_law_lead_line, defBody s_law_lead_line, defScope s_law_lead_line, [], []⟩
def d_law_drawn_angle : He.DefD := ⟨("_law_drawn_angle", none), "_law_drawn_angle", "_law_drawn_angle", defArgs s_law_drawn_angle, defBody s_law_drawn_angle, defScope s_law_drawn_angle, [], []⟩
def d_law_under : He.DefD := ⟨("_law_under", none), "_law_under", "_law_under", defArgs s_law_under, defBody s_law_under, defScope s_law_under, [], []⟩
def d_law_fraction : He.DefD := ⟨("_law_fraction", none), "_law_fraction", "_law_fraction", defArgs s_law_fraction, defBody s_law_fraction, defScope s_law_fraction, [], []⟩
def d_law_by_value : He.DefD := ⟨("_law_by_value", none), "_law_by_value", "_law_by_value", defArgs s_law_by_value, defBody s_law_by_value, defScope s_law_by_value, [], []⟩
def d_law_groove : He.DefD := ⟨("_law_groove", none), "_law_groove", "_law_groove", defArgs s_law_groove, defBody s_law_groove, defScope s_law_groove, [], []⟩
def d_law_line : He.DefD := ⟨("_law_line", none), "_law_line", "_law_line", defArgs s_law_line, defBody s_law_line, defScope s_law_line, [], []⟩
def d_law_thread : He.DefD := ⟨("_law_thread", none), "_law_thread", "_law_thread", defArgs s_law_thread, defBody s_law_thread, defScope s_law_thread, [], []⟩
def d_law_phases : He.DefD := ⟨("_law_phases", none), "_law_phases", "_law_phases", defArgs s_law_phases, defBody s_law_phases, defScope s_law_phases, [], []⟩
def d_law_nut : He.DefD := ⟨("_law_nut", none), "_law_nut", "_law_nut", defArgs s_law_nut, defBody s_law_nut, defScope s_law_nut, [], []⟩
def d_law_pick : He.DefD := ⟨("_law_pick", none), "_law_pick", "_law_pick", defArgs s_law_pick, defBody s_law_pick, defScope s_law_pick, [], []⟩
def d_law_thread_nut : He.DefD := ⟨("_law_thread_nut", none), "_law_thread_nut", "_law_thread_nut", defArgs s_law_thread_nut, defBody s_law_thread_nut, defScope s_law_thread_nut, [], []⟩
def d_tupled : He.DefD := ⟨("tupled", none), "tupled", "tupled", defArgs s_tupled, defBody s_tupled, defScope s_tupled, [], []⟩
def d_set_of : He.DefD := ⟨("set_of", none), "set_of", "set_of", defArgs s_set_of, defBody s_set_of, defScope s_set_of, [], []⟩
def d_deep_phases : He.DefD := ⟨("deep_phases", none), "deep_phases", "deep_phases", defArgs s_deep_phases, defBody s_deep_phases, defScope s_deep_phases, [], []⟩
def d_part_of : He.DefD := ⟨("part_of", none), "part_of", "part_of", defArgs s_part_of, defBody s_part_of, defScope s_part_of, [], []⟩
def d_part_plus : He.DefD := ⟨("part_plus", none), "part_plus", "part_plus", defArgs s_part_plus, defBody s_part_plus, defScope s_part_plus, [], []⟩
def d_part_minus : He.DefD := ⟨("part_minus", none), "part_minus", "part_minus", defArgs s_part_minus, defBody s_part_minus, defScope s_part_minus, [], []⟩
def d_part_less : He.DefD := ⟨("part_less", none), "part_less", "part_less", defArgs s_part_less, defBody s_part_less, defScope s_part_less, [], []⟩
def d_angle_of : He.DefD := ⟨("angle_of", none), "angle_of", "angle_of", defArgs s_angle_of, defBody s_angle_of, defScope s_angle_of, [], []⟩
def d_part_over : He.DefD := ⟨("part_over", none), "part_over", "part_over", defArgs s_part_over, defBody s_part_over, defScope s_part_over, [], []⟩
def d_places_in_order : He.DefD := ⟨("places_in_order", none), "places_in_order", "places_in_order", defArgs s_places_in_order, defBody s_places_in_order, defScope s_places_in_order, [], []⟩
def d_at_most : He.DefD := ⟨("at_most", none), "at_most", "at_most", defArgs s_at_most, defBody s_at_most, defScope s_at_most, [], []⟩
def d_upper : He.DefD := ⟨("upper", none), "upper", "upper", defArgs s_upper, defBody s_upper, defScope s_upper, [], []⟩
def d_ways_along : He.DefD := ⟨("ways_along", none), "ways_along", "ways_along", defArgs s_ways_along, defBody s_ways_along, defScope s_ways_along, [], []⟩
def d_way_at : He.DefD := ⟨("way_at", none), "way_at", "way_at", defArgs s_way_at, defBody s_way_at, defScope s_way_at, [], []⟩
def d_part_times : He.DefD := ⟨("part_times", none), "part_times", "part_times", defArgs s_part_times, defBody s_part_times, defScope s_part_times, [], []⟩
def d_part_size : He.DefD := ⟨("part_size", none), "part_size", "part_size", defArgs s_part_size, defBody s_part_size, defScope s_part_size, [], []⟩
def d_wholes_in : He.DefD := ⟨("wholes_in", none), "wholes_in", "wholes_in", defArgs s_wholes_in, defBody s_wholes_in, defScope s_wholes_in, [], []⟩
def d_round_by : He.DefD := ⟨("round_by", none), "round_by", "round_by", defArgs s_round_by, defBody s_round_by, defScope s_round_by, [], []⟩
def d_phase_at : He.DefD := ⟨("phase_at", none), "phase_at", "phase_at", defArgs s_phase_at, defBody s_phase_at, defScope s_phase_at, [], []⟩
def d_teeth_ways : He.DefD := ⟨("teeth_ways", none), "teeth_ways", "teeth_ways", defArgs s_teeth_ways, defBody s_teeth_ways, defScope s_teeth_ways, [], []⟩
def d_ways_on : He.DefD := ⟨("ways_on", none), "ways_on", "ways_on", defArgs s_ways_on, defBody s_ways_on, defScope s_ways_on, [], []⟩
def d_law_lists : He.DefD := ⟨("_law_lists", none), "_law_lists", "_law_lists", defArgs s_law_lists, defBody s_law_lists, defScope s_law_lists, [], []⟩
def d_law_same : He.DefD := ⟨("_law_same", none), "_law_same", "_law_same", defArgs s_law_same, defBody s_law_same, defScope s_law_same, [], []⟩
def d_law_angle : He.DefD := ⟨("_law_angle", none), "_law_angle", "_law_angle", defArgs s_law_angle, defBody s_law_angle, defScope s_law_angle, [], []⟩
def d_law_turn_for : He.DefD := ⟨("_law_turn_for", none), "_law_turn_for", "_law_turn_for", defArgs s_law_turn_for, defBody s_law_turn_for, defScope s_law_turn_for, [], []⟩
def d_law_at : He.DefD := ⟨("_law_at", none), "_law_at", "_law_at", defArgs s_law_at, defBody s_law_at, defScope s_law_at, [], []⟩
def d_law_tooth_line : He.DefD := ⟨("_law_tooth_line", none), "_law_tooth_line", "_law_tooth_line", defArgs s_law_tooth_line, defBody s_law_tooth_line, defScope s_law_tooth_line, [], []⟩
def d_law_off : He.DefD := ⟨("_law_off", none), "_law_off", "_law_off", defArgs s_law_off, defBody s_law_off, defScope s_law_off, [], []⟩
def d_law_ways : He.DefD := ⟨("_law_ways", none), "_law_ways", "_law_ways", defArgs s_law_ways, defBody s_law_ways, defScope s_law_ways, [], []⟩
def d_is_on : He.DefD := ⟨("is_on", none), "is_on", "is_on", defArgs s_is_on, defBody s_is_on, defScope s_is_on, [], []⟩
def d_why_off : He.DefD := ⟨("why_off", none), "why_off", "why_off", defArgs s_why_off, defBody s_why_off, defScope s_why_off, [], []⟩
def d_law_all_on : He.DefD := ⟨("_law_all_on", none), "_law_all_on", "_law_all_on", defArgs s_law_all_on, defBody s_law_all_on, defScope s_law_all_on, [], []⟩
def d_law_stretches : He.DefD := ⟨("_law_stretches", none), "_law_stretches", "_law_stretches", defArgs s_law_stretches, defBody s_law_stretches, defScope s_law_stretches, [], []⟩
def d_law_stretch : He.DefD := ⟨("_law_stretch", none), "_law_stretch", "_law_stretch", defArgs s_law_stretch, defBody s_law_stretch, defScope s_law_stretch, [], []⟩
def d_tooth_stretch : He.DefD := ⟨("tooth_stretch", none), "tooth_stretch", "tooth_stretch", defArgs s_tooth_stretch, defBody s_tooth_stretch, defScope s_tooth_stretch, [], []⟩
def d_lower : He.DefD := ⟨("lower", none), "lower", "lower", defArgs s_lower, defBody s_lower, defScope s_lower, [], []⟩
def d_shared_way : He.DefD := ⟨("shared_way", none), "shared_way", "shared_way", defArgs s_shared_way, defBody s_shared_way, defScope s_shared_way, [], []⟩
def d_sure_ways : He.DefD := ⟨("sure_ways", none), "sure_ways", "sure_ways", defArgs s_sure_ways, defBody s_sure_ways, defScope s_sure_ways, [], []⟩
def d_how_far : He.DefD := ⟨("how_far", none), "how_far", "how_far", defArgs s_how_far, defBody s_how_far, defScope s_how_far, [], []⟩
def d_stops_at : He.DefD := ⟨("stops_at", none), "stops_at", "stops_at", defArgs s_stops_at, defBody s_stops_at, defScope s_stops_at, [], []⟩
def d_law_stand_right : He.DefD := ⟨("_law_stand_right", none), "_law_stand_right", "_law_stand_right", defArgs s_law_stand_right, defBody s_law_stand_right, defScope s_law_stand_right, [], []⟩
def d_law_stand : He.DefD := ⟨("_law_stand", none), "_law_stand", "_law_stand", defArgs s_law_stand, defBody s_law_stand, defScope s_law_stand, [], []⟩
def d_law_right : He.DefD := ⟨("_law_right", none), "_law_right", "_law_right", defArgs s_law_right, defBody s_law_right, defScope s_law_right, [], []⟩
def d_law_box : He.DefD := ⟨("_law_box", none), "_law_box", "_law_box", defArgs s_law_box, defBody s_law_box, defScope s_law_box, [], []⟩
def d_law_cells : He.DefD := ⟨("_law_cells", none), "_law_cells", "_law_cells", defArgs s_law_cells, defBody s_law_cells, defScope s_law_cells, [], []⟩
def d_law_by_hand_right : He.DefD := ⟨("_law_by_hand_right", none), "_law_by_hand_right", "_law_by_hand_right", defArgs s_law_by_hand_right, defBody s_law_by_hand_right, defScope s_law_by_hand_right, [], []⟩
def d_law_heard : He.DefD := ⟨("_law_heard", none), "_law_heard", "_law_heard", defArgs s_law_heard, defBody s_law_heard, defScope s_law_heard, [], []⟩
def d_law : He.DefD := ⟨("law", none), "law", "law", defArgs s_law, defBody s_law, defScope s_law, [], []⟩
def fn0 : List He.DefD := [d_law_take, d_law_of, d_law_minus, d_law_drawn_lead, d_law_floor, d_law_common, d_law_part, d_law_quot, d_law_size, d_law_sum, d_law_less, d_law_times, d_law_round, d_law_prod, d_law_lead_line, d_law_drawn_angle, d_law_under, d_law_fraction, d_law_by_value, d_law_groove]
def fn1 : List He.DefD := [d_law_line, d_law_thread, d_law_phases, d_law_nut, d_law_pick, d_law_thread_nut, d_tupled, d_set_of, d_deep_phases, d_part_of, d_part_plus, d_part_minus, d_part_less, d_angle_of, d_part_over, d_places_in_order, d_at_most, d_upper, d_ways_along, d_way_at]
def fn2 : List He.DefD := [d_part_times, d_part_size, d_wholes_in, d_round_by, d_phase_at, d_teeth_ways, d_ways_on, d_law_lists, d_law_same, d_law_angle, d_law_turn_for, d_law_at, d_law_tooth_line, d_law_off, d_law_ways, d_is_on, d_why_off, d_law_all_on, d_law_stretches, d_law_stretch]
def fn3 : List He.DefD := [d_tooth_stretch, d_lower, d_shared_way, d_sure_ways, d_how_far, d_stops_at, d_law_stand_right, d_law_stand, d_law_right, d_law_box, d_law_cells, d_law_by_hand_right, d_law_heard, d_law]
def fn : List He.DefD := fn0 ++ fn1 ++ fn2 ++ fn3
def fa0 : List He.Fa := [.glo "_law_take", .glo "_law_of", .glo "_law_minus", .glo "_law_drawn_lead", .glo "_law_floor", .glo "_law_common", .glo "_law_part", .glo "_law_quot", .glo "_law_size", .glo "_law_sum", .glo "_law_less", .glo "_law_times", .glo "_law_round", .glo "_law_prod", .glo "_law_lead_line", .glo "_law_drawn_angle", .glo "_law_under", .glo "_law_fraction", .glo "_law_by_value", .glo "_law_groove", .glo "_law_line", .glo "_law_thread", .glo "_law_phases", .glo "_law_nut", .glo "_law_pick", .glo "_law_thread_nut", .glo "tupled", .glo "set_of", .glo "deep_phases", .glo "part_of"]
def fa1 : List He.Fa := [.glo "part_plus", .glo "part_minus", .glo "part_less", .glo "angle_of", .glo "part_over", .glo "places_in_order", .glo "at_most", .glo "upper", .glo "ways_along", .glo "way_at", .glo "part_times", .glo "part_size", .glo "wholes_in", .glo "round_by", .glo "phase_at", .glo "teeth_ways", .glo "ways_on", .glo "_law_lists", .glo "_law_same", .glo "_law_angle", .glo "_law_turn_for", .glo "_law_at", .glo "_law_tooth_line", .glo "_law_off", .glo "_law_ways", .glo "is_on", .glo "why_off", .glo "_law_all_on", .glo "_law_stretches", .glo "_law_stretch"]
def fa2 : List He.Fa := [.glo "tooth_stretch", .glo "lower", .glo "shared_way", .glo "sure_ways", .glo "how_far", .glo "stops_at", .glo "_law_stand_right", .glo "_law_stand", .glo "_law_right", .glo "_law_box", .glo "_law_cells", .glo "_law_by_hand_right", .glo "_law_heard", .glo "law", .free "len", .free "abs", .free "int", .free "min", .free "all", .free "tuple", .free "list", .free "set", .free "sorted", .free "range", .free "enumerate", .free "zip", .free "isinstance", .free "bool", .free "str", .free "ValueError"]
def fa3 : List He.Fa := [.glo "NONE", .glo "NoTooth", .glo "Unfit", .glo "NoPaper", .exc "Unfit", .exm "Unfit" "NoTooth" false, .exm "Unfit" "Unfit" true]
def fa : List He.Fa := fa0 ++ fa1 ++ fa2 ++ fa3
def tf : List He.Defn := [("_law_stand_right", none)]
/-- NONE's tuple -/
def noneB (K : PySem.W.Frag) : Bool := match K.lookup (He.ga K "NONE") with
  | some ⟨.type c, _, .seq its _, _⟩ => decide (c = "tuple") && He.relAll [.int 0, .int 1] its.toList
  | _ => false
def excB (K : PySem.W.Frag) (D : Addr) : Bool := He.eqO (PySem.W.findIn K (.ref D) "__getattribute__") (some (some (.builtin "BaseException.__getattribute__"))) && (He.eqO (PySem.W.findIn K (.ref D) "__getattr__") (some none) && (decide (PySem.W.subIn K (.ref D) (.type "BaseException") = some true) && (PySem.W.hasDictIn K D &&
  (He.eqO (PySem.W.findIn K (.ref D) "__class__") (some (some (.builtin "object.__class__"))) && (He.eqO (PySem.W.specialIn K (.builtin "object.__class__") "__get__") (some (some (.builtin "getset_descriptor.__get__"))) && (decide (PySem.W.takesIn K (.builtin "object.__class__") = some true) && (decide (PySem.W.mroIn K D (.type "object") = some true) &&
    decide (PySem.W.kitOne K (.ref D) (.type "ValueError") = some true))))))))
def ex (K : PySem.W.Frag) : Bool := He.eqO (PySem.W.nsIn K mainGlobals "gcd") (some (some (.builtin "math.gcd"))) && (noneB K && excB K (He.ga K "Unfit"))
abbrev R : PySem.W.OpenRow := PySem.W.OpenLaw.row PySem.Challenge.rw_screwshop_k30_whole_nuts_on_stopped_and
abbrev hk : PySem.W.Hook := He.hookX 5 fa fn [] tf ex
def ob (s : PySem.W.SharedT) : He.AlX := He.obsX 5 fa fn [] tf ex (HandSHeadRun.getT s)
theorem ob_eq (s : PySem.W.SharedT) : ob s = hk.obs s.abs := He.obsX_eq (HandSHeadRun.getT_eq s)
end SCH
namespace SCH
open PySem PySem.Spec PyProof.Rows L2 LamX SC
/-! the top runs: three looks at one run (all in one asks too much memory) -/
noncomputable abbrev WH (w : World) := HandSHeadRun.wholeF (fun p => HandSHeadRun.stepQ (HandSHeadRun.denQ HandSHeadRun.tabQ) p w) HandSHeadRun.fenceQ 4000 R.prog
abbrev qv := PySem.W.view R.prog [0, 83]
abbrev XT : Shared → Bool := fun s => PySem.W.xlAt qv [] s && PySem.W.recOk R.toRowW.records s
theorem run_looks (w : World) : (WH w).map (fun x => HandSHeadRun.looksF R.prog x.1.heap x.2.abs) = some true := by kernel_rfl
theorem run_seen (w : World) : (WH w).map (fun x => HandSHeadRun.seenQ qv loose (importedModules R.prog.main.body) XT x.2.abs) = some (PySem.W.openGood qv loose) := by kernel_rfl
theorem run_ob (w : World) : (WH w).map (fun x => ob x.2) = some (He.valX fn [] w) := by kernel_rfl
theorem map2 {A B C : Type _} {o : Option A} {f : A → B} {g : A → C} {b : B} {c : C} (h1 : o.map f = some b) (h2 : o.map g = some c) : o.map (fun x => (f x, g x)) = some (b, c) := by
  cases o with
  | none => cases h1
  | some x =>
    have e1 : f x = b := Option.some.inj h1
    have e2 : g x = c := Option.some.inj h2
    rw [← e1, ← e2]
    rfl
theorem run (w : World) : HandSHeadRun.RunEqI R qv hk ob 4000 loose w := map2 (run_looks w) (map2 (run_seen w) (run_ob w))
end SCH
namespace SCH
open PySem PySem.Spec PyProof.Rows L2 LamX SC
theorem Rw : Room 18 callerA := ⟨rfl, by decide, by decide⟩
section
variable {P : Program} {w : World} {K : PySem.W.Frag} {h base : Heap} {mg : Str → Option Value}
theorem says_d (c : He.SaysX fa fn [] tf ex w h K) : He.SaysD fa fn K := congrArg (fun z : He.AlT => z.1) c.t
theorem dAt (X : K.In base) (G : base.Ns mainGlobals mg) (c : He.SaysD fa fn K) {x : Str} {st : Stmt} (i j : Nat) (hi : fn[i]? = some ⟨(x, none), x, x, defArgs st, defBody st, defScope st, [], []⟩) (hj : fa[j]? = some (.glo x)) : DefAt ⟨P, w, K, mg, base⟩ x st := by
  obtain ⟨fd, F⟩ := c.def_ i hi
  exact ⟨_, fd, He.glo_ok X G (c.fact j hj), F⟩
theorem code_ref {x : Str} {st : Stmt} {f : Addr} {fd : FuncData} (F : FunD K x x (defArgs st) (defBody st) (defScope st) [] [] f fd) (hf : He.fAd K (x, none) = f) : fd.code = .ref (He.codeOf K (x, none)) := by
  obtain ⟨oc, od, dV, kV, doc, pm, an, cdv, ct, osl, rfl, lk, hcd, _⟩ := F.ex
  obtain ⟨c, rfl⟩ := He.codeIn_ref hcd
  rw [He.codeOf_eq (c := c) (hf ▸ lk) rfl]
theorem defs (X : K.In base) (G : base.Ns mainGlobals mg) (c : He.SaysD fa fn K) : Defs ⟨P, w, K, mg, base⟩ (He.cT K ("_law_stand_right", none)).1 where
  d_law_take := dAt X G c 0 0 rfl rfl
  d_law_of := dAt X G c 1 1 rfl rfl
  d_law_minus := dAt X G c 2 2 rfl rfl
  d_law_drawn_lead := dAt X G c 3 3 rfl rfl
  d_law_floor := dAt X G c 4 4 rfl rfl
  d_law_common := dAt X G c 5 5 rfl rfl
  d_law_part := dAt X G c 6 6 rfl rfl
  d_law_quot := dAt X G c 7 7 rfl rfl
  d_law_size := dAt X G c 8 8 rfl rfl
  d_law_sum := dAt X G c 9 9 rfl rfl
  d_law_less := dAt X G c 10 10 rfl rfl
  d_law_times := dAt X G c 11 11 rfl rfl
  d_law_round := dAt X G c 12 12 rfl rfl
  d_law_prod := dAt X G c 13 13 rfl rfl
  d_law_lead_line := dAt X G c 14 14 rfl rfl
  d_law_drawn_angle := dAt X G c 15 15 rfl rfl
  d_law_under := dAt X G c 16 16 rfl rfl
  d_law_fraction := dAt X G c 17 17 rfl rfl
  d_law_by_value := dAt X G c 18 18 rfl rfl
  d_law_groove := dAt X G c 19 19 rfl rfl
  d_law_line := dAt X G c 20 20 rfl rfl
  d_law_thread := dAt X G c 21 21 rfl rfl
  d_law_phases := dAt X G c 22 22 rfl rfl
  d_law_nut := dAt X G c 23 23 rfl rfl
  d_law_pick := dAt X G c 24 24 rfl rfl
  d_law_thread_nut := dAt X G c 25 25 rfl rfl
  d_tupled := dAt X G c 26 26 rfl rfl
  d_set_of := dAt X G c 27 27 rfl rfl
  d_deep_phases := dAt X G c 28 28 rfl rfl
  d_part_of := dAt X G c 29 29 rfl rfl
  d_part_plus := dAt X G c 30 30 rfl rfl
  d_part_minus := dAt X G c 31 31 rfl rfl
  d_part_less := dAt X G c 32 32 rfl rfl
  d_angle_of := dAt X G c 33 33 rfl rfl
  d_part_over := dAt X G c 34 34 rfl rfl
  d_places_in_order := dAt X G c 35 35 rfl rfl
  d_at_most := dAt X G c 36 36 rfl rfl
  d_upper := dAt X G c 37 37 rfl rfl
  d_ways_along := dAt X G c 38 38 rfl rfl
  d_way_at := dAt X G c 39 39 rfl rfl
  d_part_times := dAt X G c 40 40 rfl rfl
  d_part_size := dAt X G c 41 41 rfl rfl
  d_wholes_in := dAt X G c 42 42 rfl rfl
  d_round_by := dAt X G c 43 43 rfl rfl
  d_phase_at := dAt X G c 44 44 rfl rfl
  d_teeth_ways := dAt X G c 45 45 rfl rfl
  d_ways_on := dAt X G c 46 46 rfl rfl
  d_law_lists := dAt X G c 47 47 rfl rfl
  d_law_same := dAt X G c 48 48 rfl rfl
  d_law_angle := dAt X G c 49 49 rfl rfl
  d_law_turn_for := dAt X G c 50 50 rfl rfl
  d_law_at := dAt X G c 51 51 rfl rfl
  d_law_tooth_line := dAt X G c 52 52 rfl rfl
  d_law_off := dAt X G c 53 53 rfl rfl
  d_law_ways := dAt X G c 54 54 rfl rfl
  d_is_on := dAt X G c 55 55 rfl rfl
  d_why_off := dAt X G c 56 56 rfl rfl
  d_law_all_on := dAt X G c 57 57 rfl rfl
  d_law_stretches := dAt X G c 58 58 rfl rfl
  d_law_stretch := dAt X G c 59 59 rfl rfl
  d_tooth_stretch := dAt X G c 60 60 rfl rfl
  d_lower := dAt X G c 61 61 rfl rfl
  d_shared_way := dAt X G c 62 62 rfl rfl
  d_sure_ways := dAt X G c 63 63 rfl rfl
  d_how_far := dAt X G c 64 64 rfl rfl
  d_stops_at := dAt X G c 65 65 rfl rfl
  d_law_stand_right := by
    obtain ⟨fd, F⟩ := c.def_ 66 (d := d_law_stand_right) rfl
    have F2 : FunD K "_law_stand_right" "_law_stand_right" (defArgs s_law_stand_right) (defBody s_law_stand_right) (defScope s_law_stand_right) [] [] (He.fAd K ("_law_stand_right", none)) fd := F
    exact ⟨_, fd, He.glo_ok X G (c.fact 66 (f := .glo "_law_stand_right") rfl), F2, code_ref F2 rfl⟩
  d_law_stand := dAt X G c 67 67 rfl rfl
  d_law_right := dAt X G c 68 68 rfl rfl
  d_law_box := dAt X G c 69 69 rfl rfl
  d_law_cells := dAt X G c 70 70 rfl rfl
  d_law_by_hand_right := dAt X G c 71 71 rfl rfl
  d_law_heard := dAt X G c 72 72 rfl rfl
theorem bis (X : K.In base) (G : base.Ns mainGlobals mg) (c : He.SaysD fa fn K) (m : ex K = true) : Bi mg where
  len := He.free_ok X G (c.fact 74 (f := .free "len") rfl)
  abs := He.free_ok X G (c.fact 75 (f := .free "abs") rfl)
  int := He.free_ok X G (c.fact 76 (f := .free "int") rfl)
  min := He.free_ok X G (c.fact 77 (f := .free "min") rfl)
  all := He.free_ok X G (c.fact 78 (f := .free "all") rfl)
  tuple := He.free_ok X G (c.fact 79 (f := .free "tuple") rfl)
  list := He.free_ok X G (c.fact 80 (f := .free "list") rfl)
  set := He.free_ok X G (c.fact 81 (f := .free "set") rfl)
  sorted := He.free_ok X G (c.fact 82 (f := .free "sorted") rfl)
  range := He.free_ok X G (c.fact 83 (f := .free "range") rfl)
  enumerate := He.free_ok X G (c.fact 84 (f := .free "enumerate") rfl)
  zip := He.free_ok X G (c.fact 85 (f := .free "zip") rfl)
  isinstance := He.free_ok X G (c.fact 86 (f := .free "isinstance") rfl)
  bool := He.free_ok X G (c.fact 87 (f := .free "bool") rfl)
  str := He.free_ok X G (c.fact 88 (f := .free "str") rfl)
  gcd := PySem.W.mg_of X G (He.eqO_ok (He.ba m).1)
theorem none_at (X : K.In base) (G : base.Ns mainGlobals mg) (c : He.SaysD fa fn K) (m : ex K = true) : NoneAt K mg (He.ga K "NONE") := by
  refine ⟨He.glo_ok X G (c.fact 90 (f := .glo "NONE") rfl), fun H => .inr ?_⟩
  have z := (He.ba (He.ba m).2).1
  unfold noneB at z
  cases q : K.lookup (He.ga K "NONE") with
  | none =>
    rw [q] at z
    cases z
  | some o =>
    obtain ⟨oc, od, dt, osl⟩ := o
    rw [q] at z
    cases oc with
    | type t =>
      cases dt with
      | seq its n =>
        obtain ⟨z1, z2⟩ := He.ba z
        have hv := He.relAll_ok z2
        have hl : its.toList.length = 2 := (Vals.length hv).symm
        refine ⟨_, its, n, rfl, congrArg Value.type (of_decide_eq_true z1), rfl, ?_, hv⟩
        rw [← Array.length_toList, hl]
        decide
      | _ => cases z
    | _ => cases dt <;> cases z
theorem exc_c {D : Addr} (m : excB K D = true) : ExcC K D ∧ PySem.W.kitOne K (.ref D) (.type "ValueError") = some true := by
  obtain ⟨m1, m⟩ := He.ba m
  obtain ⟨m2, m⟩ := He.ba m
  obtain ⟨m3, m⟩ := He.ba m
  obtain ⟨m4, m⟩ := He.ba m
  obtain ⟨m5, m⟩ := He.ba m
  obtain ⟨m6, m⟩ := He.ba m
  obtain ⟨m7, m⟩ := He.ba m
  obtain ⟨m8, m9⟩ := He.ba m
  exact ⟨⟨He.eqO_ok m1, He.eqO_ok m2, of_decide_eq_true m3, m4, He.eqO_ok m5, He.eqO_ok m6, of_decide_eq_true m7, of_decide_eq_true m8⟩, of_decide_eq_true m9⟩
theorem exc_at (X : K.In base) (G : base.Ns mainGlobals mg) (c : He.SaysD fa fn K) : ExcAt K mg "Unfit" (He.ga K "Unfit") := by
  obtain ⟨e1, e2, e3, e4⟩ := He.exc_ok (c.fact 94 (f := .exc "Unfit") rfl)
  exact ⟨He.glo_ok X G (c.fact 92 (f := .glo "Unfit") rfl), e2, e1, e3, e4⟩
theorem errs (X : K.In base) (G : base.Ns mainGlobals mg) (c : He.SaysD fa fn K) (m : ex K = true) : Errs K mg (He.ga K "NoTooth") (He.ga K "Unfit") (He.ga K "NoPaper") := by
  obtain ⟨e1, e2⟩ := exc_c (He.ba (He.ba m).2).2
  exact ⟨He.glo_ok X G (c.fact 91 (f := .glo "NoTooth") rfl), He.glo_ok X G (c.fact 92 (f := .glo "Unfit") rfl), He.glo_ok X G (c.fact 93 (f := .glo "NoPaper") rfl),
    He.exm_ok (c.fact 95 (f := .exm "Unfit" "NoTooth" false) rfl), He.exm_ok (c.fact 96 (f := .exm "Unfit" "Unfit" true) rfl), e2, e1,
    He.free_ok X G (c.fact 86 (f := .free "isinstance") rfl), He.free_ok X G (c.fact 89 (f := .free "ValueError") rfl)⟩
end
theorem law_at {l : PySem.W.OpenLaw} {w : World} {K : PySem.W.Frag} {h : Heap} {mg : Str → Option Value} {f0 : Addr} (X : K.In h) (G : h.Ns mainGlobals mg) (hf : mg ("law" : Str) = some (.ref f0)) (c : He.SaysX fa fn [] tf ex w h K) : LawAtS l w K CX0 18 63 "_law_script" mg f0 h := by
  have cd := says_d c
  obtain ⟨fd, F⟩ := cd.def_ 73 (d := d_law) rfl
  have e := hf.symm.trans (He.glo_ok X G (cd.fact 73 (f := .glo "law") rfl))
  cases e
  have b := FunD.bindsA (ps := ["_law_script"]) F fun _ _ _ _ _ _ us hl => match us, hl with | [_], _ => rfl
  have hp : ∀ {p : Addr × Addr}, p ∈ [He.cT K ("_law_stand_right", none)] → p = He.cT K ("_law_stand_right", none) := fun h => List.mem_singleton.mp h
  have ht : (("_law_stand_right", none) : He.Defn) ∈ tf := List.mem_singleton.mpr rfl
  refine ⟨fd, [He.cT K ("_law_stand_right", none)], spLaw K (He.cT K ("_law_stand_right", none)).2, fun p h => ?_, fun p h => ?_, fun p h => ?_, fun s u => b s [u] rfl, fun H a ns hl hb hT hS => ?_, fun bs XB GB TB => ?_⟩
  · rw [hp h]; exact c.empty _ ht
  · rw [hp h]; exact c.out _ ht
  · rw [hp h]; exact PySem.W.codeHd_of_K X (c.hd _ ht)
  · exact ⟨a, ns, rfl, hS, hl, hb, TabS.nil (hT _ (List.mem_singleton.mpr rfl)), c.out _ ht, fun _ => rfl⟩
  · exact law_ok (M := ⟨l.prog, w, K, mg, bs⟩) (bis XB GB cd c.more) (none_at XB GB cd c.more) (exc_at XB GB cd) (errs XB GB cd c.more) (TB _ (List.mem_singleton.mpr rfl)) (defs XB GB cd) F
end SCH
open PySem PySem.W PySem.Calls PyProof.Rows
theorem PySem.Challenge.cw_screwshop_k30_whole_nuts_on_stopped_and_holds : PySem.Challenge.rw_screwshop_k30_whole_nuts_on_stopped_and.Holds := by
  w_on; o_law
  refine HandSHeadRun.head_imp (r := OpenLaw.row PySem.Challenge.rw_screwshop_k30_whole_nuts_on_stopped_and) (q := SCH.qv) (H := SCH.hk) (ob := SCH.ob) (M := 4000) (loose := SCH.loose) (d := HandSHeadRun.topDef SCH.R.prog 83) (kwd := []) SCH.ob_eq SCH.run
    (by kernel_rfl) (by kernel_rfl) (by kernel_rfl) (by rfl) (by first | assumption | decide +kernel) (by decide +kernel) ⟨rfl, rfl, rfl, rfl, rfl, by decide +kernel⟩ ?hw ?hc
  case hw => w_witness2
  case hc =>
    refine LamX.walk_ofTsE (l := PySem.Challenge.rw_screwshop_k30_whole_nuts_on_stopped_and) (n := 63) (k := 18) (x := "_law_script") (CX := fun _ => L2.CX0) rfl (by decide) (by kernel_rfl) SCH.Rw ?F (fun _ _ _ _ _ z => z)
    intro w mg f0 h Y G hmg0
    obtain ⟨K, KX, c⟩ := Y
    have hmg : mg ("law" : PySem.Str) = some (.ref f0) := by
      have e : (HandSHeadRun.topDef SCH.R.prog 83).name = ("law" : PySem.Str) := by kernel_rfl
      rw [← e]
      exact hmg0
    exact ⟨K, KX, SCH.law_at KX G hmg c⟩
