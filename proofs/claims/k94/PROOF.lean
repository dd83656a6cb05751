import PyProof.Rows.All
import Wide.All
import OpenK.AllK
import Wide.FinOn
import HandS.ForMost
import HandS.Walk
import HandS.TupAny
import HandS.Wide
import HandS.IsInst
import HandS.Defaults
import HandS.Flow
import HandS.SortInts
import KE.SortData
import KE.DataMinMax
import KE.KTupSum
import PyProof.Rows.RowBridgeK
import HandS.SetFor
import PyProof.Rows.SetFrom
import KE.KStateDown
import Lean
import HandS.Head0
import HandS.Head1
import HandS.Head2
import HandS.HeadEnd
import HandS.HeadHook1
import HandS.HeadHook2
import PySem.Challenge.RW_shocksknown_k94_times_and_quiet
set_option Elab.async false
set_option linter.all false
/-! PD0: plain data over the hand layer. States, judgements. -/
namespace PD
open PySem L2 PySem.Spec PyProof.Rows

abbrev D := PyData

/-! ### data in a heap -/
theorem sqT_mono {K : PySem.W.Frag} {F F' : Hp} {a : Addr} {xs : List V} (e : Same F F') (h : SqT K F a xs) : SqT K F' a xs := by
  rcases h with (h | ⟨o, h⟩) | h
  · exact .inl (.inl (e _ _ h))
  · exact .inl (.inr ⟨o, e _ _ h⟩)
  · exact .inr h
mutual
theorem dp_mono {K : PySem.W.Frag} {F F' : Hp} (e : Same F F') : ∀ {v : V} {d : D}, Dp K F v d → Dp K F' v d
  | _, _, .non => .non
  | _, _, .bl b => .bl b
  | _, _, .int i => .int i
  | _, _, .str x => .str x
  | _, _, .lst h a => .lst (e.seq h) (dpa_mono e a)
  | _, _, .tup h a => .tup (sqT_mono e h) (dpa_mono e a)
theorem dpa_mono {K : PySem.W.Frag} {F F' : Hp} (e : Same F F') : ∀ {vs : List V} {ds : List D}, DpAll K F vs ds → DpAll K F' vs ds
  | _, _, .nil => .nil
  | _, _, .cons h t => .cons (dp_mono e h) (dpa_mono e t)
end
section
variable {K : PySem.W.Frag} {F : Hp}
theorem dpa_len : ∀ {vs : List V} {ds : List D}, DpAll K F vs ds → vs.length = ds.length
  | _, _, .nil => rfl
  | _, _, .cons _ t => congrArg Nat.succ (dpa_len t)
theorem dpa_get : ∀ {vs : List V} {ds : List D} {i : Nat} {d : D}, DpAll K F vs ds → ds[i]? = some d → ∃ v, vs[i]? = some v ∧ Dp K F v d
  | _, _, _, _, .nil, e => by simp at e
  | _, _, 0, _, .cons h _, e => by simp at e; subst e; exact ⟨_, rfl, h⟩
  | _, _, i + 1, d, .cons _ t, e => by
    obtain ⟨v, e1, e2⟩ := dpa_get (i := i) (d := d) t (by simpa using e)
    exact ⟨v, by simpa using e1, e2⟩
theorem dpa_get' {vs : List V} {ds : List D} {i : Nat} {v : V} (h : DpAll K F vs ds) (e : vs[i]? = some v) : ∃ d, ds[i]? = some d ∧ Dp K F v d := by
  obtain ⟨h1, e1⟩ := List.getElem?_eq_some_iff.mp e
  have h2 : i < ds.length := by rw [← dpa_len h]; exact h1
  obtain ⟨v', e3, e4⟩ := dpa_get h (List.getElem?_eq_getElem h2)
  rw [e] at e3; cases e3
  exact ⟨_, List.getElem?_eq_getElem h2, e4⟩
theorem dpa_app : ∀ {vs us : List V} {ds es : List D}, DpAll K F vs ds → DpAll K F us es → DpAll K F (vs ++ us) (ds ++ es)
  | _, _, _, _, .nil, h => h
  | _, _, _, _, .cons h t, h' => .cons h (dpa_app t h')
theorem dpa_take : ∀ {vs : List V} {ds : List D} (n : Nat), DpAll K F vs ds → DpAll K F (vs.take n) (ds.take n)
  | _, _, 0, _ => .nil
  | _, _, _ + 1, .nil => .nil
  | _, _, n + 1, .cons h t => .cons h (dpa_take n t)
theorem dpa_drop : ∀ {vs : List V} {ds : List D} (n : Nat), DpAll K F vs ds → DpAll K F (vs.drop n) (ds.drop n)
  | _, _, 0, h => h
  | _, _, _ + 1, .nil => .nil
  | _, _, n + 1, .cons _ t => dpa_drop n t
theorem dpa_set : ∀ {vs : List V} {ds : List D} {v : V} {d : D} (i : Nat), Dp K F v d → DpAll K F vs ds → DpAll K F (vs.set i v) (ds.set i d)
  | _, _, _, _, _, _, .nil => .nil
  | _, _, _, _, 0, h', .cons h t => .cons h' t
  | _, _, _, _, i + 1, h', .cons h t => .cons h (dpa_set i h' t)
theorem dpa_rev : ∀ {vs : List V} {ds : List D}, DpAll K F vs ds → DpAll K F vs.reverse ds.reverse
  | _, _, .nil => .nil
  | _, _, .cons h t => by rw [List.reverse_cons, List.reverse_cons]; exact dpa_app (dpa_rev t) (.cons h .nil)
theorem dpa_ints : ∀ {ns : List Int} {vs : List V}, DpAll K F vs (ns.map PyData.int) → vs = ns.map V.int
  | [], _, h => by cases h; rfl
  | n :: ns, _, h => by
    cases h with
    | cons h t => cases h; rw [dpa_ints t]; rfl
theorem dpa_of_ints : ∀ (ns : List Int), DpAll K F (ns.map V.int) (ns.map PyData.int)
  | [] => .nil
  | n :: ns => .cons (.int n) (dpa_of_ints ns)
theorem dpa_bls : ∀ {bs : List Bool} {vs : List V}, DpAll K F vs (bs.map PyData.bool) → vs = bs.map V.bl
  | [], _, h => by cases h; rfl
  | n :: ns, _, h => by
    cases h with
    | cons h t => cases h; rw [dpa_bls t]; rfl
theorem dp_int {v : V} {i : Int} (h : Dp K F v (.int i)) : v = .int i := by cases h; rfl
theorem dp_bl {v : V} {i : Bool} (h : Dp K F v (.bool i)) : v = .bl i := by cases h; rfl
theorem dp_non {v : V} (h : Dp K F v .none) : v = .non := by cases h; rfl
theorem dp_str {v : V} {x : Str} (h : Dp K F v (.str x)) : v = .str x := by cases h; rfl
theorem dp_non_iff {v : V} {d : D} (h : Dp K F v d) : decide (v = .non) = (match d with | .none => true | _ => false) := by
  cases h <;> simp
end

/-! ### heaps that grow by new things -/
structure Grow (F H F' H' : Hp) : Prop where
  ff : Same F F'
  hh : Same H H'
  nw : ∀ p o, F' p = some o → F p = some o ∨ (H p = none ∧ H' p = some o)
theorem Grow.refl (F H : Hp) : Grow F H F H := ⟨Same.refl _, Same.refl _, fun _ _ h => .inl h⟩
theorem Grow.trans {F H F1 H1 F2 H2 : Hp} (a : Grow F H F1 H1) (b : Grow F1 H1 F2 H2) : Grow F H F2 H2 :=
  ⟨a.ff.trans b.ff, a.hh.trans b.hh, fun p o h => by
    rcases b.nw p o h with h | ⟨h1, h2⟩
    · rcases a.nw p o h with h | ⟨h1, h2⟩
      · exact .inl h
      · exact .inr ⟨h1, b.hh _ _ h2⟩
    · exact .inr ⟨a.hh.free h1, h2⟩⟩
theorem same_upd {H : Hp} {p : Addr} {o : HO} (n : H p = none) : Same H (upd H p o) := fun b x e => by rw [upd_ne (ne_of_none e n)]; exact e
theorem Grow.new {F H : Hp} {p : Addr} {o : HO} (s : Same F H) (n : H p = none) : Grow F H (upd F p o) (upd H p o) :=
  ⟨same_upd (s.free n), same_upd n, fun b x e => by
    by_cases h : b = p
    · subst h
      rw [upd_same] at e; cases e
      exact .inr ⟨n, upd_same⟩
    · rw [upd_ne h] at e; exact .inl e⟩
/-- new, but not frozen -/
theorem Grow.newH {F H : Hp} {p : Addr} {o : HO} (n : H p = none) : Grow F H F (upd H p o) := ⟨Same.refl _, same_upd n, fun _ _ h => .inl h⟩

/-! ### what a slot holds -/
/-- a thing that may be changed -/
inductive MO where
  | lst (ds : List D)
  | dK (kvs : List (Key × D))
  | dT (kvs : List (List Key × D))
  | iset (S : Int → Bool) (n : Nat)
inductive Sl where
  | em
  | val (d : D)
  | own (a : Addr) (m : MO)
def DpK (K : PySem.W.Frag) (F : Hp) {κ : Type} (ys : List (κ × V)) (kvs : List (κ × D)) : Prop := ys.map (·.1) = kvs.map (·.1) ∧ DpAll K F (ys.map (·.2)) (kvs.map (·.2))
def RepM (K : PySem.W.Frag) (F : Hp) : MO → HO → Prop
  | .lst ds, o => ∃ xs, o = .lst xs ∧ DpAll K F xs ds
  | .dK kvs, o => ∃ ys, o = .dK ys ∧ DpK K F ys kvs
  | .dT kvs, o => ∃ ys, o = .dT ys ∧ DpK K F ys kvs
  | .iset S n, o => o = .set S n
theorem repM_mono {K : PySem.W.Frag} {F F' : Hp} (e : Same F F') {m : MO} {o : HO} (h : RepM K F m o) : RepM K F' m o := by
  cases m with
  | lst ds => obtain ⟨xs, h1, h2⟩ := h; exact ⟨xs, h1, dpa_mono e h2⟩
  | dK ds => obtain ⟨xs, h1, h2, h3⟩ := h; exact ⟨xs, h1, h2, dpa_mono e h3⟩
  | dT ds => obtain ⟨xs, h1, h2, h3⟩ := h; exact ⟨xs, h1, h2, dpa_mono e h3⟩
  | iset S n => exact h
def SlOk (K : PySem.W.Frag) (F H : Hp) (ov : Option (Option V)) : Sl → Prop
  | .em => True
  | .val d => ∃ v, ov = some (some v) ∧ Dp K F v d
  | .own a m => ov = some (some (.ref a)) ∧ F a = none ∧ ∃ o, H a = some o ∧ RepM K F m o
/-- the frame's slots, the frozen part F of the heap H -/
structure En (K : PySem.W.Frag) (γ : List Sl) (σ : L2.St) (F H : Hp) : Prop where
  sub : Same F H
  len : γ.length = σ.length
  at_ : ∀ (i : Nat) (s : Sl), γ[i]? = some s → SlOk K F H (σ[i]?) s
  inj : ∀ (i j : Nat) (a b : Addr) (m m' : MO), γ[i]? = some (.own a m) → γ[j]? = some (.own b m') → i ≠ j → a ≠ b
def Owned (γ : List Sl) (a : Addr) : Prop := ∃ (i : Nat) (m : MO), γ[i]? = some (Sl.own a m)
/-- what stays: all but what γ owns; what γ' owns was owned or is new -/
structure Kp (γ γ' : List Sl) (H H' : Hp) : Prop where
  keep : ∀ p o, H p = some o → ¬ Owned γ p → H' p = some o
  own : ∀ a, Owned γ' a → Owned γ a ∨ H a = none
  there : ∀ p o, H p = some o → ∃ o', H' p = some o'
theorem Kp.refl (γ : List Sl) (H : Hp) : Kp γ γ H H := ⟨fun _ _ h _ => h, fun _ h => .inl h, fun _ _ h => ⟨_, h⟩⟩
theorem Kp.free {γ γ' : List Sl} {H H' : Hp} (k : Kp γ γ' H H') {p : Addr} (h : H' p = none) : H p = none := by
  cases q : H p with
  | none => rfl
  | some o => obtain ⟨o', e⟩ := k.there p o q; rw [e] at h; cases h
theorem Kp.trans {γ γ1 γ2 : List Sl} {H H1 H2 : Hp} (a : Kp γ γ1 H H1) (b : Kp γ1 γ2 H1 H2) : Kp γ γ2 H H2 :=
  ⟨fun p o h n => b.keep p o (a.keep p o h n) (fun q => (a.own p q).elim n (fun z => by rw [h] at z; cases z)),
   fun p h => (b.own p h).elim (fun q => a.own p q) fun q => .inr (a.free q),
   fun p o h => let ⟨o', e⟩ := a.there p o h; b.there p o' e⟩
theorem Kp.grow {γ : List Sl} {F H F' H' : Hp} (g : Grow F H F' H') : Kp γ γ H H' := ⟨fun p o h _ => g.hh p o h, fun _ h => .inl h, fun p o h => ⟨o, g.hh p o h⟩⟩

section
variable {K : PySem.W.Frag} {γ γ' : List Sl} {σ σ' : L2.St} {F H F' H' : Hp}
theorem En.val (E : En K γ σ F H) {i : Nat} {d : D} (h : γ[i]? = some (.val d)) : ∃ v, σ[i]? = some (some v) ∧ Dp K F v d := E.at_ i _ h
theorem En.own (E : En K γ σ F H) {i : Nat} {a : Addr} {m : MO} (h : γ[i]? = some (.own a m)) : σ[i]? = some (some (.ref a)) ∧ F a = none ∧ ∃ o, H a = some o ∧ RepM K F m o := E.at_ i _ h
theorem En.grow (E : En K γ σ F H) (g : Grow F H F' H') : En K γ σ F' H' where
  sub := fun p o e => by
    rcases g.nw p o e with h | ⟨_, h⟩
    · exact g.hh _ _ (E.sub _ _ h)
    · exact h
  len := E.len
  at_ := fun i s h => by
    have q := E.at_ i s h
    cases s with
    | em => trivial
    | val d => obtain ⟨v, h1, h2⟩ := q; exact ⟨v, h1, dp_mono g.ff h2⟩
    | own a m =>
      obtain ⟨h1, h2, o, h3, h4⟩ := q
      refine ⟨h1, ?_, o, g.hh _ _ h3, repM_mono g.ff h4⟩
      cases e : F' a with
      | none => rfl
      | some u =>
        rcases g.nw a u e with z | ⟨z, _⟩
        · rw [h2] at z; cases z
        · rw [h3] at z; cases z
  inj := E.inj
/-- a slot set -/
theorem get_set {α : Type} {l : List α} {i j : Nat} {x y : α} (h : (l.set i x)[j]? = some y) : (i = j ∧ y = x) ∨ (i ≠ j ∧ l[j]? = some y) := by
  by_cases e : i = j
  · subst e
    rw [List.getElem?_set_self'] at h
    cases q : l[i]? with
    | none => rw [q] at h; simp at h
    | some z => rw [q] at h; simp at h; exact .inl ⟨rfl, h.symm⟩
  · rw [List.getElem?_set_ne e] at h; exact .inr ⟨e, h⟩
theorem En.set_val (E : En K γ σ F H) {v : V} {d : D} (h : Dp K F v d) (i : Nat) : En K (γ.set i (.val d)) (σ.set i (some v)) F H where
  sub := E.sub
  len := by rw [List.length_set, List.length_set, E.len]
  at_ := fun j s q => by
    rcases get_set q with ⟨e, e2⟩ | ⟨e, q⟩
    · subst e e2
      have hl : i < σ.length := by
        have := (List.getElem?_eq_some_iff.mp q).1
        rw [List.length_set] at this
        rw [← E.len]; exact this
      exact ⟨v, by rw [List.getElem?_set_self hl], h⟩
    · rw [List.getElem?_set_ne e]; exact E.at_ j s q
  inj := fun j k a b m m' q1 q2 n => by
    rcases get_set q1 with ⟨_, z⟩ | ⟨_, q1⟩
    · cases z
    rcases get_set q2 with ⟨_, z⟩ | ⟨_, q2⟩
    · cases z
    exact E.inj j k a b m m' q1 q2 n
theorem En.set_em (E : En K γ σ F H) (x : Option V) (i : Nat) : En K (γ.set i .em) (σ.set i x) F H where
  sub := E.sub
  len := by rw [List.length_set, List.length_set, E.len]
  at_ := fun j s q => by
    rcases get_set q with ⟨e, e2⟩ | ⟨e, q⟩
    · subst e e2; trivial
    · rw [List.getElem?_set_ne e]; exact E.at_ j s q
  inj := fun j k a b m m' q1 q2 n => by
    rcases get_set q1 with ⟨_, z⟩ | ⟨_, q1⟩
    · cases z
    rcases get_set q2 with ⟨_, z⟩ | ⟨_, q2⟩
    · cases z
    exact E.inj j k a b m m' q1 q2 n
/-- a slot takes a thing that nobody else owns -/
theorem En.set_own (E : En K γ σ F H) {a : Addr} {m : MO} {o : HO} (hF : F a = none) (hH : H a = some o) (r : RepM K F m o) (hn : ¬ Owned γ a) (i : Nat) : En K (γ.set i (.own a m)) (σ.set i (some (.ref a))) F H where
  sub := E.sub
  len := by rw [List.length_set, List.length_set, E.len]
  at_ := fun j s q => by
    rcases get_set q with ⟨e, e2⟩ | ⟨e, q⟩
    · subst e e2
      have hl : i < σ.length := by
        have := (List.getElem?_eq_some_iff.mp q).1
        rw [List.length_set] at this
        rw [← E.len]; exact this
      exact ⟨by rw [List.getElem?_set_self hl], hF, o, hH, r⟩
    · rw [List.getElem?_set_ne e]; exact E.at_ j s q
  inj := fun j k c b m1 m2 q1 q2 n => by
    rcases get_set q1 with ⟨e1, z⟩ | ⟨_, q1⟩
    · cases z
      rcases get_set q2 with ⟨e2, z⟩ | ⟨_, q2⟩
      · exact absurd (e1.symm.trans e2) n
      · exact fun e => hn ⟨k, m2, e ▸ q2⟩
    rcases get_set q2 with ⟨e2, z⟩ | ⟨_, q2⟩
    · cases z
      exact fun e => hn ⟨j, m1, e ▸ q1⟩
    exact E.inj j k c b m1 m2 q1 q2 n
/-- an owned thing is changed -/
theorem En.upd (E : En K γ σ F H) {i : Nat} {a : Addr} {m m' : MO} {o : HO} (h : γ[i]? = some (.own a m)) (r : RepM K F m' o) : En K (γ.set i (.own a m')) σ F (upd H a o) := by
  obtain ⟨h1, h2, o1, h3, h4⟩ := E.own h
  refine ⟨fun p u e => ?_, by rw [List.length_set, E.len], fun j s q => ?_, fun j k c b m1 m2 q1 q2 n => ?_⟩
  · rw [upd_ne (fun z => by subst z; rw [h2] at e; cases e)]; exact E.sub _ _ e
  · rcases get_set q with ⟨e, e2⟩ | ⟨e, q⟩
    · subst e e2
      exact ⟨h1, h2, o, upd_same, r⟩
    · have z := E.at_ j s q
      cases s with
      | em => trivial
      | val d => exact z
      | own b mb =>
        obtain ⟨z1, z2, ob, z3, z4⟩ := z
        exact ⟨z1, z2, ob, by rw [upd_ne (E.inj j i b a mb m q h (Ne.symm e))]; exact z3, z4⟩
  · have f : ∀ {j : Nat} {c : Addr} {mm : MO}, (γ.set i (.own a m'))[j]? = some (.own c mm) → ∃ mm', γ[j]? = some (.own c mm') := fun {j : Nat} {c : Addr} {mm : MO} q => by
      rcases get_set q with ⟨e, z⟩ | ⟨_, q⟩
      · cases z; subst e; exact ⟨_, h⟩
      · exact ⟨_, q⟩
    obtain ⟨_, q1⟩ := f q1
    obtain ⟨_, q2⟩ := f q2
    exact E.inj j k c b _ _ q1 q2 n
theorem Owned.set {i : Nat} {s : Sl} {a : Addr} (h : Owned (γ.set i s) a) : Owned γ a ∨ ∃ m, s = .own a m := by
  obtain ⟨j, m, q⟩ := h
  rcases get_set q with ⟨_, z⟩ | ⟨_, q⟩
  · exact .inr ⟨m, z.symm⟩
  · exact .inl ⟨j, m, q⟩
/-- an owned list is frozen: from now on a value -/
theorem En.freeze (E : En K γ σ F H) {i : Nat} {a : Addr} {ds : List D} {xs : List V} (h : γ[i]? = some (.own a (.lst ds))) (e : H a = some (.lst xs)) (r : DpAll K F xs ds) : En K (γ.set i (.val (.list ds))) σ (L2.upd F a (.lst xs)) H := by
  obtain ⟨h1, h2, _⟩ := E.own h
  have sm : Same F (L2.upd F a (.lst xs)) := same_upd h2
  refine ⟨fun p u q => ?_, by rw [List.length_set, E.len], fun j s q => ?_, fun j k c b m1 m2 q1 q2 n => ?_⟩
  · by_cases z : p = a
    · subst z; rw [upd_same] at q; cases q; exact e
    · rw [upd_ne z] at q; exact E.sub _ _ q
  · rcases get_set q with ⟨z, z2⟩ | ⟨z, q⟩
    · subst z z2
      exact ⟨.ref a, h1, .lst (.of upd_same) (dpa_mono sm r)⟩
    · have y := E.at_ j s q
      cases s with
      | em => trivial
      | val d => obtain ⟨v, y1, y2⟩ := y; exact ⟨v, y1, dp_mono sm y2⟩
      | own b mb =>
        obtain ⟨y1, y2, ob, y3, y4⟩ := y
        exact ⟨y1, by rw [upd_ne (E.inj j i b a mb _ q h (Ne.symm z))]; exact y2, ob, y3, repM_mono sm y4⟩
  · rcases get_set q1 with ⟨_, z⟩ | ⟨_, q1⟩
    · cases z
    rcases get_set q2 with ⟨_, z⟩ | ⟨_, q2⟩
    · cases z
    exact E.inj j k c b m1 m2 q1 q2 n
end
end PD

set_option Elab.async false
set_option linter.all false
/-! PD1: judgements over plain data, and their rules: names, numbers, tests, displays, calls. -/
namespace PD
open PySem L2 PySem.Spec PyProof.Rows

/-! ### a code's own reading: all that suffices -/
def wE (X : Cx) (e : Expr) : TE := fun σ H Q => ∀ (pins : List (Addr × Obj)) (s : Shared), Inv X pins σ H s → wpAny (model X.prog X.w) X.A (eval e X.env) (EP X pins σ Q) X.xe s
def wT (X : Cx) (e : Expr) : TT := fun σ H Q => ∀ (pins : List (Addr × Obj)) (s : Shared), Inv X pins σ H s → wpAny (model X.prog X.w) X.A (isTrue e X.env (eval e X.env)) (TP X pins σ Q) X.xe s
def wW (X : Cx) (e : Expr) : TT := fun σ H Q => ∀ (whole : Sem Value) (pins : List (Addr × Obj)) (s : Shared), Inv X pins σ H s → wpAny (model X.prog X.w) X.A (isTrue e X.env whole) (TP X pins σ Q) X.xe s
def wA (X : Cx) (es : List Expr) : TA := fun σ H Q => ∀ (pos : Pos) (pins : List (Addr × Obj)) (s : Shared), Inv X pins σ H s → wpAny (model X.prog X.w) X.A (spliced (backTo pos (starEach es X.env))) (AP X pins σ Q) X.xe s
def wS (X : Cx) (st : Stmt) : TS := fun Dn σ H => ∀ (pins : List (Addr × Obj)) (s : Shared), Inv X pins σ H s → wpAny (model X.prog X.w) X.A (exec st X.env) (SP X pins Dn) X.xe s
def wB (X : Cx) (sts : List Stmt) : TS := fun Dn σ H => ∀ (pins : List (Addr × Obj)) (s : Shared), Inv X pins σ H s → wpAny (model X.prog X.w) X.A (execs sts X.env) (SP X pins Dn) X.xe s
def wG (X : Cx) (tg : Expr) : TG := fun v σ H Q => ∀ (pins : List (Addr × Obj)) (s : Shared) (u : Value), Inv X pins σ H s → RelV v u →
  wpAny (model X.prog X.w) X.A (assign tg X.env u) (fun _ s' => ∃ σ' H', Inv X pins σ' H' s' ∧ Q σ' H') X.xe s
section
variable {X : Cx} {e : Expr} {es : List Expr} {st : Stmt} {sts : List Stmt} {σ : L2.St} {H : Hp}
theorem peW : PE X e (wE X e) := ⟨fun pins s _ _ _ I h => h pins s I⟩
theorem ptW : PT X e (wT X e) := ⟨fun pins s _ _ _ I h => h pins s I⟩
theorem pwW : PW X e (wW X e) := ⟨fun w pins s _ _ _ I h => h w pins s I⟩
theorem paW : PA X es (wA X es) := ⟨fun pos pins s _ _ _ I h => h pos pins s I⟩
theorem psW : PS X st (wS X st) := ⟨fun pins s _ _ _ I h => h pins s I⟩
theorem pbW : PSs X sts (wB X sts) := ⟨fun pins s _ _ _ I h => h pins s I⟩
theorem pgW : PG X e (wG X e) := ⟨fun pins s _ _ _ u _ I r h => h pins s u I r⟩
theorem wE_of {t : TE} {Q : VK} (h : PE X e t) (q : t σ H Q) : wE X e σ H Q := fun pins s I => h.run pins s σ H Q I q
theorem wT_of {t : TT} {Q : Bool → Hp → Prop} (h : PT X e t) (q : t σ H Q) : wT X e σ H Q := fun pins s I => h.run pins s σ H Q I q
theorem wW_of {t : TT} {Q : Bool → Hp → Prop} (h : PW X e t) (q : t σ H Q) : wW X e σ H Q := fun w pins s I => h.run w pins s σ H Q I q
theorem wA_of {t : TA} {Q : List V → Hp → Prop} (h : PA X es t) (q : t σ H Q) : wA X es σ H Q := fun pos pins s I => h.run pos pins s σ H Q I q
theorem wS_of {t : TS} {Dn : L2.Ends} (h : PS X st t) (q : t Dn σ H) : wS X st Dn σ H := fun pins s I => h.run pins s σ H Dn I q
theorem wB_of {t : TS} {Dn : L2.Ends} (h : PSs X sts t) (q : t Dn σ H) : wB X sts Dn σ H := fun pins s I => h.run pins s σ H Dn I q
theorem wG_of {t : TG} {v : V} {Q : L2.St → Hp → Prop} (h : PG X e t) (q : t v σ H Q) : wG X e v σ H Q := fun pins s u I r => h.run pins s σ H v u Q I r q
end

/-! ### the judgements -/
structure Af (K : PySem.W.Frag) (γ γ' : List Sl) (σ' : L2.St) (F H F' H' : Hp) : Prop where
  f : Same F F'
  e : En K γ' σ' F' H'
  k : Kp γ γ' H H'
  n : ∀ p o, F' p = some o → F p = some o ∨ H p = none ∨ Owned γ p
theorem Af.refl {K : PySem.W.Frag} {γ : List Sl} {σ : L2.St} {F H : Hp} (E : En K γ σ F H) : Af K γ γ σ F H F H := ⟨Same.refl _, E, Kp.refl _ _, fun _ _ h => .inl h⟩
theorem Af.trans {K : PySem.W.Frag} {γ γ1 γ2 : List Sl} {σ1 σ2 : L2.St} {F H F1 H1 F2 H2 : Hp} (a : Af K γ γ1 σ1 F H F1 H1) (b : Af K γ1 γ2 σ2 F1 H1 F2 H2) : Af K γ γ2 σ2 F H F2 H2 :=
  ⟨a.f.trans b.f, b.e, a.k.trans b.k, fun p o h => by
    rcases b.n p o h with h | h | h
    · exact a.n p o h
    · exact .inr (.inl (a.k.free h))
    · rcases a.k.own p h with h | h
      · exact .inr (.inr h)
      · exact .inr (.inl h)⟩
theorem Af.grow {K : PySem.W.Frag} {γ γ1 : List Sl} {σ1 : L2.St} {F H F1 H1 F2 H2 : Hp} (a : Af K γ γ1 σ1 F H F1 H1) (g : Grow F1 H1 F2 H2) : Af K γ γ1 σ1 F H F2 H2 :=
  a.trans ⟨g.ff, a.e.grow g, Kp.grow g, fun p o h => (g.nw p o h).elim .inl fun z => .inr (.inl z.1)⟩

/-- e gives the datum d -/
def DE (X : Cx) (e : Expr) (γ : List Sl) (d : D) (γ' : List Sl) : Prop := ∀ (σ : L2.St) (F H : Hp) (Q : VK), En X.K γ σ F H →
  (∀ v F' H', Af X.K γ γ' σ F H F' H' → Dp X.K F' v d → Q v H') → wE X e σ H Q
/-- a test -/
def DT (X : Cx) (e : Expr) (γ : List Sl) (b : Bool) (γ' : List Sl) : Prop := ∀ (σ : L2.St) (F H : Hp) (Q : Bool → Hp → Prop), En X.K γ σ F H →
  (∀ F' H', Af X.K γ γ' σ F H F' H' → Q b H') → wT X e σ H Q
def DW (X : Cx) (e : Expr) (γ : List Sl) (b : Bool) (γ' : List Sl) : Prop := ∀ (σ : L2.St) (F H : Hp) (Q : Bool → Hp → Prop), En X.K γ σ F H →
  (∀ F' H', Af X.K γ γ' σ F H F' H' → Q b H') → wW X e σ H Q
/-- e gives a new thing that nobody owns -/
def DF (X : Cx) (e : Expr) (γ : List Sl) (m : MO) (γ' : List Sl) : Prop := ∀ (σ : L2.St) (F H : Hp) (Q : VK), En X.K γ σ F H →
  (∀ p o F' H', Af X.K γ γ' σ F H F' H' → F' p = none → H' p = some o → RepM X.K F' m o → ¬ Owned γ' p → H p = none → Q (.ref p) H') → wE X e σ H Q
/-- values in a row -/
def DV (X : Cx) (es : List Expr) (γ : List Sl) (ds : List D) (γ' : List Sl) : Prop := ∀ (σ : L2.St) (F H : Hp) (Q : List V → Hp → Prop), En X.K γ σ F H →
  (∀ vs F' H', Af X.K γ γ' σ F H F' H' → DpAll X.K F' vs ds → Q vs H') → wA X es σ H Q
/-- arguments: data, or things that a slot owns -/
inductive Arg where
  | v (d : D)
  | o (i : Nat)
def ArgOk (K : PySem.W.Frag) (F : Hp) (γ : List Sl) (x : V) : Arg → Prop
  | .v d => Dp K F x d
  | .o i => ∃ (a : Addr) (m : MO), γ[i]? = some (.own a m) ∧ x = .ref a
def ArgsOk (K : PySem.W.Frag) (F : Hp) (γ : List Sl) : List V → List Arg → Prop
  | [], [] => True
  | x :: xs, a :: as => ArgOk K F γ x a ∧ ArgsOk K F γ xs as
  | _, _ => False
def DA (X : Cx) (es : List Expr) (γ : List Sl) (as : List Arg) (γ' : List Sl) : Prop := ∀ (σ : L2.St) (F H : Hp) (Q : List V → Hp → Prop), En X.K γ σ F H →
  (∀ vs F' H', Af X.K γ γ' σ F H F' H' → ArgsOk X.K F' γ' vs as → Q vs H') → wA X es σ H Q
/-- a sequence that is read: a datum, or the list that slot i owns -/
inductive Src where
  | fz
  | ow (i : Nat)
def SrcOk (K : PySem.W.Frag) (F : Hp) (γ : List Sl) (x : V) (k : Bool) (ds : List D) : Src → Prop
  | .fz => Dp K F x (if k then .list ds else .tuple ds)
  | .ow i => k = true ∧ ∃ a : Addr, γ[i]? = some (.own a (.lst ds)) ∧ x = .ref a
def DQ (X : Cx) (e : Expr) (γ : List Sl) (src : Src) (k : Bool) (ds : List D) (γ' : List Sl) : Prop := ∀ (σ : L2.St) (F H : Hp) (Q : VK), En X.K γ σ F H →
  (∀ v F' H', Af X.K γ γ' σ F H F' H' → SrcOk X.K F' γ' v k ds src → Q v H') → wE X e σ H Q
/-- the sequence at x in the heap -/
def Sq (K : PySem.W.Frag) (F H : Hp) (x : V) (k : Bool) (ds : List D) : Prop := ∃ (a : Addr) (vs : List V), x = .ref a ∧ (if k then SqL K H a vs else SqT K H a vs) ∧ DpAll K F vs ds
theorem SrcOk.sq {K : PySem.W.Frag} {F H : Hp} {γ : List Sl} {σ : L2.St} {x : V} {k : Bool} {ds : List D} {src : Src} (h : SrcOk K F γ x k ds src) (E : En K γ σ F H) : Sq K F H x k ds := by
  cases src with
  | fz =>
    cases k with
    | true =>
      cases (show Dp K F x (.list ds) from h) with
      | lst h1 h2 => exact ⟨_, _, rfl, E.sub.seq h1, h2⟩
    | false =>
      cases (show Dp K F x (.tuple ds) from h) with
      | tup h1 h2 => exact ⟨_, _, rfl, sqT_mono E.sub h1, h2⟩
  | ow i =>
    obtain ⟨rfl, a, h1, rfl⟩ := h
    obtain ⟨_, _, o, h3, xs, rfl, h5⟩ := E.own h1
    exact ⟨a, xs, rfl, .of h3, h5⟩
/-- it stands where γ2 still owns it -/
def Src.stays (γ1 γ2 : List Sl) : Src → Prop
  | .fz => True
  | .ow i => γ2[i]? = γ1[i]?
theorem SrcOk.later {K : PySem.W.Frag} {F F' : Hp} {γ γ' : List Sl} {x : V} {k : Bool} {ds : List D} {src : Src} (h : SrcOk K F γ x k ds src) (f : Same F F') (s : src.stays γ γ') : SrcOk K F' γ' x k ds src := by
  cases src with
  | fz => exact dp_mono f h
  | ow i =>
    obtain ⟨h0, a, h1, h2⟩ := h
    exact ⟨h0, a, (show γ'[i]? = γ[i]? from s).trans h1, h2⟩

/-! ### statements -/
inductive Res where
  | v (d : D)
  | f (m : MO)
structure Post where
  nx : List Sl → Prop
  rt : Res → List Sl → Prop
  bk : List Sl → Prop := fun _ => False
  ct : List Sl → Prop := fun _ => False
def ResOk (K : PySem.W.Frag) (F H : Hp) (γ : List Sl) (v : V) : Res → Prop
  | .v d => Dp K F v d
  | .f m => ∃ (p : Addr) (o : HO), v = .ref p ∧ F p = none ∧ H p = some o ∧ RepM K F m o ∧ ¬ Owned γ p
structure Fin (K : PySem.W.Frag) (P : Post) (γ : List Sl) (F H : Hp) (Dn : L2.Ends) : Prop where
  nx : ∀ γ' σ' F' H', Af K γ γ' σ' F H F' H' → P.nx γ' → Dn.nx σ' H'
  rt : ∀ r v γ' σ' F' H', Af K γ γ' σ' F H F' H' → ResOk K F' H' γ' v r → (∀ p, v = .ref p → (∃ m, r = .f m) → Owned γ p ∨ H p = none) → P.rt r γ' → Dn.rt v H'
  bk : ∀ γ' σ' F' H', Af K γ γ' σ' F H F' H' → P.bk γ' → Dn.bk σ' H'
  ct : ∀ γ' σ' F' H', Af K γ γ' σ' F H F' H' → P.ct γ' → Dn.ct σ' H'
theorem Fin.step {K : PySem.W.Frag} {P : Post} {γ γ1 : List Sl} {σ1 : L2.St} {F H F1 H1 : Hp} {Dn : L2.Ends} (h : Fin K P γ F H Dn) (a : Af K γ γ1 σ1 F H F1 H1) : Fin K P γ1 F1 H1 Dn :=
  ⟨fun γ' σ' F' H' b => h.nx γ' σ' F' H' (a.trans b),
   fun r v γ' σ' F' H' b q n => h.rt r v γ' σ' F' H' (a.trans b) q (fun p e z => (n p e z).elim (fun o => a.k.own p o) fun o => .inr (a.k.free o)),
   fun γ' σ' F' H' b => h.bk γ' σ' F' H' (a.trans b), fun γ' σ' F' H' b => h.ct γ' σ' F' H' (a.trans b)⟩
def DS (X : Cx) (st : Stmt) (γ : List Sl) (P : Post) : Prop := ∀ (σ : L2.St) (F H : Hp) (Dn : L2.Ends), En X.K γ σ F H → Fin X.K P γ F H Dn → wS X st Dn σ H
def DB (X : Cx) (sts : List Stmt) (γ : List Sl) (P : Post) : Prop := ∀ (σ : L2.St) (F H : Hp) (Dn : L2.Ends), En X.K γ σ F H → Fin X.K P γ F H Dn → wB X sts Dn σ H
/-- a target takes d; vs: the places that may change -/
def DG (X : Cx) (tg : Expr) (d : D) (γ γ' : List Sl) (vs : List Nat) : Prop := ∀ (v : V) (σ : L2.St) (F H : Hp) (Q : L2.St → Hp → Prop), En X.K γ σ F H → Dp X.K F v d →
  (∀ σ', En X.K γ' σ' F H → σ'.length = σ.length → (∀ j, j ∉ vs → σ'[j]? = σ[j]?) → Kp γ γ' H H → Q σ' H) → wG X tg v σ H Q

/-! ### names, constants -/
section
variable {X : Cx} {γ γ1 γ2 γ3 : List Sl} {pos : Pos}
theorem DE.var {i : Nat} {x : Str} {d : D} (hN : X.N[i]? = some x) (hv : Vis X.env.scope x) (hs : γ[i]? = some (.val d)) (hd : (x == ("__debug__" : Str)) = false := by decide) (hcd : (x == ("__classdict__" : Str)) = false := by decide) :
    DE X (.Name x pos) γ d γ := fun σ F H Q E h => by
  obtain ⟨v, e1, e2⟩ := E.val hs
  exact wE_of (pe_var hN hv hd hcd) ⟨v, e1, h v F H (.refl E) e2⟩
theorem DQ.own {i : Nat} {x : Str} {a : Addr} {ds : List D} (hN : X.N[i]? = some x) (hv : Vis X.env.scope x) (hs : γ[i]? = some (.own a (.lst ds))) (hd : (x == ("__debug__" : Str)) = false := by decide) (hcd : (x == ("__classdict__" : Str)) = false := by decide) :
    DQ X (.Name x pos) γ (.ow i) true ds γ := fun σ F H Q E h => by
  obtain ⟨e1, e2, o, e3, e4⟩ := E.own hs
  exact wE_of (pe_var hN hv hd hcd) ⟨.ref a, e1, h _ F H (.refl E) ⟨rfl, a, hs, rfl⟩⟩
theorem Owned.of_set {i : Nat} {s : Sl} {a : Addr} (n : ∀ m, s ≠ .own a m) (h : Owned (γ.set i s) a) : Owned γ a := by
  rcases h.set with h | ⟨m, z⟩
  · exact h
  · exact absurd z (n m)
/-- the list that a slot owns, taken as a value: from now on it is never changed -/
theorem DE.frz {i : Nat} {x : Str} {a : Addr} {ds : List D} (hN : X.N[i]? = some x) (hv : Vis X.env.scope x) (hs : γ[i]? = some (.own a (.lst ds))) (hd : (x == ("__debug__" : Str)) = false := by decide) (hcd : (x == ("__classdict__" : Str)) = false := by decide) :
    DE X (.Name x pos) γ (.list ds) (γ.set i (.val (.list ds))) := fun σ F H Q E h => by
  obtain ⟨e1, e2, o, e3, xs, rfl, e4⟩ := E.own hs
  refine wE_of (pe_var hN hv hd hcd) ⟨.ref a, e1, h _ (L2.upd F a (.lst xs)) H ⟨same_upd e2, E.freeze hs e3 e4, ⟨fun p o q _ => q, fun p q => .inl (Owned.of_set (fun m z => by cases z) q), fun p o q => ⟨o, q⟩⟩, fun p o q => ?_⟩ (.lst (.of upd_same) (dpa_mono (same_upd e2) e4))⟩
  by_cases z : p = a
  · subst z; exact .inr (.inr ⟨i, _, hs⟩)
  · rw [upd_ne z] at q; exact .inl q
theorem DE.int {i : Int} {j : Nat} : DE X (.Constant (.int i) j pos) γ (.int i) γ := fun σ F H Q E h => wE_of pe_int (h _ F H (.refl E) (.int i))
theorem DE.bl {b : Bool} {j : Nat} : DE X (.Constant (.bool b) j pos) γ (.bool b) γ := fun σ F H Q E h => wE_of pe_bl (h _ F H (.refl E) (.bl b))
theorem DE.non {j : Nat} : DE X (.Constant .none j pos) γ .none γ := fun σ F H Q E h => wE_of pe_non (h _ F H (.refl E) .non)
theorem DE.str {x : Str} {j : Nat} : DE X (.Constant (.str x) j pos) γ (.str x) γ := fun σ F H Q E h => wE_of pe_str (h _ F H (.refl E) (.str x))
theorem DQ.list {e : Expr} {ds : List D} (h : DE X e γ (.list ds) γ1) : DQ X e γ .fz true ds γ1 := fun σ F H Q E q => h σ F H Q E fun v F' H' a r => q v F' H' a r
theorem DQ.tup {e : Expr} {ds : List D} (h : DE X e γ (.tuple ds) γ1) : DQ X e γ .fz false ds γ1 := fun σ F H Q E q => h σ F H Q E fun v F' H' a r => q v F' H' a r
theorem DE.eq {e : Expr} {d d' : D} (h : DE X e γ d γ1) (z : d = d') : DE X e γ d' γ1 := z ▸ h
theorem DQ.eq {e : Expr} {src : Src} {k : Bool} {ds ds' : List D} (h : DQ X e γ src k ds γ1) (z : ds = ds') : DQ X e γ src k ds' γ1 := z ▸ h
theorem DT.eq {e : Expr} {b b' : Bool} (h : DT X e γ b γ1) (z : b = b') : DT X e γ b' γ1 := z ▸ h
theorem DF.eq {e : Expr} {m m' : MO} (h : DF X e γ m γ1) (z : m = m') : DF X e γ m' γ1 := z ▸ h
/-- a new list that is a value at once -/
theorem DE.new {e : Expr} {ds : List D} (h : DF X e γ (.lst ds) γ1) : DE X e γ (.list ds) γ1 := fun σ F H Q E q => h σ F H Q E fun p o F' H' a f1 h1 r n hp => by
  obtain ⟨xs, rfl, r⟩ := r
  have sm : Same F' (L2.upd F' p (.lst xs)) := same_upd f1
  refine q (.ref p) (L2.upd F' p (.lst xs)) H' ⟨a.f.trans sm, ⟨fun c u z => ?_, a.e.len, fun i s z => ?_, a.e.inj⟩, a.k, fun c u z => ?_⟩ (.lst (.of upd_same) (dpa_mono sm r))
  · by_cases e : c = p
    · subst e; rw [upd_same] at z; cases z; exact h1
    · rw [upd_ne e] at z; exact a.e.sub _ _ z
  · have y := a.e.at_ i s z
    cases s with
    | em => trivial
    | val d => obtain ⟨v, y1, y2⟩ := y; exact ⟨v, y1, dp_mono sm y2⟩
    | own b m =>
      obtain ⟨y1, y2, o, y3, y4⟩ := y
      exact ⟨y1, by rw [upd_ne (show b ≠ p by intro z'; subst z'; exact n ⟨i, m, z⟩)]; exact y2, o, y3, repM_mono sm y4⟩
  · by_cases e : c = p
    · subst e; exact .inr (.inl hp)
    · rw [upd_ne e] at z; exact a.n c u z

/-! ### operators -/
/-- an operation on values does its part on data -/
def R2D (K : PySem.W.Frag) (r : R2) (da db d : D) : Prop := ∀ (x y : V) (F H : Hp) (Q : VK), Same F H → Dp K F x da → Dp K F y db → (∀ v F' H', Grow F H F' H' → Dp K F' v d → Q v H') → r x y H Q
def R1D (K : PySem.W.Frag) (r : V → Hp → VK → Prop) (da d : D) : Prop := ∀ (x : V) (F H : Hp) (Q : VK), Same F H → Dp K F x da → (∀ v F' H', Grow F H F' H' → Dp K F' v d → Q v H') → r x H Q
variable {a b c : Expr} {da db dc d : D}
theorem DE.bin {op : Operator} {r : R2} (ho : OpR X (binaryOp op) r) (ha : DE X a γ da γ1) (hb : DE X b γ1 db γ2) (hr : R2D X.K r da db d) : DE X (.BinOp a op b pos) γ d γ2 := fun σ F H Q E h => by
  refine wE_of (pe_op ho peW peW) (ha σ F H _ E fun x F1 H1 a1 r1 => hb σ F1 H1 _ a1.e fun y F2 H2 a2 r2 => ?_)
  exact hr x y F2 H2 Q a2.e.sub (dp_mono a2.f r1) r2 fun v F' H' g r3 => h v F' H' ((a1.trans a2).grow g) r3
theorem DE.un {op : UnaryOp} {r : V → Hp → VK → Prop} (ho : UnR X (unaryOp op) r) (ha : DE X a γ da γ1) (hr : R1D X.K r da d) : DE X (.UnaryOp op a pos) γ d γ1 := fun σ F H Q E h => by
  refine wE_of (pe_un ho peW) (ha σ F H _ E fun x F1 H1 a1 r1 => ?_)
  exact hr x F1 H1 Q a1.e.sub r1 fun v F' H' g r3 => h v F' H' (a1.grow g) r3
theorem DE.cmp {op : CmpOp} {r : R2} (ho : OpR X (compareOp op) r) (ha : DE X a γ da γ1) (hb : DE X b γ1 db γ2) (hr : R2D X.K r da db d) (hm : behindInMarks op b = false) : DE X (.Compare a [op] [b] pos) γ d γ2 := fun σ F H Q E h => by
  refine wE_of (pe_cmpR ho peW peW hm) (ha σ F H _ E fun x F1 H1 a1 r1 => hb σ F1 H1 _ a1.e fun y F2 H2 a2 r2 => ?_)
  exact hr x y F2 H2 Q a2.e.sub (dp_mono a2.f r1) r2 fun v F' H' g r3 => h v F' H' ((a1.trans a2).grow g) r3
theorem DT.cmp {op : CmpOp} {r : R2} {k : Bool} (ho : OpR X (compareOp op) r) (ha : DE X a γ da γ1) (hb : DE X b γ1 db γ2) (hr : R2D X.K r da db (.bool k)) (hm : behindInMarks op b = false) : DT X (.Compare a [op] [b] pos) γ k γ2 := fun σ F H Q E h => by
  refine wT_of (pt_cmpR ho peW peW hm) (ha σ F H _ E fun x F1 H1 a1 r1 => hb σ F1 H1 _ a1.e fun y F2 H2 a2 r2 => ?_)
  exact hr x y F2 H2 _ a2.e.sub (dp_mono a2.f r1) r2 fun v F' H' g r3 => ⟨k, dp_bl r3, h F' H' ((a1.trans a2).grow g)⟩
theorem chain_run {op op' : CmpOp} {r r' : R2} {k k' : Bool} (ha : DE X a γ da γ1) (hb : DE X b γ1 db γ2) (hc : k = true → DE X c γ2 dc γ2) (hr : R2D X.K r da db (.bool k)) (hr' : k = true → R2D X.K r' db dc (.bool k'))
    {σ : L2.St} {F H : Hp} {Q : VK} (E : En X.K γ σ F H) (h : ∀ v F' H', Af X.K γ γ2 σ F H F' H' → Dp X.K F' v (.bool (k && k')) → Q v H') : tChain r r' (wE X a) (wE X b) (wE X c) σ H Q := by
  refine ha σ F H _ E fun x F1 H1 a1 r1 => hb σ F1 H1 _ a1.e fun y F2 H2 a2 r2 => ?_
  refine hr x y F2 H2 _ a2.e.sub (dp_mono a2.f r1) r2 fun v F3 H3 g3 r3 => ⟨k, dp_bl r3, ?_⟩
  have a3 := (a1.trans a2).grow g3
  cases k with
  | true =>
    rw [if_pos rfl]
    refine hc rfl σ F3 H3 _ a3.e fun z F4 H4 a4 r4 => ?_
    exact hr' rfl y z F4 H4 Q a4.e.sub (dp_mono (g3.ff.trans a4.f) r2) r4 fun v F5 H5 g5 r5 => h v F5 H5 ((a3.trans a4).grow g5) r5
  | false =>
    rw [if_neg Bool.false_ne_true]
    exact h _ F3 H3 a3 (.bl false)
theorem DE.chain {op op' : CmpOp} {r r' : R2} {k k' : Bool} (ho : OpR X (compareOp op) r) (ho' : OpR X (compareOp op') r') (ha : DE X a γ da γ1) (hb : DE X b γ1 db γ2) (hc : k = true → DE X c γ2 dc γ2) (hr : R2D X.K r da db (.bool k)) (hr' : k = true → R2D X.K r' db dc (.bool k'))
    (hm : lastMarks [op, op'] [b, c] = false := by with_unfolding_all rfl) : DE X (.Compare a [op, op'] [b, c] pos) γ (.bool (k && k')) γ2 := fun σ F H Q E h => wE_of (pe_chain ho ho' peW peW peW hm) (chain_run (op := op) (op' := op') ha hb hc hr hr' E h)
theorem DT.chain {op op' : CmpOp} {r r' : R2} {k k' : Bool} (ho : OpR X (compareOp op) r) (ho' : OpR X (compareOp op') r') (ha : DE X a γ da γ1) (hb : DE X b γ1 db γ2) (hc : k = true → DE X c γ2 dc γ2) (hr : R2D X.K r da db (.bool k)) (hr' : k = true → R2D X.K r' db dc (.bool k'))
    (hm : lastMarks [op, op'] [b, c] = false := by with_unfolding_all rfl) : DT X (.Compare a [op, op'] [b, c] pos) γ (k && k') γ2 := fun σ F H Q E h =>
  wT_of (pt_chain ho ho' peW peW peW hm) (chain_run (op := op) (op' := op') ha hb hc hr hr' E fun v F' H' af r => ⟨_, dp_bl r, h F' H' af⟩)

section
variable {K : PySem.W.Frag} {i j : Int} {f : Int → Int → Int} {g : Int → Int → Bool}
theorem r_int0 : R2D K (rI0 fun i j => .int (f i j)) (.int i) (.int j) (.int (f i j)) := fun x y F H Q _ r1 r2 h => ⟨i, j, dp_int r1, dp_int r2, h _ F H (.refl _ _) (.int _)⟩
theorem r_bl0 : R2D K (rI0 fun i j => .bl (g i j)) (.int i) (.int j) (.bool (g i j)) := fun x y F H Q _ r1 r2 h => ⟨i, j, dp_int r1, dp_int r2, h _ F H (.refl _ _) (.bl _)⟩
theorem r_int {C : Int → Int → Prop} (hc : C i j) : R2D K (rI C fun i j => .int (f i j)) (.int i) (.int j) (.int (f i j)) := fun x y F H Q _ r1 r2 h => ⟨i, j, dp_int r1, dp_int r2, hc, h _ F H (.refl _ _) (.int _)⟩
theorem r_neg : R1D K (rU fun i => .int (-i)) (.int i) (.int (-i)) := fun x F H Q _ r1 h => ⟨i, dp_int r1, h _ F H (.refl _ _) (.int _)⟩
theorem r_eqI : R2D K rEq (.int i) (.int j) (.bool (decide (i = j))) := fun x y F H Q _ r1 r2 h => by
  cases r1; cases r2
  exact ⟨rfl, h _ F H (.refl _ _) (by rw [show decide (V.int i = V.int j) = decide (i = j) by simp]; exact .bl _)⟩
theorem r_neI : R2D K rNe (.int i) (.int j) (.bool (!decide (i = j))) := fun x y F H Q _ r1 r2 h => by
  cases r1; cases r2
  exact ⟨rfl, h _ F H (.refl _ _) (by rw [show decide (V.int i = V.int j) = decide (i = j) by simp]; exact .bl _)⟩
theorem r_eqB {p q : Bool} : R2D K rEq (.bool p) (.bool q) (.bool (decide (p = q))) := fun x y F H Q _ r1 r2 h => by
  cases r1; cases r2
  exact ⟨rfl, h _ F H (.refl _ _) (by rw [show decide (V.bl p = V.bl q) = decide (p = q) by simp]; exact .bl _)⟩
theorem r_neB {p q : Bool} : R2D K rNe (.bool p) (.bool q) (.bool (!decide (p = q))) := fun x y F H Q _ r1 r2 h => by
  cases r1; cases r2
  exact ⟨rfl, h _ F H (.refl _ _) (by rw [show decide (V.bl p = V.bl q) = decide (p = q) by simp]; exact .bl _)⟩
theorem r_eqS {p q : Str} : R2D K rEq (.str p) (.str q) (.bool (decide (p = q))) := fun x y F H Q _ r1 r2 h => by
  cases r1; cases r2
  exact ⟨rfl, h _ F H (.refl _ _) (by rw [show decide (V.str p = V.str q) = decide (p = q) by simp]; exact .bl _)⟩
theorem r_neS {p q : Str} : R2D K rNe (.str p) (.str q) (.bool (!decide (p = q))) := fun x y F H Q _ r1 r2 h => by
  cases r1; cases r2
  exact ⟨rfl, h _ F H (.refl _ _) (by rw [show decide (V.str p = V.str q) = decide (p = q) by simp]; exact .bl _)⟩
theorem r_eqD {d e : D} (h1 : SeqAt.shaped d = true) (h2 : SeqAt.shaped e = true) : R2D K (rEqD K) d e (.bool (PyData.eqv d e)) := fun x y F H Q s r1 r2 h => ⟨d, e, dp_mono s r1, dp_mono s r2, h1, h2, h _ F H (.refl _ _) (.bl _)⟩
theorem r_neD {d e : D} (h1 : SeqAt.shaped d = true) (h2 : SeqAt.shaped e = true) : R2D K (rNeD K) d e (.bool (!PyData.eqv d e)) := fun x y F H Q s r1 r2 h => ⟨d, e, dp_mono s r1, dp_mono s r2, h1, h2, h _ F H (.refl _ _) (.bl _)⟩
def isNon : D → Bool
  | .none => true
  | _ => false
theorem dp_isNon {F : Hp} {v : V} {d : D} (h : Dp K F v d) : decide (v = .non) = isNon d := by cases h <;> simp [isNon]
theorem r_isN {d : D} {k : Bool} (hk : isNon d = k) : R2D K (fun x y H Q => y = .non ∧ Q (.bl (decide (x = .non))) H) d .none (.bool k) := fun x y F H Q _ r1 r2 h => ⟨dp_non r2, h _ F H (.refl _ _) (by rw [dp_isNon r1, hk]; exact .bl _)⟩
theorem r_notN {d : D} {k : Bool} (hk : isNon d = k) : R2D K (fun x y H Q => y = .non ∧ Q (.bl (!decide (x = .non))) H) d .none (.bool (!k)) := fun x y F H Q _ r1 r2 h => ⟨dp_non r2, h _ F H (.refl _ _) (by rw [dp_isNon r1, hk]; exact .bl _)⟩
end

/-! ### tests -/
theorem DT.val {e : Expr} {k : Bool} (h : DE X e γ (.bool k) γ1) (he : ∀ whole, isTrue e X.env whole = (do let v ← whole; standAt e.pos; holding [v] (truthy v)) := by intro _; rfl) : DT X e γ k γ1 := fun σ F H Q E q =>
  wT_of (pt_val peW he) (h σ F H _ E fun v F' H' a r => ⟨k, dp_bl r, q F' H' a⟩)
theorem DT.of_w {e : Expr} {k : Bool} (h : DW X e γ k γ1) : DT X e γ k γ1 := fun σ F H Q E q => wT_of (PW.pt pwW) (h σ F H Q E q)
variable {rest : List Expr} {k k' : Bool}
theorem DW.and1 (h : DT X a γ k γ1) : DW X (.BoolOp .And [a] pos) γ k γ1 := fun σ F H Q E q => wW_of (pw_and1 ptW) (h σ F H Q E q)
theorem DW.or1 (h : DT X a γ k γ1) : DW X (.BoolOp .Or [a] pos) γ k γ1 := fun σ F H Q E q => wW_of (pw_or1 ptW) (h σ F H Q E q)
theorem DW.and (ha : DT X a γ k γ1) (hb : k = true → DW X (.BoolOp .And (b :: rest) pos) γ1 k' γ2) (hf : k = false → γ2 = γ1 := by intro _; rfl) : DW X (.BoolOp .And (a :: b :: rest) pos) γ (k && k') γ2 := fun σ F H Q E q => by
  refine wW_of (pw_and ptW pwW) (ha σ F H _ E fun F1 H1 a1 => ?_)
  cases k with
  | true => rw [if_pos rfl]; exact hb rfl σ F1 H1 Q a1.e fun F2 H2 a2 => q F2 H2 (a1.trans a2)
  | false => rw [if_neg Bool.false_ne_true]; exact q F1 H1 (hf rfl ▸ a1)
theorem DW.or (ha : DT X a γ k γ1) (hb : k = false → DW X (.BoolOp .Or (b :: rest) pos) γ1 k' γ2) (hf : k = true → γ2 = γ1 := by intro _; rfl) : DW X (.BoolOp .Or (a :: b :: rest) pos) γ (k || k') γ2 := fun σ F H Q E q => by
  refine wW_of (pw_or ptW pwW) (ha σ F H _ E fun F1 H1 a1 => ?_)
  cases k with
  | false => rw [if_neg Bool.false_ne_true]; exact hb rfl σ F1 H1 Q a1.e fun F2 H2 a2 => q F2 H2 (a1.trans a2)
  | true => rw [if_pos rfl]; exact q F1 H1 (hf rfl ▸ a1)
theorem DT.not (h : DT X a γ k γ1) : DT X (.UnaryOp .Not a pos) γ (!k) γ1 := fun σ F H Q E q => wT_of (pt_not ptW) (h σ F H _ E fun F1 H1 a1 => q F1 H1 a1)
theorem DE.not (h : DE X a γ (.bool k) γ1) : DE X (.UnaryOp .Not a pos) γ (.bool (!k)) γ1 := fun σ F H Q E q => wE_of (pe_not peW) (h σ F H _ E fun v F1 H1 a1 r => ⟨k, dp_bl r, q _ F1 H1 a1 (.bl _)⟩)
theorem DE.one {op : BoolOp} (h : DE X a γ d γ1) : DE X (.BoolOp op [a] pos) γ d γ1 := fun σ F H Q E q => wE_of (pe_one peW) (h σ F H Q E q)
theorem DE.and (ha : DE X a γ (.bool k) γ1) (hb : k = true → DE X (.BoolOp .And (b :: rest) pos) γ1 (.bool k') γ2) (hf : k = false → γ2 = γ1 := by intro _; rfl) : DE X (.BoolOp .And (a :: b :: rest) pos) γ (.bool (k && k')) γ2 := fun σ F H Q E q => by
  refine wE_of (pe_and peW peW) (ha σ F H _ E fun v F1 H1 a1 r => ⟨k, dp_bl r, ?_⟩)
  cases k with
  | true => rw [if_pos rfl]; exact hb rfl σ F1 H1 Q a1.e fun v F2 H2 a2 => q v F2 H2 (a1.trans a2)
  | false => rw [if_neg Bool.false_ne_true]; exact q _ F1 H1 (hf rfl ▸ a1) (.bl _)
theorem DE.or (ha : DE X a γ (.bool k) γ1) (hb : k = false → DE X (.BoolOp .Or (b :: rest) pos) γ1 (.bool k') γ2) (hf : k = true → γ2 = γ1 := by intro _; rfl) : DE X (.BoolOp .Or (a :: b :: rest) pos) γ (.bool (k || k')) γ2 := fun σ F H Q E q => by
  refine wE_of (pe_or peW peW) (ha σ F H _ E fun v F1 H1 a1 r => ⟨k, dp_bl r, ?_⟩)
  cases k with
  | false => rw [if_neg Bool.false_ne_true]; exact hb rfl σ F1 H1 Q a1.e fun v F2 H2 a2 => q v F2 H2 (a1.trans a2)
  | true => rw [if_pos rfl]; exact q _ F1 H1 (hf rfl ▸ a1) (.bl _)
theorem DE.ite (hc : DT X c γ k γ1) (h1 : k = true → DE X a γ1 d γ2) (h2 : k = false → DE X b γ1 d γ2) : DE X (.IfExp c a b pos) γ d γ2 := fun σ F H Q E q => by
  refine wE_of (pe_ifExp ptW peW peW) (hc σ F H _ E fun F1 H1 a1 => ?_)
  cases k with
  | true => rw [if_pos rfl]; exact h1 rfl σ F1 H1 Q a1.e fun v F2 H2 a2 => q v F2 H2 (a1.trans a2)
  | false => rw [if_neg Bool.false_ne_true]; exact h2 rfl σ F1 H1 Q a1.e fun v F2 H2 a2 => q v F2 H2 (a1.trans a2)

/-! ### rows of values -/
variable {e : Expr} {es : List Expr} {ds : List D} {as : List Arg}
theorem DV.nil : DV X [] γ [] γ := fun σ F H Q E q => wA_of pa_nil (q [] F H (.refl E) .nil)
theorem DV.cons (h : DE X e γ d γ1) (t : DV X es γ1 ds γ2) (hs : starEach (e :: es) X.env = (false, eval e X.env) :: starEach es X.env := by rfl) : DV X (e :: es) γ (d :: ds) γ2 := fun σ F H Q E q => by
  refine wA_of (pa_cons peW paW hs) (h σ F H _ E fun v F1 H1 a1 r1 => t σ F1 H1 _ a1.e fun vs F2 H2 a2 r2 => ?_)
  exact q _ F2 H2 (a1.trans a2) (.cons (dp_mono a2.f r1) r2)
theorem DA.nil : DA X [] γ [] γ := fun σ F H Q E q => wA_of pa_nil (q [] F H (.refl E) trivial)
theorem DA.cons (h : DE X e γ d γ1) (t : DA X es γ1 as γ2) (hs : starEach (e :: es) X.env = (false, eval e X.env) :: starEach es X.env := by rfl) : DA X (e :: es) γ (.v d :: as) γ2 := fun σ F H Q E q => by
  refine wA_of (pa_cons peW paW hs) (h σ F H _ E fun v F1 H1 a1 r1 => t σ F1 H1 _ a1.e fun vs F2 H2 a2 r2 => ?_)
  exact q _ F2 H2 (a1.trans a2) ⟨dp_mono a2.f r1, r2⟩
theorem DA.own {i : Nat} {x : Str} {p : Addr} {m m' : MO} {pos : Pos} (hN : X.N[i]? = some x) (hv : Vis X.env.scope x) (h1 : γ[i]? = some (.own p m)) (t : DA X es γ as γ2) (h2 : γ2[i]? = some (.own p m'))
    (hs : starEach (.Name x pos :: es) X.env = (false, eval (.Name x pos) X.env) :: starEach es X.env := by rfl) (hd : (x == ("__debug__" : Str)) = false := by decide) (hcd : (x == ("__classdict__" : Str)) = false := by decide) :
    DA X (.Name x pos :: es) γ (.o i :: as) γ2 := fun σ F H Q E q => by
  obtain ⟨e1, _⟩ := E.own h1
  refine wA_of (pa_cons (pe_var hN hv hd hcd) paW hs) ⟨.ref p, e1, t σ F H _ E fun vs F2 H2 a2 r2 => q _ F2 H2 a2 ⟨⟨p, m', h2, rfl⟩, r2⟩⟩

/-! ### displays -/
theorem RepM.lst {K : PySem.W.Frag} {F : Hp} {xs : List V} {ds : List D} (h : DpAll K F xs ds) : RepM K F (.lst ds) (.lst xs) := ⟨xs, rfl, h⟩
theorem DE.tup {x1 : Nat} (h : DV X es γ ds γ1) (hz : ds.length ≤ 1000 := by exact Nat.le_of_ble_eq_true rfl) : DE X (.Tuple es x1 pos) γ (.tuple ds) γ1 := fun σ F H Q E q => by
  refine wE_of (pe_tup paW) (h σ F H _ E fun vs F1 H1 a1 r1 => ⟨?_, fun p hp => ?_⟩)
  · rw [dpa_len r1]; exact Nat.le_of_lt (small1000 hz)
  · have g : Grow F1 H1 (L2.upd F1 p (.tup vs)) (L2.upd H1 p (.tup vs)) := .new a1.e.sub hp
    exact q _ _ _ (a1.grow g) (.tup (.of upd_same) (dpa_mono g.ff r1))
theorem owned_not {K : PySem.W.Frag} {σ : L2.St} {F H : Hp} {p : Addr} (E : En K γ σ F H) (h : H p = none) : ¬ Owned γ p := fun ⟨i, m, z⟩ => by
  obtain ⟨_, _, o, e, _⟩ := E.own z
  rw [h] at e; cases e
theorem fresh_fin {F H F1 H1 : Hp} {σ : L2.St} {p : Addr} {o : HO} {m : MO} {Q : VK} (a1 : Af X.K γ γ1 σ F H F1 H1) (hp : H1 p = none) (r : RepM X.K F1 m o)
    (q : ∀ p o F' H', Af X.K γ γ1 σ F H F' H' → F' p = none → H' p = some o → RepM X.K F' m o → ¬ Owned γ1 p → H p = none → Q (.ref p) H') : Q (.ref p) (L2.upd H1 p o) :=
  q p o F1 _ (a1.grow (.newH hp)) (a1.e.sub.free hp) upd_same r (owned_not a1.e hp) (a1.k.free hp)
theorem DF.lst (h : DV X es γ ds γ1) (hz : ds.length ≤ 1000 := by exact Nat.le_of_ble_eq_true rfl) : DF X (.List es pos) γ (.lst ds) γ1 := fun σ F H Q E q => by
  refine wE_of (pe_lst paW) (h σ F H _ E fun vs F1 H1 a1 r1 => ⟨?_, fun p hp => ?_⟩)
  · rw [dpa_len r1]; exact Nat.le_of_lt (small1000 hz)
  · exact fresh_fin a1 hp (.lst r1) q

/-! ### items -/
theorem atI_len {α β : Type} {xs : List α} {ys : List β} (hl : xs.length = ys.length) {i : Int} {y : β} (h : atI ys i = some y) : ∃ j : Nat, ys[j]? = some y ∧ ∀ x : α, xs[j]? = some x → atI xs i = some x := by
  unfold atI at h
  cases q : ixN ys.length i with
  | none => rw [q] at h; cases h
  | some j => rw [q] at h; exact ⟨j, h, fun x hx => by unfold atI; rw [hl, q]; exact hx⟩
theorem DE.ix {src : Src} {kk : Bool} {i : Int} (ha : DQ X a γ src kk ds γ1) (hb : DE X b γ1 (.int i) γ2) (hd : atI ds i = some d) (hst : src.stays γ1 γ2 := by first | exact trivial | rfl) (hs : PlainIx b := by intro _ _; rfl) : DE X (.Subscript a b pos) γ d γ2 := fun σ F H Q E q => by
  refine wE_of (pe_ix (ix_list.or ix_tup) peW peW hs) (ha σ F H _ E fun x F1 H1 a1 r1 => hb σ F1 H1 _ a1.e fun y F2 H2 a2 r2 => ?_)
  obtain ⟨p, vs, rfl, hq, hv⟩ := (r1.later a2.f hst).sq a2.e
  obtain ⟨j, h1, h2⟩ := atI_len (dpa_len hv) hd
  obtain ⟨v, h3, h4⟩ := dpa_get hv h1
  have fin := q v F2 H2 (a1.trans a2) h4
  cases kk with
  | true => exact .inl ⟨p, vs, i, v, rfl, dp_int r2, hq, h2 v h3, fin⟩
  | false => exact .inr ⟨p, vs, i, v, rfl, dp_int r2, hq, h2 v h3, fin⟩

/-! ### calls of built-ins -/
def CD (K : PySem.W.Frag) (r : List V → Hp → VK → Prop) (ds : List D) (d : D) : Prop := ∀ (vs : List V) (F H : Hp) (Q : VK), Same F H → DpAll K F vs ds → (∀ v F' H', Grow F H F' H' → Dp K F' v d → Q v H') → r vs H Q
theorem DE.callB {id : String} {r : List V → Hp → VK → Prop} {x : Str} {p : Pos} (hc : CallR X (.builtin id) r) (hg : Gl X x) (hm : X.mg x = none) (hv : bootBuiltins x = some (.builtin id)) (ha : DV X (e :: es) γ ds γ1) (hr : CD X.K r ds d)
    (hn : x ≠ "__name__" := by decide) (hdb : (x == ("__debug__" : Str)) = false := by decide)
    (he : starEach (e :: es) X.env = (false, eval e X.env) :: starEach es X.env := by rfl) (hpl : (backTo pos (starEach es X.env)).any (·.1) = false := by rfl) : DE X (.Call (.Name x p) (e :: es) [] pos) γ d γ1 := fun σ F H Q E q =>
  wE_of (pe_callB hc hg hm hv paW hn hdb he hpl) (ha σ F H _ E fun vs F1 H1 a1 r1 => hr vs F1 H1 Q a1.e.sub r1 fun v F' H' g r2 => q v F' H' (a1.grow g) r2)
theorem DE.callTy {T : String} {r : List V → Hp → VK → Prop} {x : Str} {p : Pos} (hc : CallR X (.type T) r) (hg : Gl X x) (hm : X.mg x = none) (hv : bootBuiltins x = some (.type T)) (ha : DV X (e :: es) γ ds γ1) (hr : CD X.K r ds d)
    (hn : x ≠ "__name__" := by decide) (hdb : (x == ("__debug__" : Str)) = false := by decide)
    (he : starEach (e :: es) X.env = (false, eval e X.env) :: starEach es X.env := by rfl) (hpl : (backTo pos (starEach es X.env)).any (·.1) = false := by rfl) : DE X (.Call (.Name x p) (e :: es) [] pos) γ d γ1 := fun σ F H Q E q =>
  wE_of (pe_callTy hc hg hm hv paW hn hdb he hpl) (ha σ F H _ E fun vs F1 H1 a1 r1 => hr vs F1 H1 Q a1.e.sub r1 fun v F' H' g r2 => q v F' H' (a1.grow g) r2)
end
end PD

set_option Elab.async false
set_option linter.all false
/-! PD2: defs by contracts over plain data; statements. -/
namespace PD
open PySem L2 PySem.Spec PyProof.Rows

/-! ### arguments that slots own -/
def oix : List Arg → List Nat
  | [] => []
  | .v _ :: as => oix as
  | .o i :: as => i :: oix as
def argSls (γ : List Sl) : List Arg → List Sl
  | [] => []
  | .v d :: as => .val d :: argSls γ as
  | .o i :: as => (match γ[i]? with | some s => s | none => .em) :: argSls γ as
def putB : List Sl → List Arg → List Sl → List Sl
  | γ, .v _ :: as, _ :: ss => putB γ as ss
  | γ, .o i :: as, s :: ss => putB (γ.set i s) as ss
  | γ, _, _ => γ
section
variable {K : PySem.W.Frag} {γ γa : List Sl} {σ : L2.St} {F H F' H' : Hp}
theorem argSls_get : ∀ {as : List Arg} {j : Nat} {s : Sl}, (argSls γ as)[j]? = some s → (∃ d, as[j]? = some (.v d) ∧ s = .val d) ∨ (∃ i, as[j]? = some (.o i) ∧ s = (match γ[i]? with | some s => s | none => .em))
  | [], j, s, h => by simp [argSls] at h
  | .v d :: as, 0, s, h => by simp [argSls] at h; exact .inl ⟨d, rfl, h.symm⟩
  | .o i :: as, 0, s, h => by simp [argSls] at h; exact .inr ⟨i, rfl, h.symm⟩
  | .v d :: as, j + 1, s, h => by
    simp only [argSls, List.getElem?_cons_succ] at h ⊢; exact argSls_get h
  | .o i :: as, j + 1, s, h => by
    simp only [argSls, List.getElem?_cons_succ] at h ⊢; exact argSls_get h
theorem argSls_len : ∀ {as : List Arg}, (argSls γ as).length = as.length
  | [] => rfl
  | .v _ :: as => congrArg Nat.succ argSls_len
  | .o _ :: as => congrArg Nat.succ argSls_len
theorem argsOk_get : ∀ {vs : List V} {as : List Arg} {j : Nat} {a : Arg}, ArgsOk K F γ vs as → as[j]? = some a → ∃ x, vs[j]? = some x ∧ ArgOk K F γ x a
  | [], [], j, a, _, h => by simp at h
  | x :: vs, b :: as, 0, a, k, h => by simp at h; subst h; exact ⟨x, rfl, k.1⟩
  | x :: vs, b :: as, j + 1, a, k, h => by
    simp only [List.getElem?_cons_succ] at h ⊢; exact argsOk_get k.2 h
  | [], _ :: _, _, _, k, _ => k.elim
  | _ :: _, [], _, _, k, _ => k.elim
theorem argsOk_len : ∀ {vs : List V} {as : List Arg}, ArgsOk K F γ vs as → vs.length = as.length
  | [], [], _ => rfl
  | x :: vs, b :: as, k => congrArg Nat.succ (argsOk_len k.2)
  | [], _ :: _, k => k.elim
  | _ :: _, [], k => k.elim
theorem mem_oix : ∀ {as : List Arg} {j i : Nat}, as[j]? = some (.o i) → i ∈ oix as
  | [], j, i, h => by simp at h
  | .v d :: as, 0, i, h => by simp at h
  | .o k :: as, 0, i, h => by simp at h; subst h; exact List.mem_cons_self
  | .v d :: as, j + 1, i, h => by simp only [List.getElem?_cons_succ] at h; exact mem_oix (as := as) h
  | .o k :: as, j + 1, i, h => by simp only [List.getElem?_cons_succ] at h; exact List.mem_cons_of_mem _ (mem_oix h)
theorem oix_nd : ∀ {as : List Arg} {j k i : Nat}, (oix as).Nodup → as[j]? = some (.o i) → as[k]? = some (.o i) → j = k
  | [], j, k, i, _, h, _ => by simp at h
  | .v d :: as, 0, k, i, _, h, _ => by simp at h
  | .v d :: as, j + 1, 0, i, _, _, h => by simp at h
  | .v d :: as, j + 1, k + 1, i, n, h, h' => by
    simp only [List.getElem?_cons_succ] at h h'; exact congrArg Nat.succ (oix_nd (as := as) n h h')
  | .o q :: as, 0, 0, i, _, _, _ => rfl
  | .o q :: as, 0, k + 1, i, n, h, h' => by
    simp only [List.getElem?_cons_succ, List.getElem?_cons_zero, Option.some.injEq, Arg.o.injEq] at h h'; subst h; exact absurd (mem_oix h') (List.nodup_cons.mp n).1
  | .o q :: as, j + 1, 0, i, n, h', h => by
    simp only [List.getElem?_cons_succ, List.getElem?_cons_zero, Option.some.injEq, Arg.o.injEq] at h h'; subst h; exact absurd (mem_oix h') (List.nodup_cons.mp n).1
  | .o q :: as, j + 1, k + 1, i, n, h, h' => by
    simp only [List.getElem?_cons_succ] at h h'; exact congrArg Nat.succ (oix_nd (List.nodup_cons.mp n).2 h h')
theorem putB_get : ∀ {as : List Arg} {ss γ : List Sl} {k : Nat} {s : Sl}, as.length = ss.length → (putB γ as ss)[k]? = some s → (γ[k]? = some s ∧ k ∉ oix as) ∨ ∃ j : Nat, as[j]? = some (.o k) ∧ ss[j]? = some s
  | [], [], γ, k, s, _, h => .inl ⟨h, by simp [oix]⟩
  | .v d :: as, q :: ss, γ, k, s, l, h => by
    rcases putB_get (as := as) (ss := ss) (Nat.succ.inj l) h with h | ⟨j, h1, h2⟩
    · exact .inl h
    · exact .inr ⟨j + 1, h1, h2⟩
  | .o i :: as, q :: ss, γ, k, s, l, h => by
    rcases putB_get (as := as) (ss := ss) (Nat.succ.inj l) h with ⟨h, hn⟩ | ⟨j, h1, h2⟩
    · rcases get_set h with ⟨e1, e2⟩ | ⟨e1, h⟩
      · subst e1 e2; exact .inr ⟨0, rfl, rfl⟩
      · exact .inl ⟨h, fun z => (List.mem_cons.mp z).elim (fun z => e1 z.symm) hn⟩
    · exact .inr ⟨j + 1, h1, h2⟩
  | [], _ :: _, _, _, _, l, _ => by cases l
  | _ :: _, [], _, _, _, l, _ => by cases l
theorem putB_len : ∀ {as : List Arg} {ss γ : List Sl}, (putB γ as ss).length = γ.length
  | [], ss, γ => by cases ss <;> rfl
  | .v d :: as, [], γ => rfl
  | .o d :: as, [], γ => rfl
  | .v d :: as, q :: ss, γ => putB_len (as := as)
  | .o i :: as, q :: ss, γ => (putB_len (as := as)).trans (by rw [List.length_set])
theorem getO {l : Option Sl} {a : Addr} {m : MO} (h : (match l with | some s => s | none => Sl.em) = .own a m) : l = some (.own a m) := by
  cases l with
  | none => cases h
  | some s => exact congrArg some h
/-- the arguments as a callee's slots -/
theorem call_env {vs : List V} {as : List Arg} (E : En K γ σ F H) (ok : ArgsOk K F γ vs as) (nd : (oix as).Nodup) : En K (argSls γ as) (vs.map some) F H where
  sub := E.sub
  len := by rw [argSls_len, List.length_map, argsOk_len ok]
  at_ := fun j s h => by
    rcases argSls_get h with ⟨d, h1, rfl⟩ | ⟨i, h1, e⟩
    · obtain ⟨x, hx, k⟩ := argsOk_get ok h1
      exact ⟨x, by rw [List.getElem?_map, hx]; rfl, k⟩
    · obtain ⟨x, hx, a, m, k1, k2⟩ := argsOk_get ok h1
      rw [k1] at e
      subst e k2
      obtain ⟨_, q2, q3⟩ := E.own k1
      exact ⟨by rw [List.getElem?_map, hx]; rfl, q2, q3⟩
  inj := fun j k a b m m' h1 h2 n => by
    rcases argSls_get h1 with ⟨d, _, z⟩ | ⟨i, g1, e1⟩
    · cases z
    rcases argSls_get h2 with ⟨d, _, z⟩ | ⟨i', g2, e2⟩
    · cases z
    refine E.inj i i' a b m m' (getO e1.symm) (getO e2.symm) fun z => ?_
    subst z
    exact n (oix_nd nd g1 g2)
theorem argSls_owned {as : List Arg} {p : Addr} (h : Owned (argSls γ as) p) : ∃ (i : Nat) (m : MO), i ∈ oix as ∧ γ[i]? = some (.own p m) := by
  obtain ⟨j, m, h⟩ := h
  rcases argSls_get h with ⟨d, _, z⟩ | ⟨i, g1, e1⟩
  · cases z
  · exact ⟨i, m, mem_oix g1, getO e1.symm⟩
/-- behind a call -/
theorem call_back {vs : List V} {as : List Arg} (E : En K γ σ F H) (ok : ArgsOk K F γ vs as) (A : Af K (argSls γ as) γa (vs.map some) F H F' H') : Af K γ (putB γ as γa) σ F H F' H' := by
  have la : as.length = γa.length := by rw [A.e.len, List.length_map, argsOk_len ok]
  have own : ∀ {k : Nat} {a : Addr} {m : MO}, (putB γ as γa)[k]? = some (.own a m) → ∃ m0, γ[k]? = some (.own a m0) := fun {k a m} h => by
    rcases putB_get la h with ⟨h, _⟩ | ⟨j, h1, h2⟩
    · exact ⟨m, h⟩
    · obtain ⟨e1, _⟩ := A.e.own h2
      obtain ⟨x, hx, a0, m0, k1, k2⟩ := argsOk_get ok h1
      rw [List.getElem?_map, hx] at e1
      subst k2
      cases e1
      exact ⟨m0, k1⟩
  have up : ∀ {p : Addr}, Owned (argSls γ as) p → Owned γ p := fun {p} h => let ⟨i, m, _, z⟩ := argSls_owned h; ⟨i, m, z⟩
  refine ⟨A.f, ⟨A.e.sub, by rw [putB_len, E.len], fun k s h => ?_, fun j k a b m m' h1 h2 n => ?_⟩, ⟨fun p o h n => A.k.keep p o h fun z => n (up z), fun a ⟨k, m, h⟩ => let ⟨m0, z⟩ := own h; .inl ⟨k, m0, z⟩, A.k.there⟩, fun p o h => (A.n p o h).imp id (Or.imp id up)⟩
  · rcases putB_get la h with ⟨h, hn⟩ | ⟨j, h1, h2⟩
    · have q := E.at_ k s h
      cases s with
      | em => trivial
      | val d => obtain ⟨v, q1, q2⟩ := q; exact ⟨v, q1, dp_mono A.f q2⟩
      | own a m =>
        obtain ⟨q1, q2, o, q3, q4⟩ := q
        have no : ¬ Owned (argSls γ as) a := fun z => by
          obtain ⟨i, m', z1, z2⟩ := argSls_owned z
          by_cases e : i = k
          · subst e; exact hn z1
          · exact E.inj i k a a m' m z2 h e rfl
        refine ⟨q1, ?_, o, A.k.keep a o q3 no, repM_mono A.f q4⟩
        cases z : F' a with
        | none => rfl
        | some u =>
          rcases A.n a u z with y | y | y
          · rw [q2] at y; cases y
          · rw [q3] at y; cases y
          · exact absurd y no
    · have q := A.e.at_ j s h2
      obtain ⟨x, hx, a0, m0, k1, k2⟩ := argsOk_get ok h1
      obtain ⟨e1, _⟩ := E.own k1
      have e : (vs.map some)[j]? = σ[k]? := by rw [List.getElem?_map, hx, e1, k2]; rfl
      rw [e] at q
      exact q
  · obtain ⟨_, z1⟩ := own h1
    obtain ⟨_, z2⟩ := own h2
    exact E.inj j k a b _ _ z1 z2 n
end

/-! ### contracts -/
/-- R: the arguments' slots, what comes back, the slots behind the call -/
abbrev Ct := List Sl → Res → List Sl → Prop
def spD (K : PySem.W.Frag) (R : Ct) : Sp := fun vs H Q _ => ∃ (γ : List Sl) (F : Hp) (r : Res) (γ' : List Sl), En K γ (vs.map some) F H ∧ R γ r γ' ∧
  ∀ v F' H', Af K γ γ' (vs.map some) F H F' H' → ResOk K F' H' γ' v r → (∀ p, v = .ref p → (∃ m, r = .f m) → H p = none) → Q v H'
structure Cal (P : Program) (w : World) (K : PySem.W.Frag) (mg : Str → Option Value) (base : Heap) (k : Nat) (x : Str) (R : Ct) : Prop where
  ex : ∃ (f : Addr) (fd : FuncData) (ps : List Str), FnOk P w K mg base CX0 k f fd ps (spD K R) ∧ mg x = some (.ref f) ∧ PySem.W.keepIn K (.ref f) = true ∧ Binds K fd ps []
theorem Cal.mono {P : Program} {w : World} {K : PySem.W.Frag} {mg : Str → Option Value} {base : Heap} {k k' : Nat} {x : Str} {R : Ct} (C : Cal P w K mg base k x R) (h : k ≤ k') : Cal P w K mg base k' x R :=
  let ⟨f, fd, ps, a, b, c, d⟩ := C.ex; ⟨f, fd, ps, a.mono h, b, c, d⟩
section
variable {X : Cx} {γ γ1 γ2 γa : List Sl} {pos p : Pos} {e : Expr} {es : List Expr} {as : List Arg} {x : Str} {k : Nat} {R : Ct} {d : D} {m : MO}
theorem call_core {σ : L2.St} {F H : Hp} {Q : VK} {r : Res} (C : Cal X.prog X.w X.K X.mg X.base k x R) (hr : Room k X.A) (hg : Gl X x) (ha : DA X (e :: es) γ as γ1) (hR : R (argSls γ1 as) r γa) (nd : (oix as).Nodup)
    (hdb : (x == ("__debug__" : Str)) = false) (he : starEach (e :: es) X.env = (false, eval e X.env) :: starEach es X.env) (hpl : (backTo pos (starEach es X.env)).any (·.1) = false)
    (E : En X.K γ σ F H) (q : ∀ v F' H', Af X.K γ (putB γ1 as γa) σ F H F' H' →
      ResOk X.K F' H' γa v r → (∀ p, v = .ref p → (∃ m, r = .f m) → H p = none ∧ ¬ Owned (putB γ1 as γa) p) → Q v H') : wE X (.Call (.Name x p) (e :: es) [] pos) σ H Q := by
  obtain ⟨f, fd, ps, FO, hm, hk, hb⟩ := C.ex
  refine wE_of (pe_call FO hr hg hm hk hb .nil pass0 paW hdb he hpl) (ha σ F H _ E fun vs F1 H1 a1 ok => ?_)
  show spD X.K R (vs ++ []) H1 Q E0
  rw [List.append_nil]
  refine ⟨argSls γ1 as, F1, r, γa, call_env a1.e ok nd, hR, fun v F' H' A ro nw => ?_⟩
  have b := call_back a1.e ok A
  refine q v F' H' (a1.trans b) ro fun p e1 e2 => ?_
  have h1 := nw p e1 e2
  refine ⟨a1.k.free h1, fun ⟨i, mm, z⟩ => ?_⟩
  rcases b.k.own p ⟨i, mm, z⟩ with ⟨i', m', z'⟩ | z'
  · exact owned_not a1.e h1 ⟨i', m', z'⟩
  · obtain ⟨m0, rfl⟩ := e2
    obtain ⟨p', o, e3, e4, e5, e6, e7⟩ := ro
    rw [e3] at e1; cases e1
    have la : as.length = γa.length := by rw [A.e.len, List.length_map, argsOk_len ok]
    rcases putB_get la z with ⟨g, _⟩ | ⟨j, _, g2⟩
    · exact owned_not a1.e h1 ⟨i, mm, g⟩
    · exact e7 ⟨j, mm, g2⟩
theorem DE.call (C : Cal X.prog X.w X.K X.mg X.base k x R) (hr : Room k X.A) (hg : Gl X x) (ha : DA X (e :: es) γ as γ1) (hR : R (argSls γ1 as) (.v d) γa) (l : List Nat) (h1 : oix as = l) (h2 : l.Nodup) (hγ : putB γ1 as γa = γ2)
    (hdb : (x == ("__debug__" : Str)) = false := by decide) (he : starEach (e :: es) X.env = (false, eval e X.env) :: starEach es X.env := by rfl) (hpl : (backTo pos (starEach es X.env)).any (·.1) = false := by rfl) :
    DE X (.Call (.Name x p) (e :: es) [] pos) γ d γ2 := fun σ F H Q E q => by
  subst hγ
  exact call_core C hr hg ha hR (h1 ▸ h2) hdb he hpl E fun v F' H' a ro _ => q v F' H' a ro
theorem DF.call (C : Cal X.prog X.w X.K X.mg X.base k x R) (hr : Room k X.A) (hg : Gl X x) (ha : DA X (e :: es) γ as γ1) (hR : R (argSls γ1 as) (.f m) γa) (l : List Nat) (h1 : oix as = l) (h2 : l.Nodup) (hγ : putB γ1 as γa = γ2)
    (hdb : (x == ("__debug__" : Str)) = false := by decide) (he : starEach (e :: es) X.env = (false, eval e X.env) :: starEach es X.env := by rfl) (hpl : (backTo pos (starEach es X.env)).any (·.1) = false := by rfl) :
    DF X (.Call (.Name x p) (e :: es) [] pos) γ m γ2 := fun σ F H Q E q => by
  subst hγ
  exact call_core C hr hg ha hR (h1 ▸ h2) hdb he hpl E fun v F' H' a ro nw => by
    obtain ⟨p, o, e1, e2, e3, e4, e5⟩ := ro
    obtain ⟨n1, n2⟩ := nw p e1 ⟨m, rfl⟩
    subst e1
    exact q p o F' H' a e2 e3 e4 n2 n1
end

/-! ### a def keeps its contract -/
def Keeps : List Sl → List Sl → List Sl → Prop
  | [], _, [] => True
  | .val d :: γ, _ :: γ1, s :: γ' => (s = .val d ∨ s = .em) ∧ Keeps γ γ1 γ'
  | .own a _ :: γ, s1 :: γ1, s :: γ' => s1 = s ∧ (∃ m, s = .own a m) ∧ Keeps γ γ1 γ'
  | .em :: γ, _ :: γ1, s :: γ' => s = .em ∧ Keeps γ γ1 γ'
  | _, _, _ => False
def PR (γ : List Sl) (r : Res) (γ' : List Sl) : Post := { nx := fun γ1 => r = .v .none ∧ Keeps γ γ1 γ', rt := fun r1 γ1 => r1 = r ∧ Keeps γ γ1 γ' }
theorem keeps_len : ∀ {γ γ1 γ' : List Sl}, Keeps γ γ1 γ' → γ'.length = γ.length
  | [], _, [], _ => rfl
  | .val d :: γ, _ :: γ1, s :: γ', h => congrArg Nat.succ (keeps_len h.2)
  | .own a _ :: γ, s1 :: γ1, s :: γ', h => congrArg Nat.succ (keeps_len h.2.2)
  | .em :: γ, _ :: γ1, s :: γ', h => congrArg Nat.succ (keeps_len h.2)
  | [], _, _ :: _, h => False.elim h
  | .val d :: γ, _ :: γ1, [], h => False.elim h
  | .own a _ :: γ, s1 :: γ1, [], h => False.elim h
  | .em :: γ, _ :: γ1, [], h => False.elim h
  | .val d :: γ, [], _, h => False.elim h
  | .own a _ :: γ, [], _, h => False.elim h
  | .em :: γ, [], _, h => False.elim h
theorem keeps_get : ∀ {γ γ1 γ' : List Sl} {i : Nat} {s : Sl}, Keeps γ γ1 γ' → γ'[i]? = some s → s = .em ∨ (∃ d, s = .val d ∧ γ[i]? = some (.val d)) ∨ (∃ a m m0, s = .own a m ∧ γ1[i]? = some (.own a m) ∧ γ[i]? = some (.own a m0))
  | [], _, [], i, s, _, h => by simp at h
  | .val d :: γ, _ :: γ1, s' :: γ', 0, s, k, h => by
    simp at h; subst h
    rcases k.1 with z | z
    · exact .inr (.inl ⟨d, z, rfl⟩)
    · exact .inl z
  | .own a m0 :: γ, s1 :: γ1, s' :: γ', 0, s, k, h => by
    simp at h; subst h
    obtain ⟨m, e⟩ := k.2.1
    exact .inr (.inr ⟨a, m, m0, e, by simp [k.1, e], rfl⟩)
  | .em :: γ, _ :: γ1, s' :: γ', 0, s, k, h => by simp at h; subst h; exact .inl k.1
  | .val d :: γ, _ :: γ1, s' :: γ', i + 1, s, k, h => by simp only [List.getElem?_cons_succ] at h ⊢; exact keeps_get k.2 h
  | .own a m0 :: γ, s1 :: γ1, s' :: γ', i + 1, s, k, h => by simp only [List.getElem?_cons_succ] at h ⊢; exact keeps_get k.2.2 h
  | .em :: γ, _ :: γ1, s' :: γ', i + 1, s, k, h => by simp only [List.getElem?_cons_succ] at h ⊢; exact keeps_get k.2 h
  | [], _, _ :: _, _, _, h, _ => False.elim h
  | .val d :: γ, _ :: γ1, [], _, _, h, _ => False.elim h
  | .own a _ :: γ, s1 :: γ1, [], _, _, h, _ => False.elim h
  | .em :: γ, _ :: γ1, [], _, _, h, _ => False.elim h
  | .val d :: γ, [], _, _, _, h, _ => False.elim h
  | .own a _ :: γ, [], _, _, _, h, _ => False.elim h
  | .em :: γ, [], _, _, _, h, _ => False.elim h
theorem keeps_own : ∀ {γ γ1 γ' : List Sl} {i : Nat} {a : Addr} {m : MO}, Keeps γ γ1 γ' → γ[i]? = some (.own a m) → ∃ m', γ1[i]? = some (.own a m')
  | [], _, [], i, a, m, _, h => by simp at h
  | .val d :: γ, _ :: γ1, s' :: γ', 0, a, m, k, h => by simp at h
  | .own a0 m0 :: γ, s1 :: γ1, s' :: γ', 0, a, m, k, h => by
    simp at h
    obtain ⟨rfl, rfl⟩ := h
    obtain ⟨m1, e⟩ := k.2.1
    exact ⟨m1, by simp [k.1, e]⟩
  | .em :: γ, _ :: γ1, s' :: γ', 0, a, m, k, h => by simp at h
  | .val d :: γ, _ :: γ1, s' :: γ', i + 1, a, m, k, h => by simp only [List.getElem?_cons_succ] at h ⊢; exact keeps_own k.2 h
  | .own a0 m0 :: γ, s1 :: γ1, s' :: γ', i + 1, a, m, k, h => by simp only [List.getElem?_cons_succ] at h ⊢; exact keeps_own k.2.2 h
  | .em :: γ, _ :: γ1, s' :: γ', i + 1, a, m, k, h => by simp only [List.getElem?_cons_succ] at h ⊢; exact keeps_own k.2 h
  | [], _, _ :: _, _, _, _, h, _ => False.elim h
  | .val d :: γ, _ :: γ1, [], _, _, _, h, _ => False.elim h
  | .own a _ :: γ, s1 :: γ1, [], _, _, _, h, _ => False.elim h
  | .em :: γ, _ :: γ1, [], _, _, _, h, _ => False.elim h
  | .val d :: γ, [], _, _, _, _, h, _ => False.elim h
  | .own a _ :: γ, [], _, _, _, _, h, _ => False.elim h
  | .em :: γ, [], _, _, _, _, h, _ => False.elim h
section
variable {K : PySem.W.Frag}
theorem get_ems {γ : List Sl} {n i : Nat} {s : Sl} (h : (γ ++ List.replicate n Sl.em)[i]? = some s) : γ[i]? = some s ∨ s = .em := by
  by_cases hi : i < γ.length
  · rw [List.getElem?_append_left hi] at h; exact .inl h
  · rw [List.getElem?_append_right (by omega)] at h
    have := List.mem_of_getElem? h
    exact .inr (List.mem_replicate.mp this).2
theorem start_env {γ : List Sl} {vs : List V} {N : List Str} {F H : Hp} (E : En K γ (vs.map some) F H) (hl : γ.length ≤ N.length) : En K (γ ++ List.replicate (N.length - γ.length) Sl.em) (L2.start N vs) F H := by
  have lv : γ.length = vs.length := by rw [E.len, List.length_map]
  refine ⟨E.sub, ?_, fun i s h => ?_, fun i j a b m m' h1 h2 n => ?_⟩
  · unfold L2.start
    simp only [List.length_append, List.length_replicate, List.length_map]
    omega
  · rcases get_ems h with h | h
    · have q := E.at_ i s h
      have hi : i < (vs.map some).length := by
        have := (List.getElem?_eq_some_iff.mp h).1
        rw [← E.len]; exact this
      unfold L2.start
      rw [List.getElem?_append_left hi]
      exact q
    · subst h; trivial
  · rcases get_ems h1 with h1 | h1
    · rcases get_ems h2 with h2 | h2
      · exact E.inj i j a b m m' h1 h2 n
      · cases h2
    · cases h1
theorem owned_ems {γ : List Sl} {n : Nat} {a : Addr} (h : Owned (γ ++ List.replicate n Sl.em) a) : Owned γ a := by
  obtain ⟨i, m, h⟩ := h
  rcases get_ems h with h | h
  · exact ⟨i, m, h⟩
  · cases h
theorem ems_owned {γ : List Sl} {n : Nat} {a : Addr} (h : Owned γ a) : Owned (γ ++ List.replicate n Sl.em) a := by
  obtain ⟨i, m, h⟩ := h
  exact ⟨i, m, by rw [List.getElem?_append_left (List.getElem?_eq_some_iff.mp h).1]; exact h⟩
theorem fin_of {γ : List Sl} {r : Res} {γ' : List Sl} {vs : List V} {n : Nat} {F H : Hp} {Q : VK} (E : En K γ (vs.map some) F H)
    (q : ∀ v F' H', Af K γ γ' (vs.map some) F H F' H' → ResOk K F' H' γ' v r → (∀ p, v = .ref p → (∃ m, r = .f m) → H p = none) → Q v H') :
    Fin K (PR γ r γ') (γ ++ List.replicate n Sl.em) F H { nx := fun _ H' => Q .non H', rt := Q } := by
  have core : ∀ v γ1 σ1 F' H', Af K (γ ++ List.replicate n Sl.em) γ1 σ1 F H F' H' → ResOk K F' H' γ1 v r → (∀ p, v = .ref p → (∃ m, r = .f m) → Owned (γ ++ List.replicate n Sl.em) p ∨ H p = none) → Keeps γ γ1 γ' → Q v H' := by
    intro v γ1 σ1 F' H' A ro nw k
    have ow : ∀ {p : Addr}, Owned γ' p → Owned γ1 p ∧ Owned γ p := fun {p} ⟨i, m, z⟩ => by
      rcases keeps_get k z with y | ⟨d, y, _⟩ | ⟨a, m1, m0, y, y1, y2⟩
      · cases y
      · cases y
      · cases y; exact ⟨⟨i, m, y1⟩, ⟨i, m0, y2⟩⟩
    refine q v F' H' ⟨A.f, ⟨A.e.sub, by rw [keeps_len k, E.len], fun i s z => ?_, fun i j a b m m' z1 z2 ne => ?_⟩, ⟨fun p o h nn => A.k.keep p o h fun z => nn (owned_ems z), fun a z => .inl (ow z).2, A.k.there⟩, fun p o h => (A.n p o h).imp id (Or.imp id owned_ems)⟩ ?_ fun p e1 e2 => ?_
    · rcases keeps_get k z with y | ⟨d, y, y1⟩ | ⟨a, m, m0, y, y1, y2⟩
      · subst y; trivial
      · subst y
        obtain ⟨v, h1, h2⟩ := E.val y1
        exact ⟨v, h1, dp_mono A.f h2⟩
      · subst y
        obtain ⟨_, h2, h3⟩ := A.e.own y1
        obtain ⟨h1, _⟩ := E.own y2
        exact ⟨h1, h2, h3⟩
    · rcases keeps_get k z1 with y | ⟨d, y, _⟩ | ⟨_, _, m0, y, _, y2⟩
      · cases y
      · cases y
      cases y
      rcases keeps_get k z2 with y' | ⟨d, y', _⟩ | ⟨_, _, m0', y', _, y2'⟩
      · cases y'
      · cases y'
      cases y'
      exact E.inj i j a b m0 m0' y2 y2' ne
    · cases r with
      | v d => exact ro
      | f m =>
        obtain ⟨p, o, e1, e2, e3, e4, e5⟩ := ro
        exact ⟨p, o, e1, e2, e3, e4, fun z => e5 (ow z).1⟩
    · rcases nw p e1 e2 with z | z
      · obtain ⟨i, m, z⟩ := owned_ems z
        obtain ⟨m', z'⟩ := keeps_own k z
        obtain ⟨m0, rfl⟩ := e2
        obtain ⟨p', o, e3, _, _, _, e5⟩ := ro
        rw [e3] at e1; cases e1
        exact absurd ⟨i, m', z'⟩ e5
      · exact z
  refine ⟨fun γ1 σ1 F' H' A h => ?_, fun r1 v γ1 σ1 F' H' A ro nw h => ?_, fun _ _ _ _ _ h => h.elim, fun _ _ _ _ _ h => h.elim⟩
  · obtain ⟨e, k⟩ := h
    subst e
    exact core .non γ1 σ1 F' H' A .non (fun p e _ => by cases e) k
  · obtain ⟨e, k⟩ := h
    subst e
    exact core v γ1 σ1 F' H' A ro nw k
end
section
variable {P : Program} {w : World} {K : PySem.W.Frag} {mg : Str → Option Value} {base : Heap} {x qual : Str} {params : Arguments} {body : List Stmt} {scope : Scope} {f : Addr} {fd : FuncData}
theorem cal_of {N ps : List Str} {k : Nat} {R : Ct} (F : FunD K x qual params body scope [] [] f fd) (S : FnScope N ps scope) (hm : mg x = some (.ref f)) (hb : Binds K fd ps []) (hl : ps.length ≤ N.length) (hlen : ∀ γ r γ', R γ r γ' → γ.length = ps.length)
    (h : ∀ (cdv : Value) (A : Around) (outer : List Env) (s : Shared) (H : Hp) (E : XK), Room k (A.deeper (envOfC qual scope s.heap.objs.size f cdv)) → ∀ γ r γ', R γ r γ' →
      DB (cxOf CX0 P w K mg base N qual scope f cdv A outer s H E).nox body (γ ++ List.replicate (N.length - γ.length) Sl.em) (PR γ r γ')) : Cal P w K mg base (k + 1) x R := by
  refine ⟨f, fd, ps, F.ok S (fun vs H Q E z => ?_) (fun cdv A outer s H vs Q E hr z => ?_), hm, F.kp, hb⟩
  · obtain ⟨γ, F, r, γ', E1, hR, _⟩ := z
    have := E1.len
    rw [List.length_map] at this
    rw [← this, hlen _ _ _ hR]
  · obtain ⟨γ, F1, r, γ', E1, hR, q⟩ := z
    refine ⟨_, PSs.nox pbW, h cdv A outer s H E hr γ r γ' hR (L2.start N vs) F1 H _ ?_ (fin_of E1 q)⟩
    exact start_env E1 (by rw [hlen _ _ _ hR]; exact hl)
end
end PD

set_option Elab.async false
set_option linter.all false
/-! PD3: statements, loops, comprehensions over plain data. -/
namespace PD
open PySem L2 PySem.Spec PyProof.Rows
section
variable {X : Cx} {γ γ1 γ2 γ3 : List Sl} {pos pos' : Pos} {e a b c o : Expr} {es : List Expr} {d : D} {ds : List D} {P : Post} {x : Str} {i : Nat} {k : Bool} {m : MO}

/-! ### blocks -/
theorem DB.nil (h : P.nx γ) : DB X [] γ P := fun σ F H Dn E f => wB_of pss_nil (f.nx γ σ F H (.refl E) h)
theorem DB.cons {st : Stmt} {rest : List Stmt} (h : DS X st γ { P with nx := fun γ' => DB X rest γ' P }) : DB X (st :: rest) γ P := fun σ F H Dn E f => by
  refine wB_of (pss_cons psW pbW) (h σ F H _ E ⟨fun γ' σ' F' H' A q => q σ' F' H' Dn A.e (f.step A), f.rt, f.bk, f.ct⟩)
theorem DB.one {st : Stmt} (h : DS X st γ P) : DB X [st] γ P := fun σ F H Dn E f => wB_of (pss_one psW) (h σ F H Dn E f)
theorem DS.imp {P' : Post} {st : Stmt} (h : DS X st γ P') (n : ∀ g, P'.nx g → P.nx g) (r : ∀ v g, P'.rt v g → P.rt v g) (b : ∀ g, P'.bk g → P.bk g) (c : ∀ g, P'.ct g → P.ct g) : DS X st γ P := fun σ F H Dn E f =>
  h σ F H Dn E ⟨fun γ' σ' F' H' A q => f.nx γ' σ' F' H' A (n _ q), fun r1 v γ' σ' F' H' A ro nw q => f.rt r1 v γ' σ' F' H' A ro nw (r _ _ q), fun γ' σ' F' H' A q => f.bk γ' σ' F' H' A (b _ q), fun γ' σ' F' H' A q => f.ct γ' σ' F' H' A (c _ q)⟩
theorem DB.imp {P' : Post} {sts : List Stmt} (h : DB X sts γ P') (n : ∀ g, P'.nx g → P.nx g) (r : ∀ v g, P'.rt v g → P.rt v g) (b : ∀ g, P'.bk g → P.bk g) (c : ∀ g, P'.ct g → P.ct g) : DB X sts γ P := fun σ F H Dn E f =>
  h σ F H Dn E ⟨fun γ' σ' F' H' A q => f.nx γ' σ' F' H' A (n _ q), fun r1 v γ' σ' F' H' A ro nw q => f.rt r1 v γ' σ' F' H' A ro nw (r _ _ q), fun γ' σ' F' H' A q => f.bk γ' σ' F' H' A (b _ q), fun γ' σ' F' H' A q => f.ct γ' σ' F' H' A (c _ q)⟩
/-- what is forgotten: a slot may become em -/
def Wk : List Sl → List Sl → Prop
  | [], [] => True
  | s :: γ, s' :: γ' => (s' = s ∨ s' = .em) ∧ Wk γ γ'
  | _, _ => False
theorem Wk.refl : ∀ γ : List Sl, Wk γ γ
  | [] => trivial
  | _ :: γ => ⟨.inl rfl, Wk.refl γ⟩
theorem Wk.get : ∀ {γ γ' : List Sl} {i : Nat} {s : Sl}, Wk γ γ' → γ'[i]? = some s → s = .em ∨ γ[i]? = some s
  | [], [], i, s, _, h => by simp at h
  | s0 :: γ, s' :: γ', 0, s, w, h => by
    simp at h; subst h
    rcases w.1 with z | z
    · exact .inr (by simp [z])
    · exact .inl z
  | s0 :: γ, s' :: γ', i + 1, s, w, h => by simp only [List.getElem?_cons_succ] at h ⊢; exact Wk.get w.2 h
  | [], _ :: _, _, _, w, _ => w.elim
  | _ :: _, [], _, _, w, _ => w.elim
theorem Wk.len : ∀ {γ γ' : List Sl}, Wk γ γ' → γ'.length = γ.length
  | [], [], _ => rfl
  | _ :: γ, _ :: γ', w => congrArg Nat.succ (Wk.len w.2)
  | [], _ :: _, w => w.elim
  | _ :: _, [], w => w.elim
theorem Wk.env {K : PySem.W.Frag} {γ γ' : List Sl} {σ : L2.St} {F H : Hp} (w : Wk γ γ') (E : En K γ σ F H) : En K γ' σ F H where
  sub := E.sub
  len := w.len.trans E.len
  at_ := fun i s h => by
    rcases w.get h with z | z
    · subst z; trivial
    · exact E.at_ i s z
  inj := fun i j a b m m' h1 h2 n => by
    rcases w.get h1 with z | h1
    · cases z
    rcases w.get h2 with z | h2
    · cases z
    exact E.inj i j a b m m' h1 h2 n
theorem Wk.af {K : PySem.W.Frag} {γ γ' : List Sl} {σ : L2.St} {F H : Hp} (w : Wk γ γ') (E : En K γ σ F H) : Af K γ γ' σ F H F H :=
  ⟨Same.refl _, w.env E, ⟨fun _ _ h _ => h, fun a ⟨i, m, h⟩ => by
    rcases w.get h with z | z
    · cases z
    · exact .inl ⟨i, m, z⟩, fun p o h => ⟨o, h⟩⟩, fun _ _ h => .inl h⟩
theorem DB.wk {sts : List Stmt} (w : Wk γ γ1) (h : DB X sts γ1 P) : DB X sts γ P := fun σ F H Dn E f => h σ F H Dn (w.env E) (f.step (w.af E))
theorem DS.wk {st : Stmt} (w : Wk γ γ1) (h : DS X st γ1 P) : DS X st γ P := fun σ F H Dn E f => h σ F H Dn (w.env E) (f.step (w.af E))
/-- a statement reaches γ1 (or what is stronger) on its ways out; from there on -/
theorem DS.cut {st : Stmt} (γ1 : List Sl) (h : DS X st γ { P with nx := fun g => Wk g γ1 }) (q : P.nx γ1) : DS X st γ P := fun σ F H Dn E f =>
  h σ F H Dn E ⟨fun γ' σ' F' H' A w => f.nx γ1 σ' F' H' (A.trans (w.af A.e)) q, f.rt, f.bk, f.ct⟩

/-! ### small statements -/
theorem DS.pass (h : P.nx γ) : DS X (.Pass pos) γ P := fun σ F H Dn E f => wS_of ps_pass (f.nx γ σ F H (.refl E) h)
theorem DS.brk (h : P.bk γ) : DS X (.Break pos) γ P := fun σ F H Dn E f => wS_of ps_break (f.bk γ σ F H (.refl E) h)
theorem DS.set (hN : X.N.Nodup) (hi : X.N[i]? = some x) (hx : Loc X.env.scope x) (h : DE X e γ d γ1) (q : P.nx (γ1.set i (.val d))) (hs : swapsWith e (some (.Name x pos')) pos.line X.env = pure false := by rfl)
    (hf : X.fn x = true ∨ X.env.scope.names.lookup x = some .local := by first | exact .inl rfl | exact .inr rfl | assumption) : DS X (.Assign [.Name x pos'] e pos) γ P := fun σ F H Dn E f => by
  refine wS_of (ps_set hN hi hx peW hs hf) (h σ F H _ E fun v F1 H1 A r => ?_)
  exact f.nx _ _ F1 H1 ⟨A.f, A.e.set_val r i, ⟨A.k.keep, fun a z => A.k.own a (Owned.of_set (fun m z => by cases z) z), A.k.there⟩, A.n⟩ q
theorem set_own_af {K : PySem.W.Frag} {σ : L2.St} {F H F1 H1 : Hp} {p : Addr} {ob : HO} (A : Af K γ γ1 σ F H F1 H1) (h1 : F1 p = none) (h2 : H1 p = some ob) (r : RepM K F1 m ob) (n : ¬ Owned γ1 p) (hp : H p = none) : Af K γ (γ1.set i (.own p m)) (σ.set i (some (.ref p))) F H F1 H1 :=
  ⟨A.f, A.e.set_own h1 h2 r n i, ⟨A.k.keep, fun a z => by
    rcases z.set with z | ⟨m', z⟩
    · exact A.k.own a z
    · cases z; exact .inr hp, A.k.there⟩, A.n⟩
theorem DS.setF (hN : X.N.Nodup) (hi : X.N[i]? = some x) (hx : Loc X.env.scope x) (h : DF X e γ m γ1) (q : ∀ p, ¬ Owned γ1 p → P.nx (γ1.set i (.own p m))) (hs : swapsWith e (some (.Name x pos')) pos.line X.env = pure false := by rfl)
    (hf : X.fn x = true ∨ X.env.scope.names.lookup x = some .local := by first | exact .inl rfl | exact .inr rfl | assumption) : DS X (.Assign [.Name x pos'] e pos) γ P := fun σ F H Dn E f => by
  refine wS_of (ps_set hN hi hx peW hs hf) (h σ F H _ E fun p o F1 H1 A h1 h2 r n hp => ?_)
  exact f.nx _ _ F1 H1 (set_own_af A h1 h2 r n hp) (q p n)
theorem DS.ret (h : DE X e γ d γ1) (q : P.rt (.v d) γ1) : DS X (.Return (some e) pos) γ P := fun σ F H Dn E f =>
  wS_of (ps_ret peW) (h σ F H _ E fun v F1 H1 A r => f.rt (.v d) v γ1 σ F1 H1 A r (fun p _ z => by obtain ⟨m, z⟩ := z; cases z) q)
theorem DS.retN (q : P.rt (.v .none) γ) : DS X (.Return none pos) γ P := fun σ F H Dn E f =>
  wS_of ps_retN (f.rt (.v .none) .non γ σ F H (.refl E) .non (fun p z _ => by cases z) q)
theorem DS.retF (h : DF X e γ m γ1) (q : P.rt (.f m) γ1) : DS X (.Return (some e) pos) γ P := fun σ F H Dn E f =>
  wS_of (ps_ret peW) (h σ F H _ E fun p o F1 H1 A h1 h2 r n hp => f.rt (.f m) _ γ1 σ F1 H1 A ⟨p, o, rfl, h1, h2, r, n⟩ (fun p' z _ => by cases z; exact .inr hp) q)
/-- the thing that a slot owns, handed back -/
theorem DS.retO {p : Addr} (hN : X.N[i]? = some x) (hv : Vis X.env.scope x) (hs : γ[i]? = some (.own p m)) (q : P.rt (.f m) (γ.set i .em)) (hd : (x == ("__debug__" : Str)) = false := by decide) (hcd : (x == ("__classdict__" : Str)) = false := by decide) :
    DS X (.Return (some (.Name x pos')) pos) γ P := fun σ F H Dn E f => by
  obtain ⟨e1, e2, o, e3, e4⟩ := E.own hs
  have E' : En X.K (γ.set i .em) σ F H := by
    have := E.set_em (some (.ref p)) i
    have z : σ.set i (some (.ref p)) = σ := by
      apply List.ext_getElem?
      intro j
      by_cases h : i = j
      · subst h
        rw [List.getElem?_set_self (by have := (List.getElem?_eq_some_iff.mp e1).1; exact this), e1]
      · rw [List.getElem?_set_ne h]
    rw [z] at this; exact this
  refine wS_of (ps_ret (pe_var hN hv hd hcd)) ⟨.ref p, e1, f.rt (.f m) _ (γ.set i .em) σ F H ⟨Same.refl _, E', ⟨fun _ _ h _ => h, fun a z => .inl (Owned.of_set (fun m z => by cases z) z), fun p o h => ⟨o, h⟩⟩, fun _ _ h => .inl h⟩ ⟨p, o, rfl, e2, e3, e4, ?_⟩ (fun p' z _ => by cases z; exact .inl ⟨i, m, hs⟩) q⟩
  rintro ⟨j, m', z⟩
  rcases get_set z with ⟨_, z⟩ | ⟨ne, z⟩
  · cases z
  · exact E.inj i j p p m m' hs z ne rfl
theorem DS.expr (h : DE X e γ d γ1) (q : P.nx γ1) (hs : swapsWith e none pos.line X.env = pure false := by rfl) : DS X (.Expr e pos) γ P := fun σ F H Dn E f =>
  wS_of (ps_expr peW hs) (h σ F H _ E fun v F1 H1 A r => f.nx γ1 σ F1 H1 A q)
theorem DS.ite {A B : List Stmt} (hc : DT X c γ k γ1) (h1 : k = true → DB X A γ1 P) (h2 : k = false → DB X B γ1 P) : DS X (.If c A B pos) γ P := fun σ F H Dn E f => by
  refine wS_of (ps_if ptW pbW pbW) (hc σ F H _ E fun F1 H1 a1 => ?_)
  cases k with
  | true => rw [if_pos rfl]; exact h1 rfl σ F1 H1 Dn a1.e (f.step a1)
  | false => rw [if_neg Bool.false_ne_true]; exact h2 rfl σ F1 H1 Dn a1.e (f.step a1)
theorem DS.aug {op : Operator} {r : R2} {d0 d1 : D} (hN : X.N.Nodup) (hi : X.N[i]? = some x) (hx : Loc X.env.scope x) (h0 : γ[i]? = some (.val d0)) (h : DE X e γ d1 γ1) (ho : OpR X (inplaceOp op) r) (hr : R2D X.K r d0 d1 d) (q : P.nx (γ1.set i (.val d)))
    (hf : X.fn x = true ∨ X.env.scope.names.lookup x = some .local := by first | exact .inl rfl | exact .inr rfl | assumption) : DS X (.AugAssign (.Name x pos') op e pos) γ P := fun σ F H Dn E f => by
  obtain ⟨v0, e1, e2⟩ := E.val h0
  refine wS_of (ps_aug hN hi hx peW ho hf) ⟨v0, e1, h σ F H _ E fun v F1 H1 A r1 => ?_⟩
  refine hr v0 v F1 H1 _ A.e.sub (dp_mono A.f e2) r1 fun z F2 H2 g r2 => ?_
  have A2 := A.grow g
  exact f.nx _ _ F2 H2 ⟨A2.f, A2.e.set_val r2 i, ⟨A2.k.keep, fun a z => A2.k.own a (Owned.of_set (fun m z => by cases z) z), A2.k.there⟩, A2.n⟩ q

/-! ### a slot's own list changed -/
theorem upd_af {K : PySem.W.Frag} {σ : L2.St} {F H F1 H1 : Hp} {p : Addr} {m' : MO} {ob : HO} (A : Af K γ γ1 σ F H F1 H1) (h : γ1[i]? = some (.own p m)) (r : RepM K F1 m' ob) : Af K γ (γ1.set i (.own p m')) σ F H F1 (L2.upd H1 p ob) := by
  have ow : Owned γ1 p := ⟨i, m, h⟩
  obtain ⟨_, _, o1, e3, _⟩ := A.e.own h
  refine A.trans ⟨Same.refl _, A.e.upd h r, ⟨fun q o z n => ?_, fun q z => ?_, fun q o z => ?_⟩, fun _ _ h => .inl h⟩
  · rw [upd_ne (show q ≠ p by intro e; subst e; exact n ow)]; exact z
  · rcases z.set with z | ⟨m2, z⟩
    · exact .inl z
    · cases z; exact .inl ow
  · by_cases e : q = p
    · subst e; exact ⟨ob, upd_same⟩
    · exact ⟨o, by rw [upd_ne e]; exact z⟩
theorem tyL {K : PySem.W.Frag} {H : Hp} {p : Addr} {vs : List V} (h : H p = some (.lst vs)) : tyV K "list" (.ref p) H := .inl ⟨rfl, vs, .of h⟩
theorem DS.append {p : Addr} {apos npos cpos : Pos} (hN : X.N[i]? = some x) (hv : Vis X.env.scope x) (h0 : γ[i]? = some (.own p (.lst ds))) {ds1 : List D} (h : DE X e γ d γ1) (h1 : γ1[i]? = some (.own p (.lst ds1))) (hz : ds1.length < sizeLine) (q : P.nx (γ1.set i (.own p (.lst (ds1 ++ [d])))))
    (hs : swapsWith (.Call (.Attribute (.Name x npos) "append" apos) [e] [] cpos) none pos.line X.env = pure false := by rfl) (hd : (x == ("__debug__" : Str)) = false := by decide) (hcd : (x == ("__classdict__" : Str)) = false := by decide)
    (hbase : attributeBase (.Name x npos) "append" X.env (eval (.Name x npos) X.env) = eval (.Name x npos) X.env := by rfl)
    (hfew : ((backTo cpos (starEach [e] X.env)).all (fun x => !x.1) && (backToKw cpos (keywordEach [] X.env)).all (fun x => x.1.isSome)
      && decide ([e].length + ([] : List Keyword).length + (if ([] : List Keyword).isEmpty then 0 else 1) < 30)) = true := by rfl)
    (hline : (apos.endLine == cpos.line) = true := by rfl) (hst : starEach [e] X.env = (false, eval e X.env) :: starEach [] X.env := by rfl) (hplain : (backTo cpos (starEach [] X.env)).any (·.1) = false := by rfl) :
    DS X (.Expr (.Call (.Attribute (.Name x npos) "append" apos) [e] [] cpos) pos) γ P := fun σ F H Dn E f => by
  obtain ⟨e1, e2, o, e3, vs0, rfl, e4⟩ := E.own h0
  refine wS_of (ps_expr (pe_bm PySem.F.plainAttrs_list PySem.F.slot_list_append PySem.F.type_list_append mt_append (pe_var hN hv hd hcd) (pa_cons peW pa_nil hst) hbase hfew hline hst hplain) hs) ⟨.ref p, e1, tyL e3, h σ F H _ E fun v F1 H1 A r1 => ?_⟩
  obtain ⟨_, _, o, e6, vs, rfl, e7⟩ := A.e.own h1
  refine ⟨p, vs, v, rfl, rfl, e6, by rw [dpa_len e7]; exact hz, ?_⟩
  exact f.nx _ σ F1 _ (upd_af A h1 (.lst (dpa_app e7 (.cons r1 .nil)))) q
theorem DS.reverse {p : Addr} {apos npos cpos : Pos} (hN : X.N[i]? = some x) (hv : Vis X.env.scope x) (h0 : γ[i]? = some (.own p (.lst ds))) (q : P.nx (γ.set i (.own p (.lst ds.reverse))))
    (hs : swapsWith (.Call (.Attribute (.Name x npos) "reverse" apos) [] [] cpos) none pos.line X.env = pure false := by rfl) (hd : (x == ("__debug__" : Str)) = false := by decide) (hcd : (x == ("__classdict__" : Str)) = false := by decide)
    (hbase : attributeBase (.Name x npos) "reverse" X.env (eval (.Name x npos) X.env) = eval (.Name x npos) X.env := by rfl) (hline : (apos.endLine == cpos.line) = true := by rfl) :
    DS X (.Expr (.Call (.Attribute (.Name x npos) "reverse" apos) [] [] cpos) pos) γ P := fun σ F H Dn E f => by
  obtain ⟨e1, e2, o, e3, vs, rfl, e4⟩ := E.own h0
  refine wS_of (ps_expr (pe_bm0 PySem.F.plainAttrs_list PySem.F.slot_list_reverse PySem.F.type_list_reverse mt_reverse (pe_var hN hv hd hcd) hbase hline) hs) ⟨.ref p, e1, tyL e3, p, vs, rfl, rfl, e3, ?_⟩
  exact f.nx _ σ F _ (upd_af (.refl E) h0 (.lst (dpa_rev e4))) q
theorem dpa_snoc {K : PySem.W.Frag} {F : Hp} {vs : List V} {ds : List D} {d : D} (h : DpAll K F vs (ds ++ [d])) : ∃ v, vs[vs.length - 1]? = some v ∧ Dp K F v d ∧ DpAll K F vs.dropLast ds := by
  have hl := dpa_len h
  rw [List.length_append, List.length_singleton] at hl
  obtain ⟨v, h1, h2⟩ := dpa_get (i := ds.length) (d := d) h (by simp)
  refine ⟨v, by rw [show vs.length - 1 = ds.length by omega]; exact h1, h2, ?_⟩
  have h3 := dpa_take ds.length h
  rw [List.take_left' rfl] at h3
  rw [List.dropLast_eq_take, show vs.length - 1 = ds.length by omega]
  exact h3
theorem DE.pop {p : Addr} {apos npos : Pos} (hN : X.N[i]? = some x) (hv : Vis X.env.scope x) (h0 : γ[i]? = some (.own p (.lst (ds ++ [d])))) (hd : (x == ("__debug__" : Str)) = false := by decide) (hcd : (x == ("__classdict__" : Str)) = false := by decide)
    (hbase : attributeBase (.Name x npos) "pop" X.env (eval (.Name x npos) X.env) = eval (.Name x npos) X.env := by rfl) (hline : (apos.endLine == pos.line) = true := by rfl) :
    DE X (.Call (.Attribute (.Name x npos) "pop" apos) [] [] pos) γ d (γ.set i (.own p (.lst ds))) := fun σ F H Q E q => by
  obtain ⟨e1, e2, o, e3, vs, rfl, e4⟩ := E.own h0
  obtain ⟨v, h1, h2, h3⟩ := dpa_snoc e4
  refine wE_of (pe_bm0 PySem.F.plainAttrs_list PySem.F.slot_list_pop PySem.F.type_list_pop mt_pop (pe_var hN hv hd hcd) hbase hline) ⟨.ref p, e1, tyL e3, p, vs, v, rfl, rfl, e3, h1, ?_⟩
  exact q v F _ (upd_af (.refl E) h0 (.lst h3)) h2
/-- xs[k] = e, xs a slot's own list -/
theorem DS.setIx {p : Addr} {npos : Pos} {b : Expr} {kk : Int} {j : Nat} {ds0 : List D} (hN : X.N[i]? = some x) (hv : Vis X.env.scope x) (h : DE X e γ d γ1) (h0 : γ1[i]? = some (.own p (.lst ds0))) (hb : DE X b γ1 (.int kk) γ2) (h1 : γ2[i]? = some (.own p (.lst ds)))
    (hk : ixN ds.length kk = some j) (q : P.nx (γ2.set i (.own p (.lst (ds.set j d)))))
    (ha : ∀ v, assign (.Subscript (.Name x npos) b pos') X.env v = (do
      let ov ← holding [v] (eval (.Name x npos) X.env)
      let iv ← holding [v, ov] (eval b X.env)
      standAt pos'
      holding [v, ov, iv] (setItem ov iv v)
      release [v, ov, iv] []) := by intro _; rfl)
    (hs : swapsWithSole [.Subscript (.Name x npos) b pos'] e pos.line X.env = pure false := by rfl) (hw : swappedStores [.Subscript (.Name x npos) b pos'] e X.env = pure none := by rfl)
    (ht : (assignEach [.Subscript (.Name x npos) b pos'] X.env).map (·.2) = [assign (.Subscript (.Name x npos) b pos') X.env] := by rfl) (hd : (x == ("__debug__" : Str)) = false := by decide) (hcd : (x == ("__classdict__" : Str)) = false := by decide) :
    DS X (.Assign [.Subscript (.Name x npos) b pos'] e pos) γ P := fun σ F H Dn E f => by
  refine wS_of (ps_asg peW (pg_sub (pe_var hN hv hd hcd) peW set_list ha) hs hw ht) (h σ F H _ E fun v F1 H1 A r1 => ?_)
  obtain ⟨e1, _, o1, e3, vs1, rfl, _⟩ := A.e.own h0
  refine ⟨.ref p, e1, hb σ F1 H1 _ A.e fun y F2 H2 A2 r2 => ?_⟩
  obtain ⟨_, _, o2, e6, vs, rfl, e7⟩ := A2.e.own h1
  refine ⟨p, vs, kk, j, rfl, dp_int r2, e6, by rw [dpa_len e7]; exact hk, ?_⟩
  exact f.nx _ σ F2 _ (upd_af (A.trans A2) h1 (.lst (dpa_set j (dp_mono A2.f r1) e7))) q

/-! ### targets -/
theorem DG.name (hN : X.N.Nodup) (hi : X.N[i]? = some x) (hx : Loc X.env.scope x) (hf : X.fn x = true ∨ X.env.scope.names.lookup x = some .local := by first | exact .inl rfl | exact .inr rfl | assumption) : DG X (.Name x pos) d γ (γ.set i (.val d)) [i] := fun v σ F H Q E r q => by
  refine wG_of (pg_name hN hi hx hf) (q _ (E.set_val r i) (by rw [List.length_set]) (fun j hj => ?_) ⟨fun _ _ h _ => h, fun a z => .inl (Owned.of_set (fun m z => by cases z) z), fun p o h => ⟨o, h⟩⟩)
  rw [List.getElem?_set_ne (by intro e; subst e; exact hj List.mem_cons_self)]
/-- targets one behind another -/
def wGs (X : Cx) (ts : List Expr) : TGs := fun vs σ H Q => ∀ (pins : List (Addr × Obj)) (s : Shared) (us : List Value), Inv X pins σ H s → Vals vs us →
  wpAny (model X.prog X.w) X.A (assignInOrder ((assignEach ts X.env).map (·.2)) us) (fun _ s' => ∃ σ' H', Inv X pins σ' H' s' ∧ Q σ' H') X.xe s
theorem pgsW {ts : List Expr} : PGs X ts (wGs X ts) := ⟨fun pins s _ _ _ us _ I r h => h pins s us I r⟩
def DGl (X : Cx) (ts : List Expr) (ds : List D) (γ γ' : List Sl) (vs : List Nat) : Prop := ∀ (xs : List V) (σ : L2.St) (F H : Hp) (Q : L2.St → Hp → Prop), En X.K γ σ F H → DpAll X.K F xs ds →
  (∀ σ', En X.K γ' σ' F H → σ'.length = σ.length → (∀ j, j ∉ vs → σ'[j]? = σ[j]?) → Kp γ γ' H H → Q σ' H) → wGs X ts xs σ H Q
theorem DGl.nil : DGl X [] [] γ γ [] := fun xs σ F H Q E r q => by
  cases r
  exact fun pins s us I rv => pgs_nil.run pins s σ H [] us Q I rv ⟨rfl, q σ E rfl (fun _ _ => rfl) (.refl _ _)⟩
theorem DGl.cons {t : Expr} {ts : List Expr} {vs1 vs2 : List Nat} (h : DG X t d γ γ1 vs1) (hl : DGl X ts ds γ1 γ2 vs2) (hs : (assignEach (t :: ts) X.env).map (·.2) = assign t X.env :: (assignEach ts X.env).map (·.2) := by rfl) : DGl X (t :: ts) (d :: ds) γ γ2 (vs1 ++ vs2) := fun xs σ F H Q E r q => by
  cases r with
  | @cons v vs _ _ r1 r2 =>
    intro pins s us I rv
    refine (pgs_cons pgW pgsW hs).run pins s σ H _ us Q I rv ⟨v, vs, rfl, h v σ F H _ E r1 fun σ1 E1 l1 n1 k1 => hl vs σ1 F H Q E1 r2 fun σ2 E2 l2 n2 k2 => q σ2 E2 (l2.trans l1) (fun j hj => ?_) (k1.trans k2)⟩
    rw [n2 j (fun z => hj (List.mem_append_right _ z)), n1 j (fun z => hj (List.mem_append_left _ z))]
theorem DG.tup {ts : List Expr} {kt : Nat} {vs : List Nat} (hc : X.calm = true) (h : DGl X ts ds γ γ1 vs) (n : Nat) (hl : ds.length = n := by rfl) (hn : (assignEach ts X.env).length = n := by rfl) (hst : (assignEach ts X.env).findIdx? (·.1) = none := by rfl) :
    DG X (.Tuple ts kt pos) (.tuple ds) γ γ1 vs := fun v σ F H Q E r q => by
  cases r with
  | @tup a xs _ hq hv => exact wG_of (pg_tup hc pgsW hn hst) ⟨a, xs, rfl, sqT_mono E.sub hq, (dpa_len hv).trans hl, h xs σ F H Q E hv q⟩
theorem DS.asg {tg : Expr} {vs : List Nat} (h : DE X e γ d γ1) (hg : DG X tg d γ1 γ2 vs) (q : P.nx γ2) (hs : swapsWithSole [tg] e pos.line X.env = pure false := by rfl) (hw : swappedStores [tg] e X.env = pure none := by rfl)
    (ht : (assignEach [tg] X.env).map (·.2) = [assign tg X.env] := by rfl) : DS X (.Assign [tg] e pos) γ P := fun σ F H Dn E f => by
  refine wS_of (ps_asg peW pgW hs hw ht) (h σ F H _ E fun v F1 H1 A r1 => hg v σ F1 H1 _ A.e r1 fun σ' E' _ _ k' => ?_)
  exact f.nx γ2 σ' F1 H1 ⟨A.f, E', A.k.trans k', A.n⟩ q
theorem DS.par {j : Nat} {y : Str} {px py pt : Pos} {kt k2 : Nat} {pt2 : Pos} {d1 d2 : D} (hc : X.calm = true) (hN : X.N.Nodup) (hi : X.N[i]? = some x) (hj : X.N[j]? = some y) (hij : i ≠ j)
    (hx : X.env.scope.names.lookup x = some .local) (hy : X.env.scope.names.lookup y = some .local) (ha : DV X [a, b] γ [d1, d2] γ1) (q : P.nx ((γ1.set i (.val d1)).set j (.val d2)))
    (hw : swappedStores [.Tuple [.Name x px, .Name y py] kt pt] (.Tuple [a, b] k2 pt2) X.env = pure (some [x, y]) := by rfl)
    (hs : swapsWithSole [.Tuple [.Name x px, .Name y py] kt pt] (.Tuple [a, b] k2 pt2) pos.line X.env = pure false := by rfl) :
    DS X (.Assign [.Tuple [.Name x px, .Name y py] kt pt] (.Tuple [a, b] k2 pt2) pos) γ P := fun σ F H Dn E f => by
  refine wS_of (ps_par hc hN hi hj hij hx hy paW hw hs) (ha σ F H _ E fun vs F1 H1 A r => ?_)
  cases r with
  | @cons v vs' _ _ r1 r2 =>
    cases r2 with
    | @cons w vs'' _ _ r2 r3 =>
      cases r3
      refine ⟨v, w, rfl, f.nx _ _ F1 H1 ⟨A.f, (A.e.set_val r1 i).set_val r2 j, ⟨A.k.keep, fun a z => A.k.own a (Owned.of_set (fun m z => by cases z) (Owned.of_set (fun m z => by cases z) z)), A.k.there⟩, A.n⟩ q⟩

/-! ### what is walked -/
def wI (X : Cx) (tg iter : Expr) : TI := fun σ H R => ∀ (pins : List (Addr × Obj)) (s : Shared), Inv X pins σ H s →
  wpAny (model X.prog X.w) X.A (eval iter X.env) (fun v s1 => wpAny (model X.prog X.w) X.A (pyIter v) (PIE X pins σ tg R) X.xe s1) X.xe s
theorem piW {tg iter : Expr} : PI X tg iter (wI X tg iter) := ⟨fun pins s _ _ _ I h => h pins s I⟩
theorem wI_of {tg iter : Expr} {wi : TI} {σ : L2.St} {H : Hp} {R : It → Hp → Prop} (h : PI X tg iter wi) (q : wi σ H R) : wI X tg iter σ H R := fun pins s I => h.run pins s σ H R I q
/-- n turns, y i at turn i, where stay holds of the slots -/
structure Wlk (K : PySem.W.Frag) (J : It) (n : Nat) (y : Nat → D) (F0 : Hp) (stay : List Sl → Prop) : Prop where
  go : ∀ (i : Nat) (g : List Sl) (σ : L2.St) (F H : Hp), i < n → stay g → Same F0 F → En K g σ F H → J.go i H
  stop : ∀ (g : List Sl) (σ : L2.St) (F H : Hp), stay g → Same F0 F → En K g σ F H → J.stop n H
  yld : ∀ (i : Nat) (g : List Sl) (σ : L2.St) (F H H' : Hp) (x : V), i < n → stay g → Same F0 F → En K g σ F H → J.yld i H x H' → H' = H ∧ Dp K F x (y i)
def DI (X : Cx) (tg iter : Expr) (γ : List Sl) (n : Nat) (B : Nat) (y : Nat → D) (γ0 : List Sl) (stay : List Sl → Prop) : Prop := ∀ (σ : L2.St) (F H : Hp) (R : It → Hp → Prop), En X.K γ σ F H →
  (∀ J F' H', Af X.K γ γ0 σ F H F' H' → n ≤ B → Wlk X.K J n y F' stay → R J H') → wI X tg iter σ H R
/-- sequences are no longer than this -/
def HSz (K : PySem.W.Frag) (H : Hp) : Prop := (∀ a vs, SqL K H a vs → vs.length ≤ sizeLine) ∧ ∀ a vs, SqT K H a vs → vs.length ≤ sizeLine
theorem inv_sz {pins : List (Addr × Obj)} {σ : L2.St} {H : Hp} {s : Shared} (I : Inv X pins σ H s) : HSz X.K H := ⟨fun a vs h => (I.list h).choose_spec.2.2, fun a vs h => (I.tuple h).choose_spec.2.2⟩
theorem wE_sz {σ : L2.St} {H : Hp} {Q : VK} (h : wE X e σ H fun v H' => HSz X.K H' → Q v H') : wE X e σ H Q := fun pins s I =>
  thn (h pins s I) fun u s1 ⟨v, H1, I1, r, q⟩ => ⟨v, H1, I1, r, q (inv_sz I1)⟩
theorem Sq.sz {K : PySem.W.Frag} {F H : Hp} {x : V} {kk : Bool} (h : Sq K F H x kk ds) (z : HSz K H) : ds.length ≤ sizeLine := by
  obtain ⟨a, vs, rfl, hq, hv⟩ := h
  rw [← dpa_len hv]
  cases kk with
  | true => exact z.1 a vs hq
  | false => exact z.2 a vs hq
theorem DI.seq {tg iter : Expr} {src : Src} {kk : Bool} (h : DQ X iter γ src kk ds γ1) : DI X tg iter γ ds.length sizeLine (fun i => ds.getD i .none) γ1 (src.stays γ1) := fun σ F H R E q => by
  have at_ : ∀ {i : Nat} {v : V} {vs : List V} {F : Hp}, DpAll X.K F vs ds → i < ds.length → vs[i]? = some v → Dp X.K F v (ds.getD i .none) := fun {i v vs F} r hi e => by
    obtain ⟨d, h1, h2⟩ := dpa_get' r e
    rw [List.getD_eq_getElem?_getD, h1]; exact h2
  cases kk with
  | true =>
    refine wI_of (pi_list (tg := tg) (peW (X := X) (e := iter))) (wE_sz (h σ F H _ E fun v F1 H1 A r z => ?_))
    obtain ⟨a, vs, rfl, hq, hv⟩ := r.sq A.e
    refine ⟨a, rfl, ⟨vs, hq⟩, q _ F1 H1 A ((r.sq A.e).sz z) ⟨fun i g σ F2 H2 hi st sm E2 => ?_, fun g σ F2 H2 st sm E2 => ?_, fun i g σ F2 H2 H3 x hi st sm E2 y => ?_⟩⟩
    · obtain ⟨a', vs', e, hq', hv'⟩ := (r.later sm st).sq E2
      cases e
      have hl : i < vs'.length := by rw [dpa_len hv']; exact hi
      exact ⟨vs', vs'[i], hq', List.getElem?_eq_getElem hl⟩
    · obtain ⟨a', vs', e, hq', hv'⟩ := (r.later sm st).sq E2
      cases e
      exact ⟨vs', hq', Nat.le_of_eq (dpa_len hv')⟩
    · obtain ⟨a', vs', e, hq', hv'⟩ := (r.later sm st).sq E2
      cases e
      exact ⟨y.1, at_ hv' hi (y.2 vs' hq')⟩
  | false =>
    refine wI_of (pi_tup (tg := tg) (peW (X := X) (e := iter))) (wE_sz (h σ F H _ E fun v F1 H1 A r z => ?_))
    obtain ⟨a, vs, rfl, hq, hv⟩ := r.sq A.e
    refine ⟨a, rfl, ⟨vs, hq⟩, q _ F1 H1 A ((r.sq A.e).sz z) ⟨fun i g σ F2 H2 hi st sm E2 => ?_, fun g σ F2 H2 st sm E2 => ?_, fun i g σ F2 H2 H3 x hi st sm E2 y => ?_⟩⟩
    · obtain ⟨a', vs', e, hq', hv'⟩ := (r.later sm st).sq E2
      cases e
      have hl : i < vs'.length := by rw [dpa_len hv']; exact hi
      exact ⟨vs', vs'[i], hq', List.getElem?_eq_getElem hl⟩
    · obtain ⟨a', vs', e, hq', hv'⟩ := (r.later sm st).sq E2
      cases e
      exact ⟨vs', hq', Nat.le_of_eq (dpa_len hv')⟩
    · obtain ⟨a', vs', e, hq', hv'⟩ := (r.later sm st).sq E2
      cases e
      exact ⟨y.1, at_ hv' hi (y.2 vs' hq')⟩
theorem rng_wlk {K : PySem.W.Frag} {lo : Int} {n : Nat} {F0 : Hp} : Wlk K (Itr lo n) n (fun i => .int (lo + i)) F0 fun _ => True :=
  ⟨fun _ _ _ _ _ h _ _ _ => h, fun _ _ _ _ _ _ _ => Nat.le_refl _, fun _ _ _ _ _ _ _ _ _ _ _ y => ⟨y.1, y.2 ▸ .int _⟩⟩
theorem DI.rng1 {tg : Expr} {p : Pos} {j : Int} (hg : Gl X "range") (hm : X.mg "range" = none) (h : DE X a γ (.int j) γ1) (h1 : -(2 ^ 62) ≤ j) (h2 : j < 2 ^ 62) (hs : starEach [a] X.env = (false, eval a X.env) :: starEach [] X.env := by rfl) :
    DI X tg (.Call (.Name "range" p) [a] [] pos) γ j.toNat (2 ^ 62) (fun i => .int (0 + i)) γ1 fun _ => True := fun σ F H R E q => by
  refine wI_of (pi_range1 hg hm (pa_cons peW pa_nil hs) hs) (h σ F H _ E fun v F1 H1 A r => ⟨j, by rw [dp_int r], h1, h2, q _ F1 H1 A (by omega) rng_wlk⟩)
theorem DI.rng2 {tg : Expr} {p : Pos} {i j : Int} (hg : Gl X "range") (hm : X.mg "range" = none) (h : DE X a γ (.int i) γ1) (h' : DE X b γ1 (.int j) γ2) (h1 : -(2 ^ 62) ≤ i ∧ i < 2 ^ 62) (h2 : -(2 ^ 62) ≤ j ∧ j < 2 ^ 62)
    (hs : starEach [a, b] X.env = (false, eval a X.env) :: starEach [b] X.env := by rfl) (hs2 : starEach [b] X.env = (false, eval b X.env) :: starEach [] X.env := by rfl) :
    DI X tg (.Call (.Name "range" p) [a, b] [] pos) γ (j - i).toNat (2 ^ 63) (fun n => .int (i + n)) γ2 fun _ => True := fun σ F H R E q => by
  refine wI_of (pi_range2 hg hm (pa_cons peW (pa_cons peW pa_nil hs2) hs) (by rw [hs, hs2]; rfl) (by rw [hs2]; rfl)) (h σ F H _ E fun v F1 H1 A r => h' σ F1 H1 _ A.e fun u F2 H2 A2 r2 => ⟨i, j, by rw [dp_int r, dp_int r2], ⟨h1.1, h1.2, h2.1, h2.2⟩, q _ F2 H2 (A.trans A2) (by omega) rng_wlk⟩)

/-! ### for -/
theorem DS.for_ {tg iter : Expr} {body : List Stmt} {n B : Nat} {y : Nat → D} {stay : List Sl → Prop} (hp : PassesOwn (model X.prog X.w) X.A X.env X.xe) (hc : X.calm = true) (hi : DI X tg iter γ n B y γ1 stay) (J : Nat → List Sl → Prop)
    (hst : ∀ i g, J i g → stay g) (h0 : n ≤ B → J 0 γ1) (hs : ∀ i g, n ≤ B → i < n → J i g → ∃ g' vs, DG X tg (y i) g g' vs ∧ DB X body g' { P with nx := J (i + 1), ct := J (i + 1), bk := P.nx }) (hd : ∀ g, n ≤ B → J n g → P.nx g)
    (hf : ∀ x, foldedSetIterable iter X.env x = pure x := by intro _; rfl) : DS X (.For tg iter body [] pos) γ P := fun σ F H Dn E f => by
  refine wS_of (ps_for hp hc piW pgW pbW hf) (hi σ F H _ E fun It F1 H1 A nB W => ?_)
  refine ⟨fun i m σ2 H2 => ∃ g F2, Af X.K γ g σ2 F H F2 H2 ∧ Same F1 F2 ∧ J i g ∧ i ≤ n ∧ m = n - i, ⟨n, γ1, F1, A, Same.refl _, h0 nB, Nat.zero_le _, rfl⟩, fun i m σ2 H2 ⟨g, F2, A2, sm, j, hle, hm⟩ => ?_⟩
  by_cases hlt : i < n
  · refine .inr ⟨W.go i g σ2 F2 H2 hlt (hst i g j) sm A2.e, fun σ3 H3 => ∃ g F3, Af X.K γ g σ3 F H F3 H3 ∧ Same F1 F3 ∧ J (i + 1) g, fun σ3 H3 ⟨g3, F3, A3, sm3, j3⟩ => ⟨n - (i + 1), by omega, g3, F3, A3, sm3, j3, hlt, rfl⟩, fun x H3 hy => ?_⟩
    obtain ⟨rfl, r⟩ := W.yld i g σ2 F2 H2 H3 x hlt (hst i g j) sm A2.e hy
    obtain ⟨g', vs, hg, hb⟩ := hs i g nB hlt j
    refine hg x σ2 F2 _ _ A2.e r fun σ4 E4 _ _ k4 => ?_
    have A4 : Af X.K γ g' σ4 F H F2 _ := ⟨A2.f, E4, A2.k.trans k4, A2.n⟩
    exact hb σ4 F2 _ _ E4 ⟨fun g5 σ5 F5 H5 A5 j5 => ⟨g5, F5, A4.trans A5, sm.trans A5.f, j5⟩, (f.step A4).rt, fun g5 σ5 F5 H5 A5 j5 => f.nx g5 σ5 F5 H5 (A4.trans A5) j5, fun g5 σ5 F5 H5 A5 j5 => ⟨g5, F5, A4.trans A5, sm.trans A5.f, j5⟩⟩
  · have e : i = n := by omega
    subst e
    exact .inl ⟨W.stop g σ2 F2 H2 (hst _ g j) sm A2.e, f.nx g σ2 F2 H2 A2 (hd g nB j)⟩

/-! ### while -/
theorem DS.while_ {body : List Stmt} (hp : PassesOwn (model X.prog X.w) X.A X.env X.xe) (J : Nat → List Sl → Prop) (n : Nat) (h0 : J n γ)
    (hs : ∀ m g, J m g → ∃ k g', DT X c g k g' ∧ (k = true → DB X body g' { P with nx := fun g2 => ∃ m', m' < m ∧ J m' g2, ct := fun g2 => ∃ m', m' < m ∧ J m' g2, bk := P.nx }) ∧ (k = false → P.nx g')) :
    DS X (.While c body [] pos) γ P := fun σ F H Dn E f => by
  refine wS_of (ps_while hp ptW pbW) ⟨fun m σ2 H2 => ∃ g F2, Af X.K γ g σ2 F H F2 H2 ∧ J m g, ⟨n, γ, F, .refl E, h0⟩, fun m σ2 H2 ⟨g, F2, A, j⟩ => ?_⟩
  obtain ⟨k, g', hc, h1, h2⟩ := hs m g j
  refine hc σ2 F2 H2 _ A.e fun F3 H3 A3 => ?_
  cases k with
  | true =>
    rw [if_pos rfl]
    refine ⟨fun σ4 H4 => ∃ m' g4 F4, m' < m ∧ Af X.K γ g4 σ4 F H F4 H4 ∧ J m' g4, fun σ4 H4 ⟨m', g4, F4, hm, A4, j4⟩ => ⟨m', hm, g4, F4, A4, j4⟩, ?_⟩
    have A5 := A.trans A3
    exact h1 rfl σ2 F3 H3 _ A3.e ⟨fun g6 σ6 F6 H6 A6 ⟨m', hm, j6⟩ => ⟨m', g6, F6, hm, A5.trans A6, j6⟩, (f.step A5).rt, fun g6 σ6 F6 H6 A6 j6 => f.nx g6 σ6 F6 H6 (A5.trans A6) j6, fun g6 σ6 F6 H6 A6 ⟨m', hm, j6⟩ => ⟨m', g6, F6, hm, A5.trans A6, j6⟩⟩
  | false =>
    rw [if_neg Bool.false_ne_true]
    exact f.nx g' σ2 F3 H3 (A.trans A3) (h2 rfl)
end
end PD

set_option Elab.async false
set_option linter.all false
/-! PD4: comprehensions, typed sources, typed loops. -/
namespace PD
open PySem L2 PySem.Spec PyProof.Rows

/-! ### slots of a comprehension's own names -/
def wipeS (γ : List Sl) : List Nat → List Sl
  | [] => γ
  | v :: vs => (wipeS γ vs).set v .em
def unw (g γ : List Sl) : List Nat → List Sl
  | [] => g
  | v :: vs => (unw g γ vs).set v (γ.getD v .em)
def Nown : Sl → Prop
  | .own _ _ => False
  | _ => True
def AllN (γ : List Sl) : List Nat → Prop
  | [] => True
  | v :: vs => Nown (γ.getD v .em) ∧ AllN γ vs
theorem wipeS_len {γ : List Sl} : ∀ {vs : List Nat}, (wipeS γ vs).length = γ.length
  | [] => rfl
  | v :: vs => by rw [wipeS, List.length_set, wipeS_len]
theorem unw_len {g γ : List Sl} : ∀ {vs : List Nat}, (unw g γ vs).length = g.length
  | [] => rfl
  | v :: vs => by rw [unw, List.length_set, unw_len]
theorem wipeS_get {γ : List Sl} {k : Nat} {s : Sl} : ∀ {vs : List Nat}, (wipeS γ vs)[k]? = some s → (k ∈ vs ∧ s = .em) ∨ (k ∉ vs ∧ γ[k]? = some s)
  | [], h => .inr ⟨by simp, h⟩
  | v :: vs, h => by
    rcases get_set h with ⟨e, z⟩ | ⟨e, h⟩
    · subst e; exact .inl ⟨List.mem_cons_self, z⟩
    · rcases wipeS_get h with ⟨h1, h2⟩ | ⟨h1, h2⟩
      · exact .inl ⟨List.mem_cons_of_mem _ h1, h2⟩
      · exact .inr ⟨fun z => (List.mem_cons.mp z).elim (fun z => e z.symm) h1, h2⟩
theorem unw_get {g γ : List Sl} {k : Nat} {s : Sl} : ∀ {vs : List Nat}, (unw g γ vs)[k]? = some s → (k ∈ vs ∧ s = γ.getD k .em) ∨ (k ∉ vs ∧ g[k]? = some s)
  | [], h => .inr ⟨by simp, h⟩
  | v :: vs, h => by
    rcases get_set h with ⟨e, z⟩ | ⟨e, h⟩
    · subst e; exact .inl ⟨List.mem_cons_self, z⟩
    · rcases unw_get h with ⟨h1, h2⟩ | ⟨h1, h2⟩
      · exact .inl ⟨List.mem_cons_of_mem _ h1, h2⟩
      · exact .inr ⟨fun z => (List.mem_cons.mp z).elim (fun z => e z.symm) h1, h2⟩
theorem allN_get {γ : List Sl} {k : Nat} : ∀ {vs : List Nat}, AllN γ vs → k ∈ vs → Nown (γ.getD k .em)
  | [], _, h => by simp at h
  | v :: vs, a, h => (List.mem_cons.mp h).elim (fun e => e ▸ a.1) fun h => allN_get a.2 h
theorem unw_wipe (γ : List Sl) (vs : List Nat) : unw (wipeS γ vs) γ vs = γ := by
  apply List.ext_getElem?
  intro k
  by_cases hk : k < γ.length
  · have h1 : k < (unw (wipeS γ vs) γ vs).length := by rw [unw_len, wipeS_len]; exact hk
    have h2 := List.getElem?_eq_getElem h1
    rw [h2]
    rcases unw_get h2 with ⟨_, e⟩ | ⟨n, e⟩
    · rw [e, List.getD_eq_getElem?_getD, List.getElem?_eq_getElem hk]; rfl
    · rcases wipeS_get e with ⟨m, _⟩ | ⟨_, e⟩
      · exact absurd m n
      · rw [e]
  · rw [List.getElem?_eq_none (by rw [unw_len, wipeS_len]; omega), List.getElem?_eq_none (by omega)]
section
variable {K : PySem.W.Frag} {γ γ1 g : List Sl} {σ : L2.St} {F H F' H' : Hp} {vs : List Nat}
theorem wipe_env (E : En K γ σ F H) : ∀ vs : List Nat, En K (wipeS γ vs) (wipe σ vs) F H
  | [] => E
  | v :: vs => (wipe_env E vs).set_em none v
theorem wipeS_owned {a : Addr} (h : Owned (wipeS γ vs) a) : Owned γ a := by
  obtain ⟨i, m, h⟩ := h
  rcases wipeS_get h with ⟨_, z⟩ | ⟨_, z⟩
  · cases z
  · exact ⟨i, m, z⟩
theorem unwipe (E : En K γ σ F H) (A : Af K (wipeS γ vs) g (wipe σ vs) F H F' H') (n : AllN γ vs) : Af K γ (unw g γ vs) σ F H F' H' := by
  have own : ∀ {k : Nat} {a : Addr} {m : MO}, (unw g γ vs)[k]? = some (.own a m) → k ∉ vs ∧ g[k]? = some (.own a m) := fun {k a m} h => by
    rcases unw_get h with ⟨h1, h2⟩ | h
    · have := allN_get n h1
      rw [← h2] at this
      exact this.elim
    · exact h
  refine ⟨A.f, ⟨A.e.sub, ?_, fun k s h => ?_, fun i j a b m m' h1 h2 ne => A.e.inj i j a b m m' (own h1).2 (own h2).2 ne⟩, ⟨fun p o h nn => A.k.keep p o h fun z => nn (wipeS_owned z), fun a ⟨i, m, z⟩ => ?_, A.k.there⟩, fun p o h => (A.n p o h).imp id (Or.imp id wipeS_owned)⟩
  · rw [unw_len, A.e.len, wipe_length]
  · rcases unw_get h with ⟨h1, h2⟩ | ⟨h1, h2⟩
    · have hk : k < γ.length := by
        have := (List.getElem?_eq_some_iff.mp h).1
        rw [unw_len, A.e.len, wipe_length, ← E.len] at this
        exact this
      have hn := allN_get n h1
      have e : γ[k]? = some s := by rw [h2, List.getD_eq_getElem?_getD, List.getElem?_eq_getElem hk]; rfl
      have q := E.at_ k s e
      rw [← h2] at hn
      cases s with
      | em => trivial
      | val d => obtain ⟨v, q1, q2⟩ := q; exact ⟨v, q1, dp_mono A.f q2⟩
      | own a m => exact hn.elim
    · have q := A.e.at_ k s h2
      rw [wipe_out h1] at q
      exact q
  · rcases A.k.own a ⟨i, m, (own z).2⟩ with z | z
    · exact .inl (wipeS_owned z)
    · exact .inr z
theorem En.updX (E : En K g σ F H) {p : Addr} {o : HO} (h1 : F p = none) (h2 : ¬ Owned g p) : En K g σ F (L2.upd H p o) where
  sub := fun q u e => by
    by_cases z : q = p
    · subst z; rw [h1] at e; cases e
    · rw [upd_ne z]; exact E.sub _ _ e
  len := E.len
  at_ := fun i s h => by
    have q := E.at_ i s h
    cases s with
    | em => trivial
    | val d => exact q
    | own a m =>
      obtain ⟨q1, q2, ob, q3, q4⟩ := q
      exact ⟨q1, q2, ob, by rw [upd_ne (show a ≠ p by intro z; subst z; exact h2 ⟨i, m, h⟩)]; exact q3, q4⟩
  inj := E.inj
theorem wipe_eq {σ σ' : L2.St} (hl : σ'.length = σ.length) (h : ∀ j, j ∉ vs → σ'[j]? = σ[j]?) : wipe σ' vs = wipe σ vs := by
  apply List.ext_getElem?
  intro k
  by_cases hk : k ∈ vs
  · have z : ∀ {τ : L2.St} {x : Option V}, (wipe τ vs)[k]? = some x → x = none := fun {τ x} e => by
      cases x with
      | none => rfl
      | some v => exact absurd hk (wipe_some e).2
    by_cases hs : k < σ.length
    · have h1 : k < (wipe σ vs).length := by rw [wipe_length]; exact hs
      have h2 : k < (wipe σ' vs).length := by rw [wipe_length, hl]; exact hs
      have e1 := List.getElem?_eq_getElem h1
      have e2 := List.getElem?_eq_getElem h2
      rw [e1, e2, z e1, z e2]
    · rw [List.getElem?_eq_none (by rw [wipe_length, hl]; omega), List.getElem?_eq_none (by rw [wipe_length]; omega)]
  · rw [wipe_out hk, wipe_out hk, h k hk]
end

/-! ### the comprehension -/
section
variable {X : Cx} {γ γ1 γ2 γ' g g' : List Sl} {pos pos' : Pos} {tg iter elt e : Expr} {ifs : List Expr} {scope : Scope} {own : List (Str × Nat)} {d : D} {ds : List D} {P : Post} {x y : Str} {i : Nat} {k : Bool} {m : MO} {n B : Nat} {f : Nat → D} {stay : List Sl → Prop}
/-- within any block of this comprehension -/
abbrev Cx.bk (X : Cx) (scope : Scope) (s : Shared) (H : Hp) (C : Addr) (cl : List (Str × Addr)) (fp : List Addr) : Cx := L2.Cx.blk X s H scope (compEnvC scope cl C X.env) fp
def DTs (X : Cx) (ifs : List Expr) (γ : List Sl) (b : Bool) (γ' : List Sl) : Prop := ∀ (σ : L2.St) (F H : Hp) (Q : Bool → Hp → Prop), En X.K γ σ F H →
  (∀ F' H', Af X.K γ γ' σ F H F' H' → Q b H') → ∃ t : TT, PTs X ifs t ∧ t σ H Q
def wTs (X : Cx) (ifs : List Expr) : TT := fun σ H Q => ∀ (pins : List (Addr × Obj)) (s : Shared), Inv X pins σ H s →
  wpAny (model X.prog X.w) X.A (forIn ifs true fun c r => if r = true then do let ok ← isTrue c X.env (eval c X.env); pure (ForInStep.yield ok) else pure (ForInStep.yield r)) (TP X pins σ Q) X.xe s
def DTl (X : Cx) (ifs : List Expr) (γ : List Sl) (b : Bool) (γ' : List Sl) : Prop := ∀ (σ : L2.St) (F H : Hp) (Q : Bool → Hp → Prop), En X.K γ σ F H →
  (∀ F' H', Af X.K γ γ' σ F H F' H' → Q b H') → wTs X ifs σ H Q
theorem DTl.nil : DTl X [] γ true γ := fun σ F H Q E q pins s I => pts_nil.run pins s σ H Q I (q F H (.refl E))
theorem DTl.one {c : Expr} (h : DT X c γ k γ1) : DTl X [c] γ k γ1 := fun σ F H Q E q pins s I => (pts_one ptW).run pins s σ H Q I (h σ F H Q E q)
def gU (X : Cx) (scope : Scope) (tg : Expr) : TG := fun v σ H Q => ∀ s H0 C cl fp, wG (Cx.bk X scope s H0 C cl fp) tg v σ H Q
def tU (X : Cx) (scope : Scope) (ifs : List Expr) : TT := fun σ H Q => ∀ s H0 C cl fp, wTs (Cx.bk X scope s H0 C cl fp) ifs σ H Q
def eU (X : Cx) (scope : Scope) (elt : Expr) : TE := fun σ H Q => ∀ s H0 C cl fp, wE (Cx.bk X scope s H0 C cl fp) elt σ H Q
theorem pgU {s : Shared} {H : Hp} {C : Addr} {cl : List (Str × Addr)} {fp : List Addr} : PG (Cx.bk X scope s H C cl fp) tg (gU X scope tg) := ⟨fun pins s' _ _ _ u _ I r h => h s H C cl fp pins s' u I r⟩
theorem ptU {s : Shared} {H : Hp} {C : Addr} {cl : List (Str × Addr)} {fp : List Addr} : PTs (Cx.bk X scope s H C cl fp) ifs (tU X scope ifs) := ⟨fun pins s' _ _ _ I h => h s H C cl fp pins s' I⟩
theorem peU {s : Shared} {H : Hp} {C : Addr} {cl : List (Str × Addr)} {fp : List Addr} : PE (Cx.bk X scope s H C cl fp) elt (eU X scope elt) := ⟨fun pins s' _ _ _ I h => h s H C cl fp pins s' I⟩
/-- one turn -/
def LcStep (X : Cx) (scope : Scope) (tg : Expr) (ifs : List Expr) (elt : Expr) (vs : List Nat) (d : D) (acc : List D) (g : List Sl) (J : List D → List Sl → Prop) : Prop :=
  ∃ (g2 : List Sl) (vg : List Nat) (k : Bool) (g3 : List Sl), (∀ j ∈ vg, j ∈ vs) ∧ (∀ s H C cl fp, DG (Cx.bk X scope s H C cl fp) tg d g g2 vg) ∧ (∀ s H C cl fp, DTl (Cx.bk X scope s H C cl fp) ifs g2 k g3) ∧
    (k = true → ∃ d' g4, (∀ s H C cl fp, DE (Cx.bk X scope s H C cl fp) elt g3 d' g4) ∧ J (acc ++ [d']) (wipeS g4 vs)) ∧ (k = false → J acc (wipeS g3 vs))
theorem lc_run {vs : List Nat} {σ : L2.St} {F H : Hp} {Q : VK} (hi : DI X tg iter γ n B f γ1 stay) (J : Nat → List D → List Sl → Prop) (hB : n ≤ B → n ≤ sizeLine) (hst : ∀ i acc g, J i acc g → stay g) (hac : ∀ i acc g, J i acc g → acc.length ≤ i)
    (h0 : n ≤ B → J 0 [] (wipeS γ1 vs)) (hs : ∀ i acc g, n ≤ sizeLine → i < n → J i acc g → LcStep X scope tg ifs elt vs (f i) acc g (J (i + 1))) (E : En X.K γ σ F H)
    (q : ∀ p xs acc g F1 H1 F' H', Af X.K γ γ1 σ F H F1 H1 → Af X.K (wipeS γ1 vs) g (wipe σ vs) F1 H1 F' H' → En X.K γ1 σ F1 H1 → F' p = none → H' p = some (.lst xs) → DpAll X.K F' xs acc → ¬ Owned g p → H1 p = none → J n acc g → Q (.ref p) H') :
    tLc (wI X tg iter) (gU X scope tg) (tU X scope ifs) (eU X scope elt) vs σ H Q := by
  refine hi σ F H _ E fun It F1 H1 A nB W => ?_
  intro Dd hD
  have Ew : En X.K (wipeS γ1 vs) (wipe σ vs) F1 H1 := wipe_env A.e vs
  refine ⟨fun i m H2 => ∃ g F2 xs acc, Af X.K (wipeS γ1 vs) g (wipe σ vs) F1 H1 F2 H2 ∧ F2 Dd = none ∧ H2 Dd = some (.lst xs) ∧ DpAll X.K F2 xs acc ∧ ¬ Owned g Dd ∧ J i acc g ∧ i ≤ n ∧ m = n - i, ⟨n, _, F1, [], [], (Af.refl Ew).trans ⟨Same.refl _, Ew.updX (A.e.sub.free hD) (owned_not Ew hD), ⟨fun p o h _ => ?_, fun a h => .inl h, fun p o h => ?_⟩, fun _ _ h => .inl h⟩, A.e.sub.free hD, upd_same, .nil, owned_not Ew hD, h0 nB, Nat.zero_le _, rfl⟩, fun i m H2 ⟨g, F2, xs, acc, A2, f1, f2, r2, no, j, hle, hm⟩ => ?_⟩
  · rw [upd_ne (ne_of_none h hD)]; exact h
  · exact ⟨o, by rw [upd_ne (ne_of_none h hD)]; exact h⟩
  by_cases hlt : i < n
  · refine .inr ⟨W.go i g (wipe σ vs) F2 H2 hlt (hst i acc g j) A2.f A2.e, fun H3 => ∃ g3 F3 xs3 acc3, Af X.K (wipeS γ1 vs) g3 (wipe σ vs) F1 H1 F3 H3 ∧ F3 Dd = none ∧ H3 Dd = some (.lst xs3) ∧ DpAll X.K F3 xs3 acc3 ∧ ¬ Owned g3 Dd ∧ J (i + 1) acc3 g3,
      fun H3 ⟨g3, F3, xs3, acc3, A3, f3, f4, r3, no3, j3⟩ => ⟨n - (i + 1), by omega, g3, F3, xs3, acc3, A3, f3, f4, r3, no3, j3, hlt, rfl⟩, fun x H3 hy => ?_⟩
    obtain ⟨rfl, r⟩ := W.yld i g (wipe σ vs) F2 H2 H3 x hlt (hst i acc g j) A2.f A2.e hy
    obtain ⟨g2, vg, k, g3, hv, hg, ht, he, hn⟩ := hs i acc g (hB nB) hlt j
    intro s H0 C cl fp
    refine hg s H0 C cl fp x (wipe σ vs) F2 H3 _ A2.e r fun σ4 E4 l4 n4 k4 => ⟨?_, ?_⟩
    · rw [wipe_eq l4 fun jx hj => n4 jx fun z => hj (hv jx z), wipe_eq (wipe_length σ vs) fun jx hj => wipe_out hj]
    · have w4 : wipe σ4 vs = wipe σ vs := by rw [wipe_eq l4 fun jx hj => n4 jx fun z => hj (hv jx z), wipe_eq (wipe_length σ vs) fun jx hj => wipe_out hj]
      have A4 : Af X.K g g2 σ4 F2 H3 F2 H3 := ⟨Same.refl _, E4, k4, fun _ _ h => .inl h⟩
      -- what stands behind a turn
      have fin : ∀ {gx : List Sl} {Fx Hx : Hp}, Af X.K g gx σ4 F2 H3 Fx Hx → Fx Dd = none ∧ Hx Dd = some (.lst xs) ∧ ¬ Owned gx Dd ∧ Af X.K (wipeS γ1 vs) (wipeS gx vs) (wipe σ vs) F1 H1 Fx Hx := fun {gx Fx Hx} Ax => by
        have hx := Ax.k.keep Dd _ f2 no
        have ho : ¬ Owned gx Dd := fun z => by
          rcases Ax.k.own Dd z with z | z
          · exact no z
          · rw [f2] at z; cases z
        refine ⟨?_, hx, ho, ?_⟩
        · cases z : Fx Dd with
          | none => rfl
          | some u =>
            rcases Ax.n Dd u z with y | y | y
            · rw [f1] at y; cases y
            · rw [f2] at y; cases y
            · exact absurd y no
        · have e5 := wipe_env Ax.e vs
          rw [w4] at e5
          exact ⟨A2.f.trans Ax.f, e5, ⟨(A2.k.trans Ax.k).keep, fun a z => (A2.k.trans Ax.k).own a (wipeS_owned z), (A2.k.trans Ax.k).there⟩, fun p o h => by
            rcases Ax.n p o h with h | h | h
            · exact A2.n p o h
            · exact .inr (.inl (A2.k.free h))
            · rcases A2.k.own p h with h | h
              · exact .inr (.inr h)
              · exact .inr (.inl h)⟩
      intro s5 H5 C5 cl5 fp5
      refine ht s5 H5 C5 cl5 fp5 σ4 F2 H3 _ E4 fun F6 H6 A6 => ?_
      have A46 := A4.trans A6
      cases k with
      | true =>
        rw [if_pos rfl]
        obtain ⟨d', g4, hel, j4⟩ := he rfl
        intro s7 H7 C7 cl7 fp7
        refine hel s7 H7 C7 cl7 fp7 σ4 F6 H6 _ A6.e fun yv F8 H8 A8 r8 => ?_
        have Ax := A46.trans A8
        obtain ⟨x1, x2, x3, x4⟩ := fin Ax
        refine ⟨xs, x2, ?_, wipeS g4 vs, F8, xs ++ [yv], acc ++ [d'], ⟨x4.f, x4.e.updX x1 fun z => x3 (wipeS_owned z), ⟨fun p o h n => ?_, x4.k.own, fun p o h => ?_⟩, x4.n⟩, x1, upd_same, dpa_app (dpa_mono Ax.f r2) (.cons r8 .nil), fun z => x3 (wipeS_owned z), j4⟩
        · rw [dpa_len r2]
          have z1 := hac i acc g j
          have z2 := hB nB
          omega
        · rw [upd_ne (ne_of_none h hD)]; exact x4.k.keep p o h n
        · rw [upd_ne (ne_of_none h hD)]; exact x4.k.there p o h
      | false =>
        rw [if_neg Bool.false_ne_true]
        obtain ⟨x1, x2, x3, x4⟩ := fin A46
        exact ⟨wipeS g3 vs, F6, xs, acc, x4, x1, x2, dpa_mono A46.f r2, fun z => x3 (wipeS_owned z), hn rfl⟩
  · have e : i = n := by omega
    subst e
    exact .inl ⟨W.stop g (wipe σ vs) F2 H2 (hst _ acc g j) A2.f A2.e, q Dd xs acc g F1 H1 F2 H2 A A2 A.e f1 f2 r2 no hD j⟩
/-- [elt for tg in iter if ..], a new list -/
theorem DF.lc {vs : List Nat} (hc : X.calm = true) (hN : X.N.Nodup) (ok : BlkOk X.N X.env.scope scope own) (hv : own.map (·.2) = vs) (hi : DI X tg iter γ n B f γ1 stay) (J : Nat → List D → List Sl → Prop) (hB : n ≤ B → n ≤ sizeLine) (hst : ∀ i acc g, J i acc g → stay g)
    (hac : ∀ i acc g, J i acc g → acc.length ≤ i) (h0 : n ≤ B → J 0 [] (wipeS γ1 vs)) (hs : ∀ i acc g, n ≤ sizeLine → i < n → J i acc g → LcStep X scope tg ifs elt vs (f i) acc g (J (i + 1))) (hn : AllN γ1 vs)
    (hd : ∀ acc g, J n acc g → acc = ds ∧ unw g γ1 vs = γ') (hf : ∀ x, foldedSetIterable iter X.env x = pure x := by intro _; rfl) :
    DF X (.ListComp elt [⟨tg, iter, ifs, 0⟩] scope pos) γ (.lst ds) γ' := fun σ F H Q E q => by
  subst hv
  refine wE_of (pe_lc hc hN piW ok (fun _ _ _ _ _ => pgU) (fun _ _ _ _ _ => ptU) (fun _ _ _ _ _ => peU) hf) (lc_run hi J hB hst hac h0 hs E fun p xs acc g F1 H1 F' H' A1 A2 E1 f1 f2 r no hp j => ?_)
  obtain ⟨rfl, rfl⟩ := hd acc g j
  have A3 := unwipe E1 A2 hn
  refine q p (.lst xs) F' H' (A1.trans A3) f1 f2 ⟨xs, rfl, r⟩ (fun z => ?_) (A1.k.free hp)
  obtain ⟨k, m, z⟩ := z
  rcases unw_get z with ⟨z1, z2⟩ | ⟨_, z2⟩
  · have := allN_get hn z1
    rw [← z2] at this
    exact this.elim
  · exact no ⟨k, m, z2⟩
/-- y = [..], y a local: owned -/
theorem DS.setLc {vs : List Nat} {py : Pos} (hc : X.calm = true) (hN : X.N.Nodup) (hy : X.N[i]? = some y) (hyl : X.env.scope.names.lookup y = some .local)
    (hsw : swapsWith (.ListComp elt [⟨tg, iter, ifs, 0⟩] scope pos) (some (.Name y py)) pos'.line X.env = pure true)
    (ok : BlkOk X.N X.env.scope scope own) (hv : own.map (·.2) = vs) (hi : DI X tg iter γ n B f γ1 stay) (J : Nat → List D → List Sl → Prop) (hB : n ≤ B → n ≤ sizeLine) (hst : ∀ i acc g, J i acc g → stay g)
    (hac : ∀ i acc g, J i acc g → acc.length ≤ i) (h0 : n ≤ B → J 0 [] (wipeS γ1 vs)) (hs : ∀ i acc g, n ≤ sizeLine → i < n → J i acc g → LcStep X scope tg ifs elt vs (f i) acc g (J (i + 1))) (hn : AllN γ1 vs)
    (hd : ∀ acc g, J n acc g → acc = ds ∧ unw g γ1 vs = γ') (q : ∀ p, ¬ Owned γ' p → P.nx (γ'.set i (.own p (.lst ds)))) (hf : ∀ x, foldedSetIterable iter X.env x = pure x := by intro _; rfl) :
    DS X (.Assign [.Name y py] (.ListComp elt [⟨tg, iter, ifs, 0⟩] scope pos) pos') γ P := fun σ F H Dn E fi => by
  subst hv
  refine wS_of (ps_setLc hc hN hy hyl hsw piW ok (fun _ _ _ _ _ => pgU) (fun _ _ _ _ _ => ptU) (fun _ _ _ _ _ => peU) hf) (lc_run hi J hB hst hac h0 hs E fun p xs acc g F1 H1 F' H' A1 A2 E1 f1 f2 r no hp j => ?_)
  obtain ⟨rfl, rfl⟩ := hd acc g j
  have A3 := unwipe E1 A2 hn
  have no' : ¬ Owned (unw g γ1 (own.map (·.2))) p := fun ⟨k, m, z⟩ => by
    rcases unw_get z with ⟨z1, z2⟩ | ⟨_, z2⟩
    · have := allN_get hn z1
      rw [← z2] at this
      exact this.elim
    · exact no ⟨k, m, z2⟩
  exact fi.nx _ _ F' H' (set_own_af (A1.trans A3) f1 f2 (RepM.lst r) no' (A1.k.free hp)) (q p no')
/-- what a slot owns becomes a value -/
theorem fz_af {K : PySem.W.Frag} {σ : L2.St} {F H : Hp} {p : Addr} (E : En K γ σ F H) (h : γ[i]? = some (.own p (.lst ds))) : ∃ F', Af K γ (γ.set i (.val (.list ds))) σ F H F' H := by
  obtain ⟨e1, e2, o, e3, xs, rfl, e4⟩ := E.own h
  refine ⟨L2.upd F p (.lst xs), same_upd e2, E.freeze h e3 e4, ⟨fun p o q _ => q, fun p q => .inl (Owned.of_set (fun m z => by cases z) q), fun p o q => ⟨o, q⟩⟩, fun a o q => ?_⟩
  by_cases z : a = p
  · subst z; exact .inr (.inr ⟨i, _, h⟩)
  · rw [upd_ne z] at q; exact .inl q
theorem DB.fz {sts : List Stmt} {p : Addr} (h : γ[i]? = some (.own p (.lst ds))) (q : DB X sts (γ.set i (.val (.list ds))) P) : DB X sts γ P := fun σ F H Dn E f => by
  obtain ⟨F', A⟩ := fz_af E h
  exact q σ F' H Dn A.e (f.step A)
theorem DS.fz {st : Stmt} {p : Addr} (h : γ[i]? = some (.own p (.lst ds))) (q : DS X st (γ.set i (.val (.list ds))) P) : DS X st γ P := fun σ F H Dn E f => by
  obtain ⟨F', A⟩ := fz_af E h
  exact q σ F' H Dn A.e (f.step A)

/-! ### typed sources -/
/-- what is walked: the data c x of the x in xs -/
def DX {α : Type} (X : Cx) (tg iter : Expr) (γ : List Sl) (c : α → D) (xs : List α) (B : Nat) (γ' : List Sl) (stay : List Sl → Prop) : Prop := ∃ f : Nat → D, (∀ i x, xs[i]? = some x → f i = c x) ∧ DI X tg iter γ xs.length B f γ' stay
def irange (lo : Int) (n : Nat) : List Int := (List.range n).map fun (i : Nat) => lo + (i : Int)
variable {α β : Type} {c : α → D} {c' : β → D} {xs : List α}
theorem DX.seq {src : Src} {kk : Bool} (h : DQ X iter γ src kk (xs.map c) γ1) : DX X tg iter γ c xs sizeLine γ1 (src.stays γ1) :=
  ⟨fun i => (xs.map c).getD i .none, fun i x e => by show (xs.map c).getD i .none = c x; rw [List.getD_eq_getElem?_getD, List.getElem?_map, e]; rfl, by
    have := DI.seq (tg := tg) h
    rw [List.length_map] at this; exact this⟩
theorem irange_len {lo : Int} {n : Nat} : (irange lo n).length = n := by unfold irange; rw [List.length_map, List.length_range]
theorem irange_get {lo : Int} {n i : Nat} {x : Int} (h : (irange lo n)[i]? = some x) : x = lo + i ∧ i < n := by
  have hl := (List.getElem?_eq_some_iff.mp h).1
  rw [irange_len] at hl
  unfold irange at h
  rw [List.getElem?_map, List.getElem?_range hl] at h
  exact ⟨(Option.some.inj h).symm, hl⟩
theorem DX.rng1 {a : Expr} {p : Pos} {j : Int} (hg : Gl X "range") (hm : X.mg "range" = none) (h : DE X a γ (.int j) γ1) (h1 : -(2 ^ 62) ≤ j) (h2 : j < 2 ^ 62) (hs : starEach [a] X.env = (false, eval a X.env) :: starEach [] X.env := by rfl) :
    DX X tg (.Call (.Name "range" p) [a] [] pos) γ PyData.int (irange 0 j.toNat) (2 ^ 62) γ1 fun _ => True :=
  ⟨fun i => .int (0 + i), fun i x e => by rw [(irange_get e).1], by rw [irange_len]; exact DI.rng1 hg hm h h1 h2 hs⟩
theorem DX.rng2 {a b : Expr} {p : Pos} {i j : Int} (hg : Gl X "range") (hm : X.mg "range" = none) (h : DE X a γ (.int i) γ1) (h' : DE X b γ1 (.int j) γ2) (h1 : -(2 ^ 62) ≤ i ∧ i < 2 ^ 62) (h2 : -(2 ^ 62) ≤ j ∧ j < 2 ^ 62)
    (hs : starEach [a, b] X.env = (false, eval a X.env) :: starEach [b] X.env := by rfl) (hs2 : starEach [b] X.env = (false, eval b X.env) :: starEach [] X.env := by rfl) :
    DX X tg (.Call (.Name "range" p) [a, b] [] pos) γ PyData.int (irange i (j - i).toNat) (2 ^ 63) γ2 fun _ => True :=
  ⟨fun n => .int (i + n), fun n x e => by rw [(irange_get e).1], by rw [irange_len]; exact DI.rng2 hg hm h h' h1 h2 hs hs2⟩
theorem split_at {xs : List α} {i : Nat} (h : i < xs.length) : xs = xs.take i ++ xs[i] :: xs.drop (i + 1) := by
  rw [← List.drop_eq_getElem_cons h, List.take_append_drop]
theorem take_succ {xs : List α} {i : Nat} (h : i < xs.length) : xs.take (i + 1) = xs.take i ++ [xs[i]] := by
  rw [List.take_add_one, List.getElem?_eq_getElem h]; rfl
/-- a for over it: J by what is done -/
theorem DS.forX {body : List Stmt} (hp : PassesOwn (model X.prog X.w) X.A X.env X.xe) (hc : X.calm = true) (hi : DX X tg iter γ c xs B γ1 stay) (J : List α → List Sl → Prop) (hst : ∀ pre g, J pre g → stay g) (h0 : xs.length ≤ B → J [] γ1)
    (hs : ∀ pre z post g, xs.length ≤ B → xs = pre ++ z :: post → J pre g → ∃ g' vs, DG X tg (c z) g g' vs ∧ DB X body g' { P with nx := J (pre ++ [z]), ct := J (pre ++ [z]), bk := P.nx }) (hd : ∀ g, xs.length ≤ B → J xs g → P.nx g)
    (hf : ∀ x, foldedSetIterable iter X.env x = pure x := by intro _; rfl) : DS X (.For tg iter body [] pos) γ P := by
  obtain ⟨f, hy, hi⟩ := hi
  refine DS.for_ hp hc hi (fun i g => J (xs.take i) g) (fun i g j => hst _ g j) h0 (fun i g hB hlt j => ?_) (fun g hB j => hd g hB (by rw [List.take_length] at j; exact j)) hf
  have h := hs (xs.take i) xs[i] (xs.drop (i + 1)) g hB (split_at hlt) j
  rw [hy i _ (List.getElem?_eq_getElem hlt), take_succ hlt]
  exact h
/-- a comprehension that leaves the slots as they are: a filter and a map -/
theorem pure_step {vs : List Nat} {p : α → Bool} {fe : α → β} {xs : List α} {f : Nat → D} (hy : ∀ i x, xs[i]? = some x → f i = c x)
    (hs : ∀ z, z ∈ xs → ∃ g2 vg, (∀ j ∈ vg, j ∈ vs) ∧ (∀ s H C cl fp, DG (Cx.bk X scope s H C cl fp) tg (c z) (wipeS γ1 vs) g2 vg) ∧ (∀ s H C cl fp, DTl (Cx.bk X scope s H C cl fp) ifs g2 (p z) g2) ∧ (p z = true → ∀ s H C cl fp, DE (Cx.bk X scope s H C cl fp) elt g2 (c' (fe z)) g2) ∧ wipeS g2 vs = wipeS γ1 vs)
    (i : Nat) (acc : List D) (g : List Sl) (hi : i < xs.length) (j : acc = (((xs.take i).filter p).map fe).map c' ∧ g = wipeS γ1 vs) :
    LcStep X scope tg ifs elt vs (f i) acc g fun acc g => acc = (((xs.take (i + 1)).filter p).map fe).map c' ∧ g = wipeS γ1 vs := by
  obtain ⟨rfl, rfl⟩ := j
  obtain ⟨g2, vg, h1, h2, h3, h4, h5⟩ := hs xs[i] (List.getElem_mem hi)
  refine ⟨g2, vg, p xs[i], g2, h1, by rw [hy i _ (List.getElem?_eq_getElem hi)]; exact h2, h3, fun hp => ⟨_, g2, h4 hp, ?_, h5⟩, fun hp => ⟨?_, h5⟩⟩
  · rw [take_succ hi, List.filter_append, List.filter_cons, if_pos hp]
    simp
  · rw [take_succ hi, List.filter_append, List.filter_cons, if_neg (by rw [hp]; exact Bool.false_ne_true)]
    simp
theorem DF.map {vs : List Nat} (p : α → Bool) (fe : α → β) (hc : X.calm = true) (hN : X.N.Nodup) (ok : BlkOk X.N X.env.scope scope own) (hv : own.map (·.2) = vs) (hi : DX X tg iter γ c xs B γ1 stay) (hB : xs.length ≤ B → xs.length ≤ sizeLine) (hst : stay (wipeS γ1 vs)) (hn : AllN γ1 vs)
    (hs : ∀ z, z ∈ xs → ∃ g2 vg, (∀ j ∈ vg, j ∈ vs) ∧ (∀ s H C cl fp, DG (Cx.bk X scope s H C cl fp) tg (c z) (wipeS γ1 vs) g2 vg) ∧ (∀ s H C cl fp, DTl (Cx.bk X scope s H C cl fp) ifs g2 (p z) g2) ∧ (p z = true → ∀ s H C cl fp, DE (Cx.bk X scope s H C cl fp) elt g2 (c' (fe z)) g2) ∧ wipeS g2 vs = wipeS γ1 vs)
    (hf : ∀ x, foldedSetIterable iter X.env x = pure x := by intro _; rfl) : DF X (.ListComp elt [⟨tg, iter, ifs, 0⟩] scope pos) γ (.lst (((xs.filter p).map fe).map c')) γ1 := by
  obtain ⟨f, hy, hi⟩ := hi
  refine DF.lc hc hN ok hv hi (fun i acc g => acc = (((xs.take i).filter p).map fe).map c' ∧ g = wipeS γ1 vs) hB (fun i acc g j => j.2 ▸ hst) (fun i acc g j => ?_) (fun _ => ⟨rfl, rfl⟩) (fun i acc g _ hlt j => pure_step hy hs i acc g hlt j) hn (fun acc g j => ⟨?_, ?_⟩) hf
  · rw [j.1, List.length_map, List.length_map]
    exact Nat.le_trans (List.length_filter_le _ _) (List.length_take_le _ _)
  · rw [j.1, List.take_length]
  · rw [j.2]; exact unw_wipe _ _
theorem DS.setMap {vs : List Nat} {py : Pos} (p : α → Bool) (fe : α → β) (hc : X.calm = true) (hN : X.N.Nodup) (hy : X.N[i]? = some y) (hyl : X.env.scope.names.lookup y = some .local)
    (hsw : swapsWith (.ListComp elt [⟨tg, iter, ifs, 0⟩] scope pos) (some (.Name y py)) pos'.line X.env = pure true) (ok : BlkOk X.N X.env.scope scope own) (hv : own.map (·.2) = vs) (hi : DX X tg iter γ c xs B γ1 stay) (hB : xs.length ≤ B → xs.length ≤ sizeLine) (hst : stay (wipeS γ1 vs)) (hn : AllN γ1 vs)
    (hs : ∀ z, z ∈ xs → ∃ g2 vg, (∀ j ∈ vg, j ∈ vs) ∧ (∀ s H C cl fp, DG (Cx.bk X scope s H C cl fp) tg (c z) (wipeS γ1 vs) g2 vg) ∧ (∀ s H C cl fp, DTl (Cx.bk X scope s H C cl fp) ifs g2 (p z) g2) ∧ (p z = true → ∀ s H C cl fp, DE (Cx.bk X scope s H C cl fp) elt g2 (c' (fe z)) g2) ∧ wipeS g2 vs = wipeS γ1 vs)
    (q : ∀ a, ¬ Owned γ1 a → P.nx (γ1.set i (.own a (.lst (((xs.filter p).map fe).map c'))))) (hf : ∀ x, foldedSetIterable iter X.env x = pure x := by intro _; rfl) : DS X (.Assign [.Name y py] (.ListComp elt [⟨tg, iter, ifs, 0⟩] scope pos) pos') γ P := by
  obtain ⟨f, hyy, hi⟩ := hi
  refine DS.setLc hc hN hy hyl hsw ok hv hi (fun i acc g => acc = (((xs.take i).filter p).map fe).map c' ∧ g = wipeS γ1 vs) hB (fun i acc g j => j.2 ▸ hst) (fun i acc g j => ?_) (fun _ => ⟨rfl, rfl⟩) (fun i acc g _ hlt j => pure_step hyy hs i acc g hlt j) hn (fun acc g j => ⟨?_, ?_⟩) q hf
  · rw [j.1, List.length_map, List.length_map]
    exact Nat.le_trans (List.length_filter_le _ _) (List.length_take_le _ _)
  · rw [j.1, List.take_length]
  · rw [j.2]; exact unw_wipe _ _
end
end PD

set_option Elab.async false
set_option linter.all false
/-! PD5: built-ins over plain data. -/
namespace PD
open PySem L2 PySem.Spec PyProof.Rows

/-! ### data as the library reads it -/
theorem dp_reads {X : Cx} {pins : List (Addr × Obj)} {σ : L2.St} {F H : Hp} {s : Shared} (I : Inv X pins σ H s) (f : Same F H) {d : D} {v : V} {u : Value} (h : Dp X.K F v d) (r : RelV v u) : ∃ as, Reads s.heap u d as :=
  Dp.reads I d v u (dp_mono f h) r
theorem paired_at {α β : Type} {R : α → β → Prop} : ∀ {l : List α} {m : List β} {i : Nat} {b : β}, Paired R l m → m[i]? = some b → ∃ a, l[i]? = some a ∧ R a b
  | _, _, _, _, .nil, e => by simp at e
  | _, _, 0, _, .cons h _, e => by simp at e; subst e; exact ⟨_, rfl, h⟩
  | _, _, i + 1, b, .cons _ t, e => by
    obtain ⟨a, e1, e2⟩ := paired_at (i := i) (b := b) t (by simpa using e)
    exact ⟨a, by simpa using e1, e2⟩
/-- a sequence's items in the state -/
theorem Sq.its {X : Cx} {pins : List (Addr × Obj)} {σ : L2.St} {F H : Hp} {s : Shared} {x : V} {u : Value} {kk : Bool} {ds : List D} (I : Inv X pins σ H s) (h : Sq X.K F H x kk ds) (r : RelV x u) (f : Same F H) :
    ∃ (a : Addr) (vs : List V) (its : List Value) (as : List Addr), x = .ref a ∧ u = .ref a ∧ Vals vs its ∧ DpAll X.K F vs ds ∧ ReadsAll s.heap its ds as ∧ its.length = ds.length ∧ ds.length ≤ sizeLine ∧ (kk = true → PlainL s.heap a its.toArray) ∧ (kk = false → IsTup s.heap a its.toArray) := by
  obtain ⟨a, vs, rfl, hq, hv⟩ := h
  cases r
  have hl := dpa_len hv
  cases kk with
  | true =>
    obtain ⟨its, rv, pl, hz⟩ := I.list hq
    obtain ⟨as, ra⟩ := Dp.readsAll I ds vs its (dpa_mono f hv) rv
    exact ⟨a, vs, its, as, rfl, rfl, rv, hv, ra, by rw [← rv.length, hl], by rw [← hl]; exact hz, fun _ => pl, fun z => nomatch z⟩
  | false =>
    obtain ⟨its, rv, pl, hz⟩ := I.tuple hq
    obtain ⟨as, ra⟩ := Dp.readsAll I ds vs its (dpa_mono f hv) rv
    exact ⟨a, vs, its, as, rfl, rfl, rv, hv, ra, by rw [← rv.length, hl], by rw [← hl]; exact hz, (fun z => nomatch z), fun _ => pl⟩

section
variable {X : Cx} {γ γ1 γ2 γ' : List Sl} {pos p : Pos} {e a b : Expr} {es : List Expr} {d : D} {ds : List D} {src : Src} {kk : Bool} {x : Str} {id T : String} {r : List V → Hp → VK → Prop}
/-! ### calls with one sequence -/
def CQ (K : PySem.W.Frag) (r : List V → Hp → VK → Prop) (kk : Bool) (ds : List D) (d : D) : Prop := ∀ (v : V) (F H : Hp) (Q : VK), Same F H → Sq K F H v kk ds → (∀ z F' H', Grow F H F' H' → Dp K F' z d → Q z H') → r [v] H Q
theorem DE.callQ (hc : CallR X (.builtin id) r) (hg : Gl X x) (hm : X.mg x = none) (hv : bootBuiltins x = some (.builtin id)) (ha : DQ X e γ src kk ds γ1) (hr : CQ X.K r kk ds d) (hn : x ≠ "__name__" := by decide) (hdb : (x == ("__debug__" : Str)) = false := by decide)
    (he : starEach [e] X.env = (false, eval e X.env) :: starEach [] X.env := by rfl) (hpl : (backTo pos (starEach [] X.env)).any (·.1) = false := by rfl) : DE X (.Call (.Name x p) [e] [] pos) γ d γ1 := fun σ F H Q E q =>
  wE_of (pe_callB hc hg hm hv (pa_cons peW pa_nil he) hn hdb he hpl) (ha σ F H _ E fun v F1 H1 a1 r1 => hr v F1 H1 Q a1.e.sub (r1.sq a1.e) fun z F' H' g r2 => q z F' H' (a1.grow g) r2)
theorem DE.tyQ (hc : CallR X (.type T) r) (hg : Gl X x) (hm : X.mg x = none) (hv : bootBuiltins x = some (.type T)) (ha : DQ X e γ src kk ds γ1) (hr : CQ X.K r kk ds d) (hn : x ≠ "__name__" := by decide) (hdb : (x == ("__debug__" : Str)) = false := by decide)
    (he : starEach [e] X.env = (false, eval e X.env) :: starEach [] X.env := by rfl) (hpl : (backTo pos (starEach [] X.env)).any (·.1) = false := by rfl) : DE X (.Call (.Name x p) [e] [] pos) γ d γ1 := fun σ F H Q E q =>
  wE_of (pe_callTy hc hg hm hv (pa_cons peW pa_nil he) hn hdb he hpl) (ha σ F H _ E fun v F1 H1 a1 r1 => hr v F1 H1 Q a1.e.sub (r1.sq a1.e) fun z F' H' g r2 => q z F' H' (a1.grow g) r2)
/-- .. that gives a new list -/
def CN (K : PySem.W.Frag) (r : List V → Hp → VK → Prop) (kk : Bool) (ds es : List D) : Prop := ∀ (v : V) (F H : Hp) (Q : VK), Same F H → Sq K F H v kk ds → (∀ p vs, H p = none → DpAll K F vs es → Q (.ref p) (L2.upd H p (.lst vs))) → r [v] H Q
theorem DF.callN {es' : List D} (hc : CallR X (.builtin id) r) (hg : Gl X x) (hm : X.mg x = none) (hv : bootBuiltins x = some (.builtin id)) (ha : DQ X e γ src kk ds γ1) (hr : CN X.K r kk ds es') (hn : x ≠ "__name__" := by decide) (hdb : (x == ("__debug__" : Str)) = false := by decide)
    (he : starEach [e] X.env = (false, eval e X.env) :: starEach [] X.env := by rfl) (hpl : (backTo pos (starEach [] X.env)).any (·.1) = false := by rfl) : DF X (.Call (.Name x p) [e] [] pos) γ (.lst es') γ1 := fun σ F H Q E q =>
  wE_of (pe_callB hc hg hm hv (pa_cons peW pa_nil he) hn hdb he hpl) (ha σ F H _ E fun v F1 H1 a1 r1 => hr v F1 H1 Q a1.e.sub (r1.sq a1.e) fun p vs hp rv => fresh_fin a1 hp (.lst rv) q)
theorem DF.tyN {es' : List D} (hc : CallR X (.type T) r) (hg : Gl X x) (hm : X.mg x = none) (hv : bootBuiltins x = some (.type T)) (ha : DQ X e γ src kk ds γ1) (hr : CN X.K r kk ds es') (hn : x ≠ "__name__" := by decide) (hdb : (x == ("__debug__" : Str)) = false := by decide)
    (he : starEach [e] X.env = (false, eval e X.env) :: starEach [] X.env := by rfl) (hpl : (backTo pos (starEach [] X.env)).any (·.1) = false := by rfl) : DF X (.Call (.Name x p) [e] [] pos) γ (.lst es') γ1 := fun σ F H Q E q =>
  wE_of (pe_callTy hc hg hm hv (pa_cons peW pa_nil he) hn hdb he hpl) (ha σ F H _ E fun v F1 H1 a1 r1 => hr v F1 H1 Q a1.e.sub (r1.sq a1.e) fun p vs hp rv => fresh_fin a1 hp (.lst rv) q)

/-! ### len, tuple, list -/
theorem DE.len (hg : Gl X "len") (hm : X.mg "len" = none) (ha : DQ X e γ src kk ds γ1) (he : starEach [e] X.env = (false, eval e X.env) :: starEach [] X.env := by rfl) (hpl : (backTo pos (starEach [] X.env)).any (·.1) = false := by rfl) :
    DE X (.Call (.Name "len" p) [e] [] pos) γ (.int (ds.length : Int)) γ1 :=
  DE.callQ call_len_seq hg hm PySem.boot_len ha (fun v F H Q _ s q => by
    obtain ⟨a, vs, rfl, hq, hv⟩ := s
    refine ⟨a, vs, rfl, ?_, by rw [dpa_len hv]; exact q _ F H (.refl _ _) (.int _)⟩
    cases kk with
    | true => exact .inl hq
    | false => exact .inr hq) (he := he) (hpl := hpl)
theorem DE.tuple (hg : Gl X "tuple") (hm : X.mg "tuple" = none) (ha : DQ X e γ src true ds γ1) (he : starEach [e] X.env = (false, eval e X.env) :: starEach [] X.env := by rfl) (hpl : (backTo pos (starEach [] X.env)).any (·.1) = false := by rfl) :
    DE X (.Call (.Name "tuple" p) [e] [] pos) γ (.tuple ds) γ1 :=
  DE.tyQ call_tuple_of hg hm PyProof.Rows.boot_tuple ha (fun v F H Q sm s q => by
    obtain ⟨a, vs, rfl, hq, hv⟩ := s
    refine ⟨a, vs, rfl, .inl ⟨hq, fun l hl => ?_⟩⟩
    have g : Grow F H (L2.upd F l (.tup vs)) (L2.upd H l (.tup vs)) := .new sm hl
    exact q _ _ _ g (.tup (.of upd_same) (dpa_mono g.ff hv))) (he := he) (hpl := hpl)
theorem DE.tupleT (hg : Gl X "tuple") (hm : X.mg "tuple" = none) (ha : DE X e γ (.tuple ds) γ1) (he : starEach [e] X.env = (false, eval e X.env) :: starEach [] X.env := by rfl) (hpl : (backTo pos (starEach [] X.env)).any (·.1) = false := by rfl) :
    DE X (.Call (.Name "tuple" p) [e] [] pos) γ (.tuple ds) γ1 :=
  DE.callTy call_tuple_of hg hm PyProof.Rows.boot_tuple (.cons ha .nil he) (fun vs F H Q sm s q => by
    cases s with
    | cons h1 h2 =>
      cases h2
      cases h1 with
      | tup hq hv => exact ⟨_, _, rfl, .inr ⟨sqT_mono sm hq, q _ F H (.refl _ _) (.tup hq hv)⟩⟩) (he := he) (hpl := hpl)
theorem DF.list (hg : Gl X "list") (hm : X.mg "list" = none) (ha : DQ X e γ src kk ds γ1) (he : starEach [e] X.env = (false, eval e X.env) :: starEach [] X.env := by rfl) (hpl : (backTo pos (starEach [] X.env)).any (·.1) = false := by rfl) :
    DF X (.Call (.Name "list" p) [e] [] pos) γ (.lst ds) γ1 :=
  DF.tyN call_list_of hg hm PyProof.Rows.boot_list ha (fun v F H Q sm s q => by
    obtain ⟨a, vs, rfl, hq, hv⟩ := s
    refine ⟨a, vs, rfl, ?_, fun l hl => q l vs hl hv⟩
    cases kk with
    | true => exact .inl hq
    | false => exact .inr hq) (he := he) (hpl := hpl)

/-! ### numbers -/
variable {i j : Int} {k : Bool}
theorem DE.abs (hg : Gl X "abs") (hm : X.mg "abs" = none) (ha : DE X e γ (.int i) γ1) (he : starEach [e] X.env = (false, eval e X.env) :: starEach [] X.env := by rfl) (hpl : (backTo pos (starEach [] X.env)).any (·.1) = false := by rfl) :
    DE X (.Call (.Name "abs" p) [e] [] pos) γ (.int (i.natAbs : Int)) γ1 :=
  DE.callB call_abs hg hm (by decide +kernel) (.cons ha .nil he) (fun vs F H Q sm s q => by
    cases s with
    | cons h1 h2 =>
      cases h2; cases h1
      refine ⟨i, rfl, ?_⟩
      rw [show (if i < 0 then -i else i) = (i.natAbs : Int) by split <;> omega]
      exact q _ F H (.refl _ _) (.int _)) (he := he) (hpl := hpl)
theorem DE.int1 (hg : Gl X "int") (hm : X.mg "int" = none) (ha : DE X e γ (.int i) γ1) (he : starEach [e] X.env = (false, eval e X.env) :: starEach [] X.env := by rfl) (hpl : (backTo pos (starEach [] X.env)).any (·.1) = false := by rfl) :
    DE X (.Call (.Name "int" p) [e] [] pos) γ (.int i) γ1 :=
  DE.callTy call_int1 hg hm PyProof.Rows.boot_int (.cons ha .nil he) (fun vs F H Q sm s q => by
    cases s with
    | cons h1 h2 => cases h2; cases h1; exact .inl ⟨i, rfl, q _ F H (.refl _ _) (.int _)⟩) (he := he) (hpl := hpl)
theorem DE.intB (hg : Gl X "int") (hm : X.mg "int" = none) (ha : DE X e γ (.bool k) γ1) (he : starEach [e] X.env = (false, eval e X.env) :: starEach [] X.env := by rfl) (hpl : (backTo pos (starEach [] X.env)).any (·.1) = false := by rfl) :
    DE X (.Call (.Name "int" p) [e] [] pos) γ (.int (if k then 1 else 0)) γ1 :=
  DE.callTy call_int1 hg hm PyProof.Rows.boot_int (.cons ha .nil he) (fun vs F H Q sm s q => by
    cases s with
    | cons h1 h2 => cases h2; cases h1; exact .inr ⟨k, rfl, q _ F H (.refl _ _) (.int _)⟩) (he := he) (hpl := hpl)
theorem DE.max2 (hc : X.calm = true) (hg : Gl X "max") (hm : X.mg "max" = none) (ha : DE X a γ (.int i) γ1) (hb : DE X b γ1 (.int j) γ2) (he : starEach [a, b] X.env = (false, eval a X.env) :: starEach [b] X.env := by rfl) (he2 : starEach [b] X.env = (false, eval b X.env) :: starEach [] X.env := by rfl)
    (hpl : (backTo pos (starEach [b] X.env)).any (·.1) = false := by rfl) : DE X (.Call (.Name "max" p) [a, b] [] pos) γ (.int (max i j)) γ2 :=
  DE.callB (call_max2 hc) hg hm (by decide +kernel) (.cons ha (.cons hb .nil he2) he) (fun vs F H Q sm s q => by
    cases s with
    | cons h1 h2 =>
      cases h2 with
      | cons h2 h3 =>
        cases h3; cases h1; cases h2
        refine ⟨i, j, rfl, ?_⟩
        rw [show (if j > i then j else i) = max i j by split <;> omega]
        exact q _ F H (.refl _ _) (.int _)) (he := he) (hpl := hpl)
theorem DE.min2 (hc : X.calm = true) (hg : Gl X "min") (hm : X.mg "min" = none) (ha : DE X a γ (.int i) γ1) (hb : DE X b γ1 (.int j) γ2) (he : starEach [a, b] X.env = (false, eval a X.env) :: starEach [b] X.env := by rfl) (he2 : starEach [b] X.env = (false, eval b X.env) :: starEach [] X.env := by rfl)
    (hpl : (backTo pos (starEach [b] X.env)).any (·.1) = false := by rfl) : DE X (.Call (.Name "min" p) [a, b] [] pos) γ (.int (min i j)) γ2 :=
  DE.callB (call_min2 hc) hg hm (by decide +kernel) (.cons ha (.cons hb .nil he2) he) (fun vs F H Q sm s q => by
    cases s with
    | cons h1 h2 =>
      cases h2 with
      | cons h2 h3 =>
        cases h3; cases h1; cases h2
        refine ⟨i, j, rfl, ?_⟩
        rw [show (if j < i then j else i) = min i j by split <;> omega]
        exact q _ F H (.refl _ _) (.int _)) (he := he) (hpl := hpl)

/-! ### sum -/
theorem cr_sumQ (hc : X.calm = true) : CallR X (.builtin "sum") (fun vs H Q => ∃ (v : V) (F : Hp) (ns : List Int), vs = [v] ∧ Same F H ∧ Sq X.K F H v kk (ns.map PyData.int) ∧ Q (.int ns.sum) H) := by
  intro pins s σ H vs us Q I r h
  obtain ⟨v, F, ns, rfl, sm, sq, q⟩ := h
  obtain ⟨u, rfl, ru⟩ := Vals.one r
  obtain ⟨a, vv, its, as, rfl, rfl, rv, hv, ra, hl, hz, k1, k2⟩ := sq.its I ru sm
  rw [dpa_ints hv] at rv
  cases kk with
  | true => exact cr_sum hc pins s σ H [.ref a] [.ref a] Q I r ⟨a, ns, rfl, by obtain ⟨a', vs', e, hq, hv'⟩ := sq; cases e; rw [dpa_ints hv'] at hq; exact hq, q⟩
  | false =>
    have hi := rv.ints
    obtain ⟨xs, hx⟩ := hi.allInts.items
    have hn : numsOf its.toArray.toList = ns := by rw [show its.toArray.toList = its from rfl, hi.numsOf]
    have ht := k2 rfl
    rw [hx] at ht hn
    rw [nums_intItems] at hn
    refine PySem.W.ktm_sumG (I.ok.hd hc) ht fun h' tk t' hk => ?_
    have e : preSum (numAt xs) xs.size = ns.sum := by
      rw [preSum_eq, List.take_of_length_le (by simp), hn]
    exact ⟨.int ns.sum, H, I.kept hk, ⟨_, by rw [e]⟩, q⟩
theorem DE.sum {ns : List Int} (hc : X.calm = true) (hg : Gl X "sum") (hm : X.mg "sum" = none) (ha : DQ X e γ src kk (ns.map PyData.int) γ1) (he : starEach [e] X.env = (false, eval e X.env) :: starEach [] X.env := by rfl) (hpl : (backTo pos (starEach [] X.env)).any (·.1) = false := by rfl) :
    DE X (.Call (.Name "sum" p) [e] [] pos) γ (.int ns.sum) γ1 :=
  DE.callQ (cr_sumQ (kk := kk) hc) hg hm PyProof.Rows.boot_sum ha (fun v F H Q sm s q => ⟨v, F, ns, rfl, sm, s, q _ F H (.refl _ _) (.int _)⟩) (he := he) (hpl := hpl)

/-! ### min, max of data -/
theorem cr_minD (hc : X.calm = true) (hu : X.A.units + 200 < cLine) : CallR X (.builtin "min") (fun vs H Q => ∃ (v : V) (F : Hp) (d0 : D) (ds : List D), vs = [v] ∧ Same F H ∧ Sq X.K F H v kk (d0 :: ds) ∧ PySem.W.AlikeAll (d0 :: ds) ∧ PyData.depthAll (d0 :: ds) ≤ 100 ∧
    ∀ z, Dp X.K F z (PySem.W.minD d0 ds) → Q z H) := by
  intro pins s σ H vs us Q I r h
  obtain ⟨v, F, d0, ds, rfl, sm, sq, ha, hd, q⟩ := h
  obtain ⟨u, rfl, ru⟩ := Vals.one r
  obtain ⟨a, vv, its, as, rfl, rfl, rv, hv, ra, hl, hz, k1, k2⟩ := sq.its I ru sm
  have fin : ∀ (n : Nat) (z : Value) (h' : Heap) (tk : Nat) (bs : List Addr), its.toArray[n]? = some z → Reads h' z (PySem.W.minD d0 ds) bs → (∀ b o, s.heap.get? b = some o → h'.get? b = some o) → EP X pins σ Q z { s with heap := h', toks := tk } := fun n z h' tk bs e1 e2 hk => by
    obtain ⟨zv, e3, e4⟩ := paired_at (i := n) (b := z) rv (by simpa using e1)
    obtain ⟨dz, e5, e6⟩ := dpa_get' hv e3
    obtain ⟨as', e7⟩ := dp_reads I sm e6 e4
    obtain ⟨e8, _⟩ := PyProof.Rows.reads_det (h := s.heap) (h' := h') (fun b o hb _ => hk b o hb) e7 e2
    exact ⟨zv, H, I.kept hk, e4, q zv (e8 ▸ e6)⟩
  cases kk with
  | true => exact PySem.W.min_list_data (I.ok.hd hc) (k1 rfl).isList (by simpa using ra) ha (by omega) fin
  | false => exact PySem.W.min_tuple_data (I.ok.hd hc) (k2 rfl) (by simpa using ra) ha (by omega) fin
theorem cr_maxD (hc : X.calm = true) (hu : X.A.units + 200 < cLine) : CallR X (.builtin "max") (fun vs H Q => ∃ (v : V) (F : Hp) (d0 : D) (ds : List D), vs = [v] ∧ Same F H ∧ Sq X.K F H v kk (d0 :: ds) ∧ PySem.W.AlikeAll (d0 :: ds) ∧ PyData.depthAll (d0 :: ds) ≤ 100 ∧
    ∀ z, Dp X.K F z (PySem.W.maxD d0 ds) → Q z H) := by
  intro pins s σ H vs us Q I r h
  obtain ⟨v, F, d0, ds, rfl, sm, sq, ha, hd, q⟩ := h
  obtain ⟨u, rfl, ru⟩ := Vals.one r
  obtain ⟨a, vv, its, as, rfl, rfl, rv, hv, ra, hl, hz, k1, k2⟩ := sq.its I ru sm
  have fin : ∀ (n : Nat) (z : Value) (h' : Heap) (tk : Nat) (bs : List Addr), its.toArray[n]? = some z → Reads h' z (PySem.W.maxD d0 ds) bs → (∀ b o, s.heap.get? b = some o → h'.get? b = some o) → EP X pins σ Q z { s with heap := h', toks := tk } := fun n z h' tk bs e1 e2 hk => by
    obtain ⟨zv, e3, e4⟩ := paired_at (i := n) (b := z) rv (by simpa using e1)
    obtain ⟨dz, e5, e6⟩ := dpa_get' hv e3
    obtain ⟨as', e7⟩ := dp_reads I sm e6 e4
    obtain ⟨e8, _⟩ := PyProof.Rows.reads_det (h := s.heap) (h' := h') (fun b o hb _ => hk b o hb) e7 e2
    exact ⟨zv, H, I.kept hk, e4, q zv (e8 ▸ e6)⟩
  cases kk with
  | true => exact PySem.W.max_list_data (I.ok.hd hc) (k1 rfl).isList (by simpa using ra) ha (by omega) fin
  | false => exact PySem.W.max_tuple_data (I.ok.hd hc) (k2 rfl) (by simpa using ra) ha (by omega) fin
/-- data that can be compared, typed: c of anything is alike, not None, not deep -/
structure Cmp {α : Type} (c : α → D) : Prop where
  al : ∀ x y, PySem.W.alike (c x) (c y) = true
  nn : ∀ x, c x ≠ .none
  dp : ∀ x, (c x).depth ≤ 60
variable {α : Type} {c : α → D}
theorem Cmp.all (h : Cmp c) (xs : List α) : PySem.W.AlikeAll (xs.map c) := ⟨fun x hx y hy => by
  obtain ⟨x', _, rfl⟩ := List.mem_map.mp hx
  obtain ⟨y', _, rfl⟩ := List.mem_map.mp hy
  exact h.al _ _, fun x hx => by
  obtain ⟨x', _, rfl⟩ := List.mem_map.mp hx
  exact h.nn _⟩
theorem Cmp.depth (h : Cmp c) : ∀ xs : List α, PyData.depthAll (xs.map c) ≤ 60
  | [] => Nat.zero_le _
  | x :: xs => by
    show max (c x).depth (PyData.depthAll (xs.map c)) ≤ 60
    have h1 := h.dp x
    have h2 := h.depth xs
    omega
theorem cmp_int : Cmp PyData.int := ⟨fun _ _ => by simp [PySem.W.alike], fun _ z => (nomatch z), fun _ => Nat.zero_le _⟩
/-- the least of x :: xs, the first of several; the greatest -/
def minC {α : Type} (c : α → D) (x : α) (xs : List α) : α := xs.foldl (fun a y => if PySem.W.dataLt (c y) (c a) then y else a) x
def maxC {α : Type} (c : α → D) (x : α) (xs : List α) : α := xs.foldl (fun a y => if PySem.W.dataLt (c a) (c y) then y else a) x
theorem minD_map (x : α) (xs : List α) : PySem.W.minD (c x) (xs.map c) = c (minC c x xs) := by
  unfold PySem.W.minD minC
  induction xs generalizing x with
  | nil => rfl
  | cons y ys ih =>
    rw [List.map_cons, List.foldl_cons, List.foldl_cons, ← ih]
    congr 1
    split <;> rfl
theorem maxD_map (x : α) (xs : List α) : PySem.W.maxD (c x) (xs.map c) = c (maxC c x xs) := by
  unfold PySem.W.maxD maxC
  induction xs generalizing x with
  | nil => rfl
  | cons y ys ih =>
    rw [List.map_cons, List.foldl_cons, List.foldl_cons, ← ih]
    congr 1
    split <;> rfl
theorem DE.minL {y : α} {xs ys : List α} (hc : X.calm = true) (hu : X.A.units + 200 < cLine) (hk : Cmp c) (hg : Gl X "min") (hm : X.mg "min" = none) (ha : DQ X e γ src kk (xs.map c) γ1) (hx : xs = y :: ys) (he : starEach [e] X.env = (false, eval e X.env) :: starEach [] X.env := by rfl)
    (hpl : (backTo pos (starEach [] X.env)).any (·.1) = false := by rfl) : DE X (.Call (.Name "min" p) [e] [] pos) γ (c (minC c y ys)) γ1 := by
  subst hx
  exact DE.callQ (cr_minD (kk := kk) hc hu) hg hm PyProof.Rows.boot_min ha (fun v F H Q sm s q => ⟨v, F, c y, ys.map c, rfl, sm, s, hk.all (y :: ys), Nat.le_trans (hk.depth (y :: ys)) (by decide), fun z hz => q z F H (.refl _ _) (by rw [← minD_map (c := c) y ys]; exact hz)⟩) (he := he) (hpl := hpl)
theorem DE.maxL {y : α} {xs ys : List α} (hc : X.calm = true) (hu : X.A.units + 200 < cLine) (hk : Cmp c) (hg : Gl X "max") (hm : X.mg "max" = none) (ha : DQ X e γ src kk (xs.map c) γ1) (hx : xs = y :: ys) (he : starEach [e] X.env = (false, eval e X.env) :: starEach [] X.env := by rfl)
    (hpl : (backTo pos (starEach [] X.env)).any (·.1) = false := by rfl) : DE X (.Call (.Name "max" p) [e] [] pos) γ (c (maxC c y ys)) γ1 := by
  subst hx
  exact DE.callQ (cr_maxD (kk := kk) hc hu) hg hm PyProof.Rows.boot_max ha (fun v F H Q sm s q => ⟨v, F, c y, ys.map c, rfl, sm, s, hk.all (y :: ys), Nat.le_trans (hk.depth (y :: ys)) (by decide), fun z hz => q z F H (.refl _ _) (by rw [← maxD_map (c := c) y ys]; exact hz)⟩) (he := he) (hpl := hpl)
theorem minC_int (n : Int) (ns : List Int) : minC PyData.int n ns = ns.foldl min n := by
  have h := (minD_map (c := PyData.int) n ns).symm.trans (PySem.W.minD_ints n ns)
  exact PyData.int.inj h
theorem maxC_int (n : Int) (ns : List Int) : maxC PyData.int n ns = ns.foldl max n := by
  have h := (maxD_map (c := PyData.int) n ns).symm.trans (PySem.W.maxD_ints n ns)
  exact PyData.int.inj h

/-! ### sorted, of a list -/
open PySem.W in
theorem eachIs_rd {h : Heap} : ∀ {its : List Value} {xs : List α} {as : List Addr}, ReadsAll h its (xs.map c) as → EachIs (fun v x => ∃ as, Reads h v (c x) as) its xs
  | [], [], _, _ => .nil
  | _ :: _, [], _, r => by cases r
  | [], _ :: _, _, r => by cases r
  | v :: its, x :: xs, _, r => by
    cases r with
    | cons r1 r2 => exact .cons ⟨_, r1⟩ (eachIs_rd r2)
theorem eachIs_dp {K : PySem.W.Frag} {F : Hp} : ∀ {vs : List V} {its : List Value} {xs : List α}, Vals vs its → DpAll K F vs (xs.map c) → PySem.W.EachIs (fun u x => ∃ v, RelV v u ∧ Dp K F v (c x)) its xs
  | [], _, [], .nil, _ => .nil
  | [], _, _ :: _, _, r => by cases r
  | _ :: _, _, [], _, r => by cases r
  | v :: vs, _, x :: xs, .cons r t, h => by
    cases h with
    | cons h1 h2 => exact .cons ⟨v, r, h1⟩ (eachIs_dp t h2)
theorem of_eachIs {K : PySem.W.Frag} {F : Hp} : ∀ {its : List Value} {xs : List α}, PySem.W.EachIs (fun u x => ∃ v, RelV v u ∧ Dp K F v (c x)) its xs → ∃ vs, Vals vs its ∧ DpAll K F vs (xs.map c)
  | _, _, .nil => ⟨[], .nil, .nil⟩
  | _, _, .cons ⟨v, r, h⟩ t => by
    obtain ⟨vs, h1, h2⟩ := of_eachIs t
    exact ⟨v :: vs, .cons r h1, .cons h h2⟩
/-- all tuples with an item, or none a tuple -/
def Srt1 {α : Type} (c : α → D) : Prop := (∀ x, ∃ y r, c x = .tuple (y :: r)) ∨ ∀ x xs, c x ≠ .tuple xs
theorem srt1_int : Srt1 PyData.int := .inr fun _ _ z => nomatch z
def srt {α : Type} (c : α → D) (xs : List α) : List α := xs.mergeSort (PySem.W.dataLe false c)
theorem cr_sortD (hu : X.A.units + 200 < cLine) (hk : Cmp c) (h1 : Srt1 c) : CallR X (.builtin "sorted") (fun vs H Q => ∃ (v : V) (F : Hp) (xs : List α), vs = [v] ∧ Same F H ∧ Sq X.K F H v true (xs.map c) ∧ ∀ p us, H p = none → DpAll X.K F us ((srt c xs).map c) → Q (.ref p) (L2.upd H p (.lst us))) := by
  intro pins s σ H vs us Q I r h
  obtain ⟨v, F, xs, rfl, sm, sq, q⟩ := h
  obtain ⟨u, rfl, ru⟩ := Vals.one r
  obtain ⟨a, vv, its, as, rfl, rfl, rv, hv, ra, hl, hz, k1, _⟩ := sq.its I ru sm
  rw [List.length_map] at hl hz
  have hsb : PySem.W.Sortable (xs.map c) := by
    rcases h1 with h1 | h1
    · exact .tuples h1
    · exact .others fun b => ⟨hk.nn b, h1 b⟩
  refine PySem.W.sorted_data (k1 rfl).isList (eachIs_dp rv hv) (eachIs_rd ra) (.of hk.al) hsb hz (fun b _ => by have := hk.dp b; omega) fun out ho eo => ?_
  obtain ⟨ws, r1, r2⟩ := of_eachIs eo
  obtain ⟨ep, he'⟩ := PyProof.Rows.sortedAll_at s.heap its out.toArray
  have hlen : ws.length ≤ sizeLine := by rw [r1.length, ho]; exact hz
  have hn : H (s.heap.objs.size + 1) = none := I.hok.fresh (Nat.le_succ _)
  exact ⟨.ref _, L2.upd H (s.heap.objs.size + 1) (.lst ws), I.laid (t' := s.toks) (fun _ _ => PyProof.Rows.sortedAll_old) (Nat.le_succ _) ⟨hlen, out, ep, r1, he'⟩, rfl, q _ ws hn r2⟩
theorem DF.sorted {xs : List α} (hu : X.A.units + 200 < cLine) (hk : Cmp c) (h1 : Srt1 c) (hg : Gl X "sorted") (hm : X.mg "sorted" = none) (ha : DQ X e γ src true (xs.map c) γ1) (he : starEach [e] X.env = (false, eval e X.env) :: starEach [] X.env := by rfl) (hpl : (backTo pos (starEach [] X.env)).any (·.1) = false := by rfl) :
    DF X (.Call (.Name "sorted" p) [e] [] pos) γ (.lst ((srt c xs).map c)) γ1 :=
  DF.callN (cr_sortD hu hk h1) hg hm PyProof.Rows.boot_sorted ha (fun v F H Q sm s q => ⟨v, F, xs, rfl, sm, s, q⟩) (he := he) (hpl := hpl)
end
end PD

set_option Elab.async false
set_option linter.all false
/-! PD6: isinstance, in, == of data, tuples put together, slices. -/
namespace PD
open PySem L2 PySem.Spec PyProof.Rows
section
variable {X : Cx} {γ γ1 γ2 γ3 γ' : List Sl} {pos p p2 : Pos} {e a b : Expr} {es : List Expr} {d d1 d2 : D} {ds es' : List D} {src : Src} {kk : Bool} {x : Str} {k : Bool}

/-! ### isinstance -/
def tyN : D → String
  | .none => "NoneType"
  | .bool _ => "bool"
  | .int _ => "int"
  | .str _ => "str"
  | .list _ => "list"
  | .tuple _ => "tuple"
  | .dict _ => "dict"
theorem sq_tyL {K : PySem.W.Frag} {H : Hp} {a : Addr} {vs : List V} (h : SqL K H a vs) : TyX K H (.ref a) (.type "list") := by
  rcases h with (h | ⟨o, h⟩) | ⟨o, its, n, h1, h2, _⟩
  · exact .base (.lst h)
  · exact .base (.frz h)
  · exact .kList h1 h2
theorem sq_tyT {K : PySem.W.Frag} {H : Hp} {a : Addr} {vs : List V} (h : SqT K H a vs) : TyX K H (.ref a) (.type "tuple") := by
  rcases h with (h | ⟨o, h⟩) | ⟨o, its, n, h1, h2, _⟩
  · exact .base (.tup h)
  · exact .fTuple h
  · exact .kTuple h1 h2
theorem dp_ty {K : PySem.W.Frag} {F H : Hp} {v : V} (f : Same F H) (h : Dp K F v d) : TyX K H v (.type (tyN d)) := by
  cases h with
  | non => exact .base .non
  | bl b => exact .base (.bl b)
  | int i => exact .base (.int i)
  | str x => exact .base (.str x)
  | lst hq _ => exact sq_tyL (f.seq hq)
  | tup hq _ => exact sq_tyT (sqT_mono f hq)
theorem DE.isi {T : Str} {Tn : String} (hg : Gl X "isinstance") (hm : X.mg "isinstance" = none) (hgT : Gl X T) (hmT : X.mg T = none) (hvT : bootBuiltins T = some (.type Tn)) (ha : DE X e γ d γ1) (hb : kitB (tyN d) Tn = some k)
    (hn : T ≠ "__name__" := by decide) (hd : (T == ("__debug__" : Str)) = false := by decide)
    (he : starEach [e, .Name T p2] X.env = (false, eval e X.env) :: starEach [.Name T p2] X.env := by rfl) (he2 : starEach [.Name T p2] X.env = (false, eval (.Name T p2) X.env) :: starEach [] X.env := by rfl) (hpl : (backTo pos (starEach [.Name T p2] X.env)).any (·.1) = false := by rfl) :
    DE X (.Call (.Name "isinstance" p) [e, .Name T p2] [] pos) γ (.bool k) γ1 := fun σ F H Q E q => by
  refine wE_of (pe_callB call_isi hg hm (by decide +kernel) (pa_cons peW (pa_cons (pe_bltn (v := V.ty Tn) hgT hmT hvT rfl hn hd) pa_nil he2) he) (he := he) (hpl := hpl)) (ha σ F H _ E fun v F1 H1 A r => ?_)
  exact ⟨v, .ty Tn, .type (tyN d), .type Tn, k, rfl, .ty Tn, dp_ty A.e.sub r, kit_ty hb, q _ F1 H1 A (.bl k)⟩
/-- .. of a datum whose kind is known -/
def isBl : D → Bool
  | .bool _ => true
  | _ => false
theorem kit_NoneType_bool : kitB "NoneType" "bool" = some false := by decide +kernel
theorem kit_bool_bool : kitB "bool" "bool" = some true := by decide +kernel
theorem kit_int_bool : kitB "int" "bool" = some false := by decide +kernel
theorem kit_str_bool : kitB "str" "bool" = some false := by decide +kernel
theorem kit_list_bool : kitB "list" "bool" = some false := by decide +kernel
theorem kit_tuple_bool : kitB "tuple" "bool" = some false := by decide +kernel
theorem ty_bool (h : ∀ l, d ≠ .dict l) : kitB (tyN d) "bool" = some (isBl d) := by
  cases d with
  | none => exact kit_NoneType_bool
  | bool _ => exact kit_bool_bool
  | int _ => exact kit_int_bool
  | str _ => exact kit_str_bool
  | list _ => exact kit_list_bool
  | tuple _ => exact kit_tuple_bool
  | dict l => exact absurd rfl (h l)
def isIn : D → Bool
  | .bool _ => true
  | .int _ => true
  | _ => false
theorem kit_NoneType_int : kitB "NoneType" "int" = some false := by decide +kernel
theorem kit_bool_int : kitB "bool" "int" = some true := by decide +kernel
theorem kit_int_int : kitB "int" "int" = some true := by decide +kernel
theorem kit_str_int : kitB "str" "int" = some false := by decide +kernel
theorem kit_list_int : kitB "list" "int" = some false := by decide +kernel
theorem kit_tuple_int : kitB "tuple" "int" = some false := by decide +kernel
theorem ty_int (h : ∀ l, d ≠ .dict l) : kitB (tyN d) "int" = some (isIn d) := by
  cases d with
  | none => exact kit_NoneType_int
  | bool _ => exact kit_bool_int
  | int _ => exact kit_int_int
  | str _ => exact kit_str_int
  | list _ => exact kit_list_int
  | tuple _ => exact kit_tuple_int
  | dict l => exact absurd rfl (h l)
def isSt : D → Bool
  | .str _ => true
  | _ => false
theorem kit_NoneType_str : kitB "NoneType" "str" = some false := by decide +kernel
theorem kit_bool_str : kitB "bool" "str" = some false := by decide +kernel
theorem kit_int_str : kitB "int" "str" = some false := by decide +kernel
theorem kit_str_str : kitB "str" "str" = some true := by decide +kernel
theorem kit_list_str : kitB "list" "str" = some false := by decide +kernel
theorem kit_tuple_str : kitB "tuple" "str" = some false := by decide +kernel
theorem ty_str (h : ∀ l, d ≠ .dict l) : kitB (tyN d) "str" = some (isSt d) := by
  cases d with
  | none => exact kit_NoneType_str
  | bool _ => exact kit_bool_str
  | int _ => exact kit_int_str
  | str _ => exact kit_str_str
  | list _ => exact kit_list_str
  | tuple _ => exact kit_tuple_str
  | dict l => exact absurd rfl (h l)
def isTu : D → Bool
  | .tuple _ => true
  | _ => false
theorem kit_NoneType_tuple : kitB "NoneType" "tuple" = some false := by decide +kernel
theorem kit_bool_tuple : kitB "bool" "tuple" = some false := by decide +kernel
theorem kit_int_tuple : kitB "int" "tuple" = some false := by decide +kernel
theorem kit_str_tuple : kitB "str" "tuple" = some false := by decide +kernel
theorem kit_list_tuple : kitB "list" "tuple" = some false := by decide +kernel
theorem kit_tuple_tuple : kitB "tuple" "tuple" = some true := by decide +kernel
theorem ty_tuple (h : ∀ l, d ≠ .dict l) : kitB (tyN d) "tuple" = some (isTu d) := by
  cases d with
  | none => exact kit_NoneType_tuple
  | bool _ => exact kit_bool_tuple
  | int _ => exact kit_int_tuple
  | str _ => exact kit_str_tuple
  | list _ => exact kit_list_tuple
  | tuple _ => exact kit_tuple_tuple
  | dict l => exact absurd rfl (h l)
/-! ### typed data that == tells apart -/
structure Eqc {α : Type} (c : α → D) : Prop where
  cl : ∀ x, (c x).canLay0 = true
  dp : ∀ x, (c x).depth ≤ 60
  inj : ∀ x y, PyData.eqv (c x) (c y) = true ↔ x = y
variable {α β : Type} {c : α → D} {c' : β → D}
theorem eqc_int : Eqc PyData.int := ⟨fun _ => rfl, fun _ => Nat.zero_le _, fun x y => by simp [PyData.eqv]⟩
theorem eqc_bool : Eqc PyData.bool := ⟨fun _ => rfl, fun _ => Nat.zero_le _, fun x y => by simp [PyData.eqv]⟩
theorem Eqc.clAll (h : Eqc c) : ∀ xs : List α, PyData.canLayAll0 (xs.map c) = true
  | [] => rfl
  | x :: xs => by
    show (PyData.canLay0 (c x) && PyData.canLayAll0 (xs.map c)) = true
    rw [h.cl, h.clAll xs]; rfl
theorem Eqc.dpAll (h : Eqc c) : ∀ xs : List α, PyData.depthAll (xs.map c) ≤ 60
  | [] => Nat.zero_le _
  | x :: xs => by
    show max (c x).depth (PyData.depthAll (xs.map c)) ≤ 60
    have h1 := h.dp x
    have h2 := h.dpAll xs
    omega
theorem Eqc.shaped (h : Eqc c) (x : α) : SeqAt.shaped (c x) = true := by
  unfold SeqAt.shaped
  rw [h.cl, Bool.true_and]
  exact decide_eq_true (Nat.le_trans (h.dp x) (by decide))
theorem Eqc.eqv [DecidableEq α] (h : Eqc c) (x y : α) : PyData.eqv (c x) (c y) = decide (x = y) := by
  rw [Bool.eq_iff_iff, h.inj, decide_eq_true_iff]
theorem Eqc.eqvAll [DecidableEq α] (h : Eqc c) : ∀ xs ys : List α, PyData.eqvAll (xs.map c) (ys.map c) = decide (xs = ys)
  | [], [] => by simp [PyData.eqvAll]
  | [], _ :: _ => by simp [PyData.eqvAll]
  | _ :: _, [] => by simp [PyData.eqvAll]
  | x :: xs, y :: ys => by
    show (PyData.eqv (c x) (c y) && PyData.eqvAll (xs.map c) (ys.map c)) = _
    rw [h.eqv, h.eqvAll xs ys, Bool.eq_iff_iff]
    simp
theorem depth_tup (ds : List D) : PyData.depth (.tuple ds) = PyData.depthAll ds + 1 := by first | rfl | simp [PyData.depth]
theorem depth_lst (ds : List D) : PyData.depth (.list ds) = PyData.depthAll ds + 1 := by first | rfl | simp [PyData.depth]
theorem R2D.eqD {dx dy : D} (hx : dx.canLay0 = true ∧ dx.depth ≤ 64) (hy : dy.canLay0 = true ∧ dy.depth ≤ 64) : R2D X.K (rEqD X.K) dx dy (.bool (PyData.eqv dx dy)) := r_eqD (by
    unfold SeqAt.shaped; rw [hx.1, Bool.true_and]; exact decide_eq_true hx.2) (by unfold SeqAt.shaped; rw [hy.1, Bool.true_and]; exact decide_eq_true hy.2)

/-! ### in -/
def rInQ (K : PySem.W.Frag) (kk neg : Bool) : R2 := fun x y H Q => ∃ (F : Hp) (d : D) (ds : List D), Same F H ∧ Dp K F x d ∧ Sq K F H y kk ds ∧ d.canLay0 = true ∧ d.depth ≤ 64 ∧ PyData.canLayAll0 ds = true ∧ Q (.bl (if neg then !(ds.any fun z => PyData.eqv z d) else ds.any fun z => PyData.eqv z d)) H
theorem op_inQ (hu : X.A.units + 200 < cLine) : OpR X (compareOp .In) (rInQ X.K kk false) := by
  intro pins s σ H x y v u Q I rx ry h
  obtain ⟨F, d, ds, sm, hd, sq, c1, c2, c3, q⟩ := h
  obtain ⟨as, r1⟩ := dp_reads I sm hd rx
  obtain ⟨a, vv, its, bs, rfl, rfl, rv, hv, ra, hl, hz, k1, k2⟩ := sq.its I ry sm
  have room : X.A.units + 1 + min (PyData.depthAll ds) d.depth < cLine := by
    have := Nat.min_le_right (PyData.depthAll ds) d.depth
    omega
  cases kk with
  | true =>
    obtain ⟨o, n, h1, h2, h3, h4⟩ := k1 rfl
    exact SeqAt.in_list_reads (.list h1 h2 h4 (by simpa using ra)) r1 c3 c1 room ⟨.bl _, H, I, rfl, q⟩
  | false =>
    obtain ⟨o, h1, h2, n, h4⟩ := k2 rfl
    exact SeqAt.in_tuple_reads (.tuple h1 h2 h4 (by simpa using ra)) r1 c3 c1 room ⟨.bl _, H, I, rfl, q⟩
theorem op_notInQ (hu : X.A.units + 200 < cLine) : OpR X (compareOp .NotIn) (rInQ X.K kk true) := by
  intro pins s σ H x y v u Q I rx ry h
  obtain ⟨F, d, ds, sm, hd, sq, c1, c2, c3, q⟩ := h
  obtain ⟨as, r1⟩ := dp_reads I sm hd rx
  obtain ⟨a, vv, its, bs, rfl, rfl, rv, hv, ra, hl, hz, k1, k2⟩ := sq.its I ry sm
  have room : X.A.units + 1 + min (PyData.depthAll ds) d.depth < cLine := by
    have := Nat.min_le_right (PyData.depthAll ds) d.depth
    omega
  cases kk with
  | true =>
    obtain ⟨o, n, h1, h2, h3, h4⟩ := k1 rfl
    exact SeqAt.notIn_list_reads (.list h1 h2 h4 (by simpa using ra)) r1 c3 c1 room ⟨.bl _, H, I, rfl, q⟩
  | false =>
    obtain ⟨o, h1, h2, n, h4⟩ := k2 rfl
    exact SeqAt.notIn_tuple_reads (.tuple h1 h2 h4 (by simpa using ra)) r1 c3 c1 room ⟨.bl _, H, I, rfl, q⟩
theorem any_eqc [DecidableEq α] (h : Eqc c) (x : α) : ∀ xs : List α, ((xs.map c).any fun z => PyData.eqv z (c x)) = decide (x ∈ xs)
  | [] => rfl
  | y :: ys => by
    rw [List.map_cons, List.any_cons, any_eqc h x ys, h.eqv, Bool.eq_iff_iff]
    rw [Bool.or_eq_true, decide_eq_true_iff, decide_eq_true_iff, decide_eq_true_iff, List.mem_cons]
    exact ⟨fun h => h.imp Eq.symm id, fun h => h.imp Eq.symm id⟩
theorem in_run [DecidableEq α] {neg : Bool} {z : α} {zs : List α} (hc : Eqc c) (ha : DE X a γ (c z) γ1) (hb : DQ X b γ1 src kk (zs.map c) γ2) {σ : L2.St} {F H : Hp} {Q : VK} (E : En X.K γ σ F H)
    (q : ∀ F' H', Af X.K γ γ2 σ F H F' H' → Q (.bl (if neg then !decide (z ∈ zs) else decide (z ∈ zs))) H') : tOp (rInQ X.K kk neg) (wE X a) (wE X b) σ H Q := by
  refine ha σ F H _ E fun v F1 H1 A r => hb σ F1 H1 _ A.e fun y F2 H2 A2 r2 => ?_
  refine ⟨F2, c z, zs.map c, A2.e.sub, dp_mono A2.f r, r2.sq A2.e, hc.cl z, Nat.le_trans (hc.dp z) (by decide), hc.clAll zs, ?_⟩
  rw [any_eqc hc]
  exact q F2 H2 (A.trans A2)
theorem DT.in_ [DecidableEq α] {z : α} {zs : List α} (hu : X.A.units + 200 < cLine) (hc : Eqc c) (ha : DE X a γ (c z) γ1) (hb : DQ X b γ1 src kk (zs.map c) γ2) (hm : behindInMarks .In b = false := by rfl) : DT X (.Compare a [.In] [b] pos) γ (decide (z ∈ zs)) γ2 := fun σ F H Q E q =>
  wT_of (pt_cmpR (op_inQ (kk := kk) hu) peW peW hm) (in_run (neg := false) hc ha hb E fun F' H' A => ⟨_, rfl, q F' H' A⟩)
theorem DT.notIn [DecidableEq α] {z : α} {zs : List α} (hu : X.A.units + 200 < cLine) (hc : Eqc c) (ha : DE X a γ (c z) γ1) (hb : DQ X b γ1 src kk (zs.map c) γ2) (hm : behindInMarks .NotIn b = false := by rfl) : DT X (.Compare a [.NotIn] [b] pos) γ (!decide (z ∈ zs)) γ2 := fun σ F H Q E q =>
  wT_of (pt_cmpR (op_notInQ (kk := kk) hu) peW peW hm) (in_run (neg := true) hc ha hb E fun F' H' A => ⟨_, rfl, q F' H' A⟩)
theorem DE.in_ [DecidableEq α] {z : α} {zs : List α} (hu : X.A.units + 200 < cLine) (hc : Eqc c) (ha : DE X a γ (c z) γ1) (hb : DQ X b γ1 src kk (zs.map c) γ2) (hm : behindInMarks .In b = false := by rfl) : DE X (.Compare a [.In] [b] pos) γ (.bool (decide (z ∈ zs))) γ2 := fun σ F H Q E q =>
  wE_of (pe_cmpR (op_inQ (kk := kk) hu) peW peW hm) (in_run (neg := false) hc ha hb E fun F' H' A => q _ F' H' A (.bl _))
theorem DE.notIn [DecidableEq α] {z : α} {zs : List α} (hu : X.A.units + 200 < cLine) (hc : Eqc c) (ha : DE X a γ (c z) γ1) (hb : DQ X b γ1 src kk (zs.map c) γ2) (hm : behindInMarks .NotIn b = false := by rfl) : DE X (.Compare a [.NotIn] [b] pos) γ (.bool (!decide (z ∈ zs))) γ2 := fun σ F H Q E q =>
  wE_of (pe_cmpR (op_notInQ (kk := kk) hu) peW peW hm) (in_run (neg := true) hc ha hb E fun F' H' A => q _ F' H' A (.bl _))

/-! ### tuples put together; lists -/
theorem dpa_nil_iff {K : PySem.W.Frag} {F : Hp} {vs : List V} {ds : List D} (h : DpAll K F vs ds) : vs = [] ↔ ds = [] := by
  cases h <;> simp
theorem r_catT (hz : ds.length + es'.length ≤ sizeLine) : R2D X.K (rCatA X.K) (.tuple ds) (.tuple es') (.tuple (ds ++ es')) := fun x y F H Q sm r1 r2 q => by
  cases r1 with
  | @tup a1 xs _ q1 h1 =>
    cases r2 with
    | @tup a2 ys _ q2 h2 =>
      refine ⟨a1, a2, xs, ys, rfl, rfl, sqT_mono sm q1, sqT_mono sm q2, by rw [dpa_len h1, dpa_len h2]; exact hz, fun e => ?_, fun _ e => ?_, fun _ _ p hp => ?_⟩
      · rw [(dpa_nil_iff h1).mp e, List.nil_append] at q
        exact q _ F H (.refl _ _) (.tup q2 h2)
      · rw [(dpa_nil_iff h2).mp e, List.append_nil] at q
        exact q _ F H (.refl _ _) (.tup q1 h1)
      · have g : Grow F H (L2.upd F p (.tup (xs ++ ys))) (L2.upd H p (.tup (xs ++ ys))) := .new sm hp
        exact q _ _ _ g (.tup (.of upd_same) (dpa_mono g.ff (dpa_app h1 h2)))

/-! ### slices -/
def cutD {α : Type} (xs : List α) (lo hi : Option Int) : List α := (xs.drop (HT.sIx xs.length 0 lo)).take (HT.sIx xs.length xs.length hi - HT.sIx xs.length 0 lo)
theorem cutD_map (f : α → β) (xs : List α) (lo hi : Option Int) : cutD (xs.map f) lo hi = (cutD xs lo hi).map f := by
  unfold cutD
  rw [List.length_map, ← List.map_drop, ← List.map_take]
theorem dpa_cut {K : PySem.W.Frag} {F : Hp} {vs : List V} {ds : List D} (h : DpAll K F vs ds) (lo hi : Option Int) : DpAll K F (cutV vs lo hi) (cutD ds lo hi) := by
  unfold cutV cutD
  rw [dpa_len h]
  exact dpa_take _ (dpa_drop _ h)
/-- a part of a slice -/
def DO (X : Cx) (e : Option Expr) (γ : List Sl) (o : Option Int) (γ' : List Sl) : Prop := ∀ (σ : L2.St) (F H : Hp) (Q : Option Int → Hp → Prop), En X.K γ σ F H → (∀ F' H', Af X.K γ γ' σ F H F' H' → Q o H') → ∀ (pins : List (Addr × Obj)) (s : Shared), Inv X pins σ H s →
  ∃ t, PO X e t ∧ t σ H Q
theorem cutD_whole {ds : List D} {lo hi : Option Int} (h : HT.sIx ds.length 0 lo = 0 ∧ HT.sIx ds.length ds.length hi = ds.length) : cutD ds lo hi = ds := by
  unfold cutD
  rw [h.1, h.2, List.drop_zero, Nat.sub_zero, List.take_length]
theorem DE.sliceT {lo hi : Option Expr} {tl th : TO} {o1 o2 : Option Int} (ha : DE X a γ (.tuple ds) γ1) (hl : PO X lo tl) (hh : PO X hi th)
    (h1 : ∀ (σ : L2.St) (F H : Hp) (Q : Option Int → Hp → Prop), En X.K γ1 σ F H → (∀ F' H', Af X.K γ1 γ2 σ F H F' H' → Q o1 H') → tl σ H Q)
    (h2 : ∀ (σ : L2.St) (F H : Hp) (Q : Option Int → Hp → Prop), En X.K γ2 σ F H → (∀ F' H', Af X.K γ2 γ3 σ F H F' H' → Q o2 H') → th σ H Q) : DE X (.Subscript a (.Slice lo hi none p2) pos) γ (.tuple (cutD ds o1 o2)) γ3 := fun σ F H Q E q => by
  refine wE_of (pe_slice sl_tupA peW hl hh) (ha σ F H _ E fun v F1 H1 A r => h1 σ F1 H1 _ A.e fun F2 H2 A2 => h2 σ F2 H2 _ A2.e fun F3 H3 A3 => ?_)
  have A' := (A.trans A2).trans A3
  have r' := dp_mono (A2.f.trans A3.f) r
  cases r' with
  | @tup a1 xs _ q1 hv =>
    refine ⟨a1, xs, rfl, sqT_mono A'.e.sub q1, fun e => ?_, fun _ p hp => ?_⟩
    · rw [dpa_len hv] at e
      rw [cutD_whole e] at q
      exact q _ F3 H3 A' (.tup q1 hv)
    · have g : Grow F3 H3 (L2.upd F3 p (.tup (cutV xs o1 o2))) (L2.upd H3 p (.tup (cutV xs o1 o2))) := .new A'.e.sub hp
      exact q _ _ _ (A'.grow g) (.tup (.of upd_same) (dpa_mono g.ff (dpa_cut hv o1 o2)))
theorem DF.sliceL {lo hi : Option Expr} {tl th : TO} {o1 o2 : Option Int} (ha : DQ X a γ src true ds γ1) (hl : PO X lo tl) (hh : PO X hi th)
    (h1 : ∀ (σ : L2.St) (F H : Hp) (Q : Option Int → Hp → Prop), En X.K γ1 σ F H → (∀ F' H', Af X.K γ1 γ2 σ F H F' H' → Q o1 H') → tl σ H Q)
    (h2 : ∀ (σ : L2.St) (F H : Hp) (Q : Option Int → Hp → Prop), En X.K γ2 σ F H → (∀ F' H', Af X.K γ2 γ3 σ F H F' H' → Q o2 H') → th σ H Q) (hst : src.stays γ1 γ3 := by first | exact trivial | rfl) : DF X (.Subscript a (.Slice lo hi none p2) pos) γ (.lst (cutD ds o1 o2)) γ3 := fun σ F H Q E q => by
  refine wE_of (pe_slice sl_list peW hl hh) (ha σ F H _ E fun v F1 H1 A r => h1 σ F1 H1 _ A.e fun F2 H2 A2 => h2 σ F2 H2 _ A2.e fun F3 H3 A3 => ?_)
  have A' := (A.trans A2).trans A3
  obtain ⟨a1, xs, rfl, hq, hv⟩ := (r.later (A2.f.trans A3.f) hst).sq A'.e
  exact ⟨a1, xs, rfl, hq, fun p hp => fresh_fin A' hp (.lst (dpa_cut hv o1 o2)) q⟩
theorem so_none : ∀ (σ : L2.St) (F H : Hp) (Q : Option Int → Hp → Prop), En X.K γ σ F H → (∀ F' H', Af X.K γ γ σ F H F' H' → Q none H') → tNoPart σ H Q := fun σ F H Q E q => q F H (.refl E)
theorem so_some {i : Int} (h : DE X e γ (.int i) γ1) : ∀ (σ : L2.St) (F H : Hp) (Q : Option Int → Hp → Prop), En X.K γ σ F H → (∀ F' H', Af X.K γ γ1 σ F H F' H' → Q (some i) H') → tPart (wE X e) σ H Q := fun σ F H Q E q =>
  h σ F H _ E fun v F' H' A r => ⟨i, dp_int r, q F' H' A⟩
end
end PD

set_option Elab.async false
set_option linter.all false
/-! PD7: mirrors of blocks, and the rules that go with them. -/
namespace PD
open PySem L2 PySem.Spec PyProof.Rows

/-! ### data of typed values -/
abbrev cT {α : Type} (c : α → D) : List α → D := fun xs => .tuple (xs.map c)
abbrev cL {α : Type} (c : α → D) : List α → D := fun xs => .list (xs.map c)
abbrev cU : Unit → D := fun _ => .none
def cO {α : Type} (c : α → D) : Option α → D
  | none => .none
  | some x => c x
abbrev c2 {α β : Type} (a : α → D) (b : β → D) : α × β → D := fun p => .tuple [a p.1, b p.2]
abbrev c3 {α β γ : Type} (a : α → D) (b : β → D) (c : γ → D) : α × β × γ → D := fun p => .tuple [a p.1, b p.2.1, c p.2.2]
abbrev c4 {α β γ δ : Type} (a : α → D) (b : β → D) (c : γ → D) (d : δ → D) : α × β × γ × δ → D := fun p => .tuple [a p.1, b p.2.1, c p.2.2.1, d p.2.2.2]
abbrev c5 {α β γ δ ε : Type} (a : α → D) (b : β → D) (c : γ → D) (d : δ → D) (e : ε → D) : α × β × γ × δ × ε → D := fun p => .tuple [a p.1, b p.2.1, c p.2.2.1, d p.2.2.2.1, e p.2.2.2.2]
/-- a list that a slot owns -/
abbrev oL {α : Type} (p : Addr) (c : α → D) (xs : List α) : Sl := .own p (.lst (xs.map c))

/-! ### mirrors -/
/-- x := v in body -/
def bnd {α β : Type} (v : α) (body : α → β) : β := body v
inductive Out (σ ρ : Type) where
  | nx (s : σ)
  | bk (s : σ)
  | rt (r : ρ)
def obind {σ ρ τ : Type} (o : Out σ ρ) (k : σ → τ) (l : ρ → τ) : τ := match o with
  | .nx s => k s
  | .bk s => k s
  | .rt r => l r
def onx {σ ρ : Type} (o : Out σ ρ) (k : σ → Out σ ρ) : Out σ ρ := match o with
  | .nx s => k s
  | .bk s => .bk s
  | .rt r => .rt r
def forO {α σ ρ : Type} (step : σ → α → Out σ ρ) : σ → List α → Out σ ρ
  | s, [] => .nx s
  | s, x :: xs => onx (step s x) fun s' => forO step s' xs
/-- Python's xs[k] -/
def ixI (n : Nat) (k : Int) : Nat := if k < 0 then (k + n).toNat else k.toNat
def ix {α : Type} [Inhabited α] (xs : List α) (k : Int) : α := xs.getD (ixI xs.length k) default
theorem ix_nn {α : Type} [Inhabited α] {xs : List α} {k : Int} (h0 : 0 ≤ k) (h1 : k < xs.length) : ix xs k = xs[k.toNat]'(by omega) := by
  unfold ix ixI
  rw [if_neg (by omega), List.getD_eq_getElem?_getD, List.getElem?_eq_getElem (by omega)]; rfl
theorem atI_ix {α : Type} [Inhabited α] {c : α → D} {xs : List α} {k : Int} (h : -(xs.length : Int) ≤ k) (h' : k < xs.length) : atI (xs.map c) k = some (c (ix xs k)) := by
  have hj : ∃ j : Nat, ixN (xs.map c).length k = some j ∧ ixI xs.length k = j ∧ j < xs.length := by
    unfold ixN ixI
    rw [List.length_map]
    by_cases hk : 0 ≤ k
    · rw [if_pos hk, if_pos h', if_neg (by omega)]
      exact ⟨_, rfl, rfl, by omega⟩
    · rw [if_neg hk, if_pos h, if_pos (by omega)]
      exact ⟨_, rfl, rfl, by omega⟩
  obtain ⟨j, e1, e2, e3⟩ := hj
  unfold atI ix
  rw [e1, e2]
  show (xs.map c)[j]? = _
  rw [List.getElem?_map, List.getElem?_eq_getElem e3, List.getD_eq_getElem?_getD, List.getElem?_eq_getElem e3]; rfl

/-! ### blocks with mirrors -/
def P_S {σ : Type} (G : σ → List Sl) (s : σ) : Post := { nx := fun g => Wk g (G s), rt := fun _ _ => False }
def P_O {σ ρ : Type} (G : σ → List Sl) (rtp : ρ → Res → List Sl → Prop) : Out σ ρ → Post
  | .nx s => { nx := fun g => Wk g (G s), rt := fun _ _ => False }
  | .bk s => { nx := fun _ => False, rt := fun _ _ => False, bk := fun g => Wk g (G s) }
  | .rt r => { nx := fun _ => False, rt := rtp r }
def P_R {ρ : Type} (γ0 : List Sl) (RR : ρ → Res) (GG : ρ → List Sl) (m : ρ) : Post := PR γ0 (RR m) (GG m)
section
variable {X : Cx} {γ γ1 γ2 : List Sl} {pos pos' : Pos} {e a b c : Expr} {st : Stmt} {rest A B : List Stmt} {d : D} {k : Bool} {ρ σ τ α β : Type} {Φ : ρ → Post}
theorem DB.step (G : α → List Sl) {v : α} {body : α → ρ} (h : DS X st γ (P_S G v)) (q : ∀ x, x = v → DB X rest (G x) (Φ (body x))) : DB X (st :: rest) γ (Φ (bnd v body)) :=
  DB.cons (DS.cut (G v) (h.imp (fun _ z => z) (fun _ _ z => z.elim) (fun _ z => z.elim) fun _ z => z.elim) (q v rfl))
/-- a statement that leaves no value of its own -/
theorem DB.skip (G : List Sl) {m : ρ} (h : DS X st γ { nx := fun g => Wk g G, rt := fun _ _ => False }) (q : DB X rest G (Φ m)) : DB X (st :: rest) γ (Φ m) :=
  DB.cons (DS.cut G (h.imp (fun _ z => z) (fun _ _ z => z.elim) (fun _ z => z.elim) fun _ z => z.elim) q)
theorem DB.stepO {σ' ρ' : Type} (G : σ' → List Sl) (rtp : ρ' → Res → List Sl → Prop) {o : Out σ' ρ'} {kk : σ' → ρ} {l : ρ' → ρ} (h : DS X st γ (P_O G rtp o)) (q : ∀ s, (o = .nx s ∨ o = .bk s) → DB X rest (G s) (Φ (kk s)))
    (hr : ∀ r res g, rtp r res g → (Φ (l r)).rt res g) (hb : ∀ s, o ≠ .bk s := by intro _ z; cases z) : DB X (st :: rest) γ (Φ (obind o kk l)) := by
  cases o with
  | nx s => exact DB.cons (DS.cut (G s) (h.imp (fun _ z => z) (fun _ _ z => z.elim) (fun _ z => z.elim) fun _ z => z.elim) (q s (.inl rfl)))
  | bk s => exact absurd rfl (hb s)
  | rt r => exact DB.cons (h.imp (fun _ z => z.elim) (fun _ _ z => hr r _ _ z) (fun _ z => z.elim) fun _ z => z.elim)
theorem DB.ifR {m1 m2 : ρ} (hc : DT X c γ k γ1) (h1 : k = true → DB X A γ1 { Φ m1 with nx := fun g => DB X rest g (Φ m1) }) (h2 : k = false → DB X B γ1 { Φ m2 with nx := fun g => DB X rest g (Φ m2) }) : DB X (.If c A B pos :: rest) γ (Φ (if k = true then m1 else m2)) := by
  refine DB.cons (DS.ite hc (fun z => ?_) fun z => ?_)
  · rw [if_pos z]; exact h1 z
  · rw [if_neg (by rw [z]; exact Bool.false_ne_true)]; exact h2 z
/-- the branch goes on to what is behind -/
theorem DB.thru {m : ρ} (h : DB X rest γ (Φ m)) : DB X [] γ { Φ m with nx := fun g => DB X rest g (Φ m) } := DB.nil h
/-- a block that ends in a return, in place of one with something behind -/
theorem DB.noNx {P : Post} {Nx : List Sl → Prop} (h : DB X A γ { P with nx := fun _ => False }) : DB X A γ { P with nx := Nx } := h.imp (fun _ z => z.elim) (fun _ _ z => z) (fun _ z => z) fun _ z => z
theorem DS.iteS {Ψ : σ → Post} {s1 s2 : σ} (hc : DT X c γ k γ1) (h1 : k = true → DB X A γ1 (Ψ s1)) (h2 : k = false → DB X B γ1 (Ψ s2)) : DS X (.If c A B pos) γ (Ψ (if k = true then s1 else s2)) := by
  refine DS.ite hc (fun z => ?_) fun z => ?_
  · rw [if_pos z]; exact h1 z
  · rw [if_neg (by rw [z]; exact Bool.false_ne_true)]; exact h2 z
theorem DB.endS {G : σ → List Sl} {s : σ} (w : Wk γ (G s)) : DB X [] γ (P_S G s) := DB.nil w
theorem DB.endO {G : σ → List Sl} {rtp : ρ → Res → List Sl → Prop} {s : σ} (w : Wk γ (G s)) : DB X [] γ (P_O G rtp (.nx s)) := DB.nil w
theorem DB.brkO {G : σ → List Sl} {rtp : ρ → Res → List Sl → Prop} {s : σ} (w : Wk γ (G s)) : DB X (.Break pos :: rest) γ (P_O G rtp (.bk s)) := DB.cons (DS.brk w)
theorem DB.retO {G : σ → List Sl} {rtp : ρ → Res → List Sl → Prop} {r : ρ} (h : DE X e γ d γ1) (q : rtp r (.v d) γ1) : DB X (.Return (some e) pos :: rest) γ (P_O G rtp (.rt r)) := DB.cons (DS.ret h q)
theorem DB.ret {P : Post} (h : DE X e γ d γ1) (q : P.rt (.v d) γ1) : DB X (.Return (some e) pos :: rest) γ P := DB.cons (DS.ret h q)
theorem DB.retF {P : Post} {m : MO} (h : DF X e γ m γ1) (q : P.rt (.f m) γ1) : DB X (.Return (some e) pos :: rest) γ P := DB.cons (DS.retF h q)
theorem DB.retOwn {P : Post} {i : Nat} {x : Str} {p : Addr} {m : MO} (hN : X.N[i]? = some x) (hv : Vis X.env.scope x) (hs : γ[i]? = some (.own p m)) (q : P.rt (.f m) (γ.set i .em)) (hd : (x == ("__debug__" : Str)) = false := by decide) (hcd : (x == ("__classdict__" : Str)) = false := by decide) :
    DB X (.Return (some (.Name x pos')) pos :: rest) γ P := DB.cons (DS.retO hN hv hs q hd hcd)
theorem DB.retNone {P : Post} (q : P.rt (.v .none) γ) : DB X [] γ { P with nx := fun g => P.rt (.v .none) g } := DB.nil q

/-! ### for, with a state -/
variable {tg iter : Expr} {ca : α → D} {xs : List α} {B1 : Nat} {stay : List Sl → Prop}
theorem DS.forS (hp : PassesOwn (model X.prog X.w) X.A X.env X.xe) (hc : X.calm = true) (G : σ → List Sl) (stp : σ → α → σ) (s0 : σ) (hi : DX X tg iter γ ca xs B1 γ1 stay) (h0 : Wk γ1 (G s0)) (hst : ∀ s, stay (G s))
    (hs : ∀ pre x post s, xs = pre ++ x :: post → xs.length ≤ B1 → s = pre.foldl stp s0 → ∃ g vs, DG X tg (ca x) (G s) g vs ∧ DB X A g (P_S G (stp s x))) (hf : ∀ x, foldedSetIterable iter X.env x = pure x := by intro _; rfl) : DS X (.For tg iter A [] pos) γ (P_S G (xs.foldl stp s0)) := by
  obtain ⟨f, hy, hi⟩ := hi
  have hi' : DI X tg iter γ xs.length B1 f (G s0) stay := fun σ F H R E q => hi σ F H R E fun J F' H' A nB W => q J F' H' (A.trans (h0.af A.e)) nB W
  refine DS.forX hp hc ⟨f, hy, hi'⟩ (fun pre g => g = G (pre.foldl stp s0)) (fun pre g e => e ▸ hst _) (fun _ => rfl) (fun pre z post g hB e j => ?_) (fun g hB j => ?_) hf
  · subst j
    obtain ⟨g', vs, h1, h2⟩ := hs pre z post _ e hB rfl
    have e2 : stp (pre.foldl stp s0) z = (pre ++ [z]).foldl stp s0 := by rw [List.foldl_append]; rfl
    refine ⟨g', vs, h1, fun σ F H Dn E f => h2 σ F H Dn E ⟨fun γ' σ' F' H' A w => ?_, fun _ _ _ _ _ _ _ _ _ z => z.elim, fun _ _ _ _ _ z => z.elim, fun _ _ _ _ _ z => z.elim⟩⟩
    have w' : Wk γ' (G (stp (pre.foldl stp s0) z)) := w
    rw [e2] at w'
    exact f.nx _ σ' F' H' (A.trans (w'.af A.e)) rfl
  · subst j
    exact Wk.refl _
theorem forO_app (stp : σ → α → Out σ ρ) : ∀ (s : σ) (xs ys : List α), forO stp s (xs ++ ys) = onx (forO stp s xs) fun s' => forO stp s' ys
  | s, [], ys => rfl
  | s, x :: xs, ys => by
    show onx (stp s x) (fun s' => forO stp s' (xs ++ ys)) = onx (onx (stp s x) fun s' => forO stp s' xs) fun s' => forO stp s' ys
    cases stp s x with
    | nx s' => exact forO_app stp s' xs ys
    | bk s' => rfl
    | rt r => rfl
theorem forO_one (stp : σ → α → Out σ ρ) (s : σ) (x : α) : forO stp s [x] = stp s x := by
  show onx (stp s x) (fun s' => .nx s') = stp s x
  cases stp s x <;> rfl
/-- behind a loop: a break is its end -/
def unbk {σ ρ : Type} : Out σ ρ → Out σ ρ
  | .bk s => .nx s
  | o => o
theorem unbk_ne {o : Out σ ρ} (s : σ) : unbk o ≠ .bk s := by
  cases o <;> (intro z; cases z)
theorem DS.forO_ {ρ' : Type} (hp : PassesOwn (model X.prog X.w) X.A X.env X.xe) (hc : X.calm = true) (G : σ → List Sl) (rtp : ρ' → Res → List Sl → Prop) (stp : σ → α → Out σ ρ') (s0 : σ) (hi : DX X tg iter γ ca xs B1 γ1 stay) (h0 : Wk γ1 (G s0)) (hst : ∀ s, stay (G s))
    (hs : ∀ pre x post s, xs = pre ++ x :: post → xs.length ≤ B1 → forO stp s0 pre = .nx s → ∃ g vs, DG X tg (ca x) (G s) g vs ∧ DB X A g (P_O G rtp (stp s x))) (hf : ∀ x, foldedSetIterable iter X.env x = pure x := by intro _; rfl) : DS X (.For tg iter A [] pos) γ (P_O G rtp (unbk (forO stp s0 xs))) := by
  obtain ⟨f, hy, hi⟩ := hi
  have hi' : DI X tg iter γ xs.length B1 f (G s0) stay := fun σ F H R E q => hi σ F H R E fun J F' H' A nB W => q J F' H' (A.trans (h0.af A.e)) nB W
  refine DS.forX hp hc ⟨f, hy, hi'⟩ (fun pre g => ∃ s, forO stp s0 pre = .nx s ∧ g = G s) (fun pre g ⟨s, _, e⟩ => e ▸ hst _) (fun _ => ⟨s0, rfl, rfl⟩) (fun pre z post g hB e ⟨s, js, j⟩ => ?_) (fun g hB ⟨s, js, j⟩ => ?_) hf
  · subst j
    obtain ⟨g', vs, h1, h2⟩ := hs pre z post s e hB js
    have e2 : forO stp s0 (pre ++ [z]) = stp s z := by rw [forO_app, js]; exact forO_one stp s z
    have e3 : forO stp s0 xs = onx (forO stp s0 (pre ++ [z])) fun s' => forO stp s' post := by
      rw [e, show pre ++ z :: post = (pre ++ [z]) ++ post by simp, forO_app]
    refine ⟨g', vs, h1, ?_⟩
    generalize hst2 : stp s z = o at h2 e2
    cases o with
    | nx s' =>
      refine fun σ F H Dn E f => h2 σ F H Dn E ⟨fun γ' σ' F' H' A w => ?_, fun _ _ _ _ _ _ _ _ _ z => z.elim, fun _ _ _ _ _ z => z.elim, fun _ _ _ _ _ z => z.elim⟩
      have w' : Wk γ' (G s') := w
      exact f.nx _ σ' F' H' (A.trans (w'.af A.e)) ⟨s', e2, rfl⟩
    | bk s' =>
      rw [e2] at e3
      rw [e3]
      refine fun σ F H Dn E f => h2 σ F H Dn E ⟨fun _ _ _ _ _ z => z.elim, fun _ _ _ _ _ _ _ _ _ z => z.elim, fun γ' σ' F' H' A w => ?_, fun _ _ _ _ _ z => z.elim⟩
      exact f.bk γ' σ' F' H' A w
    | rt r =>
      rw [e2] at e3
      rw [e3]
      exact fun σ F H Dn E f => h2 σ F H Dn E ⟨fun _ _ _ _ _ z => z.elim, fun r1 v γ' σ' F' H' A ro nw z => f.rt r1 v γ' σ' F' H' A ro nw z, fun _ _ _ _ _ z => z.elim, fun _ _ _ _ _ z => z.elim⟩
  · subst j
    rw [js]
    exact Wk.refl _
end
end PD

set_option Elab.async false
set_option linter.all false
/-! PD8: what the generator's terms lean on. -/
namespace PD
open PySem L2 PySem.Spec PyProof.Rows

/-! ### items of written tuples -/
section
variable {α : Type} {a b c d e : α} {l : List α}
theorem at_0 : atI (a :: l) 0 = some a := atI_nat (j := 0) rfl
theorem at_1 : atI (a :: b :: l) 1 = some b := atI_nat (j := 1) rfl
theorem at_2 : atI (a :: b :: c :: l) 2 = some c := atI_nat (j := 2) rfl
theorem at_3 : atI (a :: b :: c :: d :: l) 3 = some d := atI_nat (j := 3) rfl
theorem at_4 : atI (a :: b :: c :: d :: e :: l) 4 = some e := atI_nat (j := 4) rfl
end

/-! ### kinds of data -/
section
variable {α β γ δ ε : Type} {c1 : α → D} {c2' : β → D} {c3' : γ → D} {c4' : δ → D} {c5' : ε → D}
theorem isNon_cO (h : ∀ x, isNon (c1 x) = false) (o : Option α) : isNon (cO c1 o) = o.isNone := by
  cases o with
  | none => rfl
  | some x => exact h x
theorem cO_get [Inhabited α] {o : Option α} (h : o.isNone = false) : cO c1 o = c1 (o.getD default) := by
  cases o with
  | none => cases h
  | some x => rfl
theorem eqc_T (h : Eqc c1) (hd : ∀ x, (c1 x).depth ≤ 59 := by intro _; exact Nat.le_of_ble_eq_true rfl) : Eqc (cT c1) := ⟨fun xs => h.clAll xs, fun xs => by
    rw [depth_tup]
    have : ∀ xs : List α, PyData.depthAll (xs.map c1) ≤ 59 := fun xs => by
      induction xs with
      | nil => exact Nat.zero_le _
      | cons x xs ih =>
        show max (c1 x).depth (PyData.depthAll (xs.map c1)) ≤ 59
        have := hd x
        omega
    have := this xs
    omega, fun xs ys => by
    show PyData.eqvAll (xs.map c1) (ys.map c1) = true ↔ xs = ys
    induction xs generalizing ys with
    | nil => cases ys <;> simp [PyData.eqvAll]
    | cons x xs ih =>
      cases ys with
      | nil => simp [PyData.eqvAll]
      | cons y ys =>
        show (PyData.eqv (c1 x) (c1 y) && PyData.eqvAll (xs.map c1) (ys.map c1)) = true ↔ _
        rw [Bool.and_eq_true, h.inj, ih]
        simp⟩
theorem eqc_2 (h1 : Eqc c1) (h2 : Eqc c2') (d1 : ∀ x, (c1 x).depth ≤ 50 := by intro _; exact Nat.le_of_ble_eq_true rfl) (d2 : ∀ x, (c2' x).depth ≤ 50 := by intro _; exact Nat.le_of_ble_eq_true rfl) : Eqc (c2 c1 c2') := ⟨fun p => by
    show (PyData.canLay0 (c1 p.1) && (PyData.canLay0 (c2' p.2) && true)) = true
    rw [h1.cl, h2.cl]; rfl, fun p => by
    show (PyData.tuple [c1 p.1, c2' p.2]).depth ≤ 60
    rw [depth_tup]
    show max (c1 p.1).depth (max (c2' p.2).depth 0) + 1 ≤ 60
    have := d1 p.1
    have := d2 p.2
    omega, fun p q => by
    show (PyData.eqv (c1 p.1) (c1 q.1) && (PyData.eqv (c2' p.2) (c2' q.2) && true)) = true ↔ _
    rw [Bool.and_true, Bool.and_eq_true, h1.inj, h2.inj, Prod.ext_iff]⟩
theorem eqc_3 (h1 : Eqc c1) (h2 : Eqc c2') (h3 : Eqc c3') (d1 : ∀ x, (c1 x).depth ≤ 50 := by intro _; exact Nat.le_of_ble_eq_true rfl) (d2 : ∀ x, (c2' x).depth ≤ 50 := by intro _; exact Nat.le_of_ble_eq_true rfl) (d3 : ∀ x, (c3' x).depth ≤ 50 := by intro _; exact Nat.le_of_ble_eq_true rfl) : Eqc (c3 c1 c2' c3') := ⟨fun p => by
    show (PyData.canLay0 (c1 p.1) && (PyData.canLay0 (c2' p.2.1) && (PyData.canLay0 (c3' p.2.2) && true))) = true
    rw [h1.cl, h2.cl, h3.cl]; rfl, fun p => by
    show (PyData.tuple [c1 p.1, c2' p.2.1, c3' p.2.2]).depth ≤ 60
    rw [depth_tup]
    show max (c1 p.1).depth (max (c2' p.2.1).depth (max (c3' p.2.2).depth 0)) + 1 ≤ 60
    have := d1 p.1
    have := d2 p.2.1
    have := d3 p.2.2
    omega, fun p q => by
    show (PyData.eqv (c1 p.1) (c1 q.1) && (PyData.eqv (c2' p.2.1) (c2' q.2.1) && (PyData.eqv (c3' p.2.2) (c3' q.2.2) && true))) = true ↔ _
    rw [Bool.and_true, Bool.and_eq_true, Bool.and_eq_true, h1.inj, h2.inj, h3.inj, Prod.ext_iff, Prod.ext_iff]⟩
theorem cmp_2 (h1 : Cmp c1) (h2 : Cmp c2') (d1 : ∀ x, (c1 x).depth ≤ 50 := by intro _; exact Nat.le_of_ble_eq_true rfl) (d2 : ∀ x, (c2' x).depth ≤ 50 := by intro _; exact Nat.le_of_ble_eq_true rfl) : Cmp (c2 c1 c2') := ⟨fun p q => by
    show (PySem.W.alike (c1 p.1) (c1 q.1) && (PySem.W.alike (c2' p.2) (c2' q.2) && true)) = true
    rw [h1.al, h2.al]; rfl, fun p z => (nomatch z), fun p => by
    show (PyData.tuple [c1 p.1, c2' p.2]).depth ≤ 60
    rw [depth_tup]
    show max (c1 p.1).depth (max (c2' p.2).depth 0) + 1 ≤ 60
    have := d1 p.1
    have := d2 p.2
    omega⟩
theorem cmp_3 (h1 : Cmp c1) (h2 : Cmp c2') (h3 : Cmp c3') (d1 : ∀ x, (c1 x).depth ≤ 50 := by intro _; exact Nat.le_of_ble_eq_true rfl) (d2 : ∀ x, (c2' x).depth ≤ 50 := by intro _; exact Nat.le_of_ble_eq_true rfl) (d3 : ∀ x, (c3' x).depth ≤ 50 := by intro _; exact Nat.le_of_ble_eq_true rfl) : Cmp (c3 c1 c2' c3') := ⟨fun p q => by
    show (PySem.W.alike (c1 p.1) (c1 q.1) && (PySem.W.alike (c2' p.2.1) (c2' q.2.1) && (PySem.W.alike (c3' p.2.2) (c3' q.2.2) && true))) = true
    rw [h1.al, h2.al, h3.al]; rfl, fun p z => (nomatch z), fun p => by
    show (PyData.tuple [c1 p.1, c2' p.2.1, c3' p.2.2]).depth ≤ 60
    rw [depth_tup]
    show max (c1 p.1).depth (max (c2' p.2.1).depth (max (c3' p.2.2).depth 0)) + 1 ≤ 60
    have := d1 p.1
    have := d2 p.2.1
    have := d3 p.2.2
    omega⟩
theorem srt1_2 : Srt1 (c2 c1 c2') := .inl fun p => ⟨c1 p.1, [c2' p.2], rfl⟩
theorem srt1_3 : Srt1 (c3 c1 c2' c3') := .inl fun p => ⟨c1 p.1, [c2' p.2.1, c3' p.2.2], rfl⟩
end

section
variable {X : Cx} {γ γ1 γ2 γ3 γ' : List Sl} {pos p p2 : Pos} {e a b : Expr} {es : List Expr} {d d1 d2 : D} {ds : List D} {src : Src} {kk : Bool} {k : Bool}
variable {α β : Type} {c : α → D} {c' : β → D}
theorem r_eqC [DecidableEq α] (h : Eqc c) {x y : α} : R2D X.K (rEqD X.K) (c x) (c y) (.bool (decide (x = y))) := by
  rw [← h.eqv]; exact r_eqD (h.shaped x) (h.shaped y)
theorem r_neC [DecidableEq α] (h : Eqc c) {x y : α} : R2D X.K (rNeD X.K) (c x) (c y) (.bool (!decide (x = y))) := by
  rw [← h.eqv]; exact r_neD (h.shaped x) (h.shaped y)
theorem DE.cat {xs ys : List α} (ha : DE X a γ (.tuple (xs.map c)) γ1) (hb : DE X b γ1 (.tuple (ys.map c)) γ2) (hz : xs.length + ys.length ≤ sizeLine) : DE X (.BinOp a .Add b pos) γ (.tuple ((xs ++ ys).map c)) γ2 := by
  rw [List.map_append]
  exact DE.bin op_catA ha hb (r_catT (by rw [List.length_map, List.length_map]; exact hz))
theorem no_iadd_tuple : typeLookup (.type "tuple") (dunderI "add") = pure none := by kernel_rfl
theorem iconcat {T id : String} {B : Builtin} {u v : Value} {S : PySem.Spec} {s : Shared} {A : Around} {M : Program} {w : World} {Q E : Value → Shared → Prop} (ha : s.TypeIs u T) (hb : s.TypeIs v T) (hno : typeLookup (.type T) (dunderI "add") = pure none)
    (hfill : fillsNumberSlot (.type T) "add" = pure false) (hseq : seqSlot? (.type T) "__add__" = pure (some (.builtin id))) (slot : Slot T "__add__" id)
    (entry : entryFor table id = some B) (args : argsOk id ⟨[u, v], []⟩) (g : Meets (B ⟨[u, v], []⟩) S) (h : S A (wants Q E) s) : wpAny (model M w) A (inplaceOp .Add u v) Q E s :=
  wpAny_inplaceOp_concat ha hb hno hfill hseq (call_meets slot ha entry args g h)
theorem iop_catA : OpR X (inplaceOp .Add) (rCatA X.K) := by
  intro pins s σ H x y v u Q I rx ry h
  obtain ⟨a, b, xs, ys, rfl, rfl, ha, hb, hz, q0, q1, q2⟩ := h
  cases rx
  cases ry
  obtain ⟨its, r1, p1, z1⟩ := I.tuple ha
  obtain ⟨its2, r2, p2, z2⟩ := I.tuple hb
  have l1 := r1.length
  have l2 := r2.length
  obtain ⟨⟨cls, dd, data, sl⟩, ho, hc, n, hd⟩ := id p1
  obtain ⟨⟨cls2, dd2, data2, sl2⟩, ho2, hc2, n2, hd2⟩ := id p2
  simp only at hc hd hc2 hd2
  subst hc hd hc2 hd2
  have n1 : xs = [] ↔ its = [] := by cases r1 <;> simp
  have n3 : ys = [] ↔ its2 = [] := by cases r2 <;> simp
  by_cases hx : xs = []
  · have hi := n1.mp hx
    subst hi
    exact iconcat ⟨_, ho, rfl⟩ ⟨_, ho2, rfl⟩ no_iadd_tuple noFill_tuple_add seq_tuple_add PySem.F.slot_tuple_add PySem.F.entry_tuple_add (PySem.F.args_tuple_add_2 _ _)
      (tuple_addW0 a b ([] : List Value).toArray its2.toArray n n2 dd dd2 sl sl2 (by simp)) ⟨ho, ho2, .ref b, H, I, rfl, q0 hx⟩
  · have hi : its ≠ [] := fun z => hx (n1.mpr z)
    by_cases hy : ys = []
    · have hj := n3.mp hy
      exact iconcat ⟨_, ho, rfl⟩ ⟨_, ho2, rfl⟩ no_iadd_tuple noFill_tuple_add seq_tuple_add PySem.F.slot_tuple_add PySem.F.entry_tuple_add (PySem.F.args_tuple_add_2 _ _)
        (tuple_addW1 a b its.toArray its2.toArray n n2 dd dd2 sl sl2 (by simpa using hi) (by simp [hj])) ⟨ho, ho2, .ref a, H, I, rfl, q1 hx hy⟩
    · have hj : its2 ≠ [] := fun z => hy (n3.mpr z)
      refine iconcat ⟨_, ho, rfl⟩ ⟨_, ho2, rfl⟩ no_iadd_tuple noFill_tuple_add seq_tuple_add PySem.F.slot_tuple_add PySem.F.entry_tuple_add (PySem.F.args_tuple_add_2 _ _)
        (tuple_addW2 a b its.toArray its2.toArray n n2 dd dd2 sl sl2 (by simpa using hi) (by simpa using hj) (by rw [List.size_toArray, List.size_toArray, ← l1, ← l2]; exact hz)) ⟨ho, ho2, ?_⟩
      have e : its.toArray ++ its2.toArray = (its ++ its2).toArray := by simp
      rw [e]
      have hf : H s.heap.objs.size = none := I.hok.fresh (Nat.le_refl _)
      refine ⟨.ref s.heap.objs.size, L2.upd H s.heap.objs.size (.tup (xs ++ ys)), I.laid (t' := s.toks) (fun b u e => Heap.get?_push_of_some _ e) (Nat.le_refl _) ?_, rfl, q2 hx hy _ hf⟩
      exact ⟨by rw [List.length_append]; exact hz, its ++ its2, r1.append r2, ⟨_, Heap.get?_push_size _ rfl, rfl, _, rfl⟩⟩

/-! ### comprehensions without a test -/
variable {tg iter elt : Expr} {ifs : List Expr} {scope : Scope} {own : List (Str × Nat)} {xs : List α} {B : Nat} {stay : List Sl → Prop} {i : Nat} {y : Str} {pos' : Pos} {P : Post}
theorem DF.map1 {vs : List Nat} (fe : α → β) (hc : X.calm = true) (hN : X.N.Nodup) (ok : BlkOk X.N X.env.scope scope own) (hv : own.map (·.2) = vs) (hi : DX X tg iter γ c xs B γ1 stay) (hB : xs.length ≤ B → xs.length ≤ sizeLine) (hst : stay (wipeS γ1 vs)) (hn : AllN γ1 vs)
    (hs : ∀ z, z ∈ xs → ∃ g2 vg, (∀ j ∈ vg, j ∈ vs) ∧ (∀ s H C cl fp, DG (Cx.bk X scope s H C cl fp) tg (c z) (wipeS γ1 vs) g2 vg) ∧ (∀ s H C cl fp, DE (Cx.bk X scope s H C cl fp) elt g2 (c' (fe z)) g2) ∧ wipeS g2 vs = wipeS γ1 vs)
    (hf : ∀ x, foldedSetIterable iter X.env x = pure x := by intro _; rfl) : DF X (.ListComp elt [⟨tg, iter, [], 0⟩] scope pos) γ (.lst ((xs.map fe).map c')) γ1 := by
  have h := DF.map (elt := elt) (pos := pos) (c' := c') (fun _ => true) fe hc hN ok hv hi hB hst hn (fun z hz => by
    obtain ⟨g2, vg, h1, h2, h3, h4⟩ := hs z hz
    exact ⟨g2, vg, h1, h2, fun _ _ _ _ _ => DTl.nil, fun _ => h3, h4⟩) hf
  rw [List.filter_eq_self.mpr fun _ _ => rfl] at h
  exact h
theorem DS.setMap1 {vs : List Nat} {py : Pos} (fe : α → β) (hc : X.calm = true) (hN : X.N.Nodup) (hy : X.N[i]? = some y) (hyl : X.env.scope.names.lookup y = some .local)
    (hsw : swapsWith (.ListComp elt [⟨tg, iter, [], 0⟩] scope pos) (some (.Name y py)) pos'.line X.env = pure true) (ok : BlkOk X.N X.env.scope scope own) (hv : own.map (·.2) = vs) (hi : DX X tg iter γ c xs B γ1 stay) (hB : xs.length ≤ B → xs.length ≤ sizeLine) (hst : stay (wipeS γ1 vs)) (hn : AllN γ1 vs)
    (hs : ∀ z, z ∈ xs → ∃ g2 vg, (∀ j ∈ vg, j ∈ vs) ∧ (∀ s H C cl fp, DG (Cx.bk X scope s H C cl fp) tg (c z) (wipeS γ1 vs) g2 vg) ∧ (∀ s H C cl fp, DE (Cx.bk X scope s H C cl fp) elt g2 (c' (fe z)) g2) ∧ wipeS g2 vs = wipeS γ1 vs)
    (q : ∀ a, ¬ Owned γ1 a → P.nx (γ1.set i (.own a (.lst ((xs.map fe).map c'))))) (hf : ∀ x, foldedSetIterable iter X.env x = pure x := by intro _; rfl) : DS X (.Assign [.Name y py] (.ListComp elt [⟨tg, iter, [], 0⟩] scope pos) pos') γ P := by
  refine DS.setMap (c' := c') (fun _ => true) fe hc hN hy hyl hsw ok hv hi hB hst hn (fun z hz => ?_) (by rw [List.filter_eq_self.mpr fun _ _ => rfl]; exact q) hf
  obtain ⟨g2, vg, h1, h2, h3, h4⟩ := hs z hz
  exact ⟨g2, vg, h1, h2, fun _ _ _ _ _ => DTl.nil, fun _ => h3, h4⟩
/-- a statement that brings a new owned thing: whatever its address -/
theorem DB.stepF {ρ : Type} {Φ : ρ → Post} {st : Stmt} {rest : List Stmt} (G : Addr → α → List Sl) {v : α} {body : α → ρ} (h : DS X st γ { nx := fun g => ∃ q, Wk g (G q v), rt := fun _ _ => False }) (q : ∀ q x, x = v → DB X rest (G q x) (Φ (body x))) : DB X (st :: rest) γ (Φ (bnd v body)) :=
  DB.cons fun σ F H Dn E f => h σ F H Dn E ⟨fun γ' σ' F' H' A ⟨p, w⟩ => f.nx _ σ' F' H' (A.trans (w.af A.e)) (q p v rfl), fun _ _ _ _ _ _ _ _ _ z => z.elim, fun _ _ _ _ _ z => z.elim, fun _ _ _ _ _ z => z.elim⟩
end
end PD

set_option Elab.async false
set_option linter.all false
/-! PD9: typed forms for the generator. -/
namespace PD
open PySem L2 PySem.Spec PyProof.Rows

theorem wn : Wk [] [] := trivial
theorem wi {γ γ' : List Sl} {s : Sl} (h : Wk γ γ') : Wk (s :: γ) (s :: γ') := ⟨.inl rfl, h⟩
theorem we {γ γ' : List Sl} {s : Sl} (h : Wk γ γ') : Wk (s :: γ) (.em :: γ') := ⟨.inr rfl, h⟩
theorem kp_n {γ1 : List Sl} : Keeps [] γ1 [] := by unfold Keeps; trivial
theorem kp_v {γ γ1 γ' : List Sl} {d : D} {s : Sl} (h : Keeps γ γ1 γ') : Keeps (.val d :: γ) (s :: γ1) (.val d :: γ') := ⟨.inl rfl, h⟩
theorem kp_o {γ γ1 γ' : List Sl} {a : Addr} {m0 m : MO} (h : Keeps γ γ1 γ') : Keeps (.own a m0 :: γ) (.own a m :: γ1) (.own a m :: γ') := ⟨rfl, ⟨m, rfl⟩, h⟩
theorem hu200 {k : Nat} {A : Around} (r : Room k A) : A.units + 200 < cLine := by have := r.un; omega
theorem ne_true_of_eq_false {b : Bool} (h : b = false) : ¬ b = true := by rw [h]; exact Bool.false_ne_true
/-- the built-ins' names are not the module's -/
structure Bi (mg : Str → Option Value) : Prop where
  len_ : mg "len" = none
  abs_ : mg "abs" = none
  int_ : mg "int" = none
  min_ : mg "min" = none
  max_ : mg "max" = none
  sum_ : mg "sum" = none
  sorted_ : mg "sorted" = none
  tuple_ : mg "tuple" = none
  list_ : mg "list" = none
  range_ : mg "range" = none
  isinstance_ : mg "isinstance" = none
  any_ : mg "any" = none
  all_ : mg "all" = none
  set_ : mg "set" = none
  bool_ : mg "bool" = none
  str_ : mg "str" = none

def lastD {α : Type} [Inhabited α] (xs : List α) : α := xs.getLastD default
def setI {α : Type} (xs : List α) (k : Int) (v : α) : List α := xs.set (ixI xs.length k) v
theorem eqc_str (h : ∀ x : Str, PyData.canLay0 (.str x) = true) : Eqc PyData.str := ⟨h, fun _ => Nat.zero_le _, fun x y => by simp [PyData.eqv]⟩

section
variable {X : Cx} {γ γ1 γ2 γ3 γ' : List Sl} {pos pos' p2 : Pos} {e a b c : Expr} {es : List Expr} {d : D} {src : Src} {kk : Bool} {k : Bool} {P : Post} {x : Str} {i : Nat}
variable {α β σ : Type} {ca : α → D} {xs ys : List α}
theorem DE.lenC (hg : Gl X "len") (hm : X.mg "len" = none) (ha : DQ X e γ src kk (xs.map ca) γ1) (he : starEach [e] X.env = (false, eval e X.env) :: starEach [] X.env := by rfl) (hpl : (backTo pos (starEach [] X.env)).any (·.1) = false := by rfl) {p : Pos} :
    DE X (.Call (.Name "len" p) [e] [] pos) γ (.int (xs.length : Int)) γ1 := by
  have h := DE.len (p := p) hg hm ha he hpl
  rw [List.length_map] at h; exact h
theorem snoc_last [Inhabited α] (h : 0 < xs.length) : xs = xs.dropLast ++ [lastD xs] := by
  unfold lastD
  cases xs with
  | nil => cases h
  | cons y ys =>
    rw [List.getLastD_cons]
    have h1 := (List.dropLast_concat_getLast (List.cons_ne_nil y ys)).symm
    rw [List.getLast_eq_getLastD] at h1
    exact h1
theorem DE.popC [Inhabited α] {p : Addr} {apos npos : Pos} (hN : X.N[i]? = some x) (hv : Vis X.env.scope x) (h0 : γ[i]? = some (oL p ca xs)) (hz : 0 < xs.length) (hd : (x == ("__debug__" : Str)) = false := by decide) (hcd : (x == ("__classdict__" : Str)) = false := by decide)
    (hbase : attributeBase (.Name x npos) "pop" X.env (eval (.Name x npos) X.env) = eval (.Name x npos) X.env := by rfl) (hline : (apos.endLine == pos.line) = true := by rfl) :
    DE X (.Call (.Attribute (.Name x npos) "pop" apos) [] [] pos) γ (ca (lastD xs)) (γ.set i (oL p ca xs.dropLast)) := by
  have e := snoc_last hz
  have h1 : γ[i]? = some (.own p (.lst (xs.dropLast.map ca ++ [ca (lastD xs)]))) := by
    rw [h0]
    show some (Sl.own p (.lst (xs.map ca))) = _
    have e2 : xs.map ca = xs.dropLast.map ca ++ [ca (lastD xs)] := by
      have := congrArg (List.map ca) e
      rw [List.map_append] at this
      exact this
    rw [e2]
  exact DE.pop hN hv h1 hd hcd hbase hline
theorem DS.setIxC {p : Addr} {npos : Pos} {b : Expr} {v : α} {kz : Int} {zs : List α} (hN : X.N[i]? = some x) (hv : Vis X.env.scope x) (h : DE X e γ (ca v) γ1) (h0 : γ1[i]? = some (oL p ca zs)) (hb : DE X b γ1 (.int kz) γ2) (h1 : γ2[i]? = some (oL p ca xs))
    (hl : -(xs.length : Int) ≤ kz) (hh : kz < xs.length) (q : P.nx (γ2.set i (oL p ca (setI xs kz v))))
    (ha : ∀ v, assign (.Subscript (.Name x npos) b pos') X.env v = (do
      let ov ← holding [v] (eval (.Name x npos) X.env)
      let iv ← holding [v, ov] (eval b X.env)
      standAt pos'
      holding [v, ov, iv] (setItem ov iv v)
      release [v, ov, iv] []) := by intro _; rfl)
    (hs : swapsWithSole [.Subscript (.Name x npos) b pos'] e pos.line X.env = pure false := by rfl) (hw : swappedStores [.Subscript (.Name x npos) b pos'] e X.env = pure none := by rfl)
    (ht : (assignEach [.Subscript (.Name x npos) b pos'] X.env).map (·.2) = [assign (.Subscript (.Name x npos) b pos') X.env] := by rfl) (hd : (x == ("__debug__" : Str)) = false := by decide) (hcd : (x == ("__classdict__" : Str)) = false := by decide) :
    DS X (.Assign [.Subscript (.Name x npos) b pos'] e pos) γ P := by
  refine DS.setIx (j := ixI xs.length kz) hN hv h h0 hb h1 ?_ ?_ ha hs hw ht hd hcd
  · unfold ixN ixI
    rw [List.length_map]
    by_cases hk : 0 ≤ kz
    · rw [if_pos hk, if_pos hh, if_neg (by omega)]
    · rw [if_neg hk, if_pos hl, if_pos (by omega)]
  · have e2 : (xs.map ca).set (ixI xs.length kz) (ca v) = (setI xs kz v).map ca := by unfold setI; rw [List.map_set]
    rw [e2]; exact q
theorem DS.appendC {p : Addr} {apos npos cpos : Pos} {v : α} {zs : List α} (hN : X.N[i]? = some x) (hv : Vis X.env.scope x) (h0 : γ[i]? = some (oL p ca zs)) (h : DE X e γ (ca v) γ1) (h1 : γ1[i]? = some (oL p ca xs)) (hz : xs.length < sizeLine) (q : P.nx (γ1.set i (oL p ca (xs ++ [v]))))
    (hs : swapsWith (.Call (.Attribute (.Name x npos) "append" apos) [e] [] cpos) none pos.line X.env = pure false := by rfl) (hd : (x == ("__debug__" : Str)) = false := by decide) (hcd : (x == ("__classdict__" : Str)) = false := by decide)
    (hbase : attributeBase (.Name x npos) "append" X.env (eval (.Name x npos) X.env) = eval (.Name x npos) X.env := by rfl)
    (hfew : ((backTo cpos (starEach [e] X.env)).all (fun x => !x.1) && (backToKw cpos (keywordEach [] X.env)).all (fun x => x.1.isSome)
      && decide ([e].length + ([] : List Keyword).length + (if ([] : List Keyword).isEmpty then 0 else 1) < 30)) = true := by rfl)
    (hline : (apos.endLine == cpos.line) = true := by rfl) (hst : starEach [e] X.env = (false, eval e X.env) :: starEach [] X.env := by rfl) (hplain : (backTo cpos (starEach [] X.env)).any (·.1) = false := by rfl) :
    DS X (.Expr (.Call (.Attribute (.Name x npos) "append" apos) [e] [] cpos) pos) γ P := by
  refine DS.append hN hv h0 h h1 (by rw [List.length_map]; exact hz) ?_ hs hd hcd hbase hfew hline hst hplain
  have e2 : xs.map ca ++ [ca v] = (xs ++ [v]).map ca := by rw [List.map_append]; rfl
  rw [e2]; exact q
theorem DS.reverseC {p : Addr} {apos npos cpos : Pos} (hN : X.N[i]? = some x) (hv : Vis X.env.scope x) (h0 : γ[i]? = some (oL p ca xs)) (q : P.nx (γ.set i (oL p ca xs.reverse)))
    (hs : swapsWith (.Call (.Attribute (.Name x npos) "reverse" apos) [] [] cpos) none pos.line X.env = pure false := by rfl) (hd : (x == ("__debug__" : Str)) = false := by decide) (hcd : (x == ("__classdict__" : Str)) = false := by decide)
    (hbase : attributeBase (.Name x npos) "reverse" X.env (eval (.Name x npos) X.env) = eval (.Name x npos) X.env := by rfl) (hline : (apos.endLine == cpos.line) = true := by rfl) :
    DS X (.Expr (.Call (.Attribute (.Name x npos) "reverse" apos) [] [] cpos) pos) γ P :=
  DS.reverse hN hv h0 (by rw [← List.map_reverse]; exact q) hs hd hcd hbase hline
theorem r_ipI {K : PySem.W.Frag} {n m : Int} {f : Int → Int → Int} : R2D K (ipI f) (.int n) (.int m) (.int (f n m)) := fun x y F H Q _ r1 r2 h => ⟨n, m, dp_int r1, dp_int r2, h _ F H (.refl _ _) (.int _)⟩
theorem r_catC (hz : xs.length + ys.length ≤ sizeLine) : R2D X.K (rCatA X.K) (cT ca xs) (cT ca ys) (cT ca (xs ++ ys)) := by
  show R2D X.K (rCatA X.K) (.tuple (xs.map ca)) (.tuple (ys.map ca)) (.tuple ((xs ++ ys).map ca))
  rw [List.map_append]
  exact r_catT (by rw [List.length_map, List.length_map]; exact hz)
/-- min, max of a sequence that is not empty -/
def minE {α : Type} [Inhabited α] (c : α → D) : List α → α
  | [] => default
  | x :: xs => minC c x xs
def maxE {α : Type} [Inhabited α] (c : α → D) : List α → α
  | [] => default
  | x :: xs => maxC c x xs
theorem DE.minE [Inhabited α] (hc : X.calm = true) (hu : X.A.units + 200 < cLine) (hk : Cmp ca) (hg : Gl X "min") (hm : X.mg "min" = none) (ha : DQ X e γ src kk (xs.map ca) γ1) (hx : 0 < xs.length) {p : Pos} (he : starEach [e] X.env = (false, eval e X.env) :: starEach [] X.env := by rfl)
    (hpl : (backTo pos (starEach [] X.env)).any (·.1) = false := by rfl) : DE X (.Call (.Name "min" p) [e] [] pos) γ (ca (PD.minE ca xs)) γ1 := by
  cases xs with
  | nil => cases hx
  | cons y ys => exact DE.minL hc hu hk hg hm ha rfl he hpl
theorem DE.maxE [Inhabited α] (hc : X.calm = true) (hu : X.A.units + 200 < cLine) (hk : Cmp ca) (hg : Gl X "max") (hm : X.mg "max" = none) (ha : DQ X e γ src kk (xs.map ca) γ1) (hx : 0 < xs.length) {p : Pos} (he : starEach [e] X.env = (false, eval e X.env) :: starEach [] X.env := by rfl)
    (hpl : (backTo pos (starEach [] X.env)).any (·.1) = false := by rfl) : DE X (.Call (.Name "max" p) [e] [] pos) γ (ca (PD.maxE ca xs)) γ1 := by
  cases xs with
  | nil => cases hx
  | cons y ys => exact DE.maxL hc hu hk hg hm ha rfl he hpl
/-! ### any, all of a list of truth values -/
theorem DE.anyB {bs : List Bool} (hc : X.calm = true) (hg : Gl X "any") (hm : X.mg "any" = none) (ha : DQ X e γ src true (bs.map PyData.bool) γ1) {p : Pos} (he : starEach [e] X.env = (false, eval e X.env) :: starEach [] X.env := by rfl) (hpl : (backTo pos (starEach [] X.env)).any (·.1) = false := by rfl) :
    DE X (.Call (.Name "any" p) [e] [] pos) γ (.bool (bs.any id)) γ1 :=
  DE.callQ (cr_any hc) hg hm PyProof.Rows.boot_any ha (fun v F H Q sm s q => by
    obtain ⟨a, vs, rfl, hq, hv⟩ := s
    rw [dpa_bls hv] at hq
    exact ⟨a, bs, rfl, hq, q _ F H (.refl _ _) (.bl _)⟩) (he := he) (hpl := hpl)
theorem DE.allB {bs : List Bool} (hc : X.calm = true) (hg : Gl X "all") (hm : X.mg "all" = none) (ha : DQ X e γ src true (bs.map PyData.bool) γ1) {p : Pos} (he : starEach [e] X.env = (false, eval e X.env) :: starEach [] X.env := by rfl) (hpl : (backTo pos (starEach [] X.env)).any (·.1) = false := by rfl) :
    DE X (.Call (.Name "all" p) [e] [] pos) γ (.bool (bs.all id)) γ1 :=
  DE.callQ (cr_all hc) hg hm PyProof.Rows.boot_all ha (fun v F H Q sm s q => by
    obtain ⟨a, vs, rfl, hq, hv⟩ := s
    rw [dpa_bls hv] at hq
    exact ⟨a, bs, rfl, hq, q _ F H (.refl _ _) (.bl _)⟩) (he := he) (hpl := hpl)
/-! ### an if that leaves nothing -/
theorem DS.iteN {A B : List Stmt} {G : List Sl} (hc : DT X c γ k γ1) (h1 : k = true → DB X A γ1 (P_S (fun _ : Unit => G) ())) (h2 : k = false → DB X B γ1 (P_S (fun _ : Unit => G) ())) : DS X (.If c A B pos) γ { nx := fun g => Wk g G, rt := fun _ _ => False } := DS.ite hc h1 h2
/-! ### while -/
def whl {σ : Type} : Nat → (σ → Bool) → (σ → σ) → σ → σ
  | 0, _, _, s => s
  | n + 1, t, f, s => if t s = true then whl n t f (f s) else s
theorem whl_more {t : σ → Bool} {f : σ → σ} {μ : σ → Nat} {I : σ → Prop} (hI : ∀ s, I s → t s = true → I (f s) ∧ μ (f s) < μ s) : ∀ (n : Nat) (s : σ), I s → μ s ≤ n → whl n t f s = whl (μ s) t f s
  | 0, s, _, h => by rw [show μ s = 0 by omega]
  | n + 1, s, i, h => by
    by_cases ht : t s = true
    · obtain ⟨i', hl⟩ := hI s i ht
      obtain ⟨m, hm⟩ : ∃ m, μ s = m + 1 := ⟨μ s - 1, by omega⟩
      rw [hm]
      show (if t s = true then whl n t f (f s) else s) = (if t s = true then whl m t f (f s) else s)
      rw [if_pos ht, if_pos ht, whl_more hI n (f s) i' (by omega), whl_more hI m (f s) i' (by omega)]
    · cases hm : μ s with
      | zero => show (if t s = true then _ else s) = s; rw [if_neg ht]
      | succ m => show (if t s = true then _ else s) = (if t s = true then _ else s); rw [if_neg ht, if_neg ht]
theorem DS.whileS {A : List Stmt} (hp : PassesOwn (model X.prog X.w) X.A X.env X.xe) (G : σ → List Sl) (t : σ → Bool) (f : σ → σ) (μ : σ → Nat) (I : σ → Prop) (s0 : σ) (h0 : Wk γ (G s0)) (i0 : I s0) (hc : ∀ s, I s → DT X c (G s) (t s) (G s))
    (hb : ∀ s, I s → t s = true → DB X A (G s) (P_S G (f s)) ∧ I (f s) ∧ μ (f s) < μ s) : DS X (.While c A [] pos) γ (P_S G (whl (μ s0) t f s0)) := by
  refine DS.wk h0 (DS.while_ hp (fun m g => ∃ s, I s ∧ g = G s ∧ m = μ s ∧ whl (μ s) t f s = whl (μ s0) t f s0) (μ s0) ⟨s0, i0, rfl, rfl, rfl⟩ fun m g ⟨s, i, eg, em, ew⟩ => ?_)
  subst eg em
  refine ⟨t s, G s, hc s i, fun ht => ?_, fun ht => ?_⟩
  · obtain ⟨h1, h2, h3⟩ := hb s i ht
    refine fun σ' F H Dn E fi => h1 σ' F H Dn E ⟨fun γ' σ'' F' H' A w => ?_, fun _ _ _ _ _ _ _ _ _ z => z.elim, fun _ _ _ _ _ z => z.elim, fun _ _ _ _ _ z => z.elim⟩
    have w' : Wk γ' (G (f s)) := w
    refine fi.nx _ σ'' F' H' (A.trans (w'.af A.e)) ⟨μ (f s), h3, f s, h2, rfl, rfl, ?_⟩
    rw [← ew]
    obtain ⟨n, hn⟩ : ∃ n, μ s = n + 1 := ⟨μ s - 1, by omega⟩
    rw [hn]
    show _ = (if t s = true then whl n t f (f s) else s)
    rw [if_pos ht, whl_more (fun s i z => (hb s i z).2) n (f s) h2 (by omega)]
  · show Wk (G s) (G (whl (μ s0) t f s0))
    rw [← ew]
    have : whl (μ s) t f s = s := by
      cases hm : μ s with
      | zero => rfl
      | succ m => show (if t s = true then _ else s) = s; rw [if_neg (by rw [ht]; exact Bool.false_ne_true)]
    rw [this]
    exact Wk.refl _
end
end PD

set_option Elab.async false
set_option linter.all false
/-! PD10: parts that change things within and, or, if-else; lists joined; options compared. -/
namespace PD
open PySem L2 PySem.Spec PyProof.Rows
section
variable {X : Cx} {γ γ1 γ2 γ3 γ' : List Sl} {pos pos' : Pos} {e a b c : Expr} {rest es : List Expr} {d : D} {src : Src} {kk : Bool} {k k' : Bool} {G : Bool → List Sl}
theorem DW.andX (G : Bool → List Sl) (ha : DT X a γ k γ1) (hb : k = true → DW X (.BoolOp .And (b :: rest) pos) γ1 k' (G true)) (hf : G false = γ1 := by rfl) : DW X (.BoolOp .And (a :: b :: rest) pos) γ (k && k') (G k) := by
  refine DW.and ha (fun h => ?_) fun h => ?_
  · rw [h]; exact hb h
  · rw [h]; exact hf
theorem DW.orX (G : Bool → List Sl) (ha : DT X a γ k γ1) (hb : k = false → DW X (.BoolOp .Or (b :: rest) pos) γ1 k' (G false)) (hf : G true = γ1 := by rfl) : DW X (.BoolOp .Or (a :: b :: rest) pos) γ (k || k') (G k) := by
  refine DW.or ha (fun h => ?_) fun h => ?_
  · rw [h]; exact hb h
  · rw [h]; exact hf
theorem DE.andX (G : Bool → List Sl) (ha : DE X a γ (.bool k) γ1) (hb : k = true → DE X (.BoolOp .And (b :: rest) pos) γ1 (.bool k') (G true)) (hf : G false = γ1 := by rfl) : DE X (.BoolOp .And (a :: b :: rest) pos) γ (.bool (k && k')) (G k) := by
  refine DE.and ha (fun h => ?_) fun h => ?_
  · rw [h]; exact hb h
  · rw [h]; exact hf
theorem DE.orX (G : Bool → List Sl) (ha : DE X a γ (.bool k) γ1) (hb : k = false → DE X (.BoolOp .Or (b :: rest) pos) γ1 (.bool k') (G false)) (hf : G true = γ1 := by rfl) : DE X (.BoolOp .Or (a :: b :: rest) pos) γ (.bool (k || k')) (G k) := by
  refine DE.or ha (fun h => ?_) fun h => ?_
  · rw [h]; exact hb h
  · rw [h]; exact hf
theorem DE.iteX {α : Type} {ca : α → D} {x y : α} (G : Bool → List Sl) (hc : DT X c γ k γ1) (h1 : k = true → DE X a γ1 (ca x) (G true)) (h2 : k = false → DE X b γ1 (ca y) (G false)) : DE X (.IfExp c a b pos) γ (ca (if k = true then x else y)) (G k) := by
  refine DE.ite hc (fun h => ?_) fun h => ?_
  · rw [if_pos h, h]; exact h1 h
  · rw [if_neg (ne_true_of_eq_false h), h]; exact h2 h

/-! ### a list and a list -/
theorem SqL.ofSq {K : PySem.W.Frag} {F H : Hp} {x : V} {ds : List D} (h : Sq K F H x true ds) : ∃ l vs, x = .ref l ∧ SqL K H l vs ∧ DpAll K F vs ds := by
  obtain ⟨l, vs, h1, h2, h3⟩ := h
  exact ⟨l, vs, h1, h2, h3⟩
def rCatQ (K : PySem.W.Frag) : R2 := fun x y H Q => ∃ l b xs zs, x = .ref l ∧ y = .ref b ∧ SqL K H l xs ∧ SqL K H b zs ∧ xs.length + zs.length ≤ sizeLine ∧ ∀ p, H p = none → Q (.ref p) (L2.upd H p (.lst (xs ++ zs)))
theorem op_catQ : OpR X (binaryOp .Add) (rCatQ X.K) := by
  intro pins s σ H x y v u Q I rx ry ⟨l, b, xs, zs, ex, ey, hH, hB, hz, q⟩
  subst ex ey
  cases rx
  cases ry
  obtain ⟨us, ru, ⟨o1, n1, g1, ga, gb, gc⟩, _⟩ := I.list hH
  obtain ⟨ws, rw', ⟨o2, n2, e1, ea, eb, ec⟩, _⟩ := I.list hB
  have l1 := ru.length
  have l2 := rw'.length
  obtain ⟨k1, k2, k3, k4⟩ := o1
  obtain ⟨m1, m2, m3, m4⟩ := o2
  simp only at ga gb gc ea eb ec
  subst ga gb gc ea eb ec
  have hsz : us.toArray.size + ws.toArray.size ≤ sizeLine := by
    simp only [List.size_toArray]
    omega
  refine concat_meets ⟨_, g1, rfl⟩ ⟨_, e1, rfl⟩ noFill_list_add seq_list_add PySem.F.slot_list_add PySem.F.entry_list_add (PySem.F.args_list_add_2 _ _) (PyProof.Rows.list_addW l b us.toArray ws.toArray n1 n2 none none k4 m4 hsz) ⟨g1, e1, ?h⟩
  case h => rw [show us.toArray ++ ws.toArray = (us ++ ws).toArray by simp]; exact ⟨.ref _, _, I.lnew (t' := s.toks) (ru.append rw') (by rw [List.length_append]; omega), rfl, q _ I.fresh⟩
/-- a + b of two lists: a new list -/
theorem DF.cat {ds ds' : List D} {src' : Src} (ha : DQ X a γ src true ds γ1) (hb : DQ X b γ1 src' true ds' γ2) (hst : src.stays γ1 γ2 := by first | exact trivial | rfl) (hz : ds.length + ds'.length ≤ sizeLine) : DF X (.BinOp a .Add b pos) γ (.lst (ds ++ ds')) γ2 := fun σ F H Q E q => by
  refine wE_of (pe_op op_catQ peW peW) (ha σ F H _ E fun v F1 H1 a1 s1 => hb σ F1 H1 _ a1.e fun u F2 H2 a2 s2 => ?_)
  have s1' := s1.later a2.f hst
  obtain ⟨l, vs, rfl, h1, h2⟩ := SqL.ofSq (s1'.sq a2.e)
  obtain ⟨l', vs', rfl, h3, h4⟩ := SqL.ofSq (s2.sq a2.e)
  have n1 := dpa_len h2
  have n2 := dpa_len h4
  have A := a1.trans a2
  refine ⟨l, l', vs, vs', rfl, rfl, h1, h3, by omega, fun p hp => ?_⟩
  exact fresh_fin A hp (.lst (dpa_app h2 h4)) q
theorem DF.catC {α : Type} {ca : α → D} {xs ys : List α} {src' : Src} (ha : DQ X a γ src true (xs.map ca) γ1) (hb : DQ X b γ1 src' true (ys.map ca) γ2) (hz : xs.length + ys.length ≤ sizeLine) (hst : src.stays γ1 γ2 := by first | exact trivial | rfl) : DF X (.BinOp a .Add b pos) γ (.lst ((xs ++ ys).map ca)) γ2 := by
  rw [List.map_append]
  exact DF.cat ha hb hst (by rw [List.length_map, List.length_map]; exact hz)
end
theorem irange_mem {lo : Int} {n : Nat} {x : Int} (h : x ∈ irange lo n) : lo ≤ x ∧ x < lo + n := by
  unfold irange at h
  obtain ⟨i, hi, rfl⟩ := List.mem_map.mp h
  have := List.mem_range.mp hi
  omega
theorem mem_mid {α : Type} {xs pre post : List α} {x : α} (h : xs = pre ++ x :: post) : x ∈ xs := by
  rw [h]; exact List.mem_append_right _ List.mem_cons_self
section
variable {X : Cx} {γ : List Sl} {P : Post} {sts : List Stmt} {pos : Pos} {i : Nat} {α : Type} {ca : α → D} {xs : List α}
theorem DB.brk {rest : List Stmt} (q : P.bk γ) : DB X (.Break pos :: rest) γ P := DB.cons (DS.brk q)
/-- what is there is not longer than a row may be -/
theorem DB.sz (hs : γ[i]? = some (.val (cT ca xs))) (q : xs.length ≤ sizeLine → DB X sts γ P) : DB X sts γ P := fun σ F H Dn E f pins s I => by
  obtain ⟨v, _, r⟩ := E.at_ i _ hs
  obtain ⟨a, vs, _, h1, h2⟩ : ∃ a vs, v = .ref a ∧ SqT X.K F a vs ∧ DpAll X.K F vs (xs.map ca) := by
    cases (show Dp X.K F v (.tuple (xs.map ca)) from r) with
    | tup h1 h2 => exact ⟨_, _, rfl, h1, h2⟩
  obtain ⟨_, _, _, z⟩ := I.tuple (sqT_mono E.sub h1)
  rw [dpa_len h2, List.length_map] at z
  exact q z σ F H Dn E f pins s I
theorem DB.szL (hs : γ[i]? = some (.val (cL ca xs))) (q : xs.length ≤ sizeLine → DB X sts γ P) : DB X sts γ P := fun σ F H Dn E f pins s I => by
  obtain ⟨v, _, r⟩ := E.at_ i _ hs
  obtain ⟨a, vs, _, h1, h2⟩ : ∃ a vs, v = .ref a ∧ SqL X.K F a vs ∧ DpAll X.K F vs (xs.map ca) := by
    cases (show Dp X.K F v (.list (xs.map ca)) from r) with
    | lst h1 h2 => exact ⟨_, _, rfl, h1, h2⟩
  obtain ⟨_, _, _, z⟩ := I.list (E.sub.seq h1)
  rw [dpa_len h2, List.length_map] at z
  exact q z σ F H Dn E f pins s I
theorem DB.szO {p : Addr} (hs : γ[i]? = some (oL p ca xs)) (q : xs.length ≤ sizeLine → DB X sts γ P) : DB X sts γ P := fun σ F H Dn E f pins s I => by
  obtain ⟨_, _, o, h3, vs, e, h5⟩ := E.own hs
  subst e
  obtain ⟨_, _, _, z⟩ := I.list (SqL.of h3)
  rw [dpa_len h5, List.length_map] at z
  exact q z σ F H Dn E f pins s I
end
end PD

set_option Elab.async false
set_option linter.all false
/-! PD11: data that are alike (what the laws' own comparison tells). -/
namespace PD
open PySem L2 PySem.Spec PyProof.Rows
def blOf : D → Bool
  | .bool b => b
  | _ => false
def inOf : D → Int
  | .int i => i
  | _ => 0
def stOf : D → Str
  | .str x => x
  | _ => ""
def tuOf : D → List D
  | .tuple ds => ds
  | _ => []
def isAt : D → Bool
  | .none => true
  | .bool _ => true
  | .int _ => true
  | .str _ => true
  | _ => false
def OkS : Nat → D → Prop
  | 0, d => isAt d = true
  | n + 1, d => isAt d = true ∨ ∃ ds, d = .tuple ds ∧ ∀ x ∈ ds, OkS n x
theorem OkS.nd {n : Nat} {d : D} (h : OkS n d) (l : List (D × D)) : d ≠ .dict l := by
  intro e
  subst e
  cases n with
  | zero => cases h
  | succ n =>
    rcases h with h | ⟨_, h, _⟩
    · cases h
    · cases h
theorem OkS.up {n : Nat} : ∀ {d : D}, OkS n d → OkS (n + 1) d := by
  induction n with
  | zero => exact fun h => .inl h
  | succ n ih =>
    intro d h
    rcases h with h | ⟨ds, h1, h2⟩
    · exact .inl h
    · exact .inr ⟨ds, h1, fun x hx => ih (h2 x hx)⟩
theorem OkS.mono {n m : Nat} {d : D} (h : OkS n d) (hm : n ≤ m) : OkS m d := by
  induction hm with
  | refl => exact h
  | step _ ih => exact ih.up
theorem OkS.at_ {n : Nat} {d : D} (h : isAt d = true) : OkS n d := by
  cases n with
  | zero => exact h
  | succ n => exact .inl h
/-- due d: a is alike -/
def sameD : Nat → D → D → Bool
  | n, a, d => match d with
    | .bool b => isBl a && decide (blOf a = b)
    | .int i => isIn a && (!isBl a && decide (inOf a = i))
    | .str x => isSt a && decide (stOf a = x)
    | .none => isNon a
    | .tuple ds => match n with
      | 0 => false
      | n + 1 => isTu a && (decide ((tuOf a).length = ds.length) && (List.zip (tuOf a) ds).all fun p => sameD n p.1 p.2)
    | _ => false
theorem bl_of {a : D} (h : isBl a = true) : a = .bool (blOf a) := by
  cases a <;> first | rfl | cases h
theorem in_of {a : D} (h : isIn a = true) (h2 : isBl a = false) : a = .int (inOf a) := by
  cases a <;> first | rfl | (cases h; done) | (cases h2; done)
theorem st_of {a : D} (h : isSt a = true) : a = .str (stOf a) := by
  cases a <;> first | rfl | cases h
theorem tu_of {a : D} (h : isTu a = true) : a = .tuple (tuOf a) := by
  cases a <;> first | rfl | cases h
section
variable {X : Cx} {γ γ1 : List Sl} {P : Post} {sts rest A B : List Stmt} {pos : Pos} {i : Nat} {c : Expr} {ds : List D}
theorem DB.ifT (hc : DT X c γ true γ1) (h : DB X A γ1 { P with nx := fun g => DB X rest g P }) : DB X (.If c A B pos :: rest) γ P :=
  DB.cons (DS.ite hc (fun _ => h) fun z => nomatch z)
theorem DB.ifF (hc : DT X c γ false γ1) (h : DB X B γ1 { P with nx := fun g => DB X rest g P }) : DB X (.If c A B pos :: rest) γ P :=
  DB.cons (DS.ite hc (fun z => nomatch z) fun _ => h)
theorem DB.szD (hs : γ[i]? = some (.val (.tuple ds))) (q : ds.length ≤ sizeLine → DB X sts γ P) : DB X sts γ P :=
  DB.sz (ca := id) (xs := ds) (by rw [hs]; show _ = some (Sl.val (.tuple (ds.map id))); rw [List.map_id]) q
end
theorem zip_all {n : Nat} {as ds : List D} (hl : as.length = ds.length) : ((List.zip as ds).all fun p => sameD n p.1 p.2) = true ↔ ∀ j (h : j < ds.length), sameD n (as[j]'(by omega)) ds[j] = true := by
  rw [List.all_eq_true]
  constructor
  · intro h j hj
    have h1 : j < (List.zip as ds).length := by rw [List.length_zip]; omega
    have := h (List.zip as ds)[j] (List.getElem_mem h1)
    rw [List.getElem_zip] at this
    exact this
  · intro h p hp
    obtain ⟨j, hj, rfl⟩ := List.mem_iff_getElem.mp hp
    rw [List.getElem_zip]
    rw [List.length_zip] at hj
    exact h j (by omega)
/-- the contract of the laws' comparison, for data of depth n -/
def RSame (n : Nat) : Ct := fun γ r γ' => ∃ a d, γ = [.val a, .val d] ∧ OkS n a ∧ OkS n d ∧ r = .v (.bool (sameD n a d)) ∧ γ' = [.val a, .val d]

/-! ### data of typed values are alike where the values are equal -/
structure Sm {α : Type} (n : Nat) (c : α → D) : Prop where
  ok : ∀ x, OkS n (c x)
  eq : ∀ x y, sameD n (c x) (c y) = true ↔ x = y
section
variable {α β γ δ : Type} {c1 : α → D} {c2' : β → D} {c3' : γ → D} {c4' : δ → D} {n : Nat}
theorem sm_int : Sm n PyData.int := ⟨fun _ => .at_ rfl, fun x y => by cases n <;> (show (true && (true && decide (x = y))) = true ↔ _; simp)⟩
theorem sm_bool : Sm n PyData.bool := ⟨fun _ => .at_ rfl, fun x y => by cases n <;> (show (true && decide (x = y)) = true ↔ _; simp)⟩
theorem sm_str : Sm n PyData.str := ⟨fun _ => .at_ rfl, fun x y => by cases n <;> (show (true && decide (x = y)) = true ↔ _; simp)⟩
theorem sm_unit : Sm n cU := ⟨fun _ => .at_ rfl, fun x y => by cases n <;> (show true = true ↔ _; simp)⟩
theorem sm_T (h : Sm n c1) : Sm (n + 1) (cT c1) := ⟨fun xs => .inr ⟨_, rfl, fun d hd => by obtain ⟨x, _, rfl⟩ := List.mem_map.mp hd; exact h.ok x⟩, fun xs ys => by
  show (true && (decide ((xs.map c1).length = (ys.map c1).length) && (List.zip (xs.map c1) (ys.map c1)).all fun p => sameD n p.1 p.2)) = true ↔ _
  rw [Bool.true_and, Bool.and_eq_true, decide_eq_true_eq]
  constructor
  · intro ⟨hl, h2⟩
    rw [zip_all hl] at h2
    rw [List.length_map, List.length_map] at hl
    refine List.ext_getElem hl fun j h3 h4 => ?_
    have := h2 j (by rw [List.length_map]; exact h4)
    rw [List.getElem_map, List.getElem_map] at this
    exact (h.eq _ _).mp this
  · intro e
    subst e
    refine ⟨rfl, (zip_all rfl).mpr fun j hj => ?_⟩
    rw [List.getElem_map]
    exact (h.eq _ _).mpr rfl⟩
theorem sm_2 (h1 : Sm n c1) (h2 : Sm n c2') : Sm (n + 1) (c2 c1 c2') := ⟨fun p => .inr ⟨_, rfl, fun d hd => by
    rcases List.mem_cons.mp hd with rfl | hd
    · exact h1.ok _
    rcases List.mem_cons.mp hd with rfl | hd
    · exact h2.ok _
    · cases hd⟩, fun p q => by
  show (true && (true && (sameD n (c1 p.1) (c1 q.1) && (sameD n (c2' p.2) (c2' q.2) && true)))) = true ↔ _
  rw [Bool.true_and, Bool.true_and, Bool.and_true, Bool.and_eq_true, h1.eq, h2.eq, Prod.ext_iff]⟩
theorem sm_3 (h1 : Sm n c1) (h2 : Sm n c2') (h3 : Sm n c3') : Sm (n + 1) (c3 c1 c2' c3') := ⟨fun p => .inr ⟨_, rfl, fun d hd => by
    rcases List.mem_cons.mp hd with rfl | hd
    · exact h1.ok _
    rcases List.mem_cons.mp hd with rfl | hd
    · exact h2.ok _
    rcases List.mem_cons.mp hd with rfl | hd
    · exact h3.ok _
    · cases hd⟩, fun p q => by
  show (true && (true && (sameD n (c1 p.1) (c1 q.1) && (sameD n (c2' p.2.1) (c2' q.2.1) && (sameD n (c3' p.2.2) (c3' q.2.2) && true))))) = true ↔ _
  rw [Bool.true_and, Bool.true_and, Bool.and_true, Bool.and_eq_true, Bool.and_eq_true, h1.eq, h2.eq, h3.eq, Prod.ext_iff, Prod.ext_iff]⟩
/-- not None -/
def NonN (c : α → D) : Prop := ∀ x, isNon (c x) = false
theorem same_nonN {d : D} (h : isNon d = false) (ho : OkS n d) : sameD n .none d = false := by
  cases n with
  | zero => cases d <;> first | rfl | cases h | cases ho
  | succ n => cases d <;> first | rfl | cases h
theorem sm_O (h : Sm n c1) (hn : NonN c1) : Sm n (cO c1) := ⟨fun o => by
    cases o with
    | none => exact .at_ rfl
    | some x => exact h.ok x, fun o q => by
  cases o with
  | none =>
    cases q with
    | none => cases n <;> exact ⟨fun _ => rfl, fun _ => rfl⟩
    | some y =>
      show sameD n .none (c1 y) = true ↔ _
      rw [same_nonN (hn y) (h.ok y)]
      simp
  | some x =>
    cases q with
    | none =>
      have : sameD n (c1 x) .none = isNon (c1 x) := by cases n <;> rfl
      show sameD n (c1 x) .none = true ↔ _
      rw [this, hn x]
      simp
    | some y =>
      show sameD n (c1 x) (c1 y) = true ↔ _
      rw [h.eq]; simp⟩
theorem Sm.up (h : Sm n c1) (hh : ∀ x y, sameD (n + 1) (c1 x) (c1 y) = sameD n (c1 x) (c1 y)) : Sm (n + 1) c1 := ⟨fun x => (h.ok x).up, fun x y => by rw [hh]; exact h.eq x y⟩
end
theorem same_up : ∀ (n : Nat) (a d : D), OkS n d → sameD (n + 1) a d = sameD n a d := by
  intro n
  induction n with
  | zero => intro a d h; cases d <;> first | rfl | cases h
  | succ n ih =>
    intro a d h
    cases d with
    | tuple ds =>
      have h2 : ∀ x ∈ ds, OkS n x := by
        rcases h with h | ⟨es, e, h⟩
        · cases h
        · cases e; exact h
      show (isTu a && (decide ((tuOf a).length = ds.length) && (List.zip (tuOf a) ds).all fun p => sameD (n + 1) p.1 p.2)) = (isTu a && (decide ((tuOf a).length = ds.length) && (List.zip (tuOf a) ds).all fun p => sameD n p.1 p.2))
      have e : ((List.zip (tuOf a) ds).all fun p => sameD (n + 1) p.1 p.2) = ((List.zip (tuOf a) ds).all fun p => sameD n p.1 p.2) := by
        rw [Bool.eq_iff_iff, List.all_eq_true, List.all_eq_true]
        constructor
        · intro h p hp
          rw [← ih p.1 p.2 (h2 _ (List.of_mem_zip hp).2)]; exact h p hp
        · intro h p hp
          rw [ih p.1 p.2 (h2 _ (List.of_mem_zip hp).2)]; exact h p hp
      rw [e]
    | none => rfl
    | bool _ => rfl
    | int _ => rfl
    | str _ => rfl
    | list _ => rfl
    | dict _ => rfl
theorem same_mono {n m : Nat} {a d : D} (h : OkS n d) (hm : n ≤ m) : sameD m a d = sameD n a d := by
  induction hm with
  | refl => rfl
  | step hm ih => rw [← ih]; exact same_up _ a d (h.mono hm)
theorem Sm.mono {α : Type} {c : α → D} {n m : Nat} (h : Sm n c) (hm : n ≤ m) : Sm m c := ⟨fun x => (h.ok x).mono hm, fun x y => by rw [same_mono (h.ok y) hm]; exact h.eq x y⟩
theorem sm_dec {α : Type} [DecidableEq α] {c : α → D} {n : Nat} (h : Sm n c) (x y : α) : sameD n (c x) (c y) = decide (x = y) := by
  rw [Bool.eq_iff_iff, h.eq, decide_eq_true_eq]
end PD


set_option Elab.async false
set_option linter.all false
/-! PD12: ranges of numbers of any size; sorted(set(xs)). -/
namespace PD
open PySem L2 PySem.Spec PyProof.Rows
theorem turn_long {P : Program} {w : World} {K : PySem.W.Frag} {tg : Expr} (J : Addr) (lo : Int) (n : Nat) : Turn P w K tg (Itr lo n) [J] J (fun i h => IsLongIter h J (lo + (i : Nat) * 1) ((n : Int) - (i : Nat)) 1) where
  mem := List.mem_singleton.mpr rfl
  obj := fun i h st b hb => by
    obtain rfl := List.mem_singleton.mp hb
    exact ⟨_, st, fun v (z : Data.fields _ = Data.cell v) => nomatch z⟩
  keep := fun i h h' st k => k J (List.mem_singleton.mpr rfl) _ st
  item := by
    intro X e1 e2 e3 hc i pins t σ H E I hf st hg
    subst e1 e2 e3
    obtain ⟨f0, f1, f2, f3, f4, f5⟩ := hf J (List.mem_singleton.mpr rfl)
    refine (Walks.longrange (prog := X.prog) (w := X.w) (I.ok.hd hc) J lo 1 n).item i t _ _ hg st fun v h' tk ⟨u, hu⟩ st2 kk => ?_
    subst hu
    have I1 : Inv X pins σ H { t with heap := h', toks := tk } := I.turned (fun b o hb => kk b o fun z => hb (List.mem_singleton.mp z)) f0 f1 f3 f4 f5
    exact ⟨_, rfl, go_of (n := "longrange_iterator") (s := { t with heap := h', toks := tk }) st2 rfl rfl (by decide) ⟨.int (lo + i), H, I1, ⟨u, by rw [Int.mul_one]⟩, ⟨rfl, rfl⟩, st2, fun b hb => (hf b hb).1⟩⟩
  done := by
    intro X e1 e2 e3 hc i pins t σ H E I hf st hg
    subst e1 e2 e3
    obtain ⟨f0, f1, f2, f3, f4, f5⟩ := hf J (List.mem_singleton.mpr rfl)
    exact wpAny_pyNext_long_end (I.ok.hd hc) st (by have z : n ≤ i := hg; omega) fun h' eb => ⟨rfl, I.turned (t' := t.toks) (fun b o hb e => eb b o hb e) f0 f1 f3 f4 f5⟩
  self := fun _ _ _ _ _ st h => wpAny_pyIter_longiter st h
section
variable {X : Cx} {tg a b : Expr} {γ γ1 γ2 : List Sl} {p pos : Pos}
theorem rangeW_it {pins : List (Addr × Obj)} {σ : L2.St} {H : Hp} {s : Shared} {R : It → Hp → Prop} {E : Value → Shared → Prop} {lo hi : Int} {t u v : Tok} {tk : Nat} (I : Inv X pins σ H s) (q : R (Itr lo (hi - lo).toNat) H) :
    wpAny (model X.prog X.w) X.A (pyIter (.ref s.heap.objs.size)) (PIE X pins σ tg R) E { s with heap := s.heap.push { cls := .type "range", data := .fields #[.int lo t, .int hi u, .int 1 v] }, toks := tk } := by
  have I1 : Inv X pins σ H { s with heap := s.heap.push { cls := .type "range", data := .fields #[.int lo t, .int hi u, .int 1 v] }, toks := tk } := I.kept fun b o e => Heap.get?_push_of_some _ e
  have e1 : lo + ((0 : Nat) : Int) * 1 = lo := by simp
  have e2 : (((hi - lo).toNat : Nat) : Int) - ((0 : Nat) : Int) = Builtin.Range.rangeSize lo hi 1 := by rw [rangeSize_one]; split <;> omega
  by_cases hs : Builtin.Range.small lo hi 1 = true
  · refine wpAny_pyIter_range (IsRange.new ..) hs ⟨_, [_], _, _, H, rfl, I1.kept (t' := tk) fun b o e => Heap.get?_push_of_some _ e, turn_range _ lo (hi - lo).toNat, ?_, fun b hb => ?_, q⟩
    · show IsRangeIter _ _ (lo + ((0 : Nat) : Int) * 1) ((((hi - lo).toNat : Nat) : Int) - ((0 : Nat) : Int)) 1
      rw [e1, e2]; exact Heap.get?_push_size _ rfl
    · obtain rfl := List.mem_singleton.mp hb
      exact I1.fpOk (Nat.le_refl _) (I1.hok.fresh (Nat.le_refl _))
  · refine wpAny_pyIter_longrange (IsRange.new ..) (by simpa using hs) ⟨_, [_], _, _, H, rfl, I1.kept (t' := tk) fun b o e => Heap.get?_push_of_some _ e, turn_long _ lo (hi - lo).toNat, ?_, fun b hb => ?_, q⟩
    · show IsLongIter _ _ (lo + ((0 : Nat) : Int) * 1) ((((hi - lo).toNat : Nat) : Int) - ((0 : Nat) : Int)) 1
      rw [e1, e2]; exact Heap.get?_push_size _ rfl
    · obtain rfl := List.mem_singleton.mp hb
      exact I1.fpOk (Nat.le_refl _) (I1.hok.fresh (Nat.le_refl _))
def iRngW (ta : TA) : TI := fun σ H R => ta σ H fun vs H1 => ∃ i j : Int, vs = [.int i, .int j] ∧ R (Itr i (j - i).toNat) H1
theorem pi_rangeW {ta : TA} (hg : Gl X "range") (hm : X.mg "range" = none) (ha : PA X [a, b] ta) (hs : starEach [a, b] X.env = [(false, eval a X.env), (false, eval b X.env)]) (hs2 : starEach [b] X.env = [(false, eval b X.env)]) : PI X tg (.Call (.Name "range" p) [a, b] [] pos) (iRngW ta) := by
  refine ⟨fun pins s σ H R I h => Call_ (ld_blt I hg hm boot_range (PyProof.Rows.callWith_type1 (thn (ha.run pos pins s σ H _ I h) fun us s1 ⟨vs, H1, I1, r1, i, j, e, q⟩ => ?_) (by rw [hs, hs2]) (by rw [hs2]; rfl)))⟩
  subst e
  cases r1 with
  | cons r rr =>
    cases rr with
    | cons r2 rr =>
      cases rr
      obtain ⟨t, rfl⟩ := r
      obtain ⟨t2, rfl⟩ := r2
      exact call_range_2 (rangeW_it I1 q)
theorem DI.rngW {i j : Int} (hg : Gl X "range") (hm : X.mg "range" = none) (h : DE X a γ (.int i) γ1) (h' : DE X b γ1 (.int j) γ2) (hs : starEach [a, b] X.env = (false, eval a X.env) :: starEach [b] X.env := by rfl) (hs2 : starEach [b] X.env = (false, eval b X.env) :: starEach [] X.env := by rfl) :
    DI X tg (.Call (.Name "range" p) [a, b] [] pos) γ (j - i).toNat (j - i).toNat (fun n => .int (i + n)) γ2 fun _ => True := fun σ F H R E q => by
  refine wI_of (pi_rangeW hg hm (pa_cons peW (pa_cons peW pa_nil hs2) hs) (by rw [hs, hs2]; rfl) (by rw [hs2]; rfl)) (h σ F H _ E fun v F1 H1 A r => h' σ F1 H1 _ A.e fun u F2 H2 A2 r2 => ⟨i, j, by rw [dp_int r, dp_int r2], q _ F2 H2 (A.trans A2) (Nat.le_refl _) rng_wlk⟩)
theorem DX.rngW {i j : Int} (hg : Gl X "range") (hm : X.mg "range" = none) (h : DE X a γ (.int i) γ1) (h' : DE X b γ1 (.int j) γ2) (hs : starEach [a, b] X.env = (false, eval a X.env) :: starEach [b] X.env := by rfl) (hs2 : starEach [b] X.env = (false, eval b X.env) :: starEach [] X.env := by rfl) :
    DX X tg (.Call (.Name "range" p) [a, b] [] pos) γ PyData.int (irange i (j - i).toNat) (j - i).toNat γ2 fun _ => True :=
  ⟨fun n => .int (i + n), fun n x e => by rw [(irange_get e).1], by rw [irange_len]; exact DI.rngW hg hm h h' hs hs2⟩
end

/-! ### set(xs), xs a list of ints -/
/-- the empty set that set(..) starts with -/
abbrev set0 (w : World) : Obj := { cls := .type "set", dict := none, data := .set #[] 0 (.fresh 0 0 (!w.params.followText "set-order")) }
set_option maxRecDepth 100000 in
set_option maxHeartbeats 3200000 in
theorem call_setL {P : Program} {w : World} {A : Around} {E : Value → Shared → Prop} {s : Shared} {l : Addr} {items : Array Value} {ns : List Int} {Q : Value → Shared → Prop} (hh : A.handled = none) (hl : s.heap.IsList l items) (hit : IntsAre items.toList ns) (hb : ns.length + 1 < scanBound)
    (fin : ∀ (h2 : Heap) (tk c : Nat), SetR w h2 s.heap.objs.size (fun j => decide (j ∈ ns)) c → c ≤ ns.length → (∀ b o, s.heap.get? b = some o → h2.get? b = some o) → Q (.ref s.heap.objs.size) { s with heap := h2, toks := tk }) : wpAny (model P w) A (call (.type "set") [.ref l]) Q E s := by
  have size_eq : items.size = ns.length := (Array.length_toList (xs := items)).symm.trans (IntsAre.length hit)
  obtain ⟨c0, t0, q1⟩ := F.called_set.mro
  have q2 := F.called_set.made; have q3 := F.called_set.sub; have q4 := F.called_set.notType
  have q5 := F.called_set.canCreate; have q6 := F.typeCall_set_1 (.ref l)
  refine wpAny_call (codeAny_of_tree ?_)
  change wpAny _ _ (callAny (.type "set") _) _ _ _
  refine wpAny_pure ⟨Code.quiet_builtin _ (by decide +kernel), codeAny_builtin F.entry_type_call ?_⟩
  rw [Around.under_plain (weight_type_call_type "set" [.ref l] []) rfl]
  repeat (any_goals (first | assumption | wp_step))
  refine codeAny_mono (code_set_led1 (P := P) (w := w) (s := s) (E := E) (Q₁ := fun o z => o = .ref s.heap.objs.size ∧ z = { s with heap := s.heap.push (set0 w) }) (.ref l) ⟨rfl, rfl⟩) fun r z hr => ?_
  match r, hr with
  | .error _, hr => exact hr
  | .ok (.ret _), ⟨e1, e2⟩ =>
    subst e1 e2
    have g0 : (s.heap.push (set0 w)).get? s.heap.objs.size = some (set0 w) := Heap.get?_push_size _ rfl
    have gT : Shared.TypeIs { s with heap := s.heap.push (set0 w) } (.ref s.heap.objs.size) "set" := ⟨_, g0, rfl⟩
    have q7 := F.called_set.init.lookup; have q8 := F.called_set.init.bind (.ref s.heap.objs.size)
    repeat (any_goals (first | assumption | wp_step))
    refine codeAny_mono (codeAny_call_builtin (R := wants (fun r z => r = .none ∧ ∃ h2 tk c, z = { s with heap := h2, toks := tk } ∧ SetR w h2 s.heap.objs.size (fun j => decide (j ∈ ns)) c ∧ c ≤ ns.length ∧ (∀ b o, s.heap.get? b = some o → h2.get? b = some o)) E) F.called_set.init.plain F.entry_set_init (PySem.check_set_init_1 gT ?_)) fun r2 z2 hr2 => ?_
    · obtain ⟨⟨oc, od, oa, os⟩, g1, g2, nl, g3⟩ := hl
      simp only at g2 g3
      subst g2 g3
      have g4 : (s.heap.push (set0 w)).get? l = some { cls := .type "list", dict := od, data := .seq items nl, slots := os } := Heap.get?_push_of_some _ g1
      have q9 := PySem.F.sub_list_set; have q10 := PySem.F.sub_list_frozenset
      have q11 : (Value.type "list" == Value.type "dict") = false := by decide
      have g5 : (s.heap.push (set0 w)).IsList l items := ⟨_, g4, rfl, nl, rfl⟩
      unfold Builtin.«set.__init__» noKeywords Builtin.Frozenset.updateFrom
      generalize hPI : pyIter = PI
      wp_walk
      subst hPI
      refine wpAny_pyIter_list g5 (wpAny_bind (wpAny_runValue ?_))
      have sl : l < s.heap.objs.size := Heap.lt_size g1
      have sz : (s.heap.push (set0 w)).objs.size = s.heap.objs.size + 1 := Heap.size_push ..
      have ne : l ≠ (s.heap.push (set0 w)).objs.size := by rw [sz]; exact Nat.ne_of_lt (Nat.lt_succ_of_lt sl)
      have nf : s.heap.objs.size ∉ [(s.heap.push (set0 w)).objs.size, l] := fun m => by
        rcases List.mem_cons.mp m with m | m
        · rw [sz] at m; exact Nat.ne_of_lt (Nat.lt_succ_self _) m
        · exact Nat.ne_of_gt sl (List.mem_singleton.mp m)
      have val : ∀ (i : Nat) (v : Value), items[i]? = some v → ∃ k t, ns[i]? = some k ∧ v = .int k t := fun i v hv => by
        have hi : i < ns.length := size_eq ▸ (Array.getElem?_eq_some_iff.mp hv).1
        obtain ⟨t, e⟩ := PyProof.Rows.IntsAre.int_at hit i v (by rw [Array.getElem?_toList]; exact hv)
        exact ⟨ns[i], t, List.getElem?_eq_getElem hi, by rw [e, List.getD_eq_getElem?_getD, List.getElem?_eq_getElem hi]; rfl⟩
      refine set_update_ints ((Walks.list (by simp [hh]) _ l ne items).toS) s.heap.objs.size nf ns size_eq hb val (items.size - 0) 0 _ (by omega) (Nat.zero_le _) ⟨⟨_, Heap.get?_push_size _ rfl, rfl, rfl⟩, (g5.push _)⟩ ⟨0, Nat.le_refl 0, setR_new_at (Heap.get?_push_of_some _ g0)⟩ fun z c hm hc hS => ?_
      obtain ⟨h2, g2, d2, tk2, os2⟩ := z
      obtain rfl : g2 = s.gens := hm.gens
      obtain rfl : d2 = s.drawn := hm.drawn
      obtain rfl : os2 = s.os := hm.os
      refine wpAny_pure (wpAny_pure ⟨rfl, h2, tk2, c, rfl, hS, size_eq ▸ hc, fun b o e => ?_⟩)
      have b0 : b < s.heap.objs.size := Heap.lt_size e
      refine hm.heap b o (fun m => ?_) (Heap.get?_push_of_some _ (Heap.get?_push_of_some _ e))
      rcases List.mem_cons.mp m with m | m
      · exact Nat.ne_of_lt b0 m
      · have m := List.mem_singleton.mp m
        rw [sz] at m
        exact Nat.ne_of_lt (Nat.lt_succ_of_lt b0) m
    · match r2, hr2 with
      | .error _, hr2 => exact hr2
      | .ok (.ret _), ⟨e1, h2, tk, c, e2, hS, hc, hk⟩ =>
        subst e1 e2
        repeat (any_goals (first | assumption | wp_step))
        exact fin _ _ _ hS hc hk

end PD

set_option Elab.async false
set_option linter.all false
/-! PD13: sorted(set(xs)) of ints. -/
namespace PD
open PySem L2 PySem.Spec PyProof.Rows
/-- sorted(set(xs)) of ints -/
def insI (x : Int) : List Int → List Int
  | [] => [x]
  | y :: ys => if x < y then x :: y :: ys else if x = y then y :: ys else y :: insI x ys
def srtSet (xs : List Int) : List Int := xs.foldr insI []
theorem mem_insI {x k : Int} : ∀ {ys : List Int}, k ∈ insI x ys ↔ k = x ∨ k ∈ ys
  | [] => by simp [insI]
  | y :: ys => by
    unfold insI
    split
    · simp
    · split
      · next h => subst h; simp
      · rw [List.mem_cons, mem_insI, List.mem_cons]
        constructor
        · rintro (h | h | h)
          · exact .inr (.inl h)
          · exact .inl h
          · exact .inr (.inr h)
        · rintro (h | h | h)
          · exact .inr (.inl h)
          · exact .inl h
          · exact .inr (.inr h)
theorem mem_srtSet {k : Int} : ∀ {xs : List Int}, k ∈ srtSet xs ↔ k ∈ xs
  | [] => by simp [srtSet]
  | x :: xs => by
    show k ∈ insI x (srtSet xs) ↔ _
    rw [mem_insI, mem_srtSet, List.mem_cons]
theorem insI_lt {x : Int} : ∀ {ys : List Int}, ys.Pairwise (· < ·) → (insI x ys).Pairwise (· < ·)
  | [], _ => by simp [insI]
  | y :: ys, h => by
    obtain ⟨h1, h2⟩ := List.pairwise_cons.mp h
    unfold insI
    split
    · next hx =>
      refine List.pairwise_cons.mpr ⟨fun z hz => ?_, h⟩
      rcases List.mem_cons.mp hz with e | hz
      · subst e; exact hx
      · have := h1 z hz; omega
    · split
      · exact h
      · refine List.pairwise_cons.mpr ⟨fun z hz => ?_, insI_lt h2⟩
        rcases mem_insI.mp hz with e | hz
        · subst e; omega
        · exact h1 z hz
theorem srtSet_lt : ∀ (xs : List Int), (srtSet xs).Pairwise (· < ·)
  | [] => List.Pairwise.nil
  | x :: xs => insI_lt (srtSet_lt xs)
theorem lt_unique : ∀ {xs ys : List Int}, xs.Pairwise (· < ·) → ys.Pairwise (· < ·) → (∀ k, k ∈ xs ↔ k ∈ ys) → xs = ys
  | [], [], _, _, _ => rfl
  | [], y :: ys, _, _, h => absurd ((h y).mpr List.mem_cons_self) (by simp)
  | x :: xs, [], _, _, h => absurd ((h x).mp List.mem_cons_self) (by simp)
  | x :: xs, y :: ys, h1, h2, h => by
    obtain ⟨a1, a2⟩ := List.pairwise_cons.mp h1
    obtain ⟨b1, b2⟩ := List.pairwise_cons.mp h2
    have e : x = y := by
      rcases List.mem_cons.mp ((h x).mp List.mem_cons_self) with e | e
      · exact e
      · rcases List.mem_cons.mp ((h y).mpr List.mem_cons_self) with e2 | e2
        · exact e2.symm
        · have := a1 y e2
          have := b1 x e
          omega
    subst e
    rw [lt_unique a2 b2 fun k => ?_]
    constructor
    · intro hk
      rcases List.mem_cons.mp ((h k).mp (List.mem_cons_of_mem _ hk)) with e | e
      · have := a1 k hk; omega
      · exact e
    · intro hk
      rcases List.mem_cons.mp ((h k).mpr (List.mem_cons_of_mem _ hk)) with e | e
      · have := b1 k hk; omega
      · exact e
def tSortSet (K : PySem.W.Frag) (ta : TE) : TE := fun σ H Q => ta σ H fun x H1 => ∃ (l : Addr) (ns : List Int), x = .ref l ∧ SqL K H1 l (ns.map V.int) ∧ ns.length < 64 ∧ ∀ (out : List Int) p, out.Pairwise (· < ·) → (∀ k, k ∈ out ↔ k ∈ ns) → H1 p = none → Q (.ref p) (L2.upd H1 p (.lst (out.map V.int)))
theorem sortSet_fin {X : Cx} {pins : List (Addr × Obj)} {σ : L2.St} {H : Hp} {Q : VK} {t : Shared} {a : Addr} {S : Int → Bool} {n : Nat} (I : Inv X pins σ H t) (R : SetR X.w t.heap a S n) (hc : X.calm = true) (h64 : n < 64)
    (fin : ∀ (out : List Int) p, out.Pairwise (· < ·) → (∀ k, k ∈ out ↔ S k = true) → H p = none → Q (.ref p) (L2.upd H p (.lst (out.map V.int)))) : wpAny (model X.prog X.w) X.A (call (.builtin "sorted") [.ref a]) (EP X pins σ Q) X.xe t := by
  refine sorted_set R (I.ok.hd hc) h64 fun z q out cc ms k g o hp hget hi hs hmem hl => ?_
  have hn : H q = none := I.hok.fresh hp
  have hlen : (ms.map V.int).length ≤ sizeLine := by rw [List.length_map, sizeLine_eq]; omega
  have J : Inv X pins σ (L2.upd H q (.lst (ms.map V.int))) { t with heap := z.heap, gens := z.gens, drawn := z.drawn, toks := z.toks } :=
    I.call (ch := []) (Un.laid k hp hn) (I.hok.laid k hp ⟨hlen, out.toList, cc, vals_of_ints hi, hget⟩) (by rw [g]; exact I.bare) (fun _ y => nomatch y)
  have e : z = { t with heap := z.heap, gens := z.gens, drawn := z.drawn, toks := z.toks } := by
    obtain ⟨z1, z2, z3, z4, z5⟩ := z
    obtain ⟨t1, t2, t3, t4, t5⟩ := t
    cases o; rfl
  rw [e]
  exact ⟨.ref q, _, J, rfl, fin ms q hs hmem hn⟩
theorem pe_sortSet {X : Cx} {a : Expr} {ta : TE} {p p2 q pos : Pos} (hc : X.calm = true) (hg : Gl X "sorted") (hm : X.mg "sorted" = none) (hg2 : Gl X "set") (hm2 : X.mg "set" = none) (ha : PE X a ta)
    (na : starEach [a] X.env = (false, eval a X.env) :: starEach [] X.env) : PE X (.Call (.Name "sorted" p) [.Call (.Name "set" p2) [a] [] q] [] pos) (tSortSet X.K ta) := by
  refine ⟨fun pins s σ H Q I h => Call_ (ld_blt I hg hm PyProof.Rows.boot_sorted ?_)⟩
  refine PyProof.Rows.callWith_builtin1 (PyProof.Rows.args_cons (Call_ (ld_blt I hg2 hm2 PyProof.Rows.boot_set ?_)) rfl) rfl rfl
  refine PyProof.Rows.callWith_type1 (PyProof.Rows.args_cons (thn (ha.run pins s σ H _ I h) fun v s1 ⟨x, H1, I1, r1, l, ns, ex, hq, hz, fin⟩ => PyProof.Rows.args_nil ?_) na) na rfl
  subst ex
  cases r1
  obtain ⟨us, ru, pl, _⟩ := I1.list hq
  have hns : us.toArray.size = ns.length := by rw [List.size_toArray, ← ru.length, List.length_map]
  refine call_setL (ns := ns) (I1.ok.hd hc) pl.isList (ints_of_vals ru) (by unfold scanBound; omega) fun h2 tk c hS hcn hk => PyProof.Rows.args_nil ?_
  have I2 : Inv X pins σ H1 { s1 with heap := h2, toks := tk } := I1.kept hk
  exact sortSet_fin I2 hS hc (by omega) fun ms q hs hm hn => fin ms q hs (fun j => by rw [hm j, decide_eq_true_eq]) hn
theorem DF.sortedSetI {X : Cx} {a : Expr} {γ γ1 : List Sl} {src : Src} {p p2 q pos : Pos} {xs : List Int} (hc : X.calm = true) (hg : Gl X "sorted") (hm : X.mg "sorted" = none) (hg2 : Gl X "set") (hm2 : X.mg "set" = none) (ha : DQ X a γ src true (xs.map PyData.int) γ1) (hz : xs.length < 64)
    (na : starEach [a] X.env = (false, eval a X.env) :: starEach [] X.env := by rfl) : DF X (.Call (.Name "sorted" p) [.Call (.Name "set" p2) [a] [] q] [] pos) γ (.lst ((srtSet xs).map PyData.int)) γ1 := fun σ F H Q E qq => by
  refine wE_of (pe_sortSet hc hg hm hg2 hm2 peW na) (ha σ F H _ E fun v F1 H1 a1 s1 => ?_)
  obtain ⟨l, vs, rfl, hq, hv⟩ := SqL.ofSq (s1.sq a1.e)
  have e := dpa_ints hv
  subst e
  refine ⟨l, xs, rfl, hq, hz, fun out q hs hm hn => ?_⟩
  have : out = srtSet xs := lt_unique hs (srtSet_lt xs) fun k => by rw [hm k, mem_srtSet]
  subst this
  exact fresh_fin a1 hn (.lst (dpa_of_ints _)) qq

/-! ### how long lists may grow in loops -/
theorem fold_len {σ α : Type} {stp : σ → α → σ} {s0 s : σ} {pre : List α} (f : σ → Nat) (k : Nat) (h : ∀ s x, f (stp s x) ≤ f s + k) (e : s = pre.foldl stp s0) : f s ≤ f s0 + k * pre.length := by
  subst e
  induction pre generalizing s0 with
  | nil => simp
  | cons x pre ih =>
    rw [List.foldl_cons, List.length_cons, Nat.mul_succ]
    have := ih (s0 := stp s0 x)
    have := h s0 x
    omega
def lenO {σ ρ : Type} (f : σ → Nat) (n : Nat) : Out σ ρ → Prop
  | .nx s => f s ≤ n
  | .bk s => f s ≤ n
  | .rt _ => True
theorem foldO_len {σ α ρ : Type} {stp : σ → α → Out σ ρ} {s0 s : σ} {pre : List α} (f : σ → Nat) (k : Nat) (h : ∀ s x, lenO f (f s + k) (stp s x)) (e : forO stp s0 pre = .nx s) : f s ≤ f s0 + k * pre.length := by
  induction pre generalizing s0 with
  | nil => cases e; simp
  | cons x pre ih =>
    rw [List.length_cons, Nat.mul_succ]
    have h2 := h s0 x
    have e2 : onx (stp s0 x) (fun s' => forO stp s' pre) = .nx s := e
    cases hx : stp s0 x with
    | nx s1 =>
      rw [hx] at e2 h2
      have := ih (s0 := s1) e2
      have h3 : f s1 ≤ f s0 + k := h2
      omega
    | bk s1 => rw [hx] at e2; cases e2
    | rt r => rw [hx] at e2; cases e2
theorem mid_len {α : Type} {xs pre post : List α} {x : α} (h : xs = pre ++ x :: post) : pre.length + 1 ≤ xs.length := by
  rw [h, List.length_append, List.length_cons]; omega
theorem fold_eq {σ α : Type} {stp : σ → α → σ} {s0 s : σ} {pre : List α} (f : σ → Nat) (h : ∀ s x, f (stp s x) = f s) (e : s = pre.foldl stp s0) : f s = f s0 := by
  subst e
  induction pre generalizing s0 with
  | nil => rfl
  | cons x pre ih => rw [List.foldl_cons, ih, h]
theorem srtSet_len : ∀ (xs : List Int), (srtSet xs).length ≤ xs.length
  | [] => Nat.le_refl _
  | x :: xs => by
    have : ∀ (x : Int) (ys : List Int), (insI x ys).length ≤ ys.length + 1 := fun x ys => by
      induction ys with
      | nil => exact Nat.le_refl _
      | cons y ys ih =>
        unfold insI
        split
        · exact Nat.le_refl _
        · split
          · exact Nat.le_succ _
          · show (insI x ys).length + 1 ≤ ys.length + 1 + 1
            omega
    have h1 := this x (srtSet xs)
    have h2 := srtSet_len xs
    show (insI x (srtSet xs)).length ≤ xs.length + 1
    omega

/-! ### the law itself -/
theorem fn_of {P : Program} {w : World} {K : PySem.W.Frag} {mg : Str → Option Value} {base : Heap} {f : Addr} {fd : FuncData} {x qual : Str} {params : Arguments} {body : List Stmt} {scope : Scope} {N ps : List Str} {k : Nat} {R : Ct} (F : FunD K x qual params body scope [] [] f fd) (S : FnScope N ps scope) (hl : ps.length ≤ N.length) (hlen : ∀ γ r γ', R γ r γ' → γ.length = ps.length)
    (h : ∀ (cdv : Value) (A : Around) (outer : List Env) (s : Shared) (H : Hp) (E : XK), Room k (A.deeper (envOfC qual scope s.heap.objs.size f cdv)) → ∀ γ r γ', R γ r γ' →
      DB (cxOf CX0 P w K mg base N qual scope f cdv A outer s H E).nox body (γ ++ List.replicate (N.length - γ.length) Sl.em) (PR γ r γ')) : FnOk P w K mg base CX0 (k + 1) f fd ps (spD K R) := by
  refine F.ok S (fun vs H Q E z => ?_) (fun cdv A outer s H vs Q E hr z => ?_)
  · obtain ⟨γ, F, r, γ', E1, hR, _⟩ := z
    have := E1.len
    rw [List.length_map] at this
    rw [← this, hlen _ _ _ hR]
  · obtain ⟨γ, F1, r, γ', E1, hR, q⟩ := z
    refine ⟨_, PSs.nox pbW, h cdv A outer s H E hr γ r γ' hR (L2.start N vs) F1 H _ ?_ (fin_of E1 q)⟩
    exact start_env E1 (by rw [hlen _ _ _ hR]; exact hl)
def spLaw (K : PySem.W.Frag) : Sp := fun vs H Q _ => ∃ (a : Addr) (ns : List Int), vs = [.ref a] ∧ SqL K H a (ns.map V.int) ∧ ns.length ≤ 63 ∧ ∀ H', Q (.bl true) H'
theorem law_fn {P : Program} {w : World} {K : PySem.W.Frag} {mg : Str → Option Value} {base : Heap} {f : Addr} {fd : FuncData} {k : Nat} {R : Ct} (F : FnOk P w K mg base CX0 k f fd ["script"] (spD K R))
    (h : ∀ ns : List Int, ns.length ≤ 63 → R [.val (cL PyData.int ns)] (.v (.bool true)) [.val (cL PyData.int ns)]) : FnOk P w K mg base CX0 k f fd ["script"] (spLaw K) := by
  refine F.imp fun vs H Q E ⟨a, ns, e, hS, hl, q⟩ => ?_
  subst e
  refine ⟨_, H, _, _, ⟨Same.refl _, rfl, fun i s hs => ?_, fun i j a b m m' h1 => ?_⟩, h ns hl, fun v F' H' A ro nw => ?_⟩
  · match i, hs with
    | 0, hs =>
      cases hs
      exact ⟨.ref a, rfl, .lst hS (dpa_of_ints ns)⟩
    | i + 1, hs => cases hs
  · match i, h1 with
    | 0, h1 => cases h1
    | i + 1, h1 => cases h1
  · have : v = .bl true := dp_bl ro
    rw [this]
    exact q H'
end PD

set_option Elab.async false
set_option linter.all false
/-! PD14: plain facts about the mirrors' words. -/
namespace PD
open PySem L2 PySem.Spec PyProof.Rows
theorem irange_zero (lo : Int) : irange lo 0 = [] := rfl
theorem irange_succ (lo : Int) (n : Nat) : irange lo (n + 1) = irange lo n ++ [lo + n] := by
  unfold irange
  rw [List.range_succ, List.map_append]; rfl
theorem irange_shift (lo d : Int) (n : Nat) : irange (lo + d) n = (irange lo n).map (· + d) := by
  unfold irange
  rw [List.map_map]
  refine List.map_congr_left fun i _ => ?_
  show lo + d + i = lo + i + d
  omega
theorem mem_irange {lo : Int} {n : Nat} {x : Int} : x ∈ irange lo n ↔ lo ≤ x ∧ x < lo + n := by
  refine ⟨irange_mem, fun h => ?_⟩
  unfold irange
  exact List.mem_map.mpr ⟨(x - lo).toNat, List.mem_range.mpr (by omega), by omega⟩
theorem irange_lt (lo : Int) : ∀ n, (irange lo n).Pairwise (· < ·)
  | 0 => List.Pairwise.nil
  | n + 1 => by
    rw [irange_succ]
    refine List.pairwise_append.mpr ⟨irange_lt lo n, List.pairwise_singleton _ _, fun a ha b hb => ?_⟩
    rw [List.mem_singleton.mp hb]
    have := irange_mem ha
    omega
section
variable {α β : Type} [Inhabited α] {xs ys : List α} {k : Int}
theorem ix_nat {xs : List α} {j : Nat} : ix xs (j : Int) = xs.getD j default := by
  unfold ix ixI
  rw [if_neg (by omega)]; rfl
theorem ix_app_l (h0 : 0 ≤ k) (h : k < xs.length) : ix (xs ++ ys) k = ix xs k := by
  obtain ⟨j, rfl⟩ : ∃ j : Nat, k = j := ⟨k.toNat, by omega⟩
  rw [ix_nat, ix_nat, List.getD_eq_getElem?_getD, List.getD_eq_getElem?_getD, List.getElem?_append_left (by omega)]
theorem ix_app_r {y : α} : ix (xs ++ y :: ys) (xs.length : Int) = y := by
  rw [ix_nat, List.getD_eq_getElem?_getD, List.getElem?_append_right (Nat.le_refl _), Nat.sub_self]; rfl
theorem ix_cons_zero {y : α} : ix (y :: ys) 0 = y := rfl
theorem ix_cons_succ {y : α} (h : 0 ≤ k) : ix (y :: ys) (k + 1) = ix ys k := by
  obtain ⟨j, rfl⟩ : ∃ j : Nat, k = j := ⟨k.toNat, by omega⟩
  have : ((j : Int) + 1) = ((j + 1 : Nat) : Int) := by omega
  rw [this, ix_nat, ix_nat]; rfl
theorem ix_neg_one (h : 0 < xs.length) : ix xs (-1) = ix xs ((xs.length : Int) - 1) := by
  unfold ix ixI
  rw [if_pos (by decide), if_neg (by omega)]
  congr 1
theorem ix_last {x : α} : ix (xs ++ [x]) (-1) = x := by
  rw [ix_neg_one (by rw [List.length_append]; exact Nat.succ_pos _)]
  rw [show (((xs ++ [x]).length : Int) - 1) = (xs.length : Int) by rw [List.length_append, List.length_singleton]; omega]
  exact ix_app_r
theorem ix_map [Inhabited β] {f : α → β} (h0 : 0 ≤ k) (h : k < xs.length) : ix (xs.map f) k = f (ix xs k) := by
  obtain ⟨j, rfl⟩ : ∃ j : Nat, k = j := ⟨k.toNat, by omega⟩
  rw [ix_nat, ix_nat, List.getD_eq_getElem?_getD, List.getD_eq_getElem?_getD, List.getElem?_map, List.getElem?_eq_getElem (by omega)]; rfl
theorem ix_map_last [Inhabited β] {f : α → β} (h : 0 < xs.length) : ix (xs.map f) (-1) = f (ix xs (-1)) := by
  rw [ix_neg_one (by rw [List.length_map]; exact h), ix_neg_one h, List.length_map]
  exact ix_map (by omega) (by omega)
theorem ix_mem_of (h0 : 0 ≤ k) (h : k < xs.length) : ix xs k ∈ xs := by
  rw [ix_nn h0 h]; exact List.getElem_mem _
/-- walking by numbers is walking -/
theorem map_ix (xs : List α) : (irange 0 xs.length).map (fun i => ix xs i) = xs := by
  refine List.ext_getElem? fun j => ?_
  by_cases h : j < xs.length
  · unfold irange
    rw [List.map_map, List.getElem?_map, List.getElem?_range h, List.getElem?_eq_getElem h]
    show some (ix xs (0 + (j : Int))) = _
    rw [Int.zero_add, ix_nat, List.getD_eq_getElem?_getD, List.getElem?_eq_getElem h]; rfl
  · rw [List.getElem?_eq_none (by rw [List.length_map, irange_len]; omega), List.getElem?_eq_none (by omega)]
theorem fold_ix {σ : Type} (g : σ → α → σ) (s0 : σ) (xs : List α) : (irange 0 xs.length).foldl (fun s i => g s (ix xs i)) s0 = xs.foldl g s0 := by
  conv => rhs; rw [← map_ix xs, List.foldl_map]
/-- walking by numbers, with the one before -/
theorem fold_pairs {σ : Type} (g : σ → α → α → σ) (s0 : σ) (p : α) (xs : List α) : (irange 1 xs.length).foldl (fun s i => g s (ix (p :: xs) (i - 1)) (ix (p :: xs) i)) s0 = (xs.foldl (fun (q : σ × α) x => (g q.1 q.2 x, x)) (s0, p)).1 := by
  have key : ∀ n, n ≤ xs.length → (xs.take n).foldl (fun (q : σ × α) x => (g q.1 q.2 x, x)) (s0, p) = ((irange 1 n).foldl (fun s i => g s (ix (p :: xs) (i - 1)) (ix (p :: xs) i)) s0, ix (p :: xs) (n : Int)) := by
    intro n
    induction n with
    | zero => intro _; rfl
    | succ n ih =>
      intro h
      have e : xs[n]'(by omega) = ix (p :: xs) ((n + 1 : Nat) : Int) := by
        rw [ix_nat, List.getD_eq_getElem?_getD, List.getElem?_cons_succ, List.getElem?_eq_getElem (by omega)]; rfl
      rw [take_succ (by omega), List.foldl_append, ih (by omega), irange_succ, List.foldl_append]
      show (g _ (ix (p :: xs) (n : Int)) (xs[n]'(by omega)), xs[n]'(by omega)) = _
      rw [e, show (1 : Int) + (n : Int) = ((n + 1 : Nat) : Int) by omega]
      show _ = (g _ (ix (p :: xs) (((n + 1 : Nat) : Int) - 1)) (ix (p :: xs) ((n + 1 : Nat) : Int)), _)
      rw [show (((n + 1 : Nat) : Int) - 1) = (n : Int) by omega]
  have := key xs.length (Nat.le_refl _)
  rw [List.take_length] at this
  rw [this]
end
theorem foldl_congr {σ α : Type} {f g : σ → α → σ} {xs : List α} (h : ∀ s x, x ∈ xs → f s x = g s x) (s0 : σ) : xs.foldl f s0 = xs.foldl g s0 := by
  induction xs generalizing s0 with
  | nil => rfl
  | cons x xs ih =>
    rw [List.foldl_cons, List.foldl_cons, h s0 x List.mem_cons_self]
    exact ih (fun s y hy => h s y (List.mem_cons_of_mem _ hy)) _
theorem foldl_rel {σ τ α : Type} {f : σ → α → σ} {g : τ → α → τ} (R : σ → τ → Prop) {xs : List α} (h : ∀ s t x, x ∈ xs → R s t → R (f s x) (g t x)) {s0 : σ} {t0 : τ} (h0 : R s0 t0) : R (xs.foldl f s0) (xs.foldl g t0) := by
  induction xs generalizing s0 t0 with
  | nil => exact h0
  | cons x xs ih => exact ih (fun s t y hy => h s t y (List.mem_cons_of_mem _ hy)) (h s0 t0 x List.mem_cons_self h0)
theorem foldl_if {σ α : Type} (p : α → Bool) (g : σ → α → σ) (s0 : σ) (xs : List α) : xs.foldl (fun s x => if p x = true then g s x else s) s0 = (xs.filter p).foldl g s0 := by
  induction xs generalizing s0 with
  | nil => rfl
  | cons x xs ih =>
    rw [List.foldl_cons, List.filter_cons]
    by_cases h : p x = true
    · rw [if_pos h, if_pos h, List.foldl_cons]; exact ih _
    · rw [if_neg h, if_neg h]; exact ih _
/-- a loop that never leaves -/
theorem forO_nx {α σ ρ : Type} {stp : σ → α → Out σ ρ} (I : σ → Prop) {xs : List α} (h : ∀ s x, x ∈ xs → I s → ∃ s', stp s x = .nx s' ∧ I s') {s0 : σ} (h0 : I s0) : ∃ s', forO stp s0 xs = .nx s' ∧ I s' := by
  induction xs generalizing s0 with
  | nil => exact ⟨s0, rfl, h0⟩
  | cons x xs ih =>
    obtain ⟨s1, e1, i1⟩ := h s0 x List.mem_cons_self h0
    obtain ⟨s2, e2, i2⟩ := ih (fun s y hy => h s y (List.mem_cons_of_mem _ hy)) i1
    refine ⟨s2, ?_, i2⟩
    show onx (stp s0 x) _ = _
    rw [e1]; exact e2
/-- the first that does -/
theorem forO_find {α : Type} (p : α → Bool) (xs : List α) : obind (unbk (forO (fun (_ : Unit) x => if p x = true then (.rt (some x) : Out Unit (Option α)) else .nx ()) () xs)) (fun _ => none) (fun r => r) = xs.find? p := by
  induction xs with
  | nil => rfl
  | cons x xs ih =>
    rw [List.find?_cons]
    cases h : p x with
    | true =>
      show obind (unbk (onx (if p x = true then _ else _) _)) _ _ = _
      rw [if_pos h]; rfl
    | false =>
      show obind (unbk (onx (if p x = true then _ else _) _)) _ _ = _
      rw [if_neg (by rw [h]; exact Bool.false_ne_true)]; exact ih
theorem fold_find {α : Type} (p : α → Bool) (xs : List α) : xs.foldl (fun (r : Option α) x => if (r.isNone && p x) = true then some x else r) none = xs.find? p := by
  have h1 : ∀ (xs : List α) (y : α), xs.foldl (fun (r : Option α) x => if (r.isNone && p x) = true then some x else r) (some y) = some y := by
    intro xs y
    induction xs with
    | nil => rfl
    | cons x xs ih => exact ih
  induction xs with
  | nil => rfl
  | cons x xs ih =>
    rw [List.foldl_cons, List.find?_cons]
    cases h : p x with
    | true =>
      rw [if_pos (show ((none : Option α).isNone && true) = true from rfl)]
      exact h1 _ _
    | false =>
      rw [if_neg (show ¬ ((none : Option α).isNone && false) = true from Bool.false_ne_true)]
      exact ih
/-- two whiles side by side -/
theorem whl_sim {σ τ : Type} {t : σ → Bool} {f : σ → σ} {t' : τ → Bool} {f' : τ → τ} (R : σ → τ → Prop) (ht : ∀ s s', R s s' → t s = t' s') (hf : ∀ s s', R s s' → t s = true → R (f s) (f' s')) : ∀ (n : Nat) (s : σ) (s' : τ), R s s' → R (whl n t f s) (whl n t' f' s')
  | 0, _, _, h => h
  | n + 1, s, s', h => by
    show R (if t s = true then whl n t f (f s) else s) (if t' s' = true then whl n t' f' (f' s') else s')
    rw [← ht s s' h]
    by_cases hs : t s = true
    · rw [if_pos hs, if_pos hs]; exact whl_sim R ht hf n _ _ (hf s s' h hs)
    · rw [if_neg hs, if_neg hs]; exact h
theorem sum_tele (f : Int → Int) (n : Nat) : ((irange 1 n).map fun i => f i - f (i - 1)).sum = f n - f 0 := by
  induction n with
  | zero =>
    show (0 : Int) = f 0 - f 0
    omega
  | succ n ih =>
    rw [irange_succ, List.map_append, List.sum_append, ih]
    show f n - f 0 + (f (1 + (n : Int)) - f (1 + (n : Int) - 1) + 0) = _
    rw [show (1 : Int) + (n : Int) - 1 = (n : Int) by omega, show (1 : Int) + (n : Int) = ((n + 1 : Nat) : Int) by omega]
    omega
theorem bnd_fst {α ρ τ : Type} {v : α} {body : α → ρ × τ} {q : ρ} (h : ∀ x, x = v → (body x).1 = q) : (bnd v body).1 = q := h v rfl
theorem bnd_eq {α ρ : Type} {v : α} {body : α → ρ} {q : ρ} (h : ∀ x, x = v → body x = q) : bnd v body = q := h v rfl
theorem not_dec {p : Prop} [Decidable p] (h : p) : (!decide p) = false := by rw [decide_eq_true h]; rfl
end PD

set_option Elab.async false
set_option linter.all false
set_option maxRecDepth 100000
namespace W
open PySem L2 PySem.Spec PyProof.Rows PD
def topS (i : Nat) : Stmt := PySem.Challenge.pw_shocksknown_k94_times_and_quiet.main.body.getD i (.Pass ⟨0, 0, 0, 0⟩)

theorem fad_keep {a : Type} {w b b0 : Int} {x : a} {l : List a} (h : 1 ≤ w ∧ (2:Int)^l.length ≤ w ∧ b0 + (2:Int)^l.length - 1 ≤ b) : 1 ≤ w * 2 ∧ (2:Int)^(l ++ [x]).length ≤ w * 2 ∧ b0 + (2:Int)^(l ++ [x]).length - 1 ≤ b + w := by
  obtain ⟨h1, h2, h3⟩ := h
  rw [List.length_append, List.length_singleton, Int.pow_succ]
  omega
theorem fad_keep2 {a : Type} {w b b0 : Int} {x : a} {l : List a} (h : 1 ≤ w ∧ (2:Int)^l.length ≤ w ∧ b0 + (2:Int)^l.length - 1 ≤ b) : 1 ≤ 2 * w ∧ (2:Int)^(l ++ [x]).length ≤ 2 * w ∧ b0 + (2:Int)^(l ++ [x]).length - 1 ≤ b + w := by
  rw [Int.mul_comm 2 w]
  exact fad_keep h
theorem few_filt {a b : Type} {l : List a} {p : a → Bool} {f : a → b} (h : l.length ≤ 60) : ((l.filter p).map f).length < 64 := by
  rw [List.length_map]
  have := List.length_filter_le p l
  omega
theorem set_filt {l : List Int} {p : Int → Bool} {f : Int → Int} {x : Int} (h : l.length ≤ 60) : [x].length + (srtSet ((l.filter p).map f)).length ≤ sizeLine := by
  have := few_filt (p := p) (f := f) h
  have := srtSet_len ((l.filter p).map f)
  rw [sizeLine_eq, List.length_singleton]
  omega
theorem set_filt2 {l : List Int} {p : Int → Bool} {f : Int → Int} {x y : Int} (h : l.length ≤ 60) : ([x] ++ srtSet ((l.filter p).map f)).length + [y].length ≤ sizeLine := by
  have := few_filt (p := p) (f := f) h
  have := srtSet_len ((l.filter p).map f)
  rw [sizeLine_eq, List.length_append, List.length_singleton, List.length_singleton]
  omega
/-- what a row of times is: few, and not too far away -/
def TmOk (ts : List Int) : Prop := ts.length ≤ 60 ∧ ∀ t ∈ ts, -(2 ^ 120) < t ∧ t < 2 ^ 120
theorem ix_mem {xs : List Int} (h : xs ≠ []) : ix xs (-1) ∈ xs := by
  have hp : 0 < xs.length := List.length_pos_iff.mpr h
  have : ixI xs.length (-1) < xs.length := by unfold ixI; rw [if_pos (by decide)]; omega
  unfold ix
  rw [List.getD_eq_getElem?_getD, List.getElem?_eq_getElem this]
  exact List.getElem_mem this
theorem TmOk.last {ts : List Int} (h : TmOk ts) : -(2 ^ 120) < ix ts (-1) ∧ ix ts (-1) < 2 ^ 120 := by
  by_cases e : ts = []
  · subst e; decide
  · exact h.2 _ (ix_mem e)
theorem TmOk.later {ts : List Int} (h : TmOk ts) {m b : Int} (hm : 1 ≤ m ∧ m ≤ 9) (hb : -(2 ^ 120) ≤ b ∧ b ≤ 2 ^ 120) : ix (ts.map fun t => t * m + b) (-1) < 2 ^ 130 := by
  by_cases e : ts = []
  · subst e; exact (by decide : (0 : Int) < 2 ^ 130)
  · obtain ⟨t, ht, e2⟩ := List.mem_map.mp (ix_mem (xs := ts.map fun t => t * m + b) (by simpa using e))
    have h2 := (h.2 t ht).2
    rw [← e2]
    have : t * m ≤ 2 ^ 120 * 9 := by
      by_cases h0 : 0 ≤ t
      · exact Int.mul_le_mul (by omega) hm.2 (by omega) (by decide)
      · have : t * m ≤ 0 := Int.mul_nonpos_of_nonpos_of_nonneg (by omega) (by omega)
        omega
    omega
theorem fold_inv {σ α : Type} {stp : σ → α → σ} {s0 : σ} (I : Nat → σ → Prop) (xs : List α) (h0 : I 0 s0) (hs : ∀ k s x, I k s → I (k + 1) (stp s x)) : I xs.length (xs.foldl stp s0) := by
  have : ∀ (xs : List α) (k : Nat) (s : σ), I k s → I (k + xs.length) (xs.foldl stp s) := by
    intro xs
    induction xs with
    | nil => exact fun k s h => h
    | cons x xs ih =>
      intro k s h
      have := ih (k + 1) (stp s x) (hs k s x h)
      rw [List.length_cons, List.foldl_cons, Nat.add_comm xs.length 1, ← Nat.add_assoc]
      exact this
  have := this xs 0 s0 h0
  rwa [Nat.zero_add] at this
theorem fad_pre2 {ts ls : List Int} {w tm b b2 : Int} (h : TmOk ts) (e : ls = ts.map fun t => t * tm + b2) (hw : 1 ≤ w ∧ w ≤ 2 ^ 120) (ht : 1 ≤ tm ∧ tm ≤ 9) (hb : -40 ≤ b ∧ b < 20) (h2 : -(2 ^ 120) ≤ b2 ∧ b2 ≤ 2 ^ 120) : ls.length ≤ 1000 ∧ 1 ≤ w * tm ∧ ix ls (-1) - (b * tm + b2) < 2 ^ 200 := by
  have h3 := h.later ht h2
  have h4 := h.1
  rw [e]
  refine ⟨by rw [List.length_map]; omega, ?_, ?_⟩
  · have : 0 < w * tm := Int.mul_pos (by omega) (by omega)
    omega
  · have : -40 * 9 ≤ b * tm := by
      by_cases h0 : 0 ≤ b
      · have : 0 ≤ b * tm := Int.mul_nonneg h0 (by omega)
        omega
      · have h5 : (-b) * tm ≤ 40 * 9 := Int.mul_le_mul (by omega) ht.2 (by omega) (by decide)
        rw [Int.neg_mul] at h5
        omega
    omega
theorem ix3c {k : Int} (h : 0 ≤ k ∧ k < 0 + ((3 : Int).toNat : Int)) : ix [(6 : Int), 26, 14] k = 6 ∨ ix [(6 : Int), 26, 14] k = 26 ∨ ix [(6 : Int), 26, 14] k = 14 := by
  have e : ((3 : Int).toNat : Int) = 3 := rfl
  rw [e] at h
  obtain rfl | rfl | rfl : k = 0 ∨ k = 1 ∨ k = 2 := by omega
  · exact .inl rfl
  · exact .inr (.inl rfl)
  · exact .inr (.inr rfl)
theorem ix3_pos {a b c : Int} {k : Int} (ha : 0 ≤ a) (hb : 0 ≤ b) (hc : 0 ≤ c) : 0 ≤ ix [a, b, c] k := by
  unfold ix
  generalize ixI [a, b, c].length k = j
  rcases j with _ | _ | _ | j
  · exact ha
  · exact hb
  · exact hc
  · show 0 ≤ (0 : Int); decide
theorem ix3_le {a b c B : Int} {k : Int} (ha : a ≤ B) (hb : b ≤ B) (hc : c ≤ B) (h0 : 0 ≤ B) : ix [a, b, c] k ≤ B := by
  unfold ix
  generalize ixI [a, b, c].length k = j
  rcases j with _ | _ | _ | j
  · exact ha
  · exact hb
  · exact hc
  · exact h0
theorem fad_start {a : Type} {b w : Int} {l : List a} (h : l = []) (hw : 1 ≤ w) : 1 ≤ w ∧ (2:Int)^l.length ≤ w ∧ b + (2:Int)^l.length - 1 ≤ b := by
  subst h
  exact ⟨hw, by simpa using hw, by simp⟩
theorem fad_falls {b w : Int} {ts : List Int} (hw : 1 ≤ w) (ht : (decide (0 < (ts.length : Int)) && decide (b ≤ ix ts (-1))) = true) : (ix ts (-1) - (b + w) + 1).toNat < (ix ts (-1) - b + 1).toNat := by
  rw [Bool.and_eq_true, decide_eq_true_eq, decide_eq_true_eq] at ht
  omega
theorem fad_len {a : Type} {b b0 w w0 : Int} {ts : List Int} {l : List a} (hp : ts.length ≤ 1000 ∧ 1 ≤ w0 ∧ ix ts (-1) - b0 < 2 ^ 200) (hi : 1 ≤ w ∧ (2:Int)^l.length ≤ w ∧ b0 + (2:Int)^l.length - 1 ≤ b) (ht : (decide (0 < (ts.length : Int)) && decide (b ≤ ix ts (-1))) = true) : l.length ≤ 200 := by
  rw [Bool.and_eq_true, decide_eq_true_eq, decide_eq_true_eq] at ht
  have h : (2:Int) ^ l.length ≤ 2 ^ 200 := by omega
  have h2 : 2 ^ l.length ≤ 2 ^ 200 := by exact_mod_cast h
  exact (Nat.pow_le_pow_iff_right (by decide)).mp h2
theorem fad_cat {a : Type} {b b0 w w0 : Int} {ts : List Int} {l : List a} {x : a} (hp : ts.length ≤ 1000 ∧ 1 ≤ w0 ∧ ix ts (-1) - b0 < 2 ^ 200) (hi : 1 ≤ w ∧ (2:Int)^l.length ≤ w ∧ b0 + (2:Int)^l.length - 1 ≤ b) (ht : (decide (0 < (ts.length : Int)) && decide (b ≤ ix ts (-1))) = true) : l.length + [x].length ≤ sizeLine := by
  have := fad_len hp hi ht
  rw [sizeLine_eq, List.length_singleton]
  omega
theorem fad_app {a : Type} {b b0 w w0 : Int} {ts : List Int} {l : List a} (hp : ts.length ≤ 1000 ∧ 1 ≤ w0 ∧ ix ts (-1) - b0 < 2 ^ 200) (hi : 1 ≤ w ∧ (2:Int)^l.length ≤ w ∧ b0 + (2:Int)^l.length - 1 ≤ b) (ht : (decide (0 < (ts.length : Int)) && decide (b ≤ ix ts (-1))) = true) : l.length < sizeLine := by
  have := fad_len hp hi ht
  rw [sizeLine_eq]
  omega
theorem cat_filt {a b : Type} {l : List a} {p : a → Bool} {f : a → b} {x : b} (h : l.length ≤ 1000000) : ((l.filter p).map f).length + [x].length ≤ sizeLine := by
  rw [List.length_map, List.length_singleton, sizeLine_eq]
  have := List.length_filter_le p l
  omega
/-! ### count_in -/
abbrev scount_in : Stmt := topS 1
abbrev Ncount_in : List Str := ["times", "begin", "end", "time"]
theorem sccount_in : FnScope Ncount_in ["times", "begin", "end"] (defScope scount_in) := ⟨rfl, rfl, rfl, by decide +kernel, rfl, by decide +kernel, by decide +kernel⟩
def mcount_in (a_times : (List Int)) (a_begin : Int) (a_end : Int) : Int := (((a_times.filter (fun z5 : Int => (decide (a_begin ≤ z5) && decide (z5 < a_end)))).map (fun z5 : Int => (1 : Int))).length : Int)
def Phi_count_in (a_times : (List Int)) (a_begin : Int) (a_end : Int) (m : Int) : Post := PR [.val ((cT PyData.int) a_times), .val (PyData.int a_begin), .val (PyData.int a_end)] (.v (PyData.int (m))) [.val ((cT PyData.int) a_times), .val (PyData.int a_begin), .val (PyData.int a_end)]
def Rt_count_in (a_times : (List Int)) (a_begin : Int) (a_end : Int) (r : Int) : Res → List Sl → Prop := (Phi_count_in a_times a_begin a_end r).rt
def Rcount_in : Ct := fun γ r γ' => ∃ (a_times : (List Int)) (a_begin : Int) (a_end : Int), γ = [.val ((cT PyData.int) a_times), .val (PyData.int a_begin), .val (PyData.int a_end)] ∧ (let m := mcount_in a_times a_begin a_end; r = .v (PyData.int (m)) ∧ γ' = [.val ((cT PyData.int) a_times), .val (PyData.int a_begin), .val (PyData.int a_end)])
/-! ### most_in -/
abbrev smost_in : Stmt := topS 2
abbrev Nmost_in : List Str := ["times", "wide", "told", "many", "time"]
theorem scmost_in : FnScope Nmost_in ["times", "wide"] (defScope smost_in) := ⟨rfl, rfl, rfl, by decide +kernel, rfl, by decide +kernel, by decide +kernel⟩
def mmost_in (a_times : (List Int)) (a_wide : Int) : (Option (Int × Int)) := (bnd (a_times.map (fun z1 : Int => ((-(mcount_in a_times z1 (z1 + a_wide))), z1))) fun (v5 : (List (Int × Int))) => (if (decide ((v5.length : Int) = (0 : Int))) = true then (none : (Option (Int × Int))) else (bnd ((minE (c2 PyData.int PyData.int) v5).1, (minE (c2 PyData.int PyData.int) v5).2) fun (v8 : (Int × Int)) => (some ((-v8.1), v8.2)))))
def Phi_most_in (a_times : (List Int)) (a_wide : Int) (m : (Option (Int × Int))) : Post := PR [.val ((cT PyData.int) a_times), .val (PyData.int a_wide)] (.v ((cO (c2 PyData.int PyData.int)) (m))) [.val ((cT PyData.int) a_times), .val (PyData.int a_wide)]
def Rt_most_in (a_times : (List Int)) (a_wide : Int) (r : (Option (Int × Int))) : Res → List Sl → Prop := (Phi_most_in a_times a_wide r).rt
def Rmost_in : Ct := fun γ r γ' => ∃ (a_times : (List Int)) (a_wide : Int), γ = [.val ((cT PyData.int) a_times), .val (PyData.int a_wide)] ∧ (let m := mmost_in a_times a_wide; r = .v ((cO (c2 PyData.int PyData.int)) (m)) ∧ γ' = [.val ((cT PyData.int) a_times), .val (PyData.int a_wide)])
/-! ### gaps_of -/
abbrev sgaps_of : Stmt := topS 3
abbrev Ngaps_of : List Str := ["times", "at"]
theorem scgaps_of : FnScope Ngaps_of ["times"] (defScope sgaps_of) := ⟨rfl, rfl, rfl, by decide +kernel, rfl, by decide +kernel, by decide +kernel⟩
def mgaps_of (a_times : (List Int)) : (List Int) := ((irange 0 (((a_times.length : Int) - (1 : Int))).toNat).map (fun z1 : Int => ((ix a_times (z1 + (1 : Int))) - (ix a_times z1))))
def Phi_gaps_of (a_times : (List Int)) (m : (List Int)) : Post := PR [.val ((cT PyData.int) a_times)] (.v ((cT PyData.int) (m))) [.val ((cT PyData.int) a_times)]
def Rt_gaps_of (a_times : (List Int)) (r : (List Int)) : Res → List Sl → Prop := (Phi_gaps_of a_times r).rt
def Rgaps_of : Ct := fun γ r γ' => ∃ (a_times : (List Int)), γ = [.val ((cT PyData.int) a_times)] ∧ (let m := mgaps_of a_times; r = .v ((cT PyData.int) (m)) ∧ γ' = [.val ((cT PyData.int) a_times)])
/-! ### longest_quiet -/
abbrev slongest_quiet : Stmt := topS 4
abbrev Nlongest_quiet : List Str := ["times", "begin", "end", "best", "here", "time", "own"]
theorem sclongest_quiet : FnScope Nlongest_quiet ["times", "begin", "end"] (defScope slongest_quiet) := ⟨rfl, rfl, rfl, by decide +kernel, rfl, by decide +kernel, by decide +kernel⟩
def mlongest_quiet (a_times : (List Int)) (a_begin : Int) (a_end : Int) : (Int × Int) := (bnd (a_begin, a_begin) fun (v1 : (Int × Int)) => (bnd a_begin fun (v3 : Int) => (bnd ((((a_times.filter (fun z9 : Int => (decide (a_begin ≤ z9) && decide (z9 < a_end)))).map (fun z9 : Int => z9)) ++ [a_end]).foldl (fun (s13 : ((Int × Int) × Int)) (x14 : Int) => (bnd (if (decide ((s13.1.2 - s13.1.1) < (x14 - s13.2))) = true then (bnd (s13.2, x14) fun (v23 : (Int × Int)) => v23) else s13.1) fun (v21 : (Int × Int)) => (bnd (max s13.2 (x14 + (1 : Int))) fun (v25 : Int) => (v21, v25)))) (v1, v3)) fun (v27 : ((Int × Int) × Int)) => v27.1)))
def Phi_longest_quiet (a_times : (List Int)) (a_begin : Int) (a_end : Int) (m : (Int × Int)) : Post := PR [.val ((cT PyData.int) a_times), .val (PyData.int a_begin), .val (PyData.int a_end)] (.v ((c2 PyData.int PyData.int) (m))) [.val ((cT PyData.int) a_times), .val (PyData.int a_begin), .val (PyData.int a_end)]
def Rt_longest_quiet (a_times : (List Int)) (a_begin : Int) (a_end : Int) (r : (Int × Int)) : Res → List Sl → Prop := (Phi_longest_quiet a_times a_begin a_end r).rt
def Rlongest_quiet : Ct := fun γ r γ' => ∃ (a_times : (List Int)) (a_begin : Int) (a_end : Int), γ = [.val ((cT PyData.int) a_times), .val (PyData.int a_begin), .val (PyData.int a_end)] ∧ (a_times.length ≤ 1000) ∧ (let m := mlongest_quiet a_times a_begin a_end; r = .v ((c2 PyData.int PyData.int) (m)) ∧ γ' = [.val ((cT PyData.int) a_times), .val (PyData.int a_begin), .val (PyData.int a_end)])
/-! ### rates_rise -/
abbrev srates_rise : Stmt := topS 5
abbrev Nrates_rise : List Str := ["times", "wide", "many", "time", "later"]
theorem scrates_rise : FnScope Nrates_rise ["times", "wide", "many"] (defScope srates_rise) := ⟨rfl, rfl, rfl, by decide +kernel, rfl, by decide +kernel, by decide +kernel⟩
def mrates_rise (a_times : (List Int)) (a_wide : Int) (a_many : Int) : (Option Int) := (obind (unbk (forO (fun (s1 : Unit) (x2 : Int) => ((bnd (mcount_in a_times x2 (x2 + a_wide)) fun (v8 : Int) => (if ((decide (a_many ≤ v8)) && (decide (((2 : Int) * (mcount_in a_times (x2 - a_wide) x2)) ≤ v8))) = true then (.rt (some x2)) else (.nx ()))) : Out Unit (Option Int))) () a_times)) (fun (s12 : Unit) => (none : (Option Int))) (fun r14 => r14))
def Phi_rates_rise (a_times : (List Int)) (a_wide : Int) (a_many : Int) (m : (Option Int)) : Post := PR [.val ((cT PyData.int) a_times), .val (PyData.int a_wide), .val (PyData.int a_many)] (.v ((cO PyData.int) (m))) [.val ((cT PyData.int) a_times), .val (PyData.int a_wide), .val (PyData.int a_many)]
def Rt_rates_rise (a_times : (List Int)) (a_wide : Int) (a_many : Int) (r : (Option Int)) : Res → List Sl → Prop := (Phi_rates_rise a_times a_wide a_many r).rt
def Rrates_rise : Ct := fun γ r γ' => ∃ (a_times : (List Int)) (a_wide : Int) (a_many : Int), γ = [.val ((cT PyData.int) a_times), .val (PyData.int a_wide), .val (PyData.int a_many)] ∧ (let m := mrates_rise a_times a_wide a_many; r = .v ((cO PyData.int) (m)) ∧ γ' = [.val ((cT PyData.int) a_times), .val (PyData.int a_wide), .val (PyData.int a_many)])
/-! ### fading -/
abbrev sfading : Stmt := topS 6
abbrev Nfading : List Str := ["times", "begin", "wide", "found"]
theorem scfading : FnScope Nfading ["times", "begin", "wide"] (defScope sfading) := ⟨rfl, rfl, rfl, by decide +kernel, rfl, by decide +kernel, by decide +kernel⟩
def mfading (a_times : (List Int)) (a_begin : Int) (a_wide : Int) : (List Int) := (bnd ([] : (List Int)) fun (v1 : (List Int)) => (bnd (whl ((fun (s3 : (Int × Int × (List Int))) => (ix a_times (-1) - s3.1 + 1).toNat) (a_begin, a_wide, v1)) (fun (s3 : (Int × Int × (List Int))) => ((decide ((0 : Int) < (a_times.length : Int))) && (decide (s3.1 ≤ (ix a_times (-(1 : Int))))))) (fun (s3 : (Int × Int × (List Int))) => (bnd (s3.2.2 ++ [(mcount_in a_times s3.1 (s3.1 + s3.2.1))]) fun (v7 : (List Int)) => (bnd (s3.1 + s3.2.1) fun (v9 : Int) => (bnd (s3.2.1 * (2 : Int)) fun (v11 : Int) => (v9, v11, v7))))) (a_begin, a_wide, v1)) fun (v13 : (Int × Int × (List Int))) => v13.2.2))
def Phi_fading (a_times : (List Int)) (a_begin : Int) (a_wide : Int) (m : (List Int)) : Post := PR [.val ((cT PyData.int) a_times), .val (PyData.int a_begin), .val (PyData.int a_wide)] (.v ((cT PyData.int) (m))) [.val ((cT PyData.int) a_times), .val (PyData.int a_begin), .val (PyData.int a_wide)]
def Rt_fading (a_times : (List Int)) (a_begin : Int) (a_wide : Int) (r : (List Int)) : Res → List Sl → Prop := (Phi_fading a_times a_begin a_wide r).rt
def Rfading : Ct := fun γ r γ' => ∃ (a_times : (List Int)) (a_begin : Int) (a_wide : Int), γ = [.val ((cT PyData.int) a_times), .val (PyData.int a_begin), .val (PyData.int a_wide)] ∧ (a_times.length ≤ 1000 ∧ 1 ≤ a_wide ∧ ix a_times (-1) - a_begin < 2^200) ∧ (let m := mfading a_times a_begin a_wide; r = .v ((cT PyData.int) (m)) ∧ γ' = [.val ((cT PyData.int) a_times), .val (PyData.int a_begin), .val (PyData.int a_wide)])
/-! ### doubled_steps -/
abbrev sdoubled_steps : Stmt := topS 7
abbrev Ndoubled_steps : List Str := ["times", "gaps", "at"]
theorem scdoubled_steps : FnScope Ndoubled_steps ["times"] (defScope sdoubled_steps) := ⟨rfl, rfl, rfl, by decide +kernel, rfl, by decide +kernel, by decide +kernel⟩
def mdoubled_steps (a_times : (List Int)) : (List Int) := (bnd (mgaps_of a_times) fun (v1 : (List Int)) => (((irange (1 : Int) ((v1.length : Int) - (1 : Int)).toNat).filter (fun z3 : Int => ((decide ((0 : Int) < (ix v1 (z3 - (1 : Int))))) && (decide (((2 : Int) * (ix v1 (z3 - (1 : Int)))) ≤ (ix v1 z3)))))).map (fun z3 : Int => (z3 + (1 : Int)))))
def Phi_doubled_steps (a_times : (List Int)) (m : (List Int)) : Post := PR [.val ((cT PyData.int) a_times)] (.v ((cT PyData.int) (m))) [.val ((cT PyData.int) a_times)]
def Rt_doubled_steps (a_times : (List Int)) (r : (List Int)) : Res → List Sl → Prop := (Phi_doubled_steps a_times r).rt
def Rdoubled_steps : Ct := fun γ r γ' => ∃ (a_times : (List Int)), γ = [.val ((cT PyData.int) a_times)] ∧ (let m := mdoubled_steps a_times; r = .v ((cT PyData.int) (m)) ∧ γ' = [.val ((cT PyData.int) a_times)])
/-! ### thinned_times -/
abbrev sthinned_times : Stmt := topS 8
abbrev Nthinned_times : List Str := ["times", "dead", "found", "time"]
theorem scthinned_times : FnScope Nthinned_times ["times", "dead"] (defScope sthinned_times) := ⟨rfl, rfl, rfl, by decide +kernel, rfl, by decide +kernel, by decide +kernel⟩
def mthinned_times (a_times : (List Int)) (a_dead : Int) : (List Int) := (bnd ([] : (List Int)) fun (v1 : (List Int)) => (bnd (a_times.foldl (fun (s3 : (List Int)) (x4 : Int) => (bnd (if ((decide ((s3.length : Int) = (0 : Int))) || (decide (a_dead < (x4 - (ix s3 (-(1 : Int))))))) = true then (bnd (s3 ++ [x4]) fun (v14 : (List Int)) => v14) else s3) fun (v12 : (List Int)) => v12)) v1) fun (v16 : (List Int)) => v16))
def Phi_thinned_times (a_times : (List Int)) (a_dead : Int) (m : (List Int)) : Post := PR [.val ((cT PyData.int) a_times), .val (PyData.int a_dead)] (.v ((cT PyData.int) (m))) [.val ((cT PyData.int) a_times), .val (PyData.int a_dead)]
def Rt_thinned_times (a_times : (List Int)) (a_dead : Int) (r : (List Int)) : Res → List Sl → Prop := (Phi_thinned_times a_times a_dead r).rt
def Rthinned_times : Ct := fun γ r γ' => ∃ (a_times : (List Int)) (a_dead : Int), γ = [.val ((cT PyData.int) a_times), .val (PyData.int a_dead)] ∧ (let m := mthinned_times a_times a_dead; r = .v ((cT PyData.int) (m)) ∧ γ' = [.val ((cT PyData.int) a_times), .val (PyData.int a_dead)])
/-! ### _law_draws -/
theorem draws_cells (v : List Int) : 0 < (if decide ((v.length : Int) = 0) = true then (bnd (v ++ [0]) fun v10 => v10) else v).length := by
  split
  · show 0 < (v ++ [0]).length
    rw [List.length_append]; exact Nat.succ_pos _
  · next h => rw [decide_eq_true_eq] at h; omega
theorem emod_bd {a b c : Int} (h : a = b % c) (hc : 0 < c) : 0 ≤ a ∧ a < c := by
  rw [h]; exact ⟨Int.emod_nonneg _ (by omega), Int.emod_lt_of_pos _ hc⟩
abbrev s_law_draws : Stmt := topS 10
abbrev N_law_draws : List Str := ["script", "many", "cells", "rest", "draws", "k", "at", "cell", "once"]
theorem sc_law_draws : FnScope N_law_draws ["script", "many"] (defScope s_law_draws) := ⟨rfl, rfl, rfl, by decide +kernel, rfl, by decide +kernel, by decide +kernel⟩
def m_law_draws (a_script : (List Int)) (a_many : Int) : (List Int) := (bnd (a_script.map (fun z1 : Int => z1)) fun (v5 : (List Int)) => (bnd (if (decide ((v5.length : Int) = (0 : Int))) = true then (bnd (v5 ++ [(0 : Int)]) fun (v10 : (List Int)) => v10) else v5) fun (v8 : (List Int)) => (bnd v8 fun (v13 : (List Int)) => (bnd ([] : List Int) fun (v16 : (List Int)) => (bnd ((irange 0 (a_many).toNat).foldl (fun (s18 : ((List Int) × (List Int))) (x19 : Int) => (bnd (x19 % (v8.length : Int)) fun (v25 : Int) => (bnd (if ((decide ((1000000000000000000 : Int) ≤ (ix v8 v25))) && (decide ((0 : Int) < (ix s18.1 v25)))) = true then (bnd (s18.2 ++ [((ix s18.1 v25) % (1000 : Int))]) fun (v31 : (List Int)) => (bnd (setI s18.1 v25 ((ix s18.1 v25) / (1000 : Int))) fun (v33 : (List Int)) => (v33, v31))) else (bnd (((((ix v8 v25) * (48271 : Int)) + (x19 * (69621 : Int))) + (11 : Int)) % (2147483647 : Int)) fun (v35 : Int) => (bnd (s18.2 ++ [((((v35 * v35) + ((3 : Int) * v35)) + x19) % (1000003 : Int))]) fun (v37 : (List Int)) => (s18.1, v37)))) fun (v29 : ((List Int) × (List Int))) => (v29.1, v29.2)))) (v13, v16)) fun (v39 : ((List Int) × (List Int))) => (bnd (v39.2.reverse) fun (v41 : (List Int)) => v41))))))
def Phi__law_draws (a_script : (List Int)) (a_many : Int) (m : (List Int)) : Post := PR [.val ((cL PyData.int) a_script), .val (PyData.int a_many)] (.f (.lst ((m).map PyData.int))) [.val ((cL PyData.int) a_script), .val (PyData.int a_many)]
def Rt__law_draws (a_script : (List Int)) (a_many : Int) (r : (List Int)) : Res → List Sl → Prop := (Phi__law_draws a_script a_many r).rt
def R_law_draws : Ct := fun γ r γ' => ∃ (a_script : (List Int)) (a_many : Int), γ = [.val ((cL PyData.int) a_script), .val (PyData.int a_many)] ∧ (0 ≤ a_many ∧ a_many ≤ 10000) ∧ (let m := m_law_draws a_script a_many; r = .f (.lst ((m).map PyData.int)) ∧ γ' = [.val ((cL PyData.int) a_script), .val (PyData.int a_many)])
/-! ### _law_take -/
abbrev s_law_take : Stmt := topS 11
abbrev N_law_take : List Str := ["draws", "many"]
theorem sc_law_take : FnScope N_law_take ["draws", "many"] (defScope s_law_take) := ⟨rfl, rfl, rfl, by decide +kernel, rfl, by decide +kernel, by decide +kernel⟩
def m_law_take (a_draws : List Int) (a_many : Int) : (Int × (List Int)) := (if (decide ((a_draws.length : Int) = (0 : Int))) = true then ((0 : Int), a_draws) else (((lastD a_draws) % a_many), (a_draws.dropLast)))
def Phi__law_take (p_draws : Addr) (a_draws : (List Int)) (a_many : Int) (m : (Int × (List Int))) : Post := PR [oL p_draws PyData.int a_draws, .val (PyData.int a_many)] (.v (PyData.int (m.1))) [oL p_draws PyData.int (m.2), .val (PyData.int a_many)]
def Rt__law_take (p_draws : Addr) (a_draws : (List Int)) (a_many : Int) (r : (Int × (List Int))) : Res → List Sl → Prop := (Phi__law_take p_draws a_draws a_many r).rt
def R_law_take : Ct := fun γ r γ' => ∃ (p_draws : Addr) (a_draws : (List Int)) (a_many : Int), γ = [oL p_draws PyData.int a_draws, .val (PyData.int a_many)] ∧ (0 < a_many) ∧ (let m := m_law_take a_draws a_many; r = .v (PyData.int (m.1)) ∧ γ' = [oL p_draws PyData.int (m.2), .val (PyData.int a_many)])
theorem take_bd0 (ds : List Int) (m : Int) (h : 0 < m) : 0 ≤ (m_law_take ds m).1 ∧ (m_law_take ds m).1 < m := by
  unfold m_law_take
  split
  · exact ⟨Int.le_refl _, h⟩
  · exact ⟨Int.emod_nonneg _ (by omega), Int.emod_lt_of_pos _ h⟩
theorem take_bd (ds : List Int) (m : Int) : m ≤ 0 ∨ (0 ≤ (m_law_take ds m).1 ∧ (m_law_take ds m).1 < m) := by
  by_cases h : 0 < m
  · exact .inr (take_bd0 ds m h)
  · exact .inl (by omega)
/-! ### _law_same -/
abbrev s_law_same : Stmt := topS 12
abbrev N_law_same : List Str := ["actual", "due", "k"]
theorem sc_law_same : FnScope N_law_same ["actual", "due"] (defScope s_law_same) := ⟨rfl, rfl, rfl, by decide +kernel, rfl, by decide +kernel, by decide +kernel⟩

/-! ### _law_size -/
abbrev s_law_size : Stmt := topS 13
abbrev N_law_size : List Str := ["draws", "script", "kind", "number"]
theorem sc_law_size : FnScope N_law_size ["draws", "script"] (defScope s_law_size) := ⟨rfl, rfl, rfl, by decide +kernel, rfl, by decide +kernel, by decide +kernel⟩
def m_law_size (a_draws : List Int) (a_script : (List Int)) : (Int × (List Int)) := (bnd ((m_law_take a_draws (4 : Int)).2, (m_law_take a_draws (4 : Int)).1) fun (v1 : ((List Int) × Int)) => (bnd ((m_law_take v1.1 (1000 : Int)).2, (m_law_take v1.1 (1000 : Int)).1) fun (v3 : ((List Int) × Int)) => (bnd (if (decide (v1.2 = (1 : Int))) = true then (bnd ((m_law_take v3.1 (1000 : Int)).2, (v3.2 + (((1 : Int) + (m_law_take v3.1 (1000 : Int)).1) * (1000000000000000 : Int)))) fun (v8 : ((List Int) × Int)) => (v8.1, v8.2)) else (v3.1, v3.2)) fun (v6 : ((List Int) × Int)) => (bnd (if ((decide (v1.2 = (2 : Int))) && (decide ((0 : Int) < (a_script.length : Int)))) = true then (bnd ((m_law_take v6.1 (a_script.length : Int)).2, (v6.2 + (((ix a_script (m_law_take v6.1 (a_script.length : Int)).1).natAbs : Int) % (1000000000000000000000000000000000000000000000000000000000000 : Int)))) fun (v14 : ((List Int) × Int)) => (v14.1, v14.2)) else (v6.1, v6.2)) fun (v12 : ((List Int) × Int)) => (bnd (if (decide (v1.2 = (3 : Int))) = true then (bnd ((m_law_take v12.1 (1000 : Int)).2, ((v12.2 * (1000 : Int)) + (m_law_take v12.1 (1000 : Int)).1)) fun (v19 : ((List Int) × Int)) => (v19.1, v19.2)) else (v12.1, v12.2)) fun (v17 : ((List Int) × Int)) => (v17.2, v17.1))))))
def Phi__law_size (p_draws : Addr) (a_draws : (List Int)) (a_script : (List Int)) (m : (Int × (List Int))) : Post := PR [oL p_draws PyData.int a_draws, .val ((cL PyData.int) a_script)] (.v (PyData.int (m.1))) [oL p_draws PyData.int (m.2), .val ((cL PyData.int) a_script)]
def Rt__law_size (p_draws : Addr) (a_draws : (List Int)) (a_script : (List Int)) (r : (Int × (List Int))) : Res → List Sl → Prop := (Phi__law_size p_draws a_draws a_script r).rt
def R_law_size : Ct := fun γ r γ' => ∃ (p_draws : Addr) (a_draws : (List Int)) (a_script : (List Int)), γ = [oL p_draws PyData.int a_draws, .val ((cL PyData.int) a_script)] ∧ (let m := m_law_size a_draws a_script; r = .v (PyData.int (m.1)) ∧ γ' = [oL p_draws PyData.int (m.2), .val ((cL PyData.int) a_script)])
/-! ### _law_times -/
abbrev s_law_times : Stmt := topS 14
abbrev N_law_times : List Str := ["draws", "script", "many", "great", "at", "found", "k"]
theorem sc_law_times : FnScope N_law_times ["draws", "script", "many", "great"] (defScope s_law_times) := ⟨rfl, rfl, rfl, by decide +kernel, rfl, by decide +kernel, by decide +kernel⟩
def m_law_times (a_draws : List Int) (a_script : (List Int)) (a_many : Int) (a_great : Bool) : ((List Int) × (List Int)) := (bnd ((m_law_take a_draws (40 : Int)).2, ((m_law_take a_draws (40 : Int)).1 - (20 : Int))) fun (v1 : ((List Int) × Int)) => (bnd ([] : List Int) fun (v4 : (List Int)) => (bnd ((irange 0 (a_many).toNat).foldl (fun (s6 : ((List Int) × Int × (List Int))) (x7 : Int) => (bnd ((m_law_size (cond a_great (m_law_take (m_law_take (m_law_take (m_law_take s6.1 (3 : Int)).2 (30 : Int)).2 (3 : Int)).2 (6 : Int)).2 (m_law_take (m_law_take (m_law_take s6.1 (3 : Int)).2 (30 : Int)).2 (3 : Int)).2) a_script).2, ((s6.2.1 + (ix [(0 : Int), (m_law_take s6.1 (3 : Int)).1, (m_law_take (m_law_take s6.1 (3 : Int)).2 (30 : Int)).1] (m_law_take (m_law_take (m_law_take s6.1 (3 : Int)).2 (30 : Int)).2 (3 : Int)).1)) + ((if (a_great && (decide ((m_law_take (m_law_take (m_law_take (m_law_take s6.1 (3 : Int)).2 (30 : Int)).2 (3 : Int)).2 (6 : Int)).1 = (0 : Int)))) = true then (1 : Int) else 0) * ((m_law_size (cond a_great (m_law_take (m_law_take (m_law_take (m_law_take s6.1 (3 : Int)).2 (30 : Int)).2 (3 : Int)).2 (6 : Int)).2 (m_law_take (m_law_take (m_law_take s6.1 (3 : Int)).2 (30 : Int)).2 (3 : Int)).2) a_script).1 % (100000000000000000000000000 : Int))))) fun (v14 : ((List Int) × Int)) => (bnd (s6.2.2 ++ [v14.2]) fun (v16 : (List Int)) => (v14.1, v14.2, v16)))) (v1.1, v1.2, v4)) fun (v18 : ((List Int) × Int × (List Int))) => (v18.2.2, v18.1))))
def Phi__law_times (p_draws : Addr) (a_draws : (List Int)) (a_script : (List Int)) (a_many : Int) (a_great : Bool) (m : ((List Int) × (List Int))) : Post := PR [oL p_draws PyData.int a_draws, .val ((cL PyData.int) a_script), .val (PyData.int a_many), .val (PyData.bool a_great)] (.v ((cT PyData.int) (m.1))) [oL p_draws PyData.int (m.2), .val ((cL PyData.int) a_script), .val (PyData.int a_many), .val (PyData.bool a_great)]
def Rt__law_times (p_draws : Addr) (a_draws : (List Int)) (a_script : (List Int)) (a_many : Int) (a_great : Bool) (r : ((List Int) × (List Int))) : Res → List Sl → Prop := (Phi__law_times p_draws a_draws a_script a_many a_great r).rt
def R_law_times : Ct := fun γ r γ' => ∃ (p_draws : Addr) (a_draws : (List Int)) (a_script : (List Int)) (a_many : Int) (a_great : Bool), γ = [oL p_draws PyData.int a_draws, .val ((cL PyData.int) a_script), .val (PyData.int a_many), .val (PyData.bool a_great)] ∧ (0 ≤ a_many ∧ a_many ≤ 1000) ∧ (let m := m_law_times a_draws a_script a_many a_great; r = .v ((cT PyData.int) (m.1)) ∧ γ' = [oL p_draws PyData.int (m.2), .val ((cL PyData.int) a_script), .val (PyData.int a_many), .val (PyData.bool a_great)])
def TI (k : Nat) (a : Int) (f : List Int) : Prop := f.length = k ∧ -20 ≤ a ∧ a ≤ 20 + k * 10 ^ 27 ∧ f.Pairwise (· ≤ ·) ∧ ∀ t ∈ f, -20 ≤ t ∧ t ≤ a
theorem times_step {k : Nat} {a u v : Int} {f : List Int} (h : TI k a f) (hd : 0 ≤ u + v ∧ u + v ≤ 10 ^ 27) : TI (k + 1) (a + u + v) (f ++ [a + u + v]) := by
  obtain ⟨h1, h2, h3, h4, h5⟩ := h
  refine ⟨by rw [List.length_append, h1]; rfl, by omega, by omega, List.pairwise_append.mpr ⟨h4, List.pairwise_singleton _ _, fun x hx y hy => ?_⟩, fun t ht => ?_⟩
  · rw [List.mem_singleton.mp hy]
    have := (h5 x hx).2
    omega
  · rcases List.mem_append.mp ht with ht | ht
    · have := h5 t ht; omega
    · rw [List.mem_singleton.mp ht]; omega
theorem times_inc (d1 d2 : List Int) (j : Int) (b : Bool) (z : Int) : 0 ≤ ix [(0 : Int), (m_law_take d1 3).1, (m_law_take d2 30).1] j + (if b = true then (1 : Int) else 0) * (z % 100000000000000000000000000) ∧ ix [(0 : Int), (m_law_take d1 3).1, (m_law_take d2 30).1] j + (if b = true then (1 : Int) else 0) * (z % 100000000000000000000000000) ≤ 10 ^ 27 := by
  have a1 := take_bd0 d1 3 (by decide)
  have a2 := take_bd0 d2 30 (by decide)
  have a3 := ix3_pos (k := j) (Int.le_refl 0) a1.1 a2.1
  have a4 := ix3_le (a := 0) (b := (m_law_take d1 3).1) (c := (m_law_take d2 30).1) (B := 30) (k := j) (by decide) (by omega) (by omega) (by decide)
  cases b with
  | false =>
    rw [if_neg Bool.false_ne_true, Int.zero_mul]
    omega
  | true =>
    rw [if_pos rfl, Int.one_mul]
    omega
theorem times_inv (ds sc : List Int) (m : Int) (g : Bool) : (m_law_times ds sc m g).1.length = m.toNat ∧ (m_law_times ds sc m g).1.Pairwise (· ≤ ·) ∧ ∀ t ∈ (m_law_times ds sc m g).1, -20 ≤ t ∧ t ≤ 20 + m.toNat * 10 ^ 27 := by
  unfold m_law_times
  simp only [bnd]
  have key := fun stp s0 h0 hs => fold_inv (stp := stp) (s0 := s0) (fun k (s : List Int × Int × List Int) => TI k s.2.1 s.2.2) (irange 0 m.toNat) h0 hs
  rw [irange_len] at key
  refine (fun z => ⟨z.1, z.2.2.2.1, fun t ht => ?_⟩) (key _ _ ?_ ?_)
  · have := take_bd0 ds 40 (by decide)
    exact ⟨rfl, by show -20 ≤ (m_law_take ds 40).1 - 20; omega, by show (m_law_take ds 40).1 - 20 ≤ _; omega, List.Pairwise.nil, fun t ht => nomatch ht⟩
  · exact fun k s x h => times_step h (times_inc _ _ _ _ _)
  · have := z.2.2.2.2 t ht
    have := z.2.2.1
    omega
theorem times_ok (ds sc : List Int) (m : Int) (g : Bool) (h : m ≤ 40) : TmOk (m_law_times ds sc m g).1 := by
  obtain ⟨h1, _, h2⟩ := times_inv ds sc m g
  refine ⟨by omega, fun t ht => ?_⟩
  have := h2 t ht
  have : m.toNat ≤ 40 := by omega
  omega
/-! ### _law_in -/
abbrev s_law_in : Stmt := topS 15
abbrev N_law_in : List Str := ["times", "begin", "end", "time"]
theorem sc_law_in : FnScope N_law_in ["times", "begin", "end"] (defScope s_law_in) := ⟨rfl, rfl, rfl, by decide +kernel, rfl, by decide +kernel, by decide +kernel⟩
def m_law_in (a_times : (List Int)) (a_begin : Int) (a_end : Int) : Int := (((a_times.filter (fun z5 : Int => ((decide (a_begin ≤ z5)) && (decide (z5 < a_end))))).map (fun z5 : Int => z5)).length : Int)
def Phi__law_in (a_times : (List Int)) (a_begin : Int) (a_end : Int) (m : Int) : Post := PR [.val ((cT PyData.int) a_times), .val (PyData.int a_begin), .val (PyData.int a_end)] (.v (PyData.int (m))) [.val ((cT PyData.int) a_times), .val (PyData.int a_begin), .val (PyData.int a_end)]
def Rt__law_in (a_times : (List Int)) (a_begin : Int) (a_end : Int) (r : Int) : Res → List Sl → Prop := (Phi__law_in a_times a_begin a_end r).rt
def R_law_in : Ct := fun γ r γ' => ∃ (a_times : (List Int)) (a_begin : Int) (a_end : Int), γ = [.val ((cT PyData.int) a_times), .val (PyData.int a_begin), .val (PyData.int a_end)] ∧ (let m := m_law_in a_times a_begin a_end; r = .v (PyData.int (m)) ∧ γ' = [.val ((cT PyData.int) a_times), .val (PyData.int a_begin), .val (PyData.int a_end)])
/-! ### _law_quiet -/
abbrev s_law_quiet : Stmt := topS 16
abbrev N_law_quiet : List Str := ["times", "begin", "end", "marks", "best", "k", "time"]
theorem sc_law_quiet : FnScope N_law_quiet ["times", "begin", "end"] (defScope s_law_quiet) := ⟨rfl, rfl, rfl, by decide +kernel, rfl, by decide +kernel, by decide +kernel⟩
def m_law_quiet (a_times : (List Int)) (a_begin : Int) (a_end : Int) : (Int × Int) := (bnd (([(a_begin - (1 : Int))] ++ (srtSet ((a_times.filter (fun z5 : Int => ((decide (a_begin ≤ z5)) && (decide (z5 < a_end))))).map (fun z5 : Int => z5)))) ++ [a_end]) fun (v9 : (List Int)) => (bnd (a_begin, a_begin) fun (v11 : (Int × Int)) => (bnd ((irange (1 : Int) ((v9.length : Int) - (1 : Int)).toNat).foldl (fun (s13 : (Int × Int)) (x14 : Int) => (bnd (if (decide ((s13.2 - s13.1) < (((ix v9 x14) - (ix v9 (x14 - (1 : Int)))) - (1 : Int)))) = true then (bnd (((ix v9 (x14 - (1 : Int))) + (1 : Int)), (ix v9 x14)) fun (v23 : (Int × Int)) => v23) else s13) fun (v21 : (Int × Int)) => v21)) v11) fun (v25 : (Int × Int)) => v25)))
def Phi__law_quiet (a_times : (List Int)) (a_begin : Int) (a_end : Int) (m : (Int × Int)) : Post := PR [.val ((cT PyData.int) a_times), .val (PyData.int a_begin), .val (PyData.int a_end)] (.v ((c2 PyData.int PyData.int) (m))) [.val ((cT PyData.int) a_times), .val (PyData.int a_begin), .val (PyData.int a_end)]
def Rt__law_quiet (a_times : (List Int)) (a_begin : Int) (a_end : Int) (r : (Int × Int)) : Res → List Sl → Prop := (Phi__law_quiet a_times a_begin a_end r).rt
def R_law_quiet : Ct := fun γ r γ' => ∃ (a_times : (List Int)) (a_begin : Int) (a_end : Int), γ = [.val ((cT PyData.int) a_times), .val (PyData.int a_begin), .val (PyData.int a_end)] ∧ (a_times.length ≤ 60) ∧ (let m := m_law_quiet a_times a_begin a_end; r = .v ((c2 PyData.int PyData.int) (m)) ∧ γ' = [.val ((cT PyData.int) a_times), .val (PyData.int a_begin), .val (PyData.int a_end)])
/-! ### _law_by_minutes -/
abbrev s_law_by_minutes : Stmt := topS 17
abbrev N_law_by_minutes : List Str := ["times", "begin", "end", "best", "first", "minute"]
theorem sc_law_by_minutes : FnScope N_law_by_minutes ["times", "begin", "end"] (defScope s_law_by_minutes) := ⟨rfl, rfl, rfl, by decide +kernel, rfl, by decide +kernel, by decide +kernel⟩
def m_law_by_minutes (a_times : (List Int)) (a_begin : Int) (a_end : Int) : (Int × Int) := (bnd (a_begin, a_begin) fun (v1 : (Int × Int)) => (bnd a_begin fun (v3 : Int) => (bnd ((irange a_begin ((a_end + (1 : Int)) - a_begin).toNat).foldl (fun (s5 : ((Int × Int) × Int)) (x6 : Int) => (bnd (if ((decide (x6 = a_end)) || (decide (x6 ∈ a_times))) = true then (bnd (if (decide ((s5.1.2 - s5.1.1) < (x6 - s5.2))) = true then (bnd (s5.2, x6) fun (v19 : (Int × Int)) => v19) else s5.1) fun (v17 : (Int × Int)) => (bnd (x6 + (1 : Int)) fun (v21 : Int) => (v17, v21))) else (s5.1, s5.2)) fun (v14 : ((Int × Int) × Int)) => (v14.1, v14.2))) (v1, v3)) fun (v23 : ((Int × Int) × Int)) => v23.1)))
def Phi__law_by_minutes (a_times : (List Int)) (a_begin : Int) (a_end : Int) (m : (Int × Int)) : Post := PR [.val ((cT PyData.int) a_times), .val (PyData.int a_begin), .val (PyData.int a_end)] (.v ((c2 PyData.int PyData.int) (m))) [.val ((cT PyData.int) a_times), .val (PyData.int a_begin), .val (PyData.int a_end)]
def Rt__law_by_minutes (a_times : (List Int)) (a_begin : Int) (a_end : Int) (r : (Int × Int)) : Res → List Sl → Prop := (Phi__law_by_minutes a_times a_begin a_end r).rt
def R_law_by_minutes : Ct := fun γ r γ' => ∃ (a_times : (List Int)) (a_begin : Int) (a_end : Int), γ = [.val ((cT PyData.int) a_times), .val (PyData.int a_begin), .val (PyData.int a_end)] ∧ (let m := m_law_by_minutes a_times a_begin a_end; r = .v ((c2 PyData.int PyData.int) (m)) ∧ γ' = [.val ((cT PyData.int) a_times), .val (PyData.int a_begin), .val (PyData.int a_end)])
/-! ### _law_quiet_right -/
abbrev s_law_quiet_right : Stmt := topS 18
abbrev N_law_quiet_right : List Str := ["draws", "script", "times", "spans", "k", "begin", "end", "due"]
theorem sc_law_quiet_right : FnScope N_law_quiet_right ["draws", "script", "times"] (defScope s_law_quiet_right) := ⟨rfl, rfl, rfl, by decide +kernel, rfl, by decide +kernel, by decide +kernel⟩
def m_law_quiet_right (a_draws : List Int) (a_script : (List Int)) (a_times : (List Int)) : (Bool × (List Int)) := (bnd ([] : List (Int × Int)) fun (v2 : (List (Int × Int))) => (bnd ((irange 0 ((3 : Int)).toNat).foldl (fun (s4 : ((List Int) × (List (Int × Int)))) (x5 : Int) => (bnd ((m_law_take (m_law_take (m_law_take s4.1 (60 : Int)).2 ((a_times.length : Int) + (1 : Int))).2 (2 : Int)).2, (ix [((m_law_take s4.1 (60 : Int)).1 - (30 : Int)), (ix (a_times ++ [(0 : Int)]) (m_law_take (m_law_take s4.1 (60 : Int)).2 ((a_times.length : Int) + (1 : Int))).1)] (m_law_take (m_law_take (m_law_take s4.1 (60 : Int)).2 ((a_times.length : Int) + (1 : Int))).2 (2 : Int)).1)) fun (v11 : ((List Int) × Int)) => (bnd ((m_law_take (m_law_size (m_law_take v11.1 (80 : Int)).2 a_script).2 (4 : Int)).2, (s4.2 ++ [(v11.2, (v11.2 + (ix [(m_law_take v11.1 (80 : Int)).1, ((m_law_size (m_law_take v11.1 (80 : Int)).2 a_script).1 % (100000000000000000000000000 : Int))] (if (decide ((m_law_take (m_law_size (m_law_take v11.1 (80 : Int)).2 a_script).2 (4 : Int)).1 = (0 : Int))) = true then (1 : Int) else 0))))])) fun (v13 : ((List Int) × (List (Int × Int)))) => (v13.1, v13.2)))) (a_draws, v2)) fun (v15 : ((List Int) × (List (Int × Int)))) => (obind (unbk (forO (fun (s17 : Unit) (x18 : (Int × Int)) => ((bnd (m_law_quiet a_times x18.1 x18.2) fun (v24 : (Int × Int)) => (if (!(decide ((mlongest_quiet a_times x18.1 x18.2) = v24))) = true then (.rt (false, v15.1)) else (if ((decide ((x18.2 - x18.1) ≤ (90 : Int))) && ((!decide ((m_law_by_minutes a_times x18.1 x18.2) = v24)))) = true then (.rt (false, v15.1)) else (.nx ())))) : Out Unit (Bool × (List Int)))) () v15.2)) (fun (s29 : Unit) => (true, v15.1)) (fun r31 => r31))))
def Phi__law_quiet_right (p_draws : Addr) (a_draws : (List Int)) (a_script : (List Int)) (a_times : (List Int)) (m : (Bool × (List Int))) : Post := PR [oL p_draws PyData.int a_draws, .val ((cL PyData.int) a_script), .val ((cT PyData.int) a_times)] (.v (PyData.bool (m.1))) [oL p_draws PyData.int (m.2), .val ((cL PyData.int) a_script), .val ((cT PyData.int) a_times)]
def Rt__law_quiet_right (p_draws : Addr) (a_draws : (List Int)) (a_script : (List Int)) (a_times : (List Int)) (r : (Bool × (List Int))) : Res → List Sl → Prop := (Phi__law_quiet_right p_draws a_draws a_script a_times r).rt
def R_law_quiet_right : Ct := fun γ r γ' => ∃ (p_draws : Addr) (a_draws : (List Int)) (a_script : (List Int)) (a_times : (List Int)), γ = [oL p_draws PyData.int a_draws, .val ((cL PyData.int) a_script), .val ((cT PyData.int) a_times)] ∧ (a_times.length ≤ 60) ∧ (let m := m_law_quiet_right a_draws a_script a_times; r = .v (PyData.bool (m.1)) ∧ γ' = [oL p_draws PyData.int (m.2), .val ((cL PyData.int) a_script), .val ((cT PyData.int) a_times)])
/-! ### _law_counts -/
abbrev s_law_counts : Stmt := topS 19
abbrev N_law_counts : List Str := ["times", "wide", "many", "dead", "best", "rise", "kept", "k", "count"]
theorem sc_law_counts : FnScope N_law_counts ["times", "wide", "many", "dead"] (defScope s_law_counts) := ⟨rfl, rfl, rfl, by decide +kernel, rfl, by decide +kernel, by decide +kernel⟩
def m_law_counts (a_times : (List Int)) (a_wide : Int) (a_many : Int) (a_dead : Int) : ((Option (Int × Int)) × (Option Int) × (List Int)) := (bnd (none : (Option (Int × Int))) fun (v1 : (Option (Int × Int))) => (bnd (none : (Option Int)) fun (v3 : (Option Int)) => (bnd ([] : List Int) fun (v6 : (List Int)) => (bnd ((irange 0 ((a_times.length : Int)).toNat).foldl (fun (s8 : ((Option (Int × Int)) × (Option Int) × (List Int))) (x9 : Int) => (bnd (m_law_in a_times (ix a_times x9) ((ix a_times x9) + a_wide)) fun (v15 : Int) => (bnd (if (((s8.1).isNone) || (decide ((s8.1.getD default).1 < v15))) = true then (bnd (some (v15, (ix a_times x9))) fun (v21 : (Option (Int × Int))) => v21) else s8.1) fun (v19 : (Option (Int × Int))) => (bnd (if (((s8.2.1).isNone) && ((decide (a_many ≤ v15)) && (decide (((2 : Int) * (m_law_in a_times ((ix a_times x9) - a_wide) (ix a_times x9))) ≤ v15)))) = true then (bnd (some (ix a_times x9)) fun (v28 : (Option Int)) => v28) else s8.2.1) fun (v26 : (Option Int)) => (bnd (if ((decide ((s8.2.2.length : Int) = (0 : Int))) || (decide (((ix s8.2.2 (-(1 : Int))) + a_dead) < (ix a_times x9)))) = true then (bnd (s8.2.2 ++ [(ix a_times x9)]) fun (v34 : (List Int)) => v34) else s8.2.2) fun (v32 : (List Int)) => (v19, v26, v32)))))) (v1, v3, v6)) fun (v36 : ((Option (Int × Int)) × (Option Int) × (List Int))) => (v36.1, v36.2.1, v36.2.2)))))
def Phi__law_counts (a_times : (List Int)) (a_wide : Int) (a_many : Int) (a_dead : Int) (m : ((Option (Int × Int)) × (Option Int) × (List Int))) : Post := PR [.val ((cT PyData.int) a_times), .val (PyData.int a_wide), .val (PyData.int a_many), .val (PyData.int a_dead)] (.v ((c3 (cO (c2 PyData.int PyData.int)) (cO PyData.int) (cT PyData.int)) (m))) [.val ((cT PyData.int) a_times), .val (PyData.int a_wide), .val (PyData.int a_many), .val (PyData.int a_dead)]
def Rt__law_counts (a_times : (List Int)) (a_wide : Int) (a_many : Int) (a_dead : Int) (r : ((Option (Int × Int)) × (Option Int) × (List Int))) : Res → List Sl → Prop := (Phi__law_counts a_times a_wide a_many a_dead r).rt
def R_law_counts : Ct := fun γ r γ' => ∃ (a_times : (List Int)) (a_wide : Int) (a_many : Int) (a_dead : Int), γ = [.val ((cT PyData.int) a_times), .val (PyData.int a_wide), .val (PyData.int a_many), .val (PyData.int a_dead)] ∧ (let m := m_law_counts a_times a_wide a_many a_dead; r = .v ((c3 (cO (c2 PyData.int PyData.int)) (cO PyData.int) (cT PyData.int)) (m)) ∧ γ' = [.val ((cT PyData.int) a_times), .val (PyData.int a_wide), .val (PyData.int a_many), .val (PyData.int a_dead)])
/-! ### _law_fading -/
abbrev s_law_fading : Stmt := topS 20
abbrev N_law_fading : List Str := ["times", "begin", "wide", "found"]
theorem sc_law_fading : FnScope N_law_fading ["times", "begin", "wide"] (defScope s_law_fading) := ⟨rfl, rfl, rfl, by decide +kernel, rfl, by decide +kernel, by decide +kernel⟩
def m_law_fading (a_times : (List Int)) (a_begin : Int) (a_wide : Int) : (List Int) := (bnd ([] : List Int) fun (v2 : (List Int)) => (bnd (whl ((fun (s4 : (Int × Int × (List Int))) => (ix a_times (-1) - s4.1 + 1).toNat) (a_begin, a_wide, v2)) (fun (s4 : (Int × Int × (List Int))) => ((decide ((0 : Int) < (a_times.length : Int))) && (decide (s4.1 ≤ (ix a_times (-(1 : Int))))))) (fun (s4 : (Int × Int × (List Int))) => (bnd (s4.2.2 ++ [(m_law_in a_times s4.1 (s4.1 + s4.2.1))]) fun (v8 : (List Int)) => (bnd (s4.1 + s4.2.1) fun (v10 : Int) => (bnd ((2 : Int) * s4.2.1) fun (v12 : Int) => (v10, v12, v8))))) (a_begin, a_wide, v2)) fun (v14 : (Int × Int × (List Int))) => v14.2.2))
def Phi__law_fading (a_times : (List Int)) (a_begin : Int) (a_wide : Int) (m : (List Int)) : Post := PR [.val ((cT PyData.int) a_times), .val (PyData.int a_begin), .val (PyData.int a_wide)] (.v ((cT PyData.int) (m))) [.val ((cT PyData.int) a_times), .val (PyData.int a_begin), .val (PyData.int a_wide)]
def Rt__law_fading (a_times : (List Int)) (a_begin : Int) (a_wide : Int) (r : (List Int)) : Res → List Sl → Prop := (Phi__law_fading a_times a_begin a_wide r).rt
def R_law_fading : Ct := fun γ r γ' => ∃ (a_times : (List Int)) (a_begin : Int) (a_wide : Int), γ = [.val ((cT PyData.int) a_times), .val (PyData.int a_begin), .val (PyData.int a_wide)] ∧ (a_times.length ≤ 1000 ∧ 1 ≤ a_wide ∧ ix a_times (-1) - a_begin < 2^200) ∧ (let m := m_law_fading a_times a_begin a_wide; r = .v ((cT PyData.int) (m)) ∧ γ' = [.val ((cT PyData.int) a_times), .val (PyData.int a_begin), .val (PyData.int a_wide)])
/-! ### _law_right -/
theorem pick3_bd (d1 d2 : List Int) (z k : Int) : 0 ≤ ix [(m_law_take d1 9).1, (m_law_take d2 60).1, z % 100000000000000000000000000] k ∧ ix [(m_law_take d1 9).1, (m_law_take d2 60).1, z % 100000000000000000000000000] k ≤ 100000000000000000000000000 := by
  have a1 := take_bd0 d1 9 (by decide)
  have a2 := take_bd0 d2 60 (by decide)
  have a3 : 0 ≤ z % 100000000000000000000000000 ∧ z % 100000000000000000000000000 < 100000000000000000000000000 := by omega
  exact ⟨ix3_pos a1.1 a2.1 a3.1, ix3_le (by omega) (by omega) (by omega) (by decide)⟩
theorem wide_bd {w : Int} {d1 d2 : List Int} {z k : Int} (h : w = 1 + ix [(m_law_take d1 9).1, (m_law_take d2 60).1, z % 100000000000000000000000000] k) : 1 ≤ w ∧ w ≤ 2 ^ 120 := by
  have := pick3_bd d1 d2 z k
  omega
theorem dead_bd {w : Int} {d1 d2 : List Int} {z k : Int} (h : w = ix [(m_law_take d1 9).1, (m_law_take d2 60).1, z % 100000000000000000000000000] k) : 0 ≤ w ∧ w ≤ 2 ^ 120 := by
  have := pick3_bd d1 d2 z k
  omega
theorem beg_bd {w : Int} {d1 : List Int} (h : w = (m_law_take d1 60).1 - 40) : -40 ≤ w ∧ w < 20 := by
  have := take_bd0 d1 60 (by decide)
  omega
theorem tm_bd {w : Int} {d1 : List Int} (h : w = 1 + (m_law_take d1 9).1) : 1 ≤ w ∧ w ≤ 9 := by
  have := take_bd0 d1 9 (by decide)
  omega
theorem by_bd {w : Int} {d1 : List Int} {z : Int} (h : w = (z % 100000000000000000000000000) * (1 - 2 * (m_law_take d1 2).1)) : -(2 ^ 120) ≤ w ∧ w ≤ 2 ^ 120 := by
  have := take_bd0 d1 2 (by decide)
  have h3 : (m_law_take d1 2).1 = 0 ∨ (m_law_take d1 2).1 = 1 := by omega
  rcases h3 with e | e
  · rw [e] at h; omega
  · rw [e] at h; omega
abbrev s_law_right : Stmt := topS 21
abbrev N_law_right : List Str := ["draws", "script", "times", "wide", "many", "dead", "begin", "by", "times_more", "gaps", "steps", "later", "due", "best", "rise", "kept", "k", "time"]
theorem sc_law_right : FnScope N_law_right ["draws", "script", "times"] (defScope s_law_right) := ⟨rfl, rfl, rfl, by decide +kernel, rfl, by decide +kernel, by decide +kernel⟩
def m_law_right (a_draws : List Int) (a_script : (List Int)) (a_times : (List Int)) : (Bool × (List Int)) := (bnd ((m_law_take (m_law_size (m_law_take (m_law_take a_draws (9 : Int)).2 (60 : Int)).2 a_script).2 (3 : Int)).2, ((1 : Int) + (ix [(m_law_take a_draws (9 : Int)).1, (m_law_take (m_law_take a_draws (9 : Int)).2 (60 : Int)).1, ((m_law_size (m_law_take (m_law_take a_draws (9 : Int)).2 (60 : Int)).2 a_script).1 % (100000000000000000000000000 : Int))] (m_law_take (m_law_size (m_law_take (m_law_take a_draws (9 : Int)).2 (60 : Int)).2 a_script).2 (3 : Int)).1))) fun (v1 : ((List Int) × Int)) => (bnd ((m_law_take v1.1 (6 : Int)).2, (m_law_take v1.1 (6 : Int)).1) fun (v3 : ((List Int) × Int)) => (bnd ((m_law_take (m_law_size (m_law_take (m_law_take v3.1 (9 : Int)).2 (60 : Int)).2 a_script).2 (3 : Int)).2, (ix [(m_law_take v3.1 (9 : Int)).1, (m_law_take (m_law_take v3.1 (9 : Int)).2 (60 : Int)).1, ((m_law_size (m_law_take (m_law_take v3.1 (9 : Int)).2 (60 : Int)).2 a_script).1 % (100000000000000000000000000 : Int))] (m_law_take (m_law_size (m_law_take (m_law_take v3.1 (9 : Int)).2 (60 : Int)).2 a_script).2 (3 : Int)).1)) fun (v5 : ((List Int) × Int)) => (bnd ((m_law_take v5.1 (60 : Int)).2, ((m_law_take v5.1 (60 : Int)).1 - (40 : Int))) fun (v7 : ((List Int) × Int)) => (bnd ((m_law_take (m_law_size v7.1 a_script).2 (2 : Int)).2, (((m_law_size v7.1 a_script).1 % (100000000000000000000000000 : Int)) * ((1 : Int) - ((2 : Int) * (m_law_take (m_law_size v7.1 a_script).2 (2 : Int)).1)))) fun (v9 : ((List Int) × Int)) => (bnd ((m_law_take v9.1 (9 : Int)).2, ((1 : Int) + (m_law_take v9.1 (9 : Int)).1)) fun (v11 : ((List Int) × Int)) => (bnd ((m_law_counts a_times v1.2 v3.2 v5.2).1, (m_law_counts a_times v1.2 v3.2 v5.2).2.1, (m_law_counts a_times v1.2 v3.2 v5.2).2.2) fun (v13 : ((Option (Int × Int)) × (Option Int) × (List Int))) => (bnd ((irange (1 : Int) ((a_times.length : Int) - (1 : Int)).toNat).map (fun z15 : Int => ((ix a_times z15) - (ix a_times (z15 - (1 : Int)))))) fun (v18 : (List Int)) => (bnd (((irange (2 : Int) ((a_times.length : Int) - (2 : Int)).toNat).filter (fun z20 : Int => ((decide ((ix a_times (z20 - (2 : Int))) < (ix a_times (z20 - (1 : Int))))) && (decide (((2 : Int) * ((ix a_times (z20 - (1 : Int))) - (ix a_times (z20 - (2 : Int))))) ≤ ((ix a_times z20) - (ix a_times (z20 - (1 : Int))))))))).map (fun z20 : Int => z20)) fun (v24 : (List Int)) => (if ((!(decide ((mmost_in a_times v1.2) = v13.1))) || ((!(decide ((mrates_rise a_times v1.2 v3.2) = v13.2.1))) || (!(decide ((mthinned_times a_times v5.2) = v13.2.2))))) = true then (false, v11.1) else (if ((!(decide ((mgaps_of a_times) = v18))) || (!(decide ((mdoubled_steps a_times) = v24)))) = true then (false, v11.1) else (if ((decide ((0 : Int) < (a_times.length : Int))) && ((!decide ((v18.sum) = ((ix a_times (-(1 : Int))) - (ix a_times (0 : Int))))))) = true then (false, v11.1) else (if (!(decide ((mfading a_times v7.2 v1.2) = (m_law_fading a_times v7.2 v1.2)))) = true then (false, v11.1) else (bnd (a_times.map (fun z34 : Int => ((z34 * v11.2) + v9.2))) fun (v37 : (List Int)) => (bnd () fun (v39 : Unit) => (bnd (if ((!(v13.1).isNone)) = true then (bnd ((v13.1.getD default).1, (((v13.1.getD default).2 * v11.2) + v9.2)) fun (v44 : (Int × Int)) => (some v44)) else (none : (Option (Int × Int)))) fun (v42 : (Option (Int × Int))) => (if ((!(decide ((mmost_in v37 (v1.2 * v11.2)) = v42))) || (!(decide ((mdoubled_steps v37) = v24)))) = true then (false, v11.1) else (if (!(decide ((mthinned_times v37 (v5.2 * v11.2)) = (v13.2.2.map (fun z48 : Int => ((z48 * v11.2) + v9.2)))))) = true then (false, v11.1) else (((decide ((mfading v37 ((v7.2 * v11.2) + v9.2) (v1.2 * v11.2)) = (m_law_fading a_times v7.2 v1.2))) && (m_law_quiet_right v11.1 a_script a_times).1), (cond (decide ((mfading v37 ((v7.2 * v11.2) + v9.2) (v1.2 * v11.2)) = (m_law_fading a_times v7.2 v1.2))) (m_law_quiet_right v11.1 a_script a_times).2 v11.1))))))))))))))))))))
def Phi__law_right (p_draws : Addr) (a_draws : (List Int)) (a_script : (List Int)) (a_times : (List Int)) (m : (Bool × (List Int))) : Post := PR [oL p_draws PyData.int a_draws, .val ((cL PyData.int) a_script), .val ((cT PyData.int) a_times)] (.v (PyData.bool (m.1))) [oL p_draws PyData.int (m.2), .val ((cL PyData.int) a_script), .val ((cT PyData.int) a_times)]
def Rt__law_right (p_draws : Addr) (a_draws : (List Int)) (a_script : (List Int)) (a_times : (List Int)) (r : (Bool × (List Int))) : Res → List Sl → Prop := (Phi__law_right p_draws a_draws a_script a_times r).rt
def R_law_right : Ct := fun γ r γ' => ∃ (p_draws : Addr) (a_draws : (List Int)) (a_script : (List Int)) (a_times : (List Int)), γ = [oL p_draws PyData.int a_draws, .val ((cL PyData.int) a_script), .val ((cT PyData.int) a_times)] ∧ (TmOk a_times) ∧ (let m := m_law_right a_draws a_script a_times; r = .v (PyData.bool (m.1)) ∧ γ' = [oL p_draws PyData.int (m.2), .val ((cL PyData.int) a_script), .val ((cT PyData.int) a_times)])
/-! ### law -/
abbrev slaw : Stmt := topS 22
abbrev Nlaw : List Str := ["script", "draws", "k", "times"]
theorem sclaw : FnScope Nlaw ["script"] (defScope slaw) := ⟨rfl, rfl, rfl, by decide +kernel, rfl, by decide +kernel, by decide +kernel⟩
def mlaw (a_script : (List Int)) : Bool := (bnd (m_law_draws a_script (520 : Int)) fun (v2 : (List Int)) => (obind (unbk (forO (fun (s4 : (List Int)) (x5 : Int) => ((if (!(m_law_right (m_law_times (m_law_take s4 (ix [(6 : Int), (26 : Int), (14 : Int)] x5)).2 a_script (m_law_take s4 (ix [(6 : Int), (26 : Int), (14 : Int)] x5)).1 (decide (x5 = (2 : Int)))).2 a_script (m_law_times (m_law_take s4 (ix [(6 : Int), (26 : Int), (14 : Int)] x5)).2 a_script (m_law_take s4 (ix [(6 : Int), (26 : Int), (14 : Int)] x5)).1 (decide (x5 = (2 : Int)))).1).1) = true then (.rt false) else (.nx (m_law_right (m_law_times (m_law_take s4 (ix [(6 : Int), (26 : Int), (14 : Int)] x5)).2 a_script (m_law_take s4 (ix [(6 : Int), (26 : Int), (14 : Int)] x5)).1 (decide (x5 = (2 : Int)))).2 a_script (m_law_times (m_law_take s4 (ix [(6 : Int), (26 : Int), (14 : Int)] x5)).2 a_script (m_law_take s4 (ix [(6 : Int), (26 : Int), (14 : Int)] x5)).1 (decide (x5 = (2 : Int)))).1).2)) : Out (List Int) Bool)) v2 (irange 0 ((3 : Int)).toNat))) (fun (s12 : (List Int)) => (bnd ([(1 : Int), (3 : Int), (3 : Int), (4 : Int), (9 : Int), (20 : Int)] : (List Int)) fun (v14 : (List Int)) => (if ((!(decide ((mmost_in v14 (2 : Int)) = (some ((3 : Int), (3 : Int)))))) || ((!(decide ((mlongest_quiet v14 (0 : Int) (20 : Int)) = ((10 : Int), (20 : Int))))) || (!(decide ((mrates_rise v14 (3 : Int) (3 : Int)) = (some (1 : Int))))))) = true then false else (if ((!(decide ((mfading v14 (1 : Int) (3 : Int)) = ([(3 : Int), (2 : Int), (1 : Int)] : (List Int))))) || ((!(decide ((mdoubled_steps v14) = ([(4 : Int), (5 : Int)] : (List Int))))) || (!(decide ((mthinned_times v14 (2 : Int)) = ([(1 : Int), (4 : Int), (9 : Int), (20 : Int)] : (List Int))))))) = true then false else ((decide ((mlongest_quiet ([(0 : Int), (1 : Int), (2 : Int)] : (List Int)) (0 : Int) (3 : Int)) = ((0 : Int), (0 : Int)))) && ((decide ((mfading ([] : (List Int)) (5 : Int) (1 : Int)) = ([] : (List Int)))) && (((mmost_in ([] : (List Int)) (4 : Int))).isNone))))))) (fun r24 => r24)))
def Phi_law (a_script : (List Int)) (m : Bool) : Post := PR [.val ((cL PyData.int) a_script)] (.v (PyData.bool (m))) [.val ((cL PyData.int) a_script)]
def Rt_law (a_script : (List Int)) (r : Bool) : Res → List Sl → Prop := (Phi_law a_script r).rt
def Rlaw : Ct := fun γ r γ' => ∃ (a_script : (List Int)), γ = [.val ((cL PyData.int) a_script)] ∧ (let m := mlaw a_script; r = .v (PyData.bool (m)) ∧ γ' = [.val ((cL PyData.int) a_script)])
end W

set_option Elab.async false
set_option linter.all false
set_option maxRecDepth 100000
namespace W
open PySem L2 PySem.Spec PyProof.Rows PD

theorem count_in_eq (ts : List Int) (b e : Int) : m_law_in ts b e = mcount_in ts b e := by
  unfold m_law_in mcount_in
  rw [List.length_map, List.length_map]

/-! ### the most -/
def bestStep (cnt : Int → Int) (r : Option (Int × Int)) (x : Int) : Option (Int × Int) := if (r.isNone || decide ((r.getD default).1 < cnt x)) = true then some (cnt x, x) else r
def bestF (cnt : Int → Int) (ts : List Int) : Option (Int × Int) := ts.foldl (bestStep cnt) none
theorem best_min (cnt : Int → Int) : ∀ (ts : List Int) (x n : Int), (∀ y ∈ ts, x ≤ y) → ts.Pairwise (· ≤ ·) →
    ts.foldl (bestStep cnt) (some (n, x)) = some (-((ts.map fun z => (-(cnt z), z)).foldl (fun a y => if PySem.W.dataLt (c2 PyData.int PyData.int y) (c2 PyData.int PyData.int a) then y else a) (-n, x)).1, ((ts.map fun z => (-(cnt z), z)).foldl (fun a y => if PySem.W.dataLt (c2 PyData.int PyData.int y) (c2 PyData.int PyData.int a) then y else a) (-n, x)).2)
  | [], x, n, _, _ => by
    show some (n, x) = some (- -n, x)
    rw [Int.neg_neg]
  | y :: ts, x, n, h1, h2 => by
    obtain ⟨h3, h4⟩ := List.pairwise_cons.mp h2
    have hxy := h1 y List.mem_cons_self
    rw [List.map_cons, List.foldl_cons, List.foldl_cons]
    have e : PySem.W.dataLt (c2 PyData.int PyData.int (-(cnt y), y)) (c2 PyData.int PyData.int (-n, x)) = decide (n < cnt y) := by
      show PySem.W.dataLt (.tuple [.int (-(cnt y)), .int y]) (.tuple [.int (-n), .int x]) = _
      rw [PySem.W.dataLt_ii]
      exact decide_eq_decide.mpr ⟨fun h => by omega, fun h => .inl (by omega)⟩
    have es : bestStep cnt (some (n, x)) y = if decide (n < cnt y) = true then some (cnt y, y) else some (n, x) := rfl
    rw [e, es]
    by_cases h : n < cnt y
    · rw [if_pos (decide_eq_true h), if_pos (decide_eq_true h)]
      exact best_min cnt ts y (cnt y) h3 h4
    · rw [if_neg (by simpa using h), if_neg (by simpa using h)]
      exact best_min cnt ts x n (fun z hz => h1 z (List.mem_cons_of_mem _ hz)) h4
theorem most_in_eq (ts : List Int) (w : Int) (h : ts.Pairwise (· ≤ ·)) : mmost_in ts w = bestF (fun t => mcount_in ts t (t + w)) ts := by
  unfold mmost_in
  simp only [bnd]
  generalize hc : (fun t => mcount_in ts t (t + w)) = cnt
  have ec : ∀ t, mcount_in ts t (t + w) = cnt t := fun t => by rw [← hc]
  have em : (ts.map fun z1 => (-mcount_in ts z1 (z1 + w), z1)) = ts.map fun z => (-(cnt z), z) := List.map_congr_left fun z _ => by rw [ec]
  rw [em]
  clear em ec hc
  cases ts with
  | nil => rfl
  | cons t ts =>
    obtain ⟨h1, h2⟩ := List.pairwise_cons.mp h
    rw [if_neg (by simp; omega)]
    show some (-(minE (c2 PyData.int PyData.int) ((-(cnt t), t) :: ts.map fun z => (-(cnt z), z))).1, (minE (c2 PyData.int PyData.int) ((-(cnt t), t) :: ts.map fun z => (-(cnt z), z))).2) = ts.foldl (bestStep cnt) (some (cnt t, t))
    rw [best_min cnt ts t (cnt t) h1 h2]
    rfl

/-! ### what the law counts -/
def keptStep (dead : Int) (s : List Int) (x : Int) : List Int := if (decide ((s.length : Int) = 0) || decide (ix s (-1) + dead < x)) = true then s ++ [x] else s
def keptF (dead : Int) (ts : List Int) : List Int := ts.foldl (keptStep dead) []
def riseP (ts : List Int) (w many : Int) (x : Int) : Bool := decide (many ≤ mcount_in ts x (x + w)) && decide (2 * mcount_in ts (x - w) x ≤ mcount_in ts x (x + w))
theorem fold3 {σ τ υ α : Type} (f : σ → α → σ) (g : τ → α → τ) (k : υ → α → υ) (xs : List α) (s : σ) (t : τ) (u : υ) : xs.foldl (fun (q : σ × τ × υ) x => (f q.1 x, g q.2.1 x, k q.2.2 x)) (s, t, u) = (xs.foldl f s, xs.foldl g t, xs.foldl k u) := by
  induction xs generalizing s t u with
  | nil => rfl
  | cons x xs ih => exact ih _ _ _
theorem counts_eq (ts : List Int) (w many dead : Int) : m_law_counts ts w many dead = (bestF (fun t => mcount_in ts t (t + w)) ts, ts.find? (riseP ts w many), keptF dead ts) := by
  unfold m_law_counts
  simp only [bnd, count_in_eq]
  have e : ((ts.length : Int)).toNat = ts.length := by omega
  rw [e]
  have h := (fold_ix (fun (q : Option (Int × Int) × Option Int × List Int) x => (bestStep (fun t => mcount_in ts t (t + w)) q.1 x, (if (q.2.1.isNone && riseP ts w many x) = true then some x else q.2.1), keptStep dead q.2.2 x)) (none, none, []) ts).trans
    (fold3 (bestStep fun t => mcount_in ts t (t + w)) (fun (r : Option Int) x => if (r.isNone && riseP ts w many x) = true then some x else r) (keptStep dead) ts none none [])
  rw [fold_find] at h
  unfold bestF keptF
  exact h
theorem rise_eq (ts : List Int) (w many : Int) : mrates_rise ts w many = ts.find? (riseP ts w many) := by
  unfold mrates_rise
  exact forO_find (riseP ts w many) ts
theorem thinned_eq (ts : List Int) (dead : Int) : mthinned_times ts dead = keptF dead ts := by
  unfold mthinned_times keptF
  simp only [bnd]
  refine foldl_congr (fun s x _ => ?_) _
  unfold keptStep
  have : decide (dead < x - ix s (-1)) = decide (ix s (-1) + dead < x) := decide_eq_decide.mpr ⟨fun h => by omega, fun h => by omega⟩
  rw [← this]
/-! ### gaps and steps -/
theorem gaps_eq (ts : List Int) : mgaps_of ts = (irange 1 ((ts.length : Int) - 1).toNat).map fun z => ix ts z - ix ts (z - 1) := by
  unfold mgaps_of
  rw [show (1 : Int) = 0 + 1 from rfl, irange_shift, List.map_map]
  refine List.map_congr_left fun z hz => ?_
  show ix ts (z + 1) - ix ts z = ix ts (z + 1) - ix ts (z + 1 - 1)
  rw [show z + 1 - 1 = z by omega]
def stepsF (ts : List Int) : List Int := ((irange 2 ((ts.length : Int) - 2).toNat).filter fun z => decide (ix ts (z - 2) < ix ts (z - 1)) && decide (2 * (ix ts (z - 1) - ix ts (z - 2)) ≤ ix ts z - ix ts (z - 1))).map fun z => z
theorem gaps_ix (ts : List Int) {k : Int} (h0 : 0 ≤ k) (h1 : k < (ts.length : Int) - 1) : ix (mgaps_of ts) k = ix ts (k + 1) - ix ts k := by
  unfold mgaps_of
  rw [ix_map h0 (by rw [irange_len]; omega)]
  have : ix (irange 0 ((ts.length : Int) - 1).toNat) k = k := by
    rw [ix_nn h0 (by rw [irange_len]; omega)]
    have h2 : k.toNat < (irange 0 ((ts.length : Int) - 1).toNat).length := by rw [irange_len]; omega
    have := (irange_get (List.getElem?_eq_getElem h2)).1
    rw [this]; omega
  rw [this]
theorem steps_eq (ts : List Int) : mdoubled_steps ts = stepsF ts := by
  unfold mdoubled_steps stepsF
  simp only [bnd]
  have hl : (mgaps_of ts).length = ((ts.length : Int) - 1).toNat := by
    unfold mgaps_of
    rw [List.length_map, irange_len]
  have hn : (((mgaps_of ts).length : Int) - 1).toNat = ((ts.length : Int) - 2).toNat := by omega
  rw [hn, show (2 : Int) = 1 + 1 from rfl, irange_shift 1 1, List.filter_map, List.map_map]
  have e : ((irange 1 ((ts.length : Int) - (1 + 1)).toNat).filter fun z3 => decide (0 < ix (mgaps_of ts) (z3 - 1)) && decide ((1 + 1) * ix (mgaps_of ts) (z3 - 1) ≤ ix (mgaps_of ts) z3)) =
      (irange 1 ((ts.length : Int) - (1 + 1)).toNat).filter ((fun z => decide (ix ts (z - (1 + 1)) < ix ts (z - 1)) && decide ((1 + 1) * (ix ts (z - 1) - ix ts (z - (1 + 1))) ≤ ix ts z - ix ts (z - 1))) ∘ fun x => x + 1) := by
    refine List.filter_congr fun z hz => ?_
    have h := mem_irange.mp hz
    show (decide (0 < ix (mgaps_of ts) (z - 1)) && decide ((1 + 1) * ix (mgaps_of ts) (z - 1) ≤ ix (mgaps_of ts) z)) = (decide (ix ts (z + 1 - (1 + 1)) < ix ts (z + 1 - 1)) && decide ((1 + 1) * (ix ts (z + 1 - 1) - ix ts (z + 1 - (1 + 1))) ≤ ix ts (z + 1) - ix ts (z + 1 - 1)))
    rw [gaps_ix ts (by omega) (by omega), gaps_ix ts (by omega) (by omega), show z + 1 - (1 + 1) = z - 1 by omega, show z + 1 - 1 = z by omega, show z - 1 + 1 = z by omega]
    congr 1
    exact decide_eq_decide.mpr ⟨fun h => by omega, fun h => by omega⟩
  rw [e]
  rfl
theorem sum_eq (ts : List Int) (h : 0 < ts.length) : ((irange 1 ((ts.length : Int) - 1).toNat).map fun z => ix ts z - ix ts (z - 1)).sum = ix ts (-1) - ix ts 0 := by
  rw [sum_tele (fun z => ix ts z), ix_neg_one h]
  rw [show ((((ts.length : Int) - 1).toNat : Nat) : Int) = (ts.length : Int) - 1 by omega]
theorem fading_eq (ts : List Int) (b w : Int) : mfading ts b w = m_law_fading ts b w := by
  unfold mfading m_law_fading
  simp only [bnd, count_in_eq, Int.mul_comm (2 : Int)]

/-! ### all later, and all multiplied -/
section
variable {m b : Int}
theorem phi_lt (hm : 1 ≤ m) {x y : Int} : x * m + b < y * m + b ↔ x < y := by
  constructor
  · intro h
    exact Int.lt_of_mul_lt_mul_right (show x * m < y * m by omega) (by omega)
  · intro h
    have := Int.mul_lt_mul_of_pos_right h (show 0 < m by omega)
    omega
theorem phi_le (hm : 1 ≤ m) {x y : Int} : x * m + b ≤ y * m + b ↔ x ≤ y := by
  have := phi_lt (b := b) hm (x := y) (y := x)
  omega
theorem phi_add {x w : Int} : x * m + b + w * m = (x + w) * m + b := by
  rw [Int.add_mul]; omega
theorem count_phi (hm : 1 ≤ m) (ts : List Int) (x y : Int) : mcount_in (ts.map fun t => t * m + b) (x * m + b) (y * m + b) = mcount_in ts x y := by
  unfold mcount_in
  rw [List.length_map, List.length_map, List.filter_map, List.length_map]
  congr 2
  refine List.filter_congr fun t _ => ?_
  show (decide (x * m + b ≤ t * m + b) && decide (t * m + b < y * m + b)) = _
  rw [decide_eq_decide.mpr (phi_le hm), decide_eq_decide.mpr (phi_lt hm)]
theorem sorted_phi (hm : 1 ≤ m) {ts : List Int} (h : ts.Pairwise (· ≤ ·)) : (ts.map fun t => t * m + b).Pairwise (· ≤ ·) :=
  List.pairwise_map.mpr (h.imp fun h => (phi_le hm).mpr h)
theorem best_phi (hm : 1 ≤ m) (ts : List Int) (w : Int) (h : ts.Pairwise (· ≤ ·)) : mmost_in (ts.map fun t => t * m + b) (w * m) = (mmost_in ts w).map fun p => (p.1, p.2 * m + b) := by
  rw [most_in_eq _ _ (sorted_phi hm h), most_in_eq _ _ h]
  unfold bestF
  rw [List.foldl_map]
  refine foldl_rel (fun (s t : Option (Int × Int)) => s = t.map fun p => (p.1, p.2 * m + b)) (fun s t x _ e => ?_) rfl
  subst e
  have ec : mcount_in (ts.map fun t => t * m + b) (x * m + b) (x * m + b + w * m) = mcount_in ts x (x + w) := by rw [phi_add, count_phi hm]
  unfold bestStep
  simp only [ec]
  cases t with
  | none => rfl
  | some p =>
    show (if decide (p.1 < _) = true then _ else _) = Option.map _ (if decide (p.1 < _) = true then _ else _)
    by_cases hp : p.1 < mcount_in ts x (x + w)
    · rw [if_pos (decide_eq_true hp), if_pos (decide_eq_true hp)]; rfl
    · rw [if_neg (by simpa using hp), if_neg (by simpa using hp)]
theorem steps_phi (hm : 1 ≤ m) (ts : List Int) : stepsF (ts.map fun t => t * m + b) = stepsF ts := by
  unfold stepsF
  rw [List.length_map]
  congr 1
  refine List.filter_congr fun z hz => ?_
  have h := mem_irange.mp hz
  rw [ix_map (by omega) (by omega), ix_map (by omega) (by omega), ix_map (by omega) (by omega)]
  rw [decide_eq_decide.mpr (phi_lt hm)]
  congr 1
  refine decide_eq_decide.mpr ?_
  generalize ix ts (z - 2) = x
  generalize ix ts (z - 1) = y
  generalize ix ts z = u
  have e : ∀ p q : Int, p * m + b - (q * m + b) = (p - q) * m + 0 := fun p q => by rw [Int.sub_mul]; omega
  rw [e, e, show 2 * ((y - x) * m + 0) = (2 * (y - x)) * m + 0 by rw [Int.mul_assoc]; omega]
  exact phi_le hm
theorem kept_phi (hm : 1 ≤ m) (ts : List Int) (d : Int) : keptF (d * m) (ts.map fun t => t * m + b) = (keptF d ts).map fun t => t * m + b := by
  unfold keptF
  rw [List.foldl_map]
  refine foldl_rel (fun (s t : List Int) => s = t.map fun t => t * m + b) (fun s t x _ e => ?_) rfl
  subst e
  unfold keptStep
  rw [List.length_map]
  by_cases ht : t = []
  · subst ht; rfl
  · have hp : 0 < t.length := List.length_pos_iff.mpr ht
    rw [ix_map_last hp]
    have e2 : decide (ix t (-1) * m + b + d * m < x * m + b) = decide (ix t (-1) + d < x) := by
      rw [phi_add]; exact decide_eq_decide.mpr (phi_lt hm)
    rw [e2]
    by_cases hc : (decide ((t.length : Int) = 0) || decide (ix t (-1) + d < x)) = true
    · rw [if_pos hc, if_pos hc, List.map_append]; rfl
    · rw [if_neg hc, if_neg hc]
/-- fading, with as many turns as one likes -/
def fadT (ts : List Int) (s : Int × Int × List Int) : Bool := decide ((0 : Int) < (ts.length : Int)) && decide (s.1 ≤ ix ts (-1))
def fadF (ts : List Int) (s : Int × Int × List Int) : Int × Int × List Int := (s.1 + s.2.1, s.2.1 * 2, s.2.2 ++ [mcount_in ts s.1 (s.1 + s.2.1)])
theorem fad_more (ts : List Int) (x w : Int) (hw : 1 ≤ w) (n : Nat) (hn : (ix ts (-1) - x + 1).toNat ≤ n) : mfading ts x w = (whl n (fadT ts) (fadF ts) (x, w, [])).2.2 := by
  rw [whl_more (μ := fun s => (ix ts (-1) - s.1 + 1).toNat) (I := fun s : Int × Int × List Int => 1 ≤ s.2.1) (fun s hi ht => ?_) n (x, w, []) hw hn]
  · rfl
  · refine ⟨show 1 ≤ s.2.1 * 2 by have : 1 ≤ s.2.1 := hi; omega, ?_⟩
    exact fad_falls hi ht
theorem fading_phi (hm : 1 ≤ m) (ts : List Int) (x w : Int) (hw : 1 ≤ w) : mfading (ts.map fun t => t * m + b) (x * m + b) (w * m) = mfading ts x w := by
  have hwm : 1 ≤ w * m := by
    have : 0 < w * m := Int.mul_pos (by omega) (by omega)
    omega
  let N := (ix (ts.map fun t => t * m + b) (-1) - (x * m + b) + 1).toNat + (ix ts (-1) - x + 1).toNat
  rw [fad_more _ _ _ hwm N (by omega), fad_more ts x w hw N (by omega)]
  have h := whl_sim (t := fadT (ts.map fun t => t * m + b)) (f := fadF (ts.map fun t => t * m + b)) (t' := fadT ts) (f' := fadF ts) (fun s s' => s.1 = s'.1 * m + b ∧ s.2.1 = s'.2.1 * m ∧ s.2.2 = s'.2.2) (fun s s' ⟨h1, h2, h3⟩ => ?_) (fun s s' ⟨h1, h2, h3⟩ ht => ?_) N (x * m + b, w * m, []) (x, w, []) ⟨rfl, rfl, rfl⟩
  · exact h.2.2
  · unfold fadT
    rw [List.length_map]
    by_cases ht : ts = []
    · subst ht; rfl
    · rw [ix_map_last (List.length_pos_iff.mpr ht), h1, decide_eq_decide.mpr (phi_le hm)]
  · unfold fadF
    refine ⟨?_, ?_, ?_⟩
    · show s.1 + s.2.1 = (s'.1 + s'.2.1) * m + b
      rw [h1, h2, phi_add]
    · show s.2.1 * 2 = s'.2.1 * 2 * m
      rw [h2, Int.mul_right_comm]
    · show s.2.2 ++ [_] = s'.2.2 ++ [_]
      rw [h3, h1, h2, phi_add, count_phi hm]
end

/-! ### quiet -/
def qStep (s : (Int × Int) × Int) (x : Int) : (Int × Int) × Int := (if decide (s.1.2 - s.1.1 < x - s.2) = true then (s.2, x) else s.1, x + 1)
def quietF (ts : List Int) (b e : Int) : Int × Int := ((srtSet (ts.filter fun z => decide (b ≤ z) && decide (z < e)) ++ [e]).foldl qStep ((b, b), b)).1
theorem map_id' (xs : List Int) : (xs.map fun z => z) = xs := List.map_id' xs
theorem law_quiet_eq (ts : List Int) (b e : Int) : m_law_quiet ts b e = quietF ts b e := by
  unfold m_law_quiet quietF
  simp only [bnd, map_id']
  generalize srtSet (ts.filter fun z => decide (b ≤ z) && decide (z < e)) = M
  rw [List.append_assoc, show [b - 1] ++ (M ++ [e]) = (b - 1) :: (M ++ [e]) from rfl]
  generalize M ++ [e] = L
  have hn : (((((b - 1) :: L).length : Nat) : Int) - 1).toNat = L.length := by rw [List.length_cons]; omega
  rw [hn]
  have h := fold_pairs (fun (s : Int × Int) p x => if decide (s.2 - s.1 < x - p - 1) = true then (p + 1, x) else s) (b, b) (b - 1) L
  refine h.trans ?_
  have h2 := foldl_rel (f := fun (q : (Int × Int) × Int) x => ((fun (s : Int × Int) p x => if decide (s.2 - s.1 < x - p - 1) = true then (p + 1, x) else s) q.1 q.2 x, x)) (g := qStep) (fun s t => s.1 = t.1 ∧ s.2 + 1 = t.2) (xs := L) (fun s t x _ ⟨h1, h2⟩ => ?_) (s0 := ((b, b), b - 1)) (t0 := ((b, b), b)) ⟨rfl, by show b - 1 + 1 = b; omega⟩
  · exact h2.1
  · refine ⟨?_, rfl⟩
    show (if decide (s.1.2 - s.1.1 < x - s.2 - 1) = true then (s.2 + 1, x) else s.1) = if decide (t.1.2 - t.1.1 < x - t.2) = true then (t.2, x) else t.1
    rw [h1, ← h2, show x - s.2 - 1 = x - (s.2 + 1) by omega]

def lStep (s : (Int × Int) × Int) (x : Int) : (Int × Int) × Int := (if decide (s.1.2 - s.1.1 < x - s.2) = true then (s.2, x) else s.1, max s.2 (x + 1))
theorem insI_head {x : Int} {M : List Int} (h : ∀ y ∈ M, x < y) : insI x M = x :: M := by
  cases M with
  | nil => rfl
  | cons y M => unfold insI; rw [if_pos (h y List.mem_cons_self)]
theorem insI_twice (x : Int) (M : List Int) (h : M.Pairwise (· < ·)) : insI x (insI x M) = insI x M :=
  lt_unique (insI_lt (insI_lt h)) (insI_lt h) fun k => by
    rw [mem_insI, mem_insI]
    exact ⟨fun h => h.elim .inl id, .inr⟩
theorem quiet_fold (e : Int) : ∀ (L : List Int) (best : Int × Int) (here : Int), L.Pairwise (· ≤ ·) → (∀ x ∈ L, here ≤ x) → best.1 ≤ best.2 → ((L ++ [e]).foldl lStep (best, here)).1 = ((srtSet L ++ [e]).foldl qStep (best, here)).1
  | [], _, _, _, _, _ => rfl
  | [x], best, here, _, h, _ => by
    have := h x List.mem_cons_self
    show (lStep (lStep (best, here) x) e).1 = (qStep (qStep (best, here) x) e).1
    have e1 : lStep (best, here) x = qStep (best, here) x := by
      unfold lStep qStep
      rw [show max here (x + 1) = x + 1 by omega]
    rw [e1]; rfl
  | x :: y :: L, best, here, hs, h, hb => by
    obtain ⟨h1, h2⟩ := List.pairwise_cons.mp hs
    have hx := h x List.mem_cons_self
    have hxy := h1 y List.mem_cons_self
    have e1 : lStep (best, here) x = qStep (best, here) x := by
      unfold lStep qStep
      rw [show max here (x + 1) = x + 1 by omega]
    by_cases hy : x = y
    · subst hy
      have e2 : lStep (lStep (best, here) x) x = lStep (best, here) x := by
        rw [e1]
        have hbb : (qStep (best, here) x).1.1 ≤ (qStep (best, here) x).1.2 := by
          unfold qStep
          by_cases hc : best.2 - best.1 < x - here
          · rw [if_pos (decide_eq_true hc)]; exact hx
          · rw [if_neg (by simpa using hc)]; exact hb
        have hr : (qStep (best, here) x).2 = x + 1 := rfl
        generalize qStep (best, here) x = q at hbb hr
        obtain ⟨q1, q2⟩ := q
        simp only at hbb hr
        subst hr
        unfold lStep
        simp only
        rw [if_neg (by simp only [decide_eq_true_eq]; omega), show max (x + 1) (x + 1) = x + 1 by omega]
      have ih := quiet_fold e (x :: L) best here h2 (fun z hz => h z (List.mem_cons_of_mem _ hz)) hb
      have e3 : srtSet (x :: x :: L) = srtSet (x :: L) := insI_twice x (srtSet L) (srtSet_lt L)
      rw [e3, ← ih]
      show ((L ++ [e]).foldl lStep (lStep (lStep (best, here) x) x)).1 = ((L ++ [e]).foldl lStep (lStep (best, here) x)).1
      rw [e2]
    · have e3 : srtSet (x :: y :: L) = x :: srtSet (y :: L) := insI_head fun z hz => by
        have hz := mem_srtSet.mp hz
        rcases List.mem_cons.mp hz with e | hz
        · rw [e]; omega
        · have := (List.pairwise_cons.mp h2).1 z hz
          omega
      rw [e3]
      show (((y :: L) ++ [e]).foldl lStep (lStep (best, here) x)).1 = ((srtSet (y :: L) ++ [e]).foldl qStep (qStep (best, here) x)).1
      rw [e1]
      refine quiet_fold e (y :: L) _ _ h2 (fun z hz => ?_) ?_
      · rcases List.mem_cons.mp hz with e | hz
        · rw [e]; show x + 1 ≤ y; omega
        · have := (List.pairwise_cons.mp h2).1 z hz
          show x + 1 ≤ z; omega
      · show (if decide (best.2 - best.1 < x - here) = true then (here, x) else best).1 ≤ (if decide (best.2 - best.1 < x - here) = true then (here, x) else best).2
        by_cases hc : best.2 - best.1 < x - here
        · rw [if_pos (decide_eq_true hc)]; exact hx
        · rw [if_neg (by simpa using hc)]; exact hb
theorem longest_eq (ts : List Int) (b e : Int) (hs : ts.Pairwise (· ≤ ·)) : mlongest_quiet ts b e = quietF ts b e := by
  unfold mlongest_quiet quietF
  simp only [bnd, map_id']
  refine quiet_fold e (ts.filter fun z => decide (b ≤ z) && decide (z < e)) (b, b) b (hs.filter _) (fun x hx => ?_) (Int.le_refl _)
  have := (List.mem_filter.mp hx).2
  rw [Bool.and_eq_true, decide_eq_true_eq] at this
  exact this.1
theorem minutes_eq (ts : List Int) (b e : Int) (h : b ≤ e) : m_law_by_minutes ts b e = quietF ts b e := by
  unfold m_law_by_minutes quietF
  simp only [bnd]
  have e1 : ∀ (s : (Int × Int) × Int) (x : Int), ((if (decide (x = e) || decide (x ∈ ts)) = true then (if decide (s.1.2 - s.1.1 < x - s.2) = true then (s.2, x) else s.1, x + 1) else (s.1, s.2)).1, (if (decide (x = e) || decide (x ∈ ts)) = true then (if decide (s.1.2 - s.1.1 < x - s.2) = true then (s.2, x) else s.1, x + 1) else (s.1, s.2)).2) = if (decide (x = e) || decide (x ∈ ts)) = true then qStep s x else s := fun s x => by
    by_cases hc : (decide (x = e) || decide (x ∈ ts)) = true
    · rw [if_pos hc, if_pos hc]; rfl
    · rw [if_neg hc, if_neg hc]
  rw [foldl_congr (fun s x _ => e1 s x), foldl_if (fun x => decide (x = e) || decide (x ∈ ts)) qStep]
  have e2 : (irange b (e + 1 - b).toNat).filter (fun x => decide (x = e) || decide (x ∈ ts)) = srtSet (ts.filter fun z => decide (b ≤ z) && decide (z < e)) ++ [e] := by
    refine lt_unique ((irange_lt _ _).filter _) (List.pairwise_append.mpr ⟨srtSet_lt _, List.pairwise_singleton _ _, fun x hx y hy => ?_⟩) fun k => ?_
    · rw [List.mem_singleton.mp hy]
      have := (List.mem_filter.mp (mem_srtSet.mp hx)).2
      rw [Bool.and_eq_true, decide_eq_true_eq, decide_eq_true_eq] at this
      exact this.2
    · rw [List.mem_filter, mem_irange, List.mem_append, mem_srtSet, List.mem_filter, List.mem_singleton, Bool.or_eq_true, Bool.and_eq_true, decide_eq_true_eq, decide_eq_true_eq, decide_eq_true_eq, decide_eq_true_eq]
      constructor
      · rintro ⟨h1, h2 | h2⟩
        · exact .inr h2
        · by_cases he : k = e
          · exact .inr he
          · exact .inl ⟨h2, by omega, by omega⟩
      · rintro (⟨h1, h2, h3⟩ | h1)
        · exact ⟨by omega, .inr h1⟩
        · exact ⟨by omega, .inl h1⟩
  rw [e2]

/-! ### the law -/
theorem quiet_right (ds sc ts : List Int) (h : ts.Pairwise (· ≤ ·)) : (m_law_quiet_right ds sc ts).1 = true := by
  unfold m_law_quiet_right
  simp only [bnd]
  generalize hQ : List.foldl _ _ _ = Q
  have hq : ∀ p ∈ Q.2, p.1 ≤ p.2 := by
    rw [← hQ]
    refine foldl_rel (fun (s : List Int × List (Int × Int)) (_ : Unit) => ∀ p ∈ s.2, p.1 ≤ p.2) (g := fun t _ => t) (t0 := ()) (fun s t x _ hs p hp => ?_) (fun p hp => nomatch hp)
    rcases List.mem_append.mp hp with hp | hp
    · exact hs p hp
    · rw [List.mem_singleton.mp hp]
      refine Int.le_add_of_nonneg_right ?_
      unfold ix
      generalize ixI _ _ = j
      have h1 := take_bd0 (m_law_take (m_law_take (m_law_take s.1 60).2 ((ts.length : Int) + 1)).2 2).2 80 (by decide)
      rcases j with _ | _ | j
      · exact h1.1
      · exact Int.emod_nonneg _ (by decide)
      · show 0 ≤ (0 : Int); decide
  have key : ∃ s', forO (fun (_ : Unit) (x18 : Int × Int) => (if (!decide (mlongest_quiet ts x18.1 x18.2 = m_law_quiet ts x18.1 x18.2)) = true then (.rt (false, Q.1) : Out Unit (Bool × List Int)) else if (decide (x18.2 - x18.1 ≤ 90) && !decide (m_law_by_minutes ts x18.1 x18.2 = m_law_quiet ts x18.1 x18.2)) = true then .rt (false, Q.1) else .nx ())) () Q.2 = .nx s' ∧ True := by
    refine forO_nx (fun _ => True) (fun s x hx _ => ⟨(), ?_, trivial⟩) trivial
    have hl := hq x hx
    rw [longest_eq ts _ _ h, law_quiet_eq, minutes_eq ts _ _ hl, decide_eq_true rfl, if_neg (by decide), if_neg (by rw [Bool.not_true, Bool.and_false]; decide)]
  obtain ⟨s', e, _⟩ := key
  rw [e]; rfl
theorem right_true (ds sc ts : List Int) (h : ts.Pairwise (· ≤ ·)) : (m_law_right ds sc ts).1 = true := by
  unfold m_law_right
  refine bnd_fst fun v1 h1 => bnd_fst fun v3 h3 => bnd_fst fun v5 h5 => bnd_fst fun v7 h7 => bnd_fst fun v9 h9 => bnd_fst fun v11 h11 => bnd_fst fun v13 h13 => bnd_fst fun v18 h18 => bnd_fst fun v24 h24 => ?_
  have hw1 := (wide_bd (congrArg Prod.snd h1)).1
  have hm1 := (tm_bd (congrArg Prod.snd h11)).1
  clear h1 h3 h5 h7 h9 h11
  generalize v1.2 = w at *
  generalize v3.2 = many at *
  generalize v5.2 = dead at *
  generalize v7.2 = begin_ at *
  generalize v9.2 = by_ at *
  generalize v11.2 = m at *
  rw [counts_eq] at h13
  have e24 : v24 = stepsF ts := h24
  subst h13 h18 e24
  dsimp only
  rw [most_in_eq ts w h, rise_eq, thinned_eq, gaps_eq, steps_eq, not_dec rfl, not_dec rfl, not_dec rfl, not_dec rfl, not_dec rfl]
  rw [if_neg (by decide), if_neg (by decide), if_neg (fun hc => ?a), if_neg (by rw [fading_eq, not_dec rfl]; decide)]
  case a =>
    rw [Bool.and_eq_true, decide_eq_true_eq] at hc
    rw [not_dec (sum_eq ts (by omega))] at hc
    exact Bool.false_ne_true hc.2
  refine bnd_fst fun v37 h37 => bnd_fst fun _ _ => bnd_fst fun v42 h42 => ?_
  subst h37 h42
  have e1 := best_phi (b := by_) hm1 ts w h
  rw [most_in_eq ts w h] at e1
  have e2 : (Option.map (fun p : Int × Int => (p.1, p.2 * m + by_)) (bestF (fun t => mcount_in ts t (t + w)) ts)) = if (!(bestF (fun t => mcount_in ts t (t + w)) ts).isNone) = true then (bnd (((bestF (fun t => mcount_in ts t (t + w)) ts).getD default).1, ((bestF (fun t => mcount_in ts t (t + w)) ts).getD default).2 * m + by_) fun (v44 : (Int × Int)) => (some v44)) else none := by
    cases bestF (fun t => mcount_in ts t (t + w)) ts <;> rfl
  rw [e2] at e1
  rw [not_dec e1, steps_eq, not_dec (steps_phi hm1 ts), if_neg (by decide), thinned_eq, not_dec (kept_phi hm1 ts dead), if_neg (by decide)]
  show (decide _ && _) = true
  rw [fading_phi hm1 ts begin_ w hw1, decide_eq_true (fading_eq ts begin_ w), quiet_right _ _ _ h]
  rfl
theorem law_true (ns : List Int) (h : ns.length ≤ 63) : mlaw ns = true := by
  unfold mlaw
  refine bnd_eq fun ds _ => ?_
  generalize hF : forO _ _ _ = F
  have key : ∃ s', F = .nx s' ∧ True := by
    rw [← hF]
    exact forO_nx (fun _ => True) (fun s x hx _ => ⟨_, if_neg (by rw [right_true _ _ _ (times_inv _ _ _ _).2.1]; decide), trivial⟩) trivial
  obtain ⟨s', e, _⟩ := key
  rw [e]
  simp only [unbk, obind, bnd]
  rw [if_neg (by decide +kernel), if_neg (by decide +kernel)]
  decide +kernel
end W

set_option Elab.async false
set_option linter.all false
set_option maxRecDepth 100000
namespace W
open PySem L2 PySem.Spec PyProof.Rows PD
set_option maxHeartbeats 4000000 in
theorem okcount_in {P : Program} {w : World} {K : PySem.W.Frag} {mg : Str → Option Value} {base : Heap} {f : Addr} {fd : FuncData} (F : FunD K "count_in" "count_in" (defArgs scount_in) (defBody scount_in) (defScope scount_in) [] [] f fd) (hm : mg "count_in" = some (.ref f)) (bi : Bi mg)  : Cal P w K mg base 1 "count_in" Rcount_in := by
  refine cal_of (k := 0) F sccount_in hm (FunD.bindsN F fun _ _ _ _ _ _ us hl => match us, hl with | [_, _, _], _ => rfl) (by decide) (fun γ r γ' h => by obtain ⟨_, _, _, rfl, _⟩ := h; rfl) (fun cdv A outer s H E hr γ r γ' h => ?_)
  obtain ⟨a_times, a_begin, a_end, rfl, rfl, rfl⟩ := h
  have hu := hu200 hr
  show DB _ _ [.val ((cT PyData.int) a_times), .val (PyData.int a_begin), .val (PyData.int a_end), .em] (Phi_count_in a_times a_begin a_end (mcount_in a_times a_begin a_end))
  unfold mcount_in
  exact (DB.sz (i := 0) (ca := PyData.int) rfl fun hsz_times => (DB.ret (DE.lenC (ca := PyData.int) (by rfl) bi.len_ (DQ.list (DE.new (DF.map (c := PyData.int) (c' := PyData.int) (own := [("time", 3)]) (vs := [3]) (fun z5 : Int => (decide (a_begin ≤ z5) && decide (z5 < a_end))) (fun z5 : Int => (1 : Int)) rfl sccount_in.nd (blkOk_by (by kernel_rfl)) rfl (DX.seq (c := PyData.int) (xs := a_times) (DQ.tup (DE.var (i := 0) rfl (.inl rfl) rfl))) (fun h => h) (by exact trivial) (by exact (And.intro trivial trivial)) (fun z5 hz6 => ⟨_, [3], (fun j h => h), (fun _ _ _ _ _ => (DG.name (i := 3) sccount_in.nd rfl (.inl rfl))), (fun _ _ _ _ _ => (DTl.one (DT.chain op_le op_lt (DE.var (i := 1) rfl (.inr (.inl rfl)) rfl) (DE.var (i := 3) rfl (.inl rfl) rfl) (fun hb7 => (DE.var (i := 2) rfl (.inr (.inl rfl)) rfl)) r_bl0 (fun hb7 => r_bl0)))), (fun hp8 => (fun _ _ _ _ _ => DE.int)), rfl⟩))))) (And.intro rfl (kp_v (kp_v (kp_v kp_n))))))
end W

set_option Elab.async false
set_option linter.all false
set_option maxRecDepth 100000
namespace W
open PySem L2 PySem.Spec PyProof.Rows PD
set_option maxHeartbeats 4000000 in
theorem okmost_in {P : Program} {w : World} {K : PySem.W.Frag} {mg : Str → Option Value} {base : Heap} {f : Addr} {fd : FuncData} (F : FunD K "most_in" "most_in" (defArgs smost_in) (defBody smost_in) (defScope smost_in) [] [] f fd) (hm : mg "most_in" = some (.ref f)) (bi : Bi mg) (ccount_in : Cal P w K mg base 1 "count_in" Rcount_in) : Cal P w K mg base 2 "most_in" Rmost_in := by
  refine cal_of (k := 1) F scmost_in hm (FunD.bindsN F fun _ _ _ _ _ _ us hl => match us, hl with | [_, _], _ => rfl) (by decide) (fun γ r γ' h => by obtain ⟨_, _, rfl, _⟩ := h; rfl) (fun cdv A outer s H E hr γ r γ' h => ?_)
  obtain ⟨a_times, a_wide, rfl, rfl, rfl⟩ := h
  have hu := hu200 hr
  show DB _ _ [.val ((cT PyData.int) a_times), .val (PyData.int a_wide), .em, .em, .em] (Phi_most_in a_times a_wide (mmost_in a_times a_wide))
  unfold mmost_in
  exact (DB.sz (i := 0) (ca := PyData.int) rfl fun hsz_times => (DB.stepF (α := (List (Int × Int))) (fun q4 v5 => [.val ((cT PyData.int) a_times), .val (PyData.int a_wide), oL q4 (c2 PyData.int PyData.int) v5, .em, .em]) (DS.setMap1 (c := PyData.int) (c' := (c2 PyData.int PyData.int)) (own := [("time", 4)]) (vs := [4]) (fun z1 : Int => ((-(mcount_in a_times z1 (z1 + a_wide))), z1)) rfl scmost_in.nd (i := 2) rfl rfl (sw_true rfl rfl rfl (by decide +kernel)) (blkOk_by (by kernel_rfl)) rfl (DX.seq (c := PyData.int) (xs := a_times) (DQ.tup (DE.var (i := 0) rfl (.inr (.inl rfl)) rfl))) (fun h => h) (by exact trivial) (by exact (And.intro trivial trivial)) (fun z1 hz2 => ⟨_, [4], (fun j h => h), (fun _ _ _ _ _ => (DG.name (i := 4) scmost_in.nd rfl (.inl rfl))), (fun _ _ _ _ _ => (DE.tup (DV.cons (DE.un un_neg (DE.call ccount_in (hr.mono (by decide)) (by rfl) (DA.cons (DE.var (i := 0) rfl (.inr (.inl rfl)) rfl) (DA.cons (DE.var (i := 4) rfl (.inl rfl) rfl) (DA.cons (DE.bin op_add (DE.var (i := 4) rfl (.inl rfl) rfl) (DE.var (i := 1) rfl (.inr (.inl rfl)) rfl) r_int0) DA.nil))) ⟨a_times, z1, (z1 + a_wide), rfl, rfl, rfl⟩ [] rfl (by decide) rfl) r_neg) (DV.cons (DE.var (i := 4) rfl (.inl rfl) rfl) DV.nil)))), rfl⟩) (fun q _ => ⟨q, (wi (wi (wi (wi (wi wn)))))⟩)) (fun q4 v5 h6 => by have h6_l0 : (v5).length = (a_times).length := (congrArg (fun p : (List (Int × Int)) => (p).length) h6).trans (by simp only [List.length_append, List.length_cons, List.length_nil, List.length_map, List.length_reverse, irange_len, List.length_dropLast, setI, List.length_set]); exact (DB.fz (i := 2) rfl (DB.szL (i := 2) (ca := (c2 PyData.int PyData.int)) (xs := v5) rfl fun hz_v5 => (DB.ifR (DT.cmp op_eq (DE.lenC (ca := (c2 PyData.int PyData.int)) (by rfl) bi.len_ (DQ.list (DE.var (i := 2) rfl (.inl rfl) rfl))) DE.int r_eqI (nomark _)) (fun hb7 => (DB.ret DE.non (And.intro rfl (kp_v (kp_v kp_n))))) (fun hb7 => (DB.nil (DB.step (α := (Int × Int)) (fun v8 => [.val ((cT PyData.int) a_times), .val (PyData.int a_wide), .val ((cL (c2 PyData.int PyData.int)) v5), .val (PyData.int v8.1), .val (PyData.int v8.2)]) (DS.asg (DE.minE (ca := (c2 PyData.int PyData.int)) rfl hu (cmp_2 cmp_int cmp_int) (by rfl) bi.min_ (DQ.list (DE.var (i := 2) rfl (.inl rfl) rfl)) (by /-most_in:1 not empty: v5-/ first | assumption | omega | decide | (simp only [Bool.and_eq_true, Bool.or_eq_true, Bool.not_eq_true', Bool.not_eq_false', Bool.or_eq_false_iff, Bool.and_eq_false_imp, decide_eq_true_eq, decide_eq_false_iff_not, List.length_append, List.length_cons, List.length_nil, List.length_map, List.length_reverse, irange_len, sizeLine_eq, CMul, CDiv, CPow] at *; first | omega | decide))) (DG.tup rfl (DGl.cons (DG.name (i := 3) scmost_in.nd rfl (.inl rfl)) (DGl.cons (DG.name (i := 4) scmost_in.nd rfl (.inl rfl)) DGl.nil)) 2) (wi (wi (wi (wi (wi wn)))))) (fun v8 h9 => by have h9_0 : v8.1 = (minE (c2 PyData.int PyData.int) v5).1 := congrArg (fun p : (Int × Int) => p.1) h9; have h9_1 : v8.2 = (minE (c2 PyData.int PyData.int) v5).2 := congrArg (fun p : (Int × Int) => p.2) h9; exact (DB.ret (DE.tup (DV.cons (DE.un un_neg (DE.var (i := 3) rfl (.inl rfl) rfl) r_neg) (DV.cons (DE.var (i := 4) rfl (.inl rfl) rfl) DV.nil))) (And.intro rfl (kp_v (kp_v kp_n))))))))))))))
end W

set_option Elab.async false
set_option linter.all false
set_option maxRecDepth 100000
namespace W
open PySem L2 PySem.Spec PyProof.Rows PD
set_option maxHeartbeats 4000000 in
theorem okgaps_of {P : Program} {w : World} {K : PySem.W.Frag} {mg : Str → Option Value} {base : Heap} {f : Addr} {fd : FuncData} (F : FunD K "gaps_of" "gaps_of" (defArgs sgaps_of) (defBody sgaps_of) (defScope sgaps_of) [] [] f fd) (hm : mg "gaps_of" = some (.ref f)) (bi : Bi mg)  : Cal P w K mg base 1 "gaps_of" Rgaps_of := by
  refine cal_of (k := 0) F scgaps_of hm (FunD.bindsN F fun _ _ _ _ _ _ us hl => match us, hl with | [_], _ => rfl) (by decide) (fun γ r γ' h => by obtain ⟨_, rfl, _⟩ := h; rfl) (fun cdv A outer s H E hr γ r γ' h => ?_)
  obtain ⟨a_times, rfl, rfl, rfl⟩ := h
  have hu := hu200 hr
  show DB _ _ [.val ((cT PyData.int) a_times), .em] (Phi_gaps_of a_times (mgaps_of a_times))
  unfold mgaps_of
  exact (DB.sz (i := 0) (ca := PyData.int) rfl fun hsz_times => (DB.ret (DE.tuple (by rfl) bi.tuple_ (DQ.list (DE.new (DF.map1 (c := PyData.int) (c' := PyData.int) (own := [("at", 1)]) (vs := [1]) (fun z1 : Int => ((ix a_times (z1 + (1 : Int))) - (ix a_times z1))) rfl scgaps_of.nd (blkOk_by (by kernel_rfl)) rfl (DX.rng1 (by rfl) bi.range_ (DE.bin op_sub (DE.lenC (ca := PyData.int) (by rfl) bi.len_ (DQ.tup (DE.var (i := 0) rfl (.inr (.inl rfl)) rfl))) DE.int r_int0) (by /-gaps_of:1 range low ((a_times.length : Int) - (1 : Int))-/ first | assumption | omega | decide | (simp only [Bool.and_eq_true, Bool.or_eq_true, Bool.not_eq_true', Bool.not_eq_false', Bool.or_eq_false_iff, Bool.and_eq_false_imp, decide_eq_true_eq, decide_eq_false_iff_not, List.length_append, List.length_cons, List.length_nil, List.length_map, List.length_reverse, irange_len, sizeLine_eq, CMul, CDiv, CPow] at *; first | omega | decide)) (by /-gaps_of:2 range high ((a_times.length : Int) - (1 : Int))-/ first | assumption | omega | decide | (simp only [Bool.and_eq_true, Bool.or_eq_true, Bool.not_eq_true', Bool.not_eq_false', Bool.or_eq_false_iff, Bool.and_eq_false_imp, decide_eq_true_eq, decide_eq_false_iff_not, List.length_append, List.length_cons, List.length_nil, List.length_map, List.length_reverse, irange_len, sizeLine_eq, CMul, CDiv, CPow] at *; first | omega | decide))) (fun _ => (by /-gaps_of:7 few turns-/ first | assumption | omega | decide | (simp only [Bool.and_eq_true, Bool.or_eq_true, Bool.not_eq_true', Bool.not_eq_false', Bool.or_eq_false_iff, Bool.and_eq_false_imp, decide_eq_true_eq, decide_eq_false_iff_not, List.length_append, List.length_cons, List.length_nil, List.length_map, List.length_reverse, irange_len, sizeLine_eq, CMul, CDiv, CPow] at *; first | omega | decide))) (by exact trivial) (by exact (And.intro trivial trivial)) (fun z1 hz2 => by have hrng := irange_mem hz2; exact ⟨_, [1], (fun j h => h), (fun _ _ _ _ _ => (DG.name (i := 1) scgaps_of.nd rfl (.inl rfl))), (fun _ _ _ _ _ => (DE.bin op_sub (DE.ix (DQ.tup (DE.var (i := 0) rfl (.inr (.inl rfl)) rfl)) (DE.bin op_add (DE.var (i := 1) rfl (.inl rfl) rfl) DE.int r_int0) (atI_ix (c := PyData.int) (xs := a_times) (k := (z1 + (1 : Int))) (by /-gaps_of:3 low ix a_times (z1 + (1 : Int))-/ first | assumption | omega | decide | (simp only [Bool.and_eq_true, Bool.or_eq_true, Bool.not_eq_true', Bool.not_eq_false', Bool.or_eq_false_iff, Bool.and_eq_false_imp, decide_eq_true_eq, decide_eq_false_iff_not, List.length_append, List.length_cons, List.length_nil, List.length_map, List.length_reverse, irange_len, sizeLine_eq, CMul, CDiv, CPow] at *; first | omega | decide)) (by /-gaps_of:4 high ix a_times (z1 + (1 : Int))-/ first | assumption | omega | decide | (simp only [Bool.and_eq_true, Bool.or_eq_true, Bool.not_eq_true', Bool.not_eq_false', Bool.or_eq_false_iff, Bool.and_eq_false_imp, decide_eq_true_eq, decide_eq_false_iff_not, List.length_append, List.length_cons, List.length_nil, List.length_map, List.length_reverse, irange_len, sizeLine_eq, CMul, CDiv, CPow] at *; first | omega | decide)))) (DE.ix (DQ.tup (DE.var (i := 0) rfl (.inr (.inl rfl)) rfl)) (DE.var (i := 1) rfl (.inl rfl) rfl) (atI_ix (c := PyData.int) (xs := a_times) (k := z1) (by /-gaps_of:5 low ix a_times z1-/ first | assumption | omega | decide | (simp only [Bool.and_eq_true, Bool.or_eq_true, Bool.not_eq_true', Bool.not_eq_false', Bool.or_eq_false_iff, Bool.and_eq_false_imp, decide_eq_true_eq, decide_eq_false_iff_not, List.length_append, List.length_cons, List.length_nil, List.length_map, List.length_reverse, irange_len, sizeLine_eq, CMul, CDiv, CPow] at *; first | omega | decide)) (by /-gaps_of:6 high ix a_times z1-/ first | assumption | omega | decide | (simp only [Bool.and_eq_true, Bool.or_eq_true, Bool.not_eq_true', Bool.not_eq_false', Bool.or_eq_false_iff, Bool.and_eq_false_imp, decide_eq_true_eq, decide_eq_false_iff_not, List.length_append, List.length_cons, List.length_nil, List.length_map, List.length_reverse, irange_len, sizeLine_eq, CMul, CDiv, CPow] at *; first | omega | decide)))) r_int0)), rfl⟩))))) (And.intro rfl (kp_v kp_n))))
end W

set_option Elab.async false
set_option linter.all false
set_option maxRecDepth 100000
namespace W
open PySem L2 PySem.Spec PyProof.Rows PD
set_option maxHeartbeats 4000000 in
theorem oklongest_quiet {P : Program} {w : World} {K : PySem.W.Frag} {mg : Str → Option Value} {base : Heap} {f : Addr} {fd : FuncData} (F : FunD K "longest_quiet" "longest_quiet" (defArgs slongest_quiet) (defBody slongest_quiet) (defScope slongest_quiet) [] [] f fd) (hm : mg "longest_quiet" = some (.ref f)) (bi : Bi mg)  : Cal P w K mg base 1 "longest_quiet" Rlongest_quiet := by
  refine cal_of (k := 0) F sclongest_quiet hm (FunD.bindsN F fun _ _ _ _ _ _ us hl => match us, hl with | [_, _, _], _ => rfl) (by decide) (fun γ r γ' h => by obtain ⟨_, _, _, rfl, _⟩ := h; rfl) (fun cdv A outer s H E hr γ r γ' h => ?_)
  obtain ⟨a_times, a_begin, a_end, rfl, hpre, rfl, rfl⟩ := h
  have hu := hu200 hr
  show DB _ _ [.val ((cT PyData.int) a_times), .val (PyData.int a_begin), .val (PyData.int a_end), .em, .em, .em, .em] (Phi_longest_quiet a_times a_begin a_end (mlongest_quiet a_times a_begin a_end))
  unfold mlongest_quiet
  exact (DB.sz (i := 0) (ca := PyData.int) rfl fun hsz_times => (DB.step (α := (Int × Int)) (fun v1 => [.val ((cT PyData.int) a_times), .val (PyData.int a_begin), .val (PyData.int a_end), .val ((c2 PyData.int PyData.int) v1), .em, .em, .em]) (DS.set (i := 3) sclongest_quiet.nd rfl (.inl rfl) (DE.tup (DV.cons (DE.var (i := 1) rfl (.inr (.inl rfl)) rfl) (DV.cons (DE.var (i := 1) rfl (.inr (.inl rfl)) rfl) DV.nil))) (wi (wi (wi (wi (wi (wi (wi wn)))))))) (fun v1 h2 => (DB.step (α := Int) (fun v3 => [.val ((cT PyData.int) a_times), .val (PyData.int a_begin), .val (PyData.int a_end), .val ((c2 PyData.int PyData.int) v1), .val (PyData.int v3), .em, .em]) (DS.set (i := 4) sclongest_quiet.nd rfl (.inl rfl) (DE.var (i := 1) rfl (.inr (.inl rfl)) rfl) (wi (wi (wi (wi (wi (wi (wi wn)))))))) (fun v3 h4 => (DB.step (α := ((Int × Int) × Int)) (fun v27 => [.val ((cT PyData.int) a_times), .val (PyData.int a_begin), .val (PyData.int a_end), .val ((c2 PyData.int PyData.int) v27.1), .val (PyData.int v27.2), .em, .em]) (DS.forS PassesOwn.never rfl (fun s13 => [.val ((cT PyData.int) a_times), .val (PyData.int a_begin), .val (PyData.int a_end), .val ((c2 PyData.int PyData.int) s13.1), .val (PyData.int s13.2), .em, .em]) (fun (s13 : ((Int × Int) × Int)) (x14 : Int) => (bnd (if (decide ((s13.1.2 - s13.1.1) < (x14 - s13.2))) = true then (bnd (s13.2, x14) fun (v23 : (Int × Int)) => v23) else s13.1) fun (v21 : (Int × Int)) => (bnd (max s13.2 (x14 + (1 : Int))) fun (v25 : Int) => (v21, v25)))) (v1, v3) (DX.seq (c := PyData.int) (xs := (((a_times.filter (fun z9 : Int => (decide (a_begin ≤ z9) && decide (z9 < a_end)))).map (fun z9 : Int => z9)) ++ [a_end])) (DQ.list (DE.new (DF.catC (ca := PyData.int) (xs := ((a_times.filter (fun z9 : Int => (decide (a_begin ≤ z9) && decide (z9 < a_end)))).map (fun z9 : Int => z9))) (ys := [a_end]) (DQ.list (DE.new (DF.map (c := PyData.int) (c' := PyData.int) (own := [("own", 6)]) (vs := [6]) (fun z9 : Int => (decide (a_begin ≤ z9) && decide (z9 < a_end))) (fun z9 : Int => z9) rfl sclongest_quiet.nd (blkOk_by (by kernel_rfl)) rfl (DX.seq (c := PyData.int) (xs := a_times) (DQ.tup (DE.var (i := 0) rfl (.inl rfl) rfl))) (fun h => h) (by exact trivial) (by exact (And.intro trivial trivial)) (fun z9 hz10 => ⟨_, [6], (fun j h => h), (fun _ _ _ _ _ => (DG.name (i := 6) sclongest_quiet.nd rfl (.inl rfl))), (fun _ _ _ _ _ => (DTl.one (DT.chain op_le op_lt (DE.var (i := 1) rfl (.inr (.inl rfl)) rfl) (DE.var (i := 6) rfl (.inl rfl) rfl) (fun hb11 => (DE.var (i := 2) rfl (.inr (.inl rfl)) rfl)) r_bl0 (fun hb11 => r_bl0)))), (fun hp12 => (fun _ _ _ _ _ => (DE.var (i := 6) rfl (.inl rfl) rfl))), rfl⟩)))) (DQ.list (DE.new (DF.lst (DV.cons (DE.var (i := 2) rfl (.inr (.inl rfl)) rfl) DV.nil)))) (by /-longest_quiet:1 list cat-/ exact cat_filt (by omega)))))) (wi (wi (wi (wi (wi (wi (wi wn))))))) (fun _ => trivial) (fun pre15 x14 post16 s13 he17 hB18 hs19 => by have hmem := mem_mid he17; have hmid := mid_len he17; exact ⟨_, _, (DG.name (i := 5) sclongest_quiet.nd rfl (.inl rfl)), (DB.step (α := (Int × Int)) (fun v21 => [.val ((cT PyData.int) a_times), .val (PyData.int a_begin), .val (PyData.int a_end), .val ((c2 PyData.int PyData.int) v21), .val (PyData.int s13.2), .val (PyData.int x14), .em]) (DS.iteS (DT.cmp op_gt (DE.bin op_sub (DE.var (i := 5) rfl (.inl rfl) rfl) (DE.var (i := 4) rfl (.inl rfl) rfl) r_int0) (DE.bin op_sub (DE.ix (DQ.tup (DE.var (i := 3) rfl (.inl rfl) rfl)) DE.int at_1) (DE.ix (DQ.tup (DE.var (i := 3) rfl (.inl rfl) rfl)) DE.int at_0) r_int0) r_bl0 (nomark _)) (fun hb20 => (DB.step (α := (Int × Int)) (fun v23 => [.val ((cT PyData.int) a_times), .val (PyData.int a_begin), .val (PyData.int a_end), .val ((c2 PyData.int PyData.int) v23), .val (PyData.int s13.2), .val (PyData.int x14), .em]) (DS.set (i := 3) sclongest_quiet.nd rfl (.inl rfl) (DE.tup (DV.cons (DE.var (i := 4) rfl (.inl rfl) rfl) (DV.cons (DE.var (i := 5) rfl (.inl rfl) rfl) DV.nil))) (wi (wi (wi (wi (wi (wi (wi wn)))))))) (fun v23 h24 => (DB.endS (wi (wi (wi (wi (wi (wi (wi wn))))))))))) (fun hb20 => (DB.endS (wi (wi (wi (wi (wi (wi (wi wn)))))))))) (fun v21 h22 => (DB.step (α := Int) (fun v25 => [.val ((cT PyData.int) a_times), .val (PyData.int a_begin), .val (PyData.int a_end), .val ((c2 PyData.int PyData.int) v21), .val (PyData.int v25), .val (PyData.int x14), .em]) (DS.set (i := 4) sclongest_quiet.nd rfl (.inl rfl) (DE.max2 rfl (by rfl) bi.max_ (DE.var (i := 4) rfl (.inl rfl) rfl) (DE.bin op_add (DE.var (i := 5) rfl (.inl rfl) rfl) DE.int r_int0)) (wi (wi (wi (wi (wi (wi (wi wn)))))))) (fun v25 h26 => (DB.endS (wi (wi (wi (wi (wi (we (wi wn))))))))))))⟩)) (fun v27 h28 => (DB.ret (DE.var (i := 3) rfl (.inl rfl) rfl) (And.intro rfl (kp_v (kp_v (kp_v kp_n))))))))))))
end W

set_option Elab.async false
set_option linter.all false
set_option maxRecDepth 100000
namespace W
open PySem L2 PySem.Spec PyProof.Rows PD
set_option maxHeartbeats 4000000 in
theorem okrates_rise {P : Program} {w : World} {K : PySem.W.Frag} {mg : Str → Option Value} {base : Heap} {f : Addr} {fd : FuncData} (F : FunD K "rates_rise" "rates_rise" (defArgs srates_rise) (defBody srates_rise) (defScope srates_rise) [] [] f fd) (hm : mg "rates_rise" = some (.ref f)) (bi : Bi mg) (ccount_in : Cal P w K mg base 1 "count_in" Rcount_in) : Cal P w K mg base 2 "rates_rise" Rrates_rise := by
  refine cal_of (k := 1) F scrates_rise hm (FunD.bindsN F fun _ _ _ _ _ _ us hl => match us, hl with | [_, _, _], _ => rfl) (by decide) (fun γ r γ' h => by obtain ⟨_, _, _, rfl, _⟩ := h; rfl) (fun cdv A outer s H E hr γ r γ' h => ?_)
  obtain ⟨a_times, a_wide, a_many, rfl, rfl, rfl⟩ := h
  have hu := hu200 hr
  show DB _ _ [.val ((cT PyData.int) a_times), .val (PyData.int a_wide), .val (PyData.int a_many), .em, .em] (Phi_rates_rise a_times a_wide a_many (mrates_rise a_times a_wide a_many))
  unfold mrates_rise
  exact (DB.sz (i := 0) (ca := PyData.int) rfl fun hsz_times => (DB.stepO (fun s1 => [.val ((cT PyData.int) a_times), .val (PyData.int a_wide), .val (PyData.int a_many), .em, .em]) (Rt_rates_rise a_times a_wide a_many) (DS.forO_ PassesOwn.never rfl (fun s1 => [.val ((cT PyData.int) a_times), .val (PyData.int a_wide), .val (PyData.int a_many), .em, .em]) (Rt_rates_rise a_times a_wide a_many) (fun (s1 : Unit) (x2 : Int) => ((bnd (mcount_in a_times x2 (x2 + a_wide)) fun (v8 : Int) => (if ((decide (a_many ≤ v8)) && (decide (((2 : Int) * (mcount_in a_times (x2 - a_wide) x2)) ≤ v8))) = true then (.rt (some x2)) else (.nx ()))) : Out Unit (Option Int))) () (DX.seq (c := PyData.int) (xs := a_times) (DQ.tup (DE.var (i := 0) rfl (.inl rfl) rfl))) (wi (wi (wi (wi (wi wn))))) (fun _ => trivial) (fun pre3 x2 post4 s1 he5 hB6 hs7 => by have hmem := mem_mid he5; have hmid := mid_len he5; exact ⟨_, _, (DG.name (i := 3) scrates_rise.nd rfl (.inl rfl)), (DB.step (α := Int) (fun v8 => [.val ((cT PyData.int) a_times), .val (PyData.int a_wide), .val (PyData.int a_many), .val (PyData.int x2), .val (PyData.int v8)]) (DS.set (i := 4) scrates_rise.nd rfl (.inl rfl) (DE.call ccount_in (hr.mono (by decide)) (by rfl) (DA.cons (DE.var (i := 0) rfl (.inl rfl) rfl) (DA.cons (DE.var (i := 3) rfl (.inl rfl) rfl) (DA.cons (DE.bin op_add (DE.var (i := 3) rfl (.inl rfl) rfl) (DE.var (i := 1) rfl (.inl rfl) rfl) r_int0) DA.nil))) ⟨a_times, x2, (x2 + a_wide), rfl, rfl, rfl⟩ [] rfl (by decide) rfl) (wi (wi (wi (wi (wi wn)))))) (fun v8 h9 => (DB.ifR (DT.of_w (DW.and (DT.cmp op_ge (DE.var (i := 4) rfl (.inl rfl) rfl) (DE.var (i := 2) rfl (.inl rfl) rfl) r_bl0 (nomark _)) (fun hb10 => (DW.and1 (DT.cmp op_ge (DE.var (i := 4) rfl (.inl rfl) rfl) (DE.bin op_mul DE.int (DE.call ccount_in (hr.mono (by decide)) (by rfl) (DA.cons (DE.var (i := 0) rfl (.inl rfl) rfl) (DA.cons (DE.bin op_sub (DE.var (i := 3) rfl (.inl rfl) rfl) (DE.var (i := 1) rfl (.inl rfl) rfl) r_int0) (DA.cons (DE.var (i := 3) rfl (.inl rfl) rfl) DA.nil))) ⟨a_times, (x2 - a_wide), x2, rfl, rfl, rfl⟩ [] rfl (by decide) rfl) (r_int (f := fun i j => i * j) (by /-rates_rise:1 mul (2 : Int), (mcount_in a_times (x2 - a_wide) x2)-/ first | assumption | omega | decide | (simp only [Bool.and_eq_true, Bool.or_eq_true, Bool.not_eq_true', Bool.not_eq_false', Bool.or_eq_false_iff, Bool.and_eq_false_imp, decide_eq_true_eq, decide_eq_false_iff_not, List.length_append, List.length_cons, List.length_nil, List.length_map, List.length_reverse, irange_len, sizeLine_eq, CMul, CDiv, CPow] at *; first | omega | decide)))) r_bl0 (nomark _)))))) (fun hb11 => (DB.ret (DE.var (i := 3) rfl (.inl rfl) rfl) (And.intro rfl (kp_v (kp_v (kp_v kp_n)))))) (fun hb11 => (DB.nil (DB.endO (wi (wi (wi (we (we wn)))))))))))⟩)) (fun s12 h13 => (DB.ret DE.non (And.intro rfl (kp_v (kp_v (kp_v kp_n)))))) (fun _ _ _ z => z) unbk_ne))
end W

set_option Elab.async false
set_option linter.all false
set_option maxRecDepth 100000
namespace W
open PySem L2 PySem.Spec PyProof.Rows PD
set_option maxHeartbeats 4000000 in
theorem okfading {P : Program} {w : World} {K : PySem.W.Frag} {mg : Str → Option Value} {base : Heap} {f : Addr} {fd : FuncData} (F : FunD K "fading" "fading" (defArgs sfading) (defBody sfading) (defScope sfading) [] [] f fd) (hm : mg "fading" = some (.ref f)) (bi : Bi mg) (ccount_in : Cal P w K mg base 1 "count_in" Rcount_in) : Cal P w K mg base 2 "fading" Rfading := by
  refine cal_of (k := 1) F scfading hm (FunD.bindsN F fun _ _ _ _ _ _ us hl => match us, hl with | [_, _, _], _ => rfl) (by decide) (fun γ r γ' h => by obtain ⟨_, _, _, rfl, _⟩ := h; rfl) (fun cdv A outer s H E hr γ r γ' h => ?_)
  obtain ⟨a_times, a_begin, a_wide, rfl, hpre, rfl, rfl⟩ := h
  have hu := hu200 hr
  show DB _ _ [.val ((cT PyData.int) a_times), .val (PyData.int a_begin), .val (PyData.int a_wide), .em] (Phi_fading a_times a_begin a_wide (mfading a_times a_begin a_wide))
  unfold mfading
  exact (DB.sz (i := 0) (ca := PyData.int) rfl fun hsz_times => (DB.step (α := (List Int)) (fun v1 => [.val ((cT PyData.int) a_times), .val (PyData.int a_begin), .val (PyData.int a_wide), .val ((cT PyData.int) v1)]) (DS.set (i := 3) scfading.nd rfl (.inl rfl) (DE.tup DV.nil) (wi (wi (wi (wi wn))))) (fun v1 h2 => by have h2_l0 : (v1).length = 0 := (congrArg (fun p : (List Int) => (p).length) h2).trans (by simp only [List.length_append, List.length_cons, List.length_nil, List.length_map, List.length_reverse, irange_len, List.length_dropLast, setI, List.length_set]); exact (DB.sz (i := 3) (ca := PyData.int) (xs := v1) rfl fun hz_v1 => (DB.step (α := (Int × Int × (List Int))) (fun v13 => [.val ((cT PyData.int) a_times), .val (PyData.int v13.1), .val (PyData.int v13.2.1), .val ((cT PyData.int) v13.2.2)]) (DS.whileS PassesOwn.never (fun s3 => [.val ((cT PyData.int) a_times), .val (PyData.int s3.1), .val (PyData.int s3.2.1), .val ((cT PyData.int) s3.2.2)]) (fun (s3 : (Int × Int × (List Int))) => ((decide ((0 : Int) < (a_times.length : Int))) && (decide (s3.1 ≤ (ix a_times (-(1 : Int))))))) (fun (s3 : (Int × Int × (List Int))) => (bnd (s3.2.2 ++ [(mcount_in a_times s3.1 (s3.1 + s3.2.1))]) fun (v7 : (List Int)) => (bnd (s3.1 + s3.2.1) fun (v9 : Int) => (bnd (s3.2.1 * (2 : Int)) fun (v11 : Int) => (v9, v11, v7))))) (fun (s3 : (Int × Int × (List Int))) => (ix a_times (-1) - s3.1 + 1).toNat) (fun (s3 : (Int × Int × (List Int))) => 1 ≤ s3.2.1 ∧ (2:Int)^(s3.2.2.length) ≤ s3.2.1 ∧ a_begin + (2:Int)^(s3.2.2.length) - 1 ≤ s3.1) (a_begin, a_wide, v1) (wi (wi (wi (wi wn)))) (by exact fad_start (by assumption) hpre.2.1) (fun s3 hi4 => (DT.of_w (DW.and (DT.cmp op_gt (DE.lenC (ca := PyData.int) (by rfl) bi.len_ (DQ.tup (DE.var (i := 0) rfl (.inl rfl) rfl))) DE.int r_bl0 (nomark _)) (fun hb6 => (DW.and1 (DT.cmp op_le (DE.var (i := 1) rfl (.inl rfl) rfl) (DE.ix (DQ.tup (DE.var (i := 0) rfl (.inl rfl) rfl)) (DE.un un_neg DE.int r_neg) (atI_ix (c := PyData.int) (xs := a_times) (k := (-(1 : Int))) (by /-fading:1 low ix a_times (-(1 : Int))-/ first | assumption | omega | decide | (simp only [Bool.and_eq_true, Bool.or_eq_true, Bool.not_eq_true', Bool.not_eq_false', Bool.or_eq_false_iff, Bool.and_eq_false_imp, decide_eq_true_eq, decide_eq_false_iff_not, List.length_append, List.length_cons, List.length_nil, List.length_map, List.length_reverse, irange_len, sizeLine_eq, CMul, CDiv, CPow] at *; first | omega | decide)) (by /-fading:2 high ix a_times (-(1 : Int))-/ first | assumption | omega | decide | (simp only [Bool.and_eq_true, Bool.or_eq_true, Bool.not_eq_true', Bool.not_eq_false', Bool.or_eq_false_iff, Bool.and_eq_false_imp, decide_eq_true_eq, decide_eq_false_iff_not, List.length_append, List.length_cons, List.length_nil, List.length_map, List.length_reverse, irange_len, sizeLine_eq, CMul, CDiv, CPow] at *; first | omega | decide)))) r_bl0 (nomark _))))))) (fun s3 hi4 ht5 => ⟨(DB.step (α := (List Int)) (fun v7 => [.val ((cT PyData.int) a_times), .val (PyData.int s3.1), .val (PyData.int s3.2.1), .val ((cT PyData.int) v7)]) (DS.aug (i := 3) scfading.nd rfl (.inl rfl) rfl (DE.tup (DV.cons (DE.call ccount_in (hr.mono (by decide)) (by rfl) (DA.cons (DE.var (i := 0) rfl (.inl rfl) rfl) (DA.cons (DE.var (i := 1) rfl (.inl rfl) rfl) (DA.cons (DE.bin op_add (DE.var (i := 1) rfl (.inl rfl) rfl) (DE.var (i := 2) rfl (.inl rfl) rfl) r_int0) DA.nil))) ⟨a_times, s3.1, (s3.1 + s3.2.1), rfl, rfl, rfl⟩ [] rfl (by decide) rfl) DV.nil)) iop_catA (r_catC (ca := PyData.int) (xs := s3.2.2) (ys := [(mcount_in a_times s3.1 (s3.1 + s3.2.1))]) (by /-fading:3 cat-/ exact fad_cat hpre (by assumption) (by assumption))) (wi (wi (wi (wi wn))))) (fun v7 h8 => by have h8_l0 : (v7).length = (s3.2.2).length + 1 := (congrArg (fun p : (List Int) => (p).length) h8).trans (by simp only [List.length_append, List.length_cons, List.length_nil, List.length_map, List.length_reverse, irange_len, List.length_dropLast, setI, List.length_set]); exact (DB.sz (i := 3) (ca := PyData.int) (xs := v7) rfl fun hz_v7 => (DB.step (α := Int) (fun v9 => [.val ((cT PyData.int) a_times), .val (PyData.int v9), .val (PyData.int s3.2.1), .val ((cT PyData.int) v7)]) (DS.aug (i := 1) scfading.nd rfl (.inl rfl) rfl (DE.var (i := 2) rfl (.inl rfl) rfl) ip_add r_ipI (wi (wi (wi (wi wn))))) (fun v9 h10 => (DB.step (α := Int) (fun v11 => [.val ((cT PyData.int) a_times), .val (PyData.int v9), .val (PyData.int v11), .val ((cT PyData.int) v7)]) (DS.aug (i := 2) scfading.nd rfl (.inl rfl) rfl DE.int iop_mul (r_int (f := fun i j => i * j) (by /-fading:4 mul s3.2.1 (2 : Int)-/ first | assumption | omega | decide | (simp only [Bool.and_eq_true, Bool.or_eq_true, Bool.not_eq_true', Bool.not_eq_false', Bool.or_eq_false_iff, Bool.and_eq_false_imp, decide_eq_true_eq, decide_eq_false_iff_not, List.length_append, List.length_cons, List.length_nil, List.length_map, List.length_reverse, irange_len, sizeLine_eq, CMul, CDiv, CPow] at *; first | omega | decide))) (wi (wi (wi (wi wn))))) (fun v11 h12 => (DB.endS (wi (wi (wi (wi wn)))))))))))), (by exact fad_keep hi4), (by exact fad_falls hi4.1 ht5)⟩)) (fun v13 h14 => (DB.ret (DE.var (i := 3) rfl (.inl rfl) rfl) (And.intro rfl (kp_v (kp_v (kp_v kp_n)))))))))))
end W

set_option Elab.async false
set_option linter.all false
set_option maxRecDepth 100000
namespace W
open PySem L2 PySem.Spec PyProof.Rows PD
set_option maxHeartbeats 4000000 in
theorem okdoubled_steps {P : Program} {w : World} {K : PySem.W.Frag} {mg : Str → Option Value} {base : Heap} {f : Addr} {fd : FuncData} (F : FunD K "doubled_steps" "doubled_steps" (defArgs sdoubled_steps) (defBody sdoubled_steps) (defScope sdoubled_steps) [] [] f fd) (hm : mg "doubled_steps" = some (.ref f)) (bi : Bi mg) (cgaps_of : Cal P w K mg base 1 "gaps_of" Rgaps_of) : Cal P w K mg base 2 "doubled_steps" Rdoubled_steps := by
  refine cal_of (k := 1) F scdoubled_steps hm (FunD.bindsN F fun _ _ _ _ _ _ us hl => match us, hl with | [_], _ => rfl) (by decide) (fun γ r γ' h => by obtain ⟨_, rfl, _⟩ := h; rfl) (fun cdv A outer s H E hr γ r γ' h => ?_)
  obtain ⟨a_times, rfl, rfl, rfl⟩ := h
  have hu := hu200 hr
  show DB _ _ [.val ((cT PyData.int) a_times), .em, .em] (Phi_doubled_steps a_times (mdoubled_steps a_times))
  unfold mdoubled_steps
  exact (DB.sz (i := 0) (ca := PyData.int) rfl fun hsz_times => (DB.step (α := (List Int)) (fun v1 => [.val ((cT PyData.int) a_times), .val ((cT PyData.int) v1), .em]) (DS.set (i := 1) scdoubled_steps.nd rfl (.inr rfl) (DE.call cgaps_of (hr.mono (by decide)) (by rfl) (DA.cons (DE.var (i := 0) rfl (.inl rfl) rfl) DA.nil) ⟨a_times, rfl, rfl, rfl⟩ [] rfl (by decide) rfl) (wi (wi (wi wn)))) (fun v1 h2 => (DB.sz (i := 1) (ca := PyData.int) (xs := v1) rfl fun hz_v1 => (DB.ret (DE.tuple (by rfl) bi.tuple_ (DQ.list (DE.new (DF.map (c := PyData.int) (c' := PyData.int) (own := [("at", 2)]) (vs := [2]) (fun z3 : Int => ((decide ((0 : Int) < (ix v1 (z3 - (1 : Int))))) && (decide (((2 : Int) * (ix v1 (z3 - (1 : Int)))) ≤ (ix v1 z3))))) (fun z3 : Int => (z3 + (1 : Int))) rfl scdoubled_steps.nd (blkOk_by (by kernel_rfl)) rfl (DX.rng2 (by rfl) bi.range_ DE.int (DE.lenC (ca := PyData.int) (by rfl) bi.len_ (DQ.tup (DE.var (i := 1) rfl (.inr (.inl rfl)) rfl))) (by /-doubled_steps:1 range from (1 : Int)-/ first | assumption | omega | decide | (simp only [Bool.and_eq_true, Bool.or_eq_true, Bool.not_eq_true', Bool.not_eq_false', Bool.or_eq_false_iff, Bool.and_eq_false_imp, decide_eq_true_eq, decide_eq_false_iff_not, List.length_append, List.length_cons, List.length_nil, List.length_map, List.length_reverse, irange_len, sizeLine_eq, CMul, CDiv, CPow] at *; first | omega | decide)) (by /-doubled_steps:2 range to (v1.length : Int)-/ first | assumption | omega | decide | (simp only [Bool.and_eq_true, Bool.or_eq_true, Bool.not_eq_true', Bool.not_eq_false', Bool.or_eq_false_iff, Bool.and_eq_false_imp, decide_eq_true_eq, decide_eq_false_iff_not, List.length_append, List.length_cons, List.length_nil, List.length_map, List.length_reverse, irange_len, sizeLine_eq, CMul, CDiv, CPow] at *; first | omega | decide))) (fun _ => (by /-doubled_steps:10 few turns-/ first | assumption | omega | decide | (simp only [Bool.and_eq_true, Bool.or_eq_true, Bool.not_eq_true', Bool.not_eq_false', Bool.or_eq_false_iff, Bool.and_eq_false_imp, decide_eq_true_eq, decide_eq_false_iff_not, List.length_append, List.length_cons, List.length_nil, List.length_map, List.length_reverse, irange_len, sizeLine_eq, CMul, CDiv, CPow] at *; first | omega | decide))) (by exact trivial) (by exact (And.intro trivial trivial)) (fun z3 hz4 => by have hrng := irange_mem hz4; exact ⟨_, [2], (fun j h => h), (fun _ _ _ _ _ => (DG.name (i := 2) scdoubled_steps.nd rfl (.inl rfl))), (fun _ _ _ _ _ => (DTl.one (DT.of_w (DW.and (DT.cmp op_gt (DE.ix (DQ.tup (DE.var (i := 1) rfl (.inr (.inl rfl)) rfl)) (DE.bin op_sub (DE.var (i := 2) rfl (.inl rfl) rfl) DE.int r_int0) (atI_ix (c := PyData.int) (xs := v1) (k := (z3 - (1 : Int))) (by /-doubled_steps:3 low ix v1 (z3 - (1 : Int))-/ first | assumption | omega | decide | (simp only [Bool.and_eq_true, Bool.or_eq_true, Bool.not_eq_true', Bool.not_eq_false', Bool.or_eq_false_iff, Bool.and_eq_false_imp, decide_eq_true_eq, decide_eq_false_iff_not, List.length_append, List.length_cons, List.length_nil, List.length_map, List.length_reverse, irange_len, sizeLine_eq, CMul, CDiv, CPow] at *; first | omega | decide)) (by /-doubled_steps:4 high ix v1 (z3 - (1 : Int))-/ first | assumption | omega | decide | (simp only [Bool.and_eq_true, Bool.or_eq_true, Bool.not_eq_true', Bool.not_eq_false', Bool.or_eq_false_iff, Bool.and_eq_false_imp, decide_eq_true_eq, decide_eq_false_iff_not, List.length_append, List.length_cons, List.length_nil, List.length_map, List.length_reverse, irange_len, sizeLine_eq, CMul, CDiv, CPow] at *; first | omega | decide)))) DE.int r_bl0 (nomark _)) (fun hb5 => (DW.and1 (DT.cmp op_ge (DE.ix (DQ.tup (DE.var (i := 1) rfl (.inr (.inl rfl)) rfl)) (DE.var (i := 2) rfl (.inl rfl) rfl) (atI_ix (c := PyData.int) (xs := v1) (k := z3) (by /-doubled_steps:5 low ix v1 z3-/ first | assumption | omega | decide | (simp only [Bool.and_eq_true, Bool.or_eq_true, Bool.not_eq_true', Bool.not_eq_false', Bool.or_eq_false_iff, Bool.and_eq_false_imp, decide_eq_true_eq, decide_eq_false_iff_not, List.length_append, List.length_cons, List.length_nil, List.length_map, List.length_reverse, irange_len, sizeLine_eq, CMul, CDiv, CPow] at *; first | omega | decide)) (by /-doubled_steps:6 high ix v1 z3-/ first | assumption | omega | decide | (simp only [Bool.and_eq_true, Bool.or_eq_true, Bool.not_eq_true', Bool.not_eq_false', Bool.or_eq_false_iff, Bool.and_eq_false_imp, decide_eq_true_eq, decide_eq_false_iff_not, List.length_append, List.length_cons, List.length_nil, List.length_map, List.length_reverse, irange_len, sizeLine_eq, CMul, CDiv, CPow] at *; first | omega | decide)))) (DE.bin op_mul DE.int (DE.ix (DQ.tup (DE.var (i := 1) rfl (.inr (.inl rfl)) rfl)) (DE.bin op_sub (DE.var (i := 2) rfl (.inl rfl) rfl) DE.int r_int0) (atI_ix (c := PyData.int) (xs := v1) (k := (z3 - (1 : Int))) (by /-doubled_steps:7 low ix v1 (z3 - (1 : Int))-/ first | assumption | omega | decide | (simp only [Bool.and_eq_true, Bool.or_eq_true, Bool.not_eq_true', Bool.not_eq_false', Bool.or_eq_false_iff, Bool.and_eq_false_imp, decide_eq_true_eq, decide_eq_false_iff_not, List.length_append, List.length_cons, List.length_nil, List.length_map, List.length_reverse, irange_len, sizeLine_eq, CMul, CDiv, CPow] at *; first | omega | decide)) (by /-doubled_steps:8 high ix v1 (z3 - (1 : Int))-/ first | assumption | omega | decide | (simp only [Bool.and_eq_true, Bool.or_eq_true, Bool.not_eq_true', Bool.not_eq_false', Bool.or_eq_false_iff, Bool.and_eq_false_imp, decide_eq_true_eq, decide_eq_false_iff_not, List.length_append, List.length_cons, List.length_nil, List.length_map, List.length_reverse, irange_len, sizeLine_eq, CMul, CDiv, CPow] at *; first | omega | decide)))) (r_int (f := fun i j => i * j) (by /-doubled_steps:9 mul (2 : Int), (ix v1 (z3 - (1 : Int)))-/ first | assumption | omega | decide | (simp only [Bool.and_eq_true, Bool.or_eq_true, Bool.not_eq_true', Bool.not_eq_false', Bool.or_eq_false_iff, Bool.and_eq_false_imp, decide_eq_true_eq, decide_eq_false_iff_not, List.length_append, List.length_cons, List.length_nil, List.length_map, List.length_reverse, irange_len, sizeLine_eq, CMul, CDiv, CPow] at *; first | omega | decide)))) r_bl0 (nomark _)))))))), (fun hp6 => (fun _ _ _ _ _ => (DE.bin op_add (DE.var (i := 2) rfl (.inl rfl) rfl) DE.int r_int0))), rfl⟩))))) (And.intro rfl (kp_v kp_n)))))))
end W

set_option Elab.async false
set_option linter.all false
set_option maxRecDepth 100000
namespace W
open PySem L2 PySem.Spec PyProof.Rows PD
set_option maxHeartbeats 4000000 in
theorem okthinned_times {P : Program} {w : World} {K : PySem.W.Frag} {mg : Str → Option Value} {base : Heap} {f : Addr} {fd : FuncData} (F : FunD K "thinned_times" "thinned_times" (defArgs sthinned_times) (defBody sthinned_times) (defScope sthinned_times) [] [] f fd) (hm : mg "thinned_times" = some (.ref f)) (bi : Bi mg)  : Cal P w K mg base 1 "thinned_times" Rthinned_times := by
  refine cal_of (k := 0) F scthinned_times hm (FunD.bindsN F fun _ _ _ _ _ _ us hl => match us, hl with | [_, _], _ => rfl) (by decide) (fun γ r γ' h => by obtain ⟨_, _, rfl, _⟩ := h; rfl) (fun cdv A outer s H E hr γ r γ' h => ?_)
  obtain ⟨a_times, a_dead, rfl, rfl, rfl⟩ := h
  have hu := hu200 hr
  show DB _ _ [.val ((cT PyData.int) a_times), .val (PyData.int a_dead), .em, .em] (Phi_thinned_times a_times a_dead (mthinned_times a_times a_dead))
  unfold mthinned_times
  exact (DB.sz (i := 0) (ca := PyData.int) rfl fun hsz_times => (DB.step (α := (List Int)) (fun v1 => [.val ((cT PyData.int) a_times), .val (PyData.int a_dead), .val ((cT PyData.int) v1), .em]) (DS.set (i := 2) scthinned_times.nd rfl (.inl rfl) (DE.tup DV.nil) (wi (wi (wi (wi wn))))) (fun v1 h2 => by have h2_l0 : (v1).length = 0 := (congrArg (fun p : (List Int) => (p).length) h2).trans (by simp only [List.length_append, List.length_cons, List.length_nil, List.length_map, List.length_reverse, irange_len, List.length_dropLast, setI, List.length_set]); exact (DB.sz (i := 2) (ca := PyData.int) (xs := v1) rfl fun hz_v1 => (DB.step (α := (List Int)) (fun v16 => [.val ((cT PyData.int) a_times), .val (PyData.int a_dead), .val ((cT PyData.int) v16), .em]) (DS.forS PassesOwn.never rfl (fun s3 => [.val ((cT PyData.int) a_times), .val (PyData.int a_dead), .val ((cT PyData.int) s3), .em]) (fun (s3 : (List Int)) (x4 : Int) => (bnd (if ((decide ((s3.length : Int) = (0 : Int))) || (decide (a_dead < (x4 - (ix s3 (-(1 : Int))))))) = true then (bnd (s3 ++ [x4]) fun (v14 : (List Int)) => v14) else s3) fun (v12 : (List Int)) => v12)) v1 (DX.seq (c := PyData.int) (xs := a_times) (DQ.tup (DE.var (i := 0) rfl (.inl rfl) rfl))) (wi (wi (wi (wi wn)))) (fun _ => trivial) (fun pre5 x4 post6 s3 he7 hB8 hs9 => by have hmem := mem_mid he7; have hmid := mid_len he7; have hgr_0 := fold_len (fun s3 : (List Int) => (s3).length) 1 (by intro q0 x4; simp only [bnd, onx, unbk]; try ((repeat' split) <;> first | trivial | omega | (simp only [lenO, List.length_append, List.length_cons, List.length_nil, List.length_set, setI, List.length_dropLast, List.length_reverse] <;> omega))) hs9; exact ⟨_, _, (DG.name (i := 3) scthinned_times.nd rfl (.inl rfl)), (DB.step (α := (List Int)) (fun v12 => [.val ((cT PyData.int) a_times), .val (PyData.int a_dead), .val ((cT PyData.int) v12), .val (PyData.int x4)]) (DS.iteS (DT.of_w (DW.or (DT.cmp op_eq (DE.lenC (ca := PyData.int) (by rfl) bi.len_ (DQ.tup (DE.var (i := 2) rfl (.inl rfl) rfl))) DE.int r_eqI (nomark _)) (fun hb10 => (DW.or1 (DT.cmp op_gt (DE.bin op_sub (DE.var (i := 3) rfl (.inl rfl) rfl) (DE.ix (DQ.tup (DE.var (i := 2) rfl (.inl rfl) rfl)) (DE.un un_neg DE.int r_neg) (atI_ix (c := PyData.int) (xs := s3) (k := (-(1 : Int))) (by /-thinned_times:1 low ix s3 (-(1 : Int))-/ first | assumption | omega | decide | (simp only [Bool.and_eq_true, Bool.or_eq_true, Bool.not_eq_true', Bool.not_eq_false', Bool.or_eq_false_iff, Bool.and_eq_false_imp, decide_eq_true_eq, decide_eq_false_iff_not, List.length_append, List.length_cons, List.length_nil, List.length_map, List.length_reverse, irange_len, sizeLine_eq, CMul, CDiv, CPow] at *; first | omega | decide)) (by /-thinned_times:2 high ix s3 (-(1 : Int))-/ first | assumption | omega | decide | (simp only [Bool.and_eq_true, Bool.or_eq_true, Bool.not_eq_true', Bool.not_eq_false', Bool.or_eq_false_iff, Bool.and_eq_false_imp, decide_eq_true_eq, decide_eq_false_iff_not, List.length_append, List.length_cons, List.length_nil, List.length_map, List.length_reverse, irange_len, sizeLine_eq, CMul, CDiv, CPow] at *; first | omega | decide)))) r_int0) (DE.var (i := 1) rfl (.inl rfl) rfl) r_bl0 (nomark _)))))) (fun hb11 => (DB.step (α := (List Int)) (fun v14 => [.val ((cT PyData.int) a_times), .val (PyData.int a_dead), .val ((cT PyData.int) v14), .val (PyData.int x4)]) (DS.aug (i := 2) scthinned_times.nd rfl (.inl rfl) rfl (DE.tup (DV.cons (DE.var (i := 3) rfl (.inl rfl) rfl) DV.nil)) iop_catA (r_catC (ca := PyData.int) (xs := s3) (ys := [x4]) (by /-thinned_times:3 cat-/ first | assumption | omega | decide | (simp only [Bool.and_eq_true, Bool.or_eq_true, Bool.not_eq_true', Bool.not_eq_false', Bool.or_eq_false_iff, Bool.and_eq_false_imp, decide_eq_true_eq, decide_eq_false_iff_not, List.length_append, List.length_cons, List.length_nil, List.length_map, List.length_reverse, irange_len, sizeLine_eq, CMul, CDiv, CPow] at *; first | omega | decide))) (wi (wi (wi (wi wn))))) (fun v14 h15 => by have h15_l0 : (v14).length = (s3).length + 1 := (congrArg (fun p : (List Int) => (p).length) h15).trans (by simp only [List.length_append, List.length_cons, List.length_nil, List.length_map, List.length_reverse, irange_len, List.length_dropLast, setI, List.length_set]); exact (DB.sz (i := 2) (ca := PyData.int) (xs := v14) rfl fun hz_v14 => (DB.endS (wi (wi (wi (wi wn))))))))) (fun hb11 => (DB.endS (wi (wi (wi (wi wn))))))) (fun v12 h13 => (DB.endS (wi (wi (wi (we wn)))))))⟩)) (fun v16 h17 => (DB.ret (DE.var (i := 2) rfl (.inl rfl) rfl) (And.intro rfl (kp_v (kp_v kp_n))))))))))
end W

set_option Elab.async false
set_option linter.all false
set_option maxRecDepth 100000
namespace W
open PySem L2 PySem.Spec PyProof.Rows PD
set_option maxHeartbeats 4000000 in
theorem ok_law_draws {P : Program} {w : World} {K : PySem.W.Frag} {mg : Str → Option Value} {base : Heap} {f : Addr} {fd : FuncData} (F : FunD K "_law_draws" "_law_draws" (defArgs s_law_draws) (defBody s_law_draws) (defScope s_law_draws) [] [] f fd) (hm : mg "_law_draws" = some (.ref f)) (bi : Bi mg)  : Cal P w K mg base 1 "_law_draws" R_law_draws := by
  refine cal_of (k := 0) F sc_law_draws hm (FunD.bindsN F fun _ _ _ _ _ _ us hl => match us, hl with | [_, _], _ => rfl) (by decide) (fun γ r γ' h => by obtain ⟨_, _, rfl, _⟩ := h; rfl) (fun cdv A outer s H E hr γ r γ' h => ?_)
  obtain ⟨a_script, a_many, rfl, hpre, rfl, rfl⟩ := h
  have hu := hu200 hr
  show DB _ _ [.val ((cL PyData.int) a_script), .val (PyData.int a_many), .em, .em, .em, .em, .em, .em, .em] (Phi__law_draws a_script a_many (m_law_draws a_script a_many))
  unfold m_law_draws
  exact (DB.szL (i := 0) (ca := PyData.int) rfl fun hsz_script => (DB.stepF (α := (List Int)) (fun q4 v5 => [.val ((cL PyData.int) a_script), .val (PyData.int a_many), oL q4 PyData.int v5, .em, .em, .em, .em, .em, .em]) (DS.setMap1 (c := PyData.int) (c' := PyData.int) (own := [("cell", 7)]) (vs := [7]) (fun z1 : Int => z1) rfl sc_law_draws.nd (i := 2) rfl rfl (sw_true rfl rfl rfl (by decide +kernel)) (blkOk_by (by kernel_rfl)) rfl (DX.seq (c := PyData.int) (xs := a_script) (DQ.list (DE.var (i := 0) rfl (.inl rfl) rfl))) (fun h => h) (by exact trivial) (by exact (And.intro trivial trivial)) (fun z1 hz2 => ⟨_, [7], (fun j h => h), (fun _ _ _ _ _ => (DG.name (i := 7) sc_law_draws.nd rfl (.inl rfl))), (fun _ _ _ _ _ => (DE.int1 (by rfl) bi.int_ (DE.var (i := 7) rfl (.inl rfl) rfl))), rfl⟩) (fun q _ => ⟨q, (wi (wi (wi (wi (wi (wi (wi (wi (wi wn)))))))))⟩)) (fun q4 v5 h6 => by have h6_l0 : (v5).length = (a_script).length := (congrArg (fun p : (List Int) => (p).length) h6).trans (by simp only [List.length_append, List.length_cons, List.length_nil, List.length_map, List.length_reverse, irange_len, List.length_dropLast, setI, List.length_set]); exact (DB.szO (i := 2) (ca := PyData.int) (xs := v5) rfl fun hz_v5 => (DB.step (α := (List Int)) (fun v8 => [.val ((cL PyData.int) a_script), .val (PyData.int a_many), oL q4 PyData.int v8, .em, .em, .em, .em, .em, .em]) (DS.iteS (DT.cmp op_eq (DE.lenC (ca := PyData.int) (by rfl) bi.len_ (DQ.own (i := 2) rfl (.inl rfl) rfl)) DE.int r_eqI (nomark _)) (fun hb7 => (DB.step (α := (List Int)) (fun v10 => [.val ((cL PyData.int) a_script), .val (PyData.int a_many), oL q4 PyData.int v10, .em, .em, .em, .em, .em, .em]) (DS.appendC (i := 2) (ca := PyData.int) rfl (.inl rfl) rfl DE.int rfl (by /-_law_draws:1 append to v5-/ first | assumption | omega | decide | (simp only [Bool.and_eq_true, Bool.or_eq_true, Bool.not_eq_true', Bool.not_eq_false', Bool.or_eq_false_iff, Bool.and_eq_false_imp, decide_eq_true_eq, decide_eq_false_iff_not, List.length_append, List.length_cons, List.length_nil, List.length_map, List.length_reverse, irange_len, sizeLine_eq, CMul, CDiv, CPow] at *; first | omega | decide)) (wi (wi (wi (wi (wi (wi (wi (wi (wi wn)))))))))) (fun v10 h11 => by have h11_l0 : (v10).length = (v5).length + 1 := (congrArg (fun p : (List Int) => (p).length) h11).trans (by simp only [List.length_append, List.length_cons, List.length_nil, List.length_map, List.length_reverse, irange_len, List.length_dropLast, setI, List.length_set]); exact (DB.szO (i := 2) (ca := PyData.int) (xs := v10) rfl fun hz_v10 => (DB.endS (wi (wi (wi (wi (wi (wi (wi (wi (wi wn)))))))))))))) (fun hb7 => (DB.endS (wi (wi (wi (wi (wi (wi (wi (wi (wi wn)))))))))))) (fun v8 h9 => by have hcells : 0 < v8.length := (by rw [h9]; exact draws_cells _); exact (DB.stepF (α := (List Int)) (fun q12 v13 => [.val ((cL PyData.int) a_script), .val (PyData.int a_many), oL q4 PyData.int v8, oL q12 PyData.int v13, .em, .em, .em, .em, .em]) (DS.setF (i := 3) sc_law_draws.nd rfl (.inl rfl) (DF.list (by rfl) bi.list_ (DQ.own (i := 2) rfl (.inl rfl) rfl)) (fun q _ => ⟨q, (wi (wi (wi (wi (wi (wi (wi (wi (wi wn)))))))))⟩)) (fun q12 v13 h14 => by have h14_l0 : (v13).length = (v8).length := (congrArg (fun p : (List Int) => (p).length) h14).trans (by simp only [List.length_append, List.length_cons, List.length_nil, List.length_map, List.length_reverse, irange_len, List.length_dropLast, setI, List.length_set]); exact (DB.szO (i := 3) (ca := PyData.int) (xs := v13) rfl fun hz_v13 => (DB.stepF (α := (List Int)) (fun q15 v16 => [.val ((cL PyData.int) a_script), .val (PyData.int a_many), oL q4 PyData.int v8, oL q12 PyData.int v13, oL q15 PyData.int v16, .em, .em, .em, .em]) (DS.setF (i := 4) sc_law_draws.nd rfl (.inl rfl) (DF.lst DV.nil) (fun q _ => ⟨q, (wi (wi (wi (wi (wi (wi (wi (wi (wi wn)))))))))⟩)) (fun q15 v16 h17 => by have h17_l0 : (v16).length = 0 := (congrArg (fun p : (List Int) => (p).length) h17).trans (by simp only [List.length_append, List.length_cons, List.length_nil, List.length_map, List.length_reverse, irange_len, List.length_dropLast, setI, List.length_set]); exact (DB.szO (i := 4) (ca := PyData.int) (xs := v16) rfl fun hz_v16 => (DB.step (α := ((List Int) × (List Int))) (fun v39 => [.val ((cL PyData.int) a_script), .val (PyData.int a_many), oL q4 PyData.int v8, oL q12 PyData.int v39.1, oL q15 PyData.int v39.2, .em, .em, .em, .em]) (DS.forS PassesOwn.never rfl (fun s18 => [.val ((cL PyData.int) a_script), .val (PyData.int a_many), oL q4 PyData.int v8, oL q12 PyData.int s18.1, oL q15 PyData.int s18.2, .em, .em, .em, .em]) (fun (s18 : ((List Int) × (List Int))) (x19 : Int) => (bnd (x19 % (v8.length : Int)) fun (v25 : Int) => (bnd (if ((decide ((1000000000000000000 : Int) ≤ (ix v8 v25))) && (decide ((0 : Int) < (ix s18.1 v25)))) = true then (bnd (s18.2 ++ [((ix s18.1 v25) % (1000 : Int))]) fun (v31 : (List Int)) => (bnd (setI s18.1 v25 ((ix s18.1 v25) / (1000 : Int))) fun (v33 : (List Int)) => (v33, v31))) else (bnd (((((ix v8 v25) * (48271 : Int)) + (x19 * (69621 : Int))) + (11 : Int)) % (2147483647 : Int)) fun (v35 : Int) => (bnd (s18.2 ++ [((((v35 * v35) + ((3 : Int) * v35)) + x19) % (1000003 : Int))]) fun (v37 : (List Int)) => (s18.1, v37)))) fun (v29 : ((List Int) × (List Int))) => (v29.1, v29.2)))) (v13, v16) (DX.rng1 (by rfl) bi.range_ (DE.var (i := 1) rfl (.inl rfl) rfl) (by /-_law_draws:2 range low a_many-/ first | assumption | omega | decide | (simp only [Bool.and_eq_true, Bool.or_eq_true, Bool.not_eq_true', Bool.not_eq_false', Bool.or_eq_false_iff, Bool.and_eq_false_imp, decide_eq_true_eq, decide_eq_false_iff_not, List.length_append, List.length_cons, List.length_nil, List.length_map, List.length_reverse, irange_len, sizeLine_eq, CMul, CDiv, CPow] at *; first | omega | decide)) (by /-_law_draws:3 range high a_many-/ first | assumption | omega | decide | (simp only [Bool.and_eq_true, Bool.or_eq_true, Bool.not_eq_true', Bool.not_eq_false', Bool.or_eq_false_iff, Bool.and_eq_false_imp, decide_eq_true_eq, decide_eq_false_iff_not, List.length_append, List.length_cons, List.length_nil, List.length_map, List.length_reverse, irange_len, sizeLine_eq, CMul, CDiv, CPow] at *; first | omega | decide))) (wi (wi (wi (wi (wi (wi (wi (wi (wi wn))))))))) (fun _ => trivial) (fun pre20 x19 post21 s18 he22 hB23 hs24 => by have hrng := irange_mem (mem_mid he22); have hmid := mid_len he22; have hgr_0 := fold_eq (fun s18 : ((List Int) × (List Int)) => (s18.1).length) (by intro q0 x19; simp only [bnd, onx, unbk]; try ((repeat' split) <;> first | trivial | omega | (simp only [lenO, List.length_append, List.length_cons, List.length_nil, List.length_set, setI, List.length_dropLast, List.length_reverse] <;> omega))) hs24; have hgr_1 := fold_len (fun s18 : ((List Int) × (List Int)) => (s18.2).length) 2 (by intro q0 x19; simp only [bnd, onx, unbk]; try ((repeat' split) <;> first | trivial | omega | (simp only [lenO, List.length_append, List.length_cons, List.length_nil, List.length_set, setI, List.length_dropLast, List.length_reverse] <;> omega))) hs24; exact ⟨_, _, (DG.name (i := 5) sc_law_draws.nd rfl (.inl rfl)), (DB.step (α := Int) (fun v25 => [.val ((cL PyData.int) a_script), .val (PyData.int a_many), oL q4 PyData.int v8, oL q12 PyData.int s18.1, oL q15 PyData.int s18.2, .val (PyData.int x19), .val (PyData.int v25), .em, .em]) (DS.set (i := 6) sc_law_draws.nd rfl (.inl rfl) (DE.bin op_mod (DE.var (i := 5) rfl (.inl rfl) rfl) (DE.lenC (ca := PyData.int) (by rfl) bi.len_ (DQ.own (i := 2) rfl (.inl rfl) rfl)) (r_int (f := fun i j => i % j) (by /-_law_draws:4 mod by (v8.length : Int)-/ first | assumption | omega | decide | (simp only [Bool.and_eq_true, Bool.or_eq_true, Bool.not_eq_true', Bool.not_eq_false', Bool.or_eq_false_iff, Bool.and_eq_false_imp, decide_eq_true_eq, decide_eq_false_iff_not, List.length_append, List.length_cons, List.length_nil, List.length_map, List.length_reverse, irange_len, sizeLine_eq, CMul, CDiv, CPow] at *; first | omega | decide)))) (wi (wi (wi (wi (wi (wi (wi (wi (wi wn)))))))))) (fun v25 h26 => by have hat := emod_bd h26 (by omega); exact (DB.step (α := ((List Int) × (List Int))) (fun v29 => [.val ((cL PyData.int) a_script), .val (PyData.int a_many), oL q4 PyData.int v8, oL q12 PyData.int v29.1, oL q15 PyData.int v29.2, .val (PyData.int x19), .val (PyData.int v25), .em, .em]) (DS.iteS (DT.of_w (DW.and (DT.cmp op_ge (DE.ix (DQ.own (i := 2) rfl (.inl rfl) rfl) (DE.var (i := 6) rfl (.inl rfl) rfl) (atI_ix (c := PyData.int) (xs := v8) (k := v25) (by /-_law_draws:5 low ix v8 v25-/ first | assumption | omega | decide | (simp only [Bool.and_eq_true, Bool.or_eq_true, Bool.not_eq_true', Bool.not_eq_false', Bool.or_eq_false_iff, Bool.and_eq_false_imp, decide_eq_true_eq, decide_eq_false_iff_not, List.length_append, List.length_cons, List.length_nil, List.length_map, List.length_reverse, irange_len, sizeLine_eq, CMul, CDiv, CPow] at *; first | omega | decide)) (by /-_law_draws:6 high ix v8 v25-/ first | assumption | omega | decide | (simp only [Bool.and_eq_true, Bool.or_eq_true, Bool.not_eq_true', Bool.not_eq_false', Bool.or_eq_false_iff, Bool.and_eq_false_imp, decide_eq_true_eq, decide_eq_false_iff_not, List.length_append, List.length_cons, List.length_nil, List.length_map, List.length_reverse, irange_len, sizeLine_eq, CMul, CDiv, CPow] at *; first | omega | decide)))) (DE.eq (DE.bin op_pow DE.int DE.int (r_int (f := fun i j => i ^ j.toNat) (by unfold CPow; decide))) (congrArg PyData.int (show (10 : Int) ^ (Int.toNat (18 : Int)) = (1000000000000000000 : Int) by decide))) r_bl0 (nomark _)) (fun hb27 => (DW.and1 (DT.cmp op_gt (DE.ix (DQ.own (i := 3) rfl (.inl rfl) rfl) (DE.var (i := 6) rfl (.inl rfl) rfl) (atI_ix (c := PyData.int) (xs := s18.1) (k := v25) (by /-_law_draws:7 low ix s18.1 v25-/ first | assumption | omega | decide | (simp only [Bool.and_eq_true, Bool.or_eq_true, Bool.not_eq_true', Bool.not_eq_false', Bool.or_eq_false_iff, Bool.and_eq_false_imp, decide_eq_true_eq, decide_eq_false_iff_not, List.length_append, List.length_cons, List.length_nil, List.length_map, List.length_reverse, irange_len, sizeLine_eq, CMul, CDiv, CPow] at *; first | omega | decide)) (by /-_law_draws:8 high ix s18.1 v25-/ first | assumption | omega | decide | (simp only [Bool.and_eq_true, Bool.or_eq_true, Bool.not_eq_true', Bool.not_eq_false', Bool.or_eq_false_iff, Bool.and_eq_false_imp, decide_eq_true_eq, decide_eq_false_iff_not, List.length_append, List.length_cons, List.length_nil, List.length_map, List.length_reverse, irange_len, sizeLine_eq, CMul, CDiv, CPow] at *; first | omega | decide)))) DE.int r_bl0 (nomark _)))))) (fun hb28 => (DB.step (α := (List Int)) (fun v31 => [.val ((cL PyData.int) a_script), .val (PyData.int a_many), oL q4 PyData.int v8, oL q12 PyData.int s18.1, oL q15 PyData.int v31, .val (PyData.int x19), .val (PyData.int v25), .em, .em]) (DS.appendC (i := 4) (ca := PyData.int) rfl (.inl rfl) rfl (DE.bin op_mod (DE.int1 (by rfl) bi.int_ (DE.ix (DQ.own (i := 3) rfl (.inl rfl) rfl) (DE.var (i := 6) rfl (.inl rfl) rfl) (atI_ix (c := PyData.int) (xs := s18.1) (k := v25) (by /-_law_draws:9 low ix s18.1 v25-/ first | assumption | omega | decide | (simp only [Bool.and_eq_true, Bool.or_eq_true, Bool.not_eq_true', Bool.not_eq_false', Bool.or_eq_false_iff, Bool.and_eq_false_imp, decide_eq_true_eq, decide_eq_false_iff_not, List.length_append, List.length_cons, List.length_nil, List.length_map, List.length_reverse, irange_len, sizeLine_eq, CMul, CDiv, CPow] at *; first | omega | decide)) (by /-_law_draws:10 high ix s18.1 v25-/ first | assumption | omega | decide | (simp only [Bool.and_eq_true, Bool.or_eq_true, Bool.not_eq_true', Bool.not_eq_false', Bool.or_eq_false_iff, Bool.and_eq_false_imp, decide_eq_true_eq, decide_eq_false_iff_not, List.length_append, List.length_cons, List.length_nil, List.length_map, List.length_reverse, irange_len, sizeLine_eq, CMul, CDiv, CPow] at *; first | omega | decide))))) DE.int (r_int (f := fun i j => i % j) (by /-_law_draws:11 mod by (1000 : Int)-/ first | assumption | omega | decide | (simp only [Bool.and_eq_true, Bool.or_eq_true, Bool.not_eq_true', Bool.not_eq_false', Bool.or_eq_false_iff, Bool.and_eq_false_imp, decide_eq_true_eq, decide_eq_false_iff_not, List.length_append, List.length_cons, List.length_nil, List.length_map, List.length_reverse, irange_len, sizeLine_eq, CMul, CDiv, CPow] at *; first | omega | decide)))) rfl (by /-_law_draws:12 append to s18.2-/ first | assumption | omega | decide | (simp only [Bool.and_eq_true, Bool.or_eq_true, Bool.not_eq_true', Bool.not_eq_false', Bool.or_eq_false_iff, Bool.and_eq_false_imp, decide_eq_true_eq, decide_eq_false_iff_not, List.length_append, List.length_cons, List.length_nil, List.length_map, List.length_reverse, irange_len, sizeLine_eq, CMul, CDiv, CPow] at *; first | omega | decide)) (wi (wi (wi (wi (wi (wi (wi (wi (wi wn)))))))))) (fun v31 h32 => by have h32_l0 : (v31).length = (s18.2).length + 1 := (congrArg (fun p : (List Int) => (p).length) h32).trans (by simp only [List.length_append, List.length_cons, List.length_nil, List.length_map, List.length_reverse, irange_len, List.length_dropLast, setI, List.length_set]); exact (DB.szO (i := 4) (ca := PyData.int) (xs := v31) rfl fun hz_v31 => (DB.step (α := (List Int)) (fun v33 => [.val ((cL PyData.int) a_script), .val (PyData.int a_many), oL q4 PyData.int v8, oL q12 PyData.int v33, oL q15 PyData.int v31, .val (PyData.int x19), .val (PyData.int v25), .em, .em]) (DS.setIxC (i := 3) (ca := PyData.int) rfl (.inl rfl) (DE.bin op_fdiv (DE.ix (DQ.own (i := 3) rfl (.inl rfl) rfl) (DE.var (i := 6) rfl (.inl rfl) rfl) (atI_ix (c := PyData.int) (xs := s18.1) (k := v25) (by /-_law_draws:13 low ix s18.1 v25-/ first | assumption | omega | decide | (simp only [Bool.and_eq_true, Bool.or_eq_true, Bool.not_eq_true', Bool.not_eq_false', Bool.or_eq_false_iff, Bool.and_eq_false_imp, decide_eq_true_eq, decide_eq_false_iff_not, List.length_append, List.length_cons, List.length_nil, List.length_map, List.length_reverse, irange_len, sizeLine_eq, CMul, CDiv, CPow] at *; first | omega | decide)) (by /-_law_draws:14 high ix s18.1 v25-/ first | assumption | omega | decide | (simp only [Bool.and_eq_true, Bool.or_eq_true, Bool.not_eq_true', Bool.not_eq_false', Bool.or_eq_false_iff, Bool.and_eq_false_imp, decide_eq_true_eq, decide_eq_false_iff_not, List.length_append, List.length_cons, List.length_nil, List.length_map, List.length_reverse, irange_len, sizeLine_eq, CMul, CDiv, CPow] at *; first | omega | decide)))) DE.int (r_int (f := fun i j => i / j) (by /-_law_draws:15 div by (1000 : Int)-/ first | assumption | omega | decide | (simp only [Bool.and_eq_true, Bool.or_eq_true, Bool.not_eq_true', Bool.not_eq_false', Bool.or_eq_false_iff, Bool.and_eq_false_imp, decide_eq_true_eq, decide_eq_false_iff_not, List.length_append, List.length_cons, List.length_nil, List.length_map, List.length_reverse, irange_len, sizeLine_eq, CMul, CDiv, CPow] at *; first | omega | decide)))) rfl (DE.var (i := 6) rfl (.inl rfl) rfl) rfl (by /-_law_draws:16 low set s18.1 v25-/ first | assumption | omega | decide | (simp only [Bool.and_eq_true, Bool.or_eq_true, Bool.not_eq_true', Bool.not_eq_false', Bool.or_eq_false_iff, Bool.and_eq_false_imp, decide_eq_true_eq, decide_eq_false_iff_not, List.length_append, List.length_cons, List.length_nil, List.length_map, List.length_reverse, irange_len, sizeLine_eq, CMul, CDiv, CPow] at *; first | omega | decide)) (by /-_law_draws:17 high set s18.1 v25-/ first | assumption | omega | decide | (simp only [Bool.and_eq_true, Bool.or_eq_true, Bool.not_eq_true', Bool.not_eq_false', Bool.or_eq_false_iff, Bool.and_eq_false_imp, decide_eq_true_eq, decide_eq_false_iff_not, List.length_append, List.length_cons, List.length_nil, List.length_map, List.length_reverse, irange_len, sizeLine_eq, CMul, CDiv, CPow] at *; first | omega | decide)) (wi (wi (wi (wi (wi (wi (wi (wi (wi wn)))))))))) (fun v33 h34 => by have h34_l0 : (v33).length = (s18.1).length := (congrArg (fun p : (List Int) => (p).length) h34).trans (by simp only [List.length_append, List.length_cons, List.length_nil, List.length_map, List.length_reverse, irange_len, List.length_dropLast, setI, List.length_set]); exact (DB.szO (i := 3) (ca := PyData.int) (xs := v33) rfl fun hz_v33 => (DB.endS (wi (wi (wi (wi (wi (wi (wi (wi (wi wn))))))))))))))))) (fun hb28 => (DB.step (α := Int) (fun v35 => [.val ((cL PyData.int) a_script), .val (PyData.int a_many), oL q4 PyData.int v8, oL q12 PyData.int s18.1, oL q15 PyData.int s18.2, .val (PyData.int x19), .val (PyData.int v25), .em, .val (PyData.int v35)]) (DS.set (i := 8) sc_law_draws.nd rfl (.inl rfl) (DE.bin op_mod (DE.int1 (by rfl) bi.int_ (DE.bin op_add (DE.bin op_add (DE.bin op_mul (DE.ix (DQ.own (i := 2) rfl (.inl rfl) rfl) (DE.var (i := 6) rfl (.inl rfl) rfl) (atI_ix (c := PyData.int) (xs := v8) (k := v25) (by /-_law_draws:18 low ix v8 v25-/ first | assumption | omega | decide | (simp only [Bool.and_eq_true, Bool.or_eq_true, Bool.not_eq_true', Bool.not_eq_false', Bool.or_eq_false_iff, Bool.and_eq_false_imp, decide_eq_true_eq, decide_eq_false_iff_not, List.length_append, List.length_cons, List.length_nil, List.length_map, List.length_reverse, irange_len, sizeLine_eq, CMul, CDiv, CPow] at *; first | omega | decide)) (by /-_law_draws:19 high ix v8 v25-/ first | assumption | omega | decide | (simp only [Bool.and_eq_true, Bool.or_eq_true, Bool.not_eq_true', Bool.not_eq_false', Bool.or_eq_false_iff, Bool.and_eq_false_imp, decide_eq_true_eq, decide_eq_false_iff_not, List.length_append, List.length_cons, List.length_nil, List.length_map, List.length_reverse, irange_len, sizeLine_eq, CMul, CDiv, CPow] at *; first | omega | decide)))) DE.int (r_int (f := fun i j => i * j) (by /-_law_draws:20 mul (ix v8 v25), (48271 : Int)-/ first | assumption | omega | decide | (simp only [Bool.and_eq_true, Bool.or_eq_true, Bool.not_eq_true', Bool.not_eq_false', Bool.or_eq_false_iff, Bool.and_eq_false_imp, decide_eq_true_eq, decide_eq_false_iff_not, List.length_append, List.length_cons, List.length_nil, List.length_map, List.length_reverse, irange_len, sizeLine_eq, CMul, CDiv, CPow] at *; first | omega | decide)))) (DE.bin op_mul (DE.var (i := 5) rfl (.inl rfl) rfl) DE.int (r_int (f := fun i j => i * j) (by /-_law_draws:21 mul x19, (69621 : Int)-/ first | assumption | omega | decide | (simp only [Bool.and_eq_true, Bool.or_eq_true, Bool.not_eq_true', Bool.not_eq_false', Bool.or_eq_false_iff, Bool.and_eq_false_imp, decide_eq_true_eq, decide_eq_false_iff_not, List.length_append, List.length_cons, List.length_nil, List.length_map, List.length_reverse, irange_len, sizeLine_eq, CMul, CDiv, CPow] at *; first | omega | decide)))) r_int0) DE.int r_int0)) DE.int (r_int (f := fun i j => i % j) (by /-_law_draws:22 mod by (2147483647 : Int)-/ first | assumption | omega | decide | (simp only [Bool.and_eq_true, Bool.or_eq_true, Bool.not_eq_true', Bool.not_eq_false', Bool.or_eq_false_iff, Bool.and_eq_false_imp, decide_eq_true_eq, decide_eq_false_iff_not, List.length_append, List.length_cons, List.length_nil, List.length_map, List.length_reverse, irange_len, sizeLine_eq, CMul, CDiv, CPow] at *; first | omega | decide)))) (wi (wi (wi (wi (wi (wi (wi (wi (wi wn)))))))))) (fun v35 h36 => by have honce := emod_bd h36 (by decide); exact (DB.step (α := (List Int)) (fun v37 => [.val ((cL PyData.int) a_script), .val (PyData.int a_many), oL q4 PyData.int v8, oL q12 PyData.int s18.1, oL q15 PyData.int v37, .val (PyData.int x19), .val (PyData.int v25), .em, .val (PyData.int v35)]) (DS.appendC (i := 4) (ca := PyData.int) rfl (.inl rfl) rfl (DE.bin op_mod (DE.int1 (by rfl) bi.int_ (DE.bin op_add (DE.bin op_add (DE.bin op_mul (DE.var (i := 8) rfl (.inl rfl) rfl) (DE.var (i := 8) rfl (.inl rfl) rfl) (r_int (f := fun i j => i * j) (by /-_law_draws:23 mul v35, v35-/ first | assumption | omega | decide | (simp only [Bool.and_eq_true, Bool.or_eq_true, Bool.not_eq_true', Bool.not_eq_false', Bool.or_eq_false_iff, Bool.and_eq_false_imp, decide_eq_true_eq, decide_eq_false_iff_not, List.length_append, List.length_cons, List.length_nil, List.length_map, List.length_reverse, irange_len, sizeLine_eq, CMul, CDiv, CPow] at *; first | omega | decide)))) (DE.bin op_mul DE.int (DE.var (i := 8) rfl (.inl rfl) rfl) (r_int (f := fun i j => i * j) (by /-_law_draws:24 mul (3 : Int), v35-/ first | assumption | omega | decide | (simp only [Bool.and_eq_true, Bool.or_eq_true, Bool.not_eq_true', Bool.not_eq_false', Bool.or_eq_false_iff, Bool.and_eq_false_imp, decide_eq_true_eq, decide_eq_false_iff_not, List.length_append, List.length_cons, List.length_nil, List.length_map, List.length_reverse, irange_len, sizeLine_eq, CMul, CDiv, CPow] at *; first | omega | decide)))) r_int0) (DE.var (i := 5) rfl (.inl rfl) rfl) r_int0)) DE.int (r_int (f := fun i j => i % j) (by /-_law_draws:25 mod by (1000003 : Int)-/ first | assumption | omega | decide | (simp only [Bool.and_eq_true, Bool.or_eq_true, Bool.not_eq_true', Bool.not_eq_false', Bool.or_eq_false_iff, Bool.and_eq_false_imp, decide_eq_true_eq, decide_eq_false_iff_not, List.length_append, List.length_cons, List.length_nil, List.length_map, List.length_reverse, irange_len, sizeLine_eq, CMul, CDiv, CPow] at *; first | omega | decide)))) rfl (by /-_law_draws:26 append to s18.2-/ first | assumption | omega | decide | (simp only [Bool.and_eq_true, Bool.or_eq_true, Bool.not_eq_true', Bool.not_eq_false', Bool.or_eq_false_iff, Bool.and_eq_false_imp, decide_eq_true_eq, decide_eq_false_iff_not, List.length_append, List.length_cons, List.length_nil, List.length_map, List.length_reverse, irange_len, sizeLine_eq, CMul, CDiv, CPow] at *; first | omega | decide)) (wi (wi (wi (wi (wi (wi (wi (wi (wi wn)))))))))) (fun v37 h38 => by have h38_l0 : (v37).length = (s18.2).length + 1 := (congrArg (fun p : (List Int) => (p).length) h38).trans (by simp only [List.length_append, List.length_cons, List.length_nil, List.length_map, List.length_reverse, irange_len, List.length_dropLast, setI, List.length_set]); exact (DB.szO (i := 4) (ca := PyData.int) (xs := v37) rfl fun hz_v37 => (DB.endS (wi (wi (wi (wi (wi (wi (wi (wi (we wn))))))))))))))))) (fun v29 h30 => (DB.endS (wi (wi (wi (wi (wi (we (we (wi (wi wn))))))))))))))⟩)) (fun v39 h40 => (DB.step (α := (List Int)) (fun v41 => [.val ((cL PyData.int) a_script), .val (PyData.int a_many), oL q4 PyData.int v8, oL q12 PyData.int v39.1, oL q15 PyData.int v41, .em, .em, .em, .em]) (DS.reverseC (i := 4) (ca := PyData.int) rfl (.inl rfl) rfl (wi (wi (wi (wi (wi (wi (wi (wi (wi wn)))))))))) (fun v41 h42 => by have h42_l0 : (v41).length = (v39.2).length := (congrArg (fun p : (List Int) => (p).length) h42).trans (by simp only [List.length_append, List.length_cons, List.length_nil, List.length_map, List.length_reverse, irange_len, List.length_dropLast, setI, List.length_set]); exact (DB.szO (i := 4) (ca := PyData.int) (xs := v41) rfl fun hz_v41 => (DB.retOwn (i := 4) rfl (.inl rfl) rfl (And.intro rfl (kp_v (kp_v kp_n)))))))))))))))))))))
end W

set_option Elab.async false
set_option linter.all false
set_option maxRecDepth 100000
namespace W
open PySem L2 PySem.Spec PyProof.Rows PD
set_option maxHeartbeats 4000000 in
theorem ok_law_take {P : Program} {w : World} {K : PySem.W.Frag} {mg : Str → Option Value} {base : Heap} {f : Addr} {fd : FuncData} (F : FunD K "_law_take" "_law_take" (defArgs s_law_take) (defBody s_law_take) (defScope s_law_take) [] [] f fd) (hm : mg "_law_take" = some (.ref f)) (bi : Bi mg)  : Cal P w K mg base 1 "_law_take" R_law_take := by
  refine cal_of (k := 0) F sc_law_take hm (FunD.bindsN F fun _ _ _ _ _ _ us hl => match us, hl with | [_, _], _ => rfl) (by decide) (fun γ r γ' h => by obtain ⟨_, _, _, rfl, _⟩ := h; rfl) (fun cdv A outer s H E hr γ r γ' h => ?_)
  obtain ⟨p_draws, a_draws, a_many, rfl, hpre, rfl, rfl⟩ := h
  have hu := hu200 hr
  show DB _ _ [oL p_draws PyData.int a_draws, .val (PyData.int a_many)] (Phi__law_take p_draws a_draws a_many (m_law_take a_draws a_many))
  unfold m_law_take
  exact (DB.szO (i := 0) (ca := PyData.int) rfl fun hsz_draws => (DB.ifR (DT.cmp op_eq (DE.lenC (ca := PyData.int) (by rfl) bi.len_ (DQ.own (i := 0) rfl (.inl rfl) rfl)) DE.int r_eqI (nomark _)) (fun hb1 => (DB.ret DE.int (And.intro rfl (kp_o (kp_v kp_n))))) (fun hb1 => (DB.nil (DB.ret (DE.bin op_mod (DE.int1 (by rfl) bi.int_ (DE.popC (i := 0) (ca := PyData.int) (xs := a_draws) rfl (.inl rfl) rfl (by /-_law_take:1 not empty-/ first | assumption | omega | decide | (simp only [Bool.and_eq_true, Bool.or_eq_true, Bool.not_eq_true', Bool.not_eq_false', Bool.or_eq_false_iff, Bool.and_eq_false_imp, decide_eq_true_eq, decide_eq_false_iff_not, List.length_append, List.length_cons, List.length_nil, List.length_map, List.length_reverse, irange_len, sizeLine_eq, CMul, CDiv, CPow] at *; first | omega | decide)))) (DE.var (i := 1) rfl (.inl rfl) rfl) (r_int (f := fun i j => i % j) (by /-_law_take:2 mod by a_many-/ first | assumption | omega | decide | (simp only [Bool.and_eq_true, Bool.or_eq_true, Bool.not_eq_true', Bool.not_eq_false', Bool.or_eq_false_iff, Bool.and_eq_false_imp, decide_eq_true_eq, decide_eq_false_iff_not, List.length_append, List.length_cons, List.length_nil, List.length_map, List.length_reverse, irange_len, sizeLine_eq, CMul, CDiv, CPow] at *; first | omega | decide)))) (And.intro rfl (kp_o (kp_v kp_n))))))))
end W

set_option Elab.async false
set_option linter.all false
set_option maxRecDepth 100000
namespace W
open PySem L2 PySem.Spec PyProof.Rows PD
set_option maxHeartbeats 4000000 in
theorem same_step {P : Program} {w : World} {K : PySem.W.Frag} {mg : Str → Option Value} {base : Heap} {f : Addr} {fd : FuncData} (F : FunD K "_law_same" "_law_same" (defArgs s_law_same) (defBody s_law_same) (defScope s_law_same) [] [] f fd) (hm : mg "_law_same" = some (.ref f)) (bi : Bi mg) (n : Nat)
    (rec_ : ∀ m, n = m + 1 → Cal P w K mg base n "_law_same" (RSame m)) : Cal P w K mg base (n + 1) "_law_same" (RSame n) := by
  refine cal_of (k := n) F sc_law_same hm (FunD.bindsN F fun _ _ _ _ _ _ us hl => match us, hl with | [_, _], _ => rfl) (by decide) (fun γ r γ' h => by obtain ⟨_, _, rfl, _⟩ := h; rfl) (fun cdv A outer s H E hr γ r γ' h => ?_)
  obtain ⟨a, d, rfl, oa, od, rfl, rfl⟩ := h
  have hu := hu200 hr
  have na := oa.nd
  have nd := od.nd
  show DB _ _ [.val a, .val d, .em] (PR [.val a, .val d] (.v (.bool (sameD n a d))) [.val a, .val d])
  have kk : Keeps [.val a, .val d] [.val a, .val d, .em] [.val a, .val d] := kp_v (kp_v kp_n)
  cases d with
  | dict l => exact absurd rfl (nd l)
  | list l =>
    exfalso
    cases n with
    | zero => cases od
    | succ n =>
      rcases od with h | ⟨_, h, _⟩
      · cases h
      · cases h
  | bool b =>
    refine DB.ifT (DT.val (DE.isi (by rfl) bi.isinstance_ (by rfl) bi.bool_ (by rfl) (DE.var (i := 1) rfl (.inl rfl) rfl) (ty_bool nd))) (DB.ret (d := .bool (isBl a && decide (blOf a = b))) (DE.and (DE.isi (by rfl) bi.isinstance_ (by rfl) bi.bool_ (by rfl) (DE.var (i := 0) rfl (.inl rfl) rfl) (ty_bool na)) (fun hb => DE.one (DE.cmp op_eq (DE.eq (DE.var (i := 0) rfl (.inl rfl) rfl) (bl_of hb)) (DE.var (i := 1) rfl (.inl rfl) rfl) r_eqB (nomark _)))) ⟨?_, kk⟩)
    cases n <;> rfl
  | int b =>
    refine DB.ifF (DT.val (DE.isi (by rfl) bi.isinstance_ (by rfl) bi.bool_ (by rfl) (DE.var (i := 1) rfl (.inl rfl) rfl) (ty_bool nd))) (DB.nil ?_)
    refine DB.ifT (DT.val (DE.isi (by rfl) bi.isinstance_ (by rfl) bi.int_ (by rfl) (DE.var (i := 1) rfl (.inl rfl) rfl) (ty_int nd))) (DB.ret (d := .bool (isIn a && (!isBl a && decide (inOf a = b)))) (DE.and (DE.isi (by rfl) bi.isinstance_ (by rfl) bi.int_ (by rfl) (DE.var (i := 0) rfl (.inl rfl) rfl) (ty_int na)) (fun hi => DE.and (DE.not (DE.isi (by rfl) bi.isinstance_ (by rfl) bi.bool_ (by rfl) (DE.var (i := 0) rfl (.inl rfl) rfl) (ty_bool na))) (fun hb => DE.one (DE.cmp op_eq (DE.eq (DE.var (i := 0) rfl (.inl rfl) rfl) (in_of hi (by simpa using hb))) (DE.var (i := 1) rfl (.inl rfl) rfl) r_eqI (nomark _))))) ⟨?_, kk⟩)
    cases n <;> rfl
  | str b =>
    refine DB.ifF (DT.val (DE.isi (by rfl) bi.isinstance_ (by rfl) bi.bool_ (by rfl) (DE.var (i := 1) rfl (.inl rfl) rfl) (ty_bool nd))) (DB.nil ?_)
    refine DB.ifF (DT.val (DE.isi (by rfl) bi.isinstance_ (by rfl) bi.int_ (by rfl) (DE.var (i := 1) rfl (.inl rfl) rfl) (ty_int nd))) (DB.nil ?_)
    refine DB.ifT (DT.val (DE.isi (by rfl) bi.isinstance_ (by rfl) bi.str_ (by rfl) (DE.var (i := 1) rfl (.inl rfl) rfl) (ty_str nd))) (DB.ret (d := .bool (isSt a && decide (stOf a = b))) (DE.and (DE.isi (by rfl) bi.isinstance_ (by rfl) bi.str_ (by rfl) (DE.var (i := 0) rfl (.inl rfl) rfl) (ty_str na)) (fun hb => DE.one (DE.cmp op_eq (DE.eq (DE.var (i := 0) rfl (.inl rfl) rfl) (st_of hb)) (DE.var (i := 1) rfl (.inl rfl) rfl) r_eqS (nomark _)))) ⟨?_, kk⟩)
    cases n <;> rfl
  | none =>
    refine DB.ifF (DT.val (DE.isi (by rfl) bi.isinstance_ (by rfl) bi.bool_ (by rfl) (DE.var (i := 1) rfl (.inl rfl) rfl) (ty_bool nd))) (DB.nil ?_)
    refine DB.ifF (DT.val (DE.isi (by rfl) bi.isinstance_ (by rfl) bi.int_ (by rfl) (DE.var (i := 1) rfl (.inl rfl) rfl) (ty_int nd))) (DB.nil ?_)
    refine DB.ifF (DT.val (DE.isi (by rfl) bi.isinstance_ (by rfl) bi.str_ (by rfl) (DE.var (i := 1) rfl (.inl rfl) rfl) (ty_str nd))) (DB.nil ?_)
    refine DB.ifT (DT.cmp op_isN (DE.var (i := 1) rfl (.inl rfl) rfl) DE.non (r_isN rfl) (nomark _)) (DB.ret (d := .bool (isNon a)) (DE.cmp op_isN (DE.var (i := 0) rfl (.inl rfl) rfl) DE.non (r_isN rfl) (nomark _)) ⟨?_, kk⟩)
    cases n <;> rfl
  | tuple ds =>
    refine DB.ifF (DT.val (DE.isi (by rfl) bi.isinstance_ (by rfl) bi.bool_ (by rfl) (DE.var (i := 1) rfl (.inl rfl) rfl) (ty_bool nd))) (DB.nil ?_)
    refine DB.ifF (DT.val (DE.isi (by rfl) bi.isinstance_ (by rfl) bi.int_ (by rfl) (DE.var (i := 1) rfl (.inl rfl) rfl) (ty_int nd))) (DB.nil ?_)
    refine DB.ifF (DT.val (DE.isi (by rfl) bi.isinstance_ (by rfl) bi.str_ (by rfl) (DE.var (i := 1) rfl (.inl rfl) rfl) (ty_str nd))) (DB.nil ?_)
    refine DB.ifF (DT.cmp op_isN (DE.var (i := 1) rfl (.inl rfl) rfl) DE.non (r_isN rfl) (nomark _)) (DB.nil ?_)
    obtain ⟨m, rfl⟩ : ∃ m, n = m + 1 := by
      cases n with
      | zero => cases od
      | succ m => exact ⟨m, rfl⟩
    have cc := rec_ m rfl
    have od2 : ∀ x ∈ ds, OkS m x := by
      rcases od with h | ⟨es, e, h⟩
      · cases h
      · cases e; exact h
    cases ha : isTu a with
    | false =>
      refine DB.ifT (DT.of_w (k := true) (DW.or (k := true) (k' := true) (DT.eq (DT.not (DT.val (DE.isi (by rfl) bi.isinstance_ (by rfl) bi.tuple_ (by rfl) (DE.var (i := 0) rfl (.inl rfl) rfl) (ty_tuple na)))) (by rw [ha]; rfl)) (fun h => nomatch h))) (DB.ret DE.bl ⟨?_, kk⟩)
      show Res.v (.bool false) = Res.v (.bool (isTu a && _))
      rw [ha]; rfl
    | true =>
      have ea := tu_of ha
      generalize tuOf a = as at ea
      subst ea
      have oa2 : ∀ x ∈ as, OkS m x := by
        rcases oa with h | ⟨es, e, h⟩
        · cases h
        · cases e; exact h
      cases hl : decide (as.length = ds.length) with
      | false =>
        refine DB.ifT (DT.of_w (k := true) (DW.or (k := false) (k' := true) (DT.not (DT.val (DE.isi (by rfl) bi.isinstance_ (by rfl) bi.tuple_ (by rfl) (DE.var (i := 0) rfl (.inl rfl) rfl) (ty_tuple na)))) (fun _ => DW.or1 (DT.eq (DT.cmp op_ne (DE.len (by rfl) bi.len_ (DQ.tup (DE.var (i := 0) rfl (.inl rfl) rfl))) (DE.len (by rfl) bi.len_ (DQ.tup (DE.var (i := 1) rfl (.inl rfl) rfl))) r_neI (nomark _)) ?_)))) (DB.ret DE.bl ⟨?_, kk⟩)
        · have := of_decide_eq_false hl
          rw [decide_eq_false (by omega)]; rfl
        · show Res.v (.bool false) = Res.v (.bool (true && (decide (as.length = ds.length) && _)))
          rw [hl]; rfl
      | true =>
        have el := of_decide_eq_true hl
        refine DB.ifF (DT.of_w (k := false) (DW.or (k := false) (k' := false) (DT.not (DT.val (DE.isi (by rfl) bi.isinstance_ (by rfl) bi.tuple_ (by rfl) (DE.var (i := 0) rfl (.inl rfl) rfl) (ty_tuple na)))) (fun _ => DW.or1 (DT.eq (DT.cmp op_ne (DE.len (by rfl) bi.len_ (DQ.tup (DE.var (i := 0) rfl (.inl rfl) rfl))) (DE.len (by rfl) bi.len_ (DQ.tup (DE.var (i := 1) rfl (.inl rfl) rfl))) r_neI (nomark _)) ?_)))) (DB.nil ?_)
        · rw [decide_eq_true (by omega)]; rfl
        refine DB.szD (i := 1) (ds := ds) rfl fun hsz => ?_
        rw [sizeLine_eq] at hsz
        have eS : sameD (m + 1) (.tuple as) (.tuple ds) = ((List.zip as ds).all fun p => sameD m p.1 p.2) := by
          show (true && (decide (as.length = ds.length) && _)) = _
          rw [hl]; rfl
        rw [eS]
        have hk : ∀ {g : List Sl} {o : Sl}, g = [.val (.tuple as), .val (.tuple ds), o] → Keeps [.val (.tuple as), .val (.tuple ds)] g [.val (.tuple as), .val (.tuple ds)] := fun e => by subst e; exact kp_v (kp_v kp_n)
        refine DB.cons (DS.forX (B := 2 ^ 62) PassesOwn.never rfl (DX.rng1 (by rfl) bi.range_ (DE.len (by rfl) bi.len_ (DQ.tup (DE.var (i := 1) rfl (.inl rfl) rfl))) (by omega) (by omega)) (fun pre g => (∃ o, g = [.val (.tuple as), .val (.tuple ds), o]) ∧ ∀ j (h : j < ds.length), j < pre.length → sameD m (as[j]'(by omega)) ds[j] = true) (fun _ _ _ => trivial) (fun _ => ⟨⟨_, rfl⟩, fun j h h2 => nomatch h2⟩) (fun pre z post g hB e hJ => ?_) (fun g hB hJ => ?_))
        · obtain ⟨⟨o, rfl⟩, hJ⟩ := hJ
          have hz := irange_mem (mem_mid e)
          have hz2 : z = (pre.length : Int) := by
            have h3 : (irange 0 (↑ds.length : Int).toNat)[pre.length]? = some z := by rw [e, List.getElem?_append_right (Nat.le_refl _), Nat.sub_self]; rfl
            have := (irange_get h3).1
            omega
          have hlt : pre.length < ds.length := by omega
          have e1 : atI as z = some (as[pre.length]'(by omega)) := by rw [hz2]; exact atI_nat (List.getElem?_eq_getElem (by omega))
          have e2 : atI ds z = some ds[pre.length] := by rw [hz2]; exact atI_nat (List.getElem?_eq_getElem (by omega))
          have hcall := fun X' : L2.Cx => @DE.ix X'
          refine ⟨_, _, DG.name (i := 2) sc_law_same.nd rfl (.inl rfl), ?_⟩
          refine DB.cons (DS.ite (DT.not (DT.val (DE.call cc (hr.mono (Nat.le_refl _)) (by rfl) (DA.cons (DE.ix (DQ.tup (DE.var (i := 0) rfl (.inl rfl) rfl)) (DE.var (i := 2) rfl (.inl rfl) rfl) e1) (DA.cons (DE.ix (DQ.tup (DE.var (i := 1) rfl (.inl rfl) rfl)) (DE.var (i := 2) rfl (.inl rfl) rfl) e2) DA.nil)) ⟨_, _, rfl, oa2 _ (List.getElem_mem _), od2 _ (List.getElem_mem _), rfl, rfl⟩ [] rfl (by decide) rfl))) (fun hb => ?_) fun hb => ?_)
          · refine DB.ret DE.bl ⟨?_, hk rfl⟩
            rw [Bool.not_eq_true'] at hb
            have : ((List.zip as ds).all fun p => sameD m p.1 p.2) = false := by
              cases q : ((List.zip as ds).all fun p => sameD m p.1 p.2) with
              | false => rfl
              | true =>
                have := (zip_all el).mp q pre.length hlt
                rw [this] at hb
                cases hb
            rw [this]
          · rw [Bool.not_eq_false'] at hb
            refine DB.nil (DB.nil ⟨⟨_, rfl⟩, fun j h h2 => ?_⟩)
            rw [List.length_append, List.length_singleton] at h2
            by_cases hj : j < pre.length
            · exact hJ j h hj
            · have : j = pre.length := by omega
              subst this
              exact hb
        · obtain ⟨⟨o, rfl⟩, hJ⟩ := hJ
          refine DB.ret DE.bl ⟨?_, hk rfl⟩
          rw [(zip_all el).mpr fun j h => hJ j h (by rw [irange_len]; omega)]
theorem ok_law_same {P : Program} {w : World} {K : PySem.W.Frag} {mg : Str → Option Value} {base : Heap} {f : Addr} {fd : FuncData} (F : FunD K "_law_same" "_law_same" (defArgs s_law_same) (defBody s_law_same) (defScope s_law_same) [] [] f fd) (hm : mg "_law_same" = some (.ref f)) (bi : Bi mg) : ∀ n, Cal P w K mg base (n + 1) "_law_same" (RSame n)
  | 0 => same_step F hm bi 0 fun m e => nomatch e
  | n + 1 => same_step F hm bi (n + 1) fun m e => by
    have : m = n := by omega
    subst this
    exact ok_law_same F hm bi m
end W

set_option Elab.async false
set_option linter.all false
set_option maxRecDepth 100000
namespace W
open PySem L2 PySem.Spec PyProof.Rows PD
set_option maxHeartbeats 4000000 in
theorem ok_law_size {P : Program} {w : World} {K : PySem.W.Frag} {mg : Str → Option Value} {base : Heap} {f : Addr} {fd : FuncData} (F : FunD K "_law_size" "_law_size" (defArgs s_law_size) (defBody s_law_size) (defScope s_law_size) [] [] f fd) (hm : mg "_law_size" = some (.ref f)) (bi : Bi mg) (c_law_take : Cal P w K mg base 1 "_law_take" R_law_take) : Cal P w K mg base 2 "_law_size" R_law_size := by
  refine cal_of (k := 1) F sc_law_size hm (FunD.bindsN F fun _ _ _ _ _ _ us hl => match us, hl with | [_, _], _ => rfl) (by decide) (fun γ r γ' h => by obtain ⟨_, _, _, rfl, _⟩ := h; rfl) (fun cdv A outer s H E hr γ r γ' h => ?_)
  obtain ⟨p_draws, a_draws, a_script, rfl, rfl, rfl⟩ := h
  have hu := hu200 hr
  show DB _ _ [oL p_draws PyData.int a_draws, .val ((cL PyData.int) a_script), .em, .em] (Phi__law_size p_draws a_draws a_script (m_law_size a_draws a_script))
  unfold m_law_size
  exact (DB.szO (i := 0) (ca := PyData.int) rfl fun hsz_draws => (DB.szL (i := 1) (ca := PyData.int) rfl fun hsz_script => (DB.step (α := ((List Int) × Int)) (fun v1 => [oL p_draws PyData.int v1.1, .val ((cL PyData.int) a_script), .val (PyData.int v1.2), .em]) (DS.set (i := 2) sc_law_size.nd rfl (.inl rfl) (DE.call c_law_take (hr.mono (by decide)) (by rfl) (DA.own (i := 0) rfl (.inl rfl) rfl (DA.cons DE.int DA.nil) rfl) ⟨p_draws, a_draws, (4 : Int), rfl, (by /-_law_size:1 pre of _law_take-/ first | assumption | omega | decide | (simp only [Bool.and_eq_true, Bool.or_eq_true, Bool.not_eq_true', Bool.not_eq_false', Bool.or_eq_false_iff, Bool.and_eq_false_imp, decide_eq_true_eq, decide_eq_false_iff_not, List.length_append, List.length_cons, List.length_nil, List.length_map, List.length_reverse, irange_len, sizeLine_eq, CMul, CDiv, CPow] at *; first | omega | decide)), rfl, rfl⟩ [0] rfl (by decide) rfl) (wi (wi (wi (wi wn))))) (fun v1 h2 => by have h2_1 : v1.2 = (m_law_take a_draws (4 : Int)).1 := congrArg (fun p : ((List Int) × Int) => p.2) h2; exact (DB.szO (i := 0) (ca := PyData.int) (xs := v1.1) rfl fun hz_v1_1 => (DB.step (α := ((List Int) × Int)) (fun v3 => [oL p_draws PyData.int v3.1, .val ((cL PyData.int) a_script), .val (PyData.int v1.2), .val (PyData.int v3.2)]) (DS.set (i := 3) sc_law_size.nd rfl (.inl rfl) (DE.call c_law_take (hr.mono (by decide)) (by rfl) (DA.own (i := 0) rfl (.inl rfl) rfl (DA.cons DE.int DA.nil) rfl) ⟨p_draws, v1.1, (1000 : Int), rfl, (by /-_law_size:2 pre of _law_take-/ have := take_bd a_draws (4 : Int) ; first | assumption | omega | decide | (simp only [Bool.and_eq_true, Bool.or_eq_true, Bool.not_eq_true', Bool.not_eq_false', Bool.or_eq_false_iff, Bool.and_eq_false_imp, decide_eq_true_eq, decide_eq_false_iff_not, List.length_append, List.length_cons, List.length_nil, List.length_map, List.length_reverse, irange_len, sizeLine_eq, CMul, CDiv, CPow] at *; first | omega | decide)), rfl, rfl⟩ [0] rfl (by decide) rfl) (wi (wi (wi (wi wn))))) (fun v3 h4 => by have h4_1 : v3.2 = (m_law_take v1.1 (1000 : Int)).1 := congrArg (fun p : ((List Int) × Int) => p.2) h4; exact (DB.szO (i := 0) (ca := PyData.int) (xs := v3.1) rfl fun hz_v3_1 => (DB.step (α := ((List Int) × Int)) (fun v6 => [oL p_draws PyData.int v6.1, .val ((cL PyData.int) a_script), .val (PyData.int v1.2), .val (PyData.int v6.2)]) (DS.iteS (DT.cmp op_eq (DE.var (i := 2) rfl (.inl rfl) rfl) DE.int r_eqI (nomark _)) (fun hb5 => (DB.step (α := ((List Int) × Int)) (fun v8 => [oL p_draws PyData.int v8.1, .val ((cL PyData.int) a_script), .val (PyData.int v1.2), .val (PyData.int v8.2)]) (DS.set (i := 3) sc_law_size.nd rfl (.inl rfl) (DE.bin op_add (DE.var (i := 3) rfl (.inl rfl) rfl) (DE.bin op_mul (DE.bin op_add DE.int (DE.call c_law_take (hr.mono (by decide)) (by rfl) (DA.own (i := 0) rfl (.inl rfl) rfl (DA.cons DE.int DA.nil) rfl) ⟨p_draws, v3.1, (1000 : Int), rfl, (by /-_law_size:3 pre of _law_take-/ have := take_bd v1.1 (1000 : Int) ; have := take_bd a_draws (4 : Int) ; first | assumption | omega | decide | (simp only [Bool.and_eq_true, Bool.or_eq_true, Bool.not_eq_true', Bool.not_eq_false', Bool.or_eq_false_iff, Bool.and_eq_false_imp, decide_eq_true_eq, decide_eq_false_iff_not, List.length_append, List.length_cons, List.length_nil, List.length_map, List.length_reverse, irange_len, sizeLine_eq, CMul, CDiv, CPow] at *; first | omega | decide)), rfl, rfl⟩ [0] rfl (by decide) rfl) r_int0) (DE.eq (DE.bin op_pow DE.int DE.int (r_int (f := fun i j => i ^ j.toNat) (by unfold CPow; decide))) (congrArg PyData.int (show (10 : Int) ^ (Int.toNat (15 : Int)) = (1000000000000000 : Int) by decide))) (r_int (f := fun i j => i * j) (by /-_law_size:4 mul ((1 : Int) + (m_law_take v3.1 (1000 : Int)).1), (1000000000000000 : Int)-/ have := take_bd v3.1 (1000 : Int) ; have := take_bd v1.1 (1000 : Int) ; have := take_bd a_draws (4 : Int) ; first | assumption | omega | decide | (simp only [Bool.and_eq_true, Bool.or_eq_true, Bool.not_eq_true', Bool.not_eq_false', Bool.or_eq_false_iff, Bool.and_eq_false_imp, decide_eq_true_eq, decide_eq_false_iff_not, List.length_append, List.length_cons, List.length_nil, List.length_map, List.length_reverse, irange_len, sizeLine_eq, CMul, CDiv, CPow] at *; first | omega | decide)))) r_int0) (wi (wi (wi (wi wn))))) (fun v8 h9 => by have h9_1 : v8.2 = (v3.2 + (((1 : Int) + (m_law_take v3.1 (1000 : Int)).1) * (1000000000000000 : Int))) := congrArg (fun p : ((List Int) × Int) => p.2) h9; exact (DB.szO (i := 0) (ca := PyData.int) (xs := v8.1) rfl fun hz_v8_1 => (DB.endS (wi (wi (wi (wi wn))))))))) (fun hb5 => (DB.endS (wi (wi (wi (wi wn))))))) (fun v6 h7 => (DB.step (α := ((List Int) × Int)) (fun v12 => [oL p_draws PyData.int v12.1, .val ((cL PyData.int) a_script), .val (PyData.int v1.2), .val (PyData.int v12.2)]) (DS.iteS (DT.of_w (DW.and (DT.cmp op_eq (DE.var (i := 2) rfl (.inl rfl) rfl) DE.int r_eqI (nomark _)) (fun hb10 => (DW.and1 (DT.cmp op_gt (DE.lenC (ca := PyData.int) (by rfl) bi.len_ (DQ.list (DE.var (i := 1) rfl (.inl rfl) rfl))) DE.int r_bl0 (nomark _)))))) (fun hb11 => (DB.step (α := ((List Int) × Int)) (fun v14 => [oL p_draws PyData.int v14.1, .val ((cL PyData.int) a_script), .val (PyData.int v1.2), .val (PyData.int v14.2)]) (DS.set (i := 3) sc_law_size.nd rfl (.inl rfl) (DE.bin op_add (DE.var (i := 3) rfl (.inl rfl) rfl) (DE.bin op_mod (DE.int1 (by rfl) bi.int_ (DE.abs (by rfl) bi.abs_ (DE.int1 (by rfl) bi.int_ (DE.ix (DQ.list (DE.var (i := 1) rfl (.inl rfl) rfl)) (DE.call c_law_take (hr.mono (by decide)) (by rfl) (DA.own (i := 0) rfl (.inl rfl) rfl (DA.cons (DE.lenC (ca := PyData.int) (by rfl) bi.len_ (DQ.list (DE.var (i := 1) rfl (.inl rfl) rfl))) DA.nil) rfl) ⟨p_draws, v6.1, (a_script.length : Int), rfl, (by /-_law_size:5 pre of _law_take-/ have := take_bd v3.1 (1000 : Int) ; have := take_bd v1.1 (1000 : Int) ; have := take_bd a_draws (4 : Int) ; first | assumption | omega | decide | (simp only [Bool.and_eq_true, Bool.or_eq_true, Bool.not_eq_true', Bool.not_eq_false', Bool.or_eq_false_iff, Bool.and_eq_false_imp, decide_eq_true_eq, decide_eq_false_iff_not, List.length_append, List.length_cons, List.length_nil, List.length_map, List.length_reverse, irange_len, sizeLine_eq, CMul, CDiv, CPow] at *; first | omega | decide)), rfl, rfl⟩ [0] rfl (by decide) rfl) (atI_ix (c := PyData.int) (xs := a_script) (k := (m_law_take v6.1 (a_script.length : Int)).1) (by /-_law_size:6 low ix a_script (m_law_take v6.1 (a_script.length : Int)).1-/ have := take_bd v6.1 (a_script.length : Int) ; have := take_bd v3.1 (1000 : Int) ; have := take_bd v1.1 (1000 : Int) ; have := take_bd a_draws (4 : Int) ; first | assumption | omega | decide | (simp only [Bool.and_eq_true, Bool.or_eq_true, Bool.not_eq_true', Bool.not_eq_false', Bool.or_eq_false_iff, Bool.and_eq_false_imp, decide_eq_true_eq, decide_eq_false_iff_not, List.length_append, List.length_cons, List.length_nil, List.length_map, List.length_reverse, irange_len, sizeLine_eq, CMul, CDiv, CPow] at *; first | omega | decide)) (by /-_law_size:7 high ix a_script (m_law_take v6.1 (a_script.length : Int)).1-/ have := take_bd v6.1 (a_script.length : Int) ; have := take_bd v3.1 (1000 : Int) ; have := take_bd v1.1 (1000 : Int) ; have := take_bd a_draws (4 : Int) ; first | assumption | omega | decide | (simp only [Bool.and_eq_true, Bool.or_eq_true, Bool.not_eq_true', Bool.not_eq_false', Bool.or_eq_false_iff, Bool.and_eq_false_imp, decide_eq_true_eq, decide_eq_false_iff_not, List.length_append, List.length_cons, List.length_nil, List.length_map, List.length_reverse, irange_len, sizeLine_eq, CMul, CDiv, CPow] at *; first | omega | decide))))))) (DE.eq (DE.bin op_pow DE.int DE.int (r_int (f := fun i j => i ^ j.toNat) (by unfold CPow; decide))) (congrArg PyData.int (show (10 : Int) ^ (Int.toNat (60 : Int)) = (1000000000000000000000000000000000000000000000000000000000000 : Int) by decide))) (r_int (f := fun i j => i % j) (by /-_law_size:8 mod by (1000000000000000000000000000000000000000000000000000000000000 : Int)-/ first | assumption | omega | decide | (simp only [Bool.and_eq_true, Bool.or_eq_true, Bool.not_eq_true', Bool.not_eq_false', Bool.or_eq_false_iff, Bool.and_eq_false_imp, decide_eq_true_eq, decide_eq_false_iff_not, List.length_append, List.length_cons, List.length_nil, List.length_map, List.length_reverse, irange_len, sizeLine_eq, CMul, CDiv, CPow] at *; first | omega | decide)))) r_int0) (wi (wi (wi (wi wn))))) (fun v14 h15 => by have h15_1 : v14.2 = (v6.2 + (((ix a_script (m_law_take v6.1 (a_script.length : Int)).1).natAbs : Int) % (1000000000000000000000000000000000000000000000000000000000000 : Int))) := congrArg (fun p : ((List Int) × Int) => p.2) h15; exact (DB.szO (i := 0) (ca := PyData.int) (xs := v14.1) rfl fun hz_v14_1 => (DB.endS (wi (wi (wi (wi wn))))))))) (fun hb11 => (DB.endS (wi (wi (wi (wi wn))))))) (fun v12 h13 => (DB.step (α := ((List Int) × Int)) (fun v17 => [oL p_draws PyData.int v17.1, .val ((cL PyData.int) a_script), .val (PyData.int v1.2), .val (PyData.int v17.2)]) (DS.iteS (DT.cmp op_eq (DE.var (i := 2) rfl (.inl rfl) rfl) DE.int r_eqI (nomark _)) (fun hb16 => (DB.step (α := ((List Int) × Int)) (fun v19 => [oL p_draws PyData.int v19.1, .val ((cL PyData.int) a_script), .val (PyData.int v1.2), .val (PyData.int v19.2)]) (DS.set (i := 3) sc_law_size.nd rfl (.inl rfl) (DE.bin op_add (DE.bin op_mul (DE.var (i := 3) rfl (.inl rfl) rfl) DE.int (r_int (f := fun i j => i * j) (by /-_law_size:9 mul v12.2, (1000 : Int)-/ have := take_bd v6.1 (a_script.length : Int) ; have := take_bd v3.1 (1000 : Int) ; have := take_bd v1.1 (1000 : Int) ; have := take_bd a_draws (4 : Int) ; first | assumption | omega | decide | (simp only [Bool.and_eq_true, Bool.or_eq_true, Bool.not_eq_true', Bool.not_eq_false', Bool.or_eq_false_iff, Bool.and_eq_false_imp, decide_eq_true_eq, decide_eq_false_iff_not, List.length_append, List.length_cons, List.length_nil, List.length_map, List.length_reverse, irange_len, sizeLine_eq, CMul, CDiv, CPow] at *; first | omega | decide)))) (DE.call c_law_take (hr.mono (by decide)) (by rfl) (DA.own (i := 0) rfl (.inl rfl) rfl (DA.cons DE.int DA.nil) rfl) ⟨p_draws, v12.1, (1000 : Int), rfl, (by /-_law_size:10 pre of _law_take-/ have := take_bd v6.1 (a_script.length : Int) ; have := take_bd v3.1 (1000 : Int) ; have := take_bd v1.1 (1000 : Int) ; have := take_bd a_draws (4 : Int) ; first | assumption | omega | decide | (simp only [Bool.and_eq_true, Bool.or_eq_true, Bool.not_eq_true', Bool.not_eq_false', Bool.or_eq_false_iff, Bool.and_eq_false_imp, decide_eq_true_eq, decide_eq_false_iff_not, List.length_append, List.length_cons, List.length_nil, List.length_map, List.length_reverse, irange_len, sizeLine_eq, CMul, CDiv, CPow] at *; first | omega | decide)), rfl, rfl⟩ [0] rfl (by decide) rfl) r_int0) (wi (wi (wi (wi wn))))) (fun v19 h20 => by have h20_1 : v19.2 = ((v12.2 * (1000 : Int)) + (m_law_take v12.1 (1000 : Int)).1) := congrArg (fun p : ((List Int) × Int) => p.2) h20; exact (DB.szO (i := 0) (ca := PyData.int) (xs := v19.1) rfl fun hz_v19_1 => (DB.endS (wi (wi (wi (wi wn))))))))) (fun hb16 => (DB.endS (wi (wi (wi (wi wn))))))) (fun v17 h18 => (DB.ret (DE.var (i := 3) rfl (.inl rfl) rfl) (And.intro rfl (kp_o (kp_v kp_n))))))))))))))))))
end W

set_option Elab.async false
set_option linter.all false
set_option maxRecDepth 100000
namespace W
open PySem L2 PySem.Spec PyProof.Rows PD
set_option maxHeartbeats 4000000 in
theorem ok_law_times {P : Program} {w : World} {K : PySem.W.Frag} {mg : Str → Option Value} {base : Heap} {f : Addr} {fd : FuncData} (F : FunD K "_law_times" "_law_times" (defArgs s_law_times) (defBody s_law_times) (defScope s_law_times) [] [] f fd) (hm : mg "_law_times" = some (.ref f)) (bi : Bi mg) (c_law_take : Cal P w K mg base 1 "_law_take" R_law_take) (c_law_size : Cal P w K mg base 2 "_law_size" R_law_size) : Cal P w K mg base 3 "_law_times" R_law_times := by
  refine cal_of (k := 2) F sc_law_times hm (FunD.bindsN F fun _ _ _ _ _ _ us hl => match us, hl with | [_, _, _, _], _ => rfl) (by decide) (fun γ r γ' h => by obtain ⟨_, _, _, _, _, rfl, _⟩ := h; rfl) (fun cdv A outer s H E hr γ r γ' h => ?_)
  obtain ⟨p_draws, a_draws, a_script, a_many, a_great, rfl, hpre, rfl, rfl⟩ := h
  have hu := hu200 hr
  show DB _ _ [oL p_draws PyData.int a_draws, .val ((cL PyData.int) a_script), .val (PyData.int a_many), .val (PyData.bool a_great), .em, .em, .em] (Phi__law_times p_draws a_draws a_script a_many a_great (m_law_times a_draws a_script a_many a_great))
  unfold m_law_times
  exact (DB.szO (i := 0) (ca := PyData.int) rfl fun hsz_draws => (DB.szL (i := 1) (ca := PyData.int) rfl fun hsz_script => (DB.step (α := ((List Int) × Int)) (fun v1 => [oL p_draws PyData.int v1.1, .val ((cL PyData.int) a_script), .val (PyData.int a_many), .val (PyData.bool a_great), .val (PyData.int v1.2), .em, .em]) (DS.set (i := 4) sc_law_times.nd rfl (.inl rfl) (DE.bin op_sub (DE.call c_law_take (hr.mono (by decide)) (by rfl) (DA.own (i := 0) rfl (.inl rfl) rfl (DA.cons DE.int DA.nil) rfl) ⟨p_draws, a_draws, (40 : Int), rfl, (by /-_law_times:1 pre of _law_take-/ first | assumption | omega | decide | (simp only [Bool.and_eq_true, Bool.or_eq_true, Bool.not_eq_true', Bool.not_eq_false', Bool.or_eq_false_iff, Bool.and_eq_false_imp, decide_eq_true_eq, decide_eq_false_iff_not, List.length_append, List.length_cons, List.length_nil, List.length_map, List.length_reverse, irange_len, sizeLine_eq, CMul, CDiv, CPow] at *; first | omega | decide)), rfl, rfl⟩ [0] rfl (by decide) rfl) DE.int r_int0) (wi (wi (wi (wi (wi (wi (wi wn)))))))) (fun v1 h2 => by have h2_1 : v1.2 = ((m_law_take a_draws (40 : Int)).1 - (20 : Int)) := congrArg (fun p : ((List Int) × Int) => p.2) h2; exact (DB.szO (i := 0) (ca := PyData.int) (xs := v1.1) rfl fun hz_v1_1 => (DB.stepF (α := (List Int)) (fun q3 v4 => [oL p_draws PyData.int v1.1, .val ((cL PyData.int) a_script), .val (PyData.int a_many), .val (PyData.bool a_great), .val (PyData.int v1.2), oL q3 PyData.int v4, .em]) (DS.setF (i := 5) sc_law_times.nd rfl (.inl rfl) (DF.lst DV.nil) (fun q _ => ⟨q, (wi (wi (wi (wi (wi (wi (wi wn)))))))⟩)) (fun q3 v4 h5 => by have h5_l0 : (v4).length = 0 := (congrArg (fun p : (List Int) => (p).length) h5).trans (by simp only [List.length_append, List.length_cons, List.length_nil, List.length_map, List.length_reverse, irange_len, List.length_dropLast, setI, List.length_set]); exact (DB.szO (i := 5) (ca := PyData.int) (xs := v4) rfl fun hz_v4 => (DB.step (α := ((List Int) × Int × (List Int))) (fun v18 => [oL p_draws PyData.int v18.1, .val ((cL PyData.int) a_script), .val (PyData.int a_many), .val (PyData.bool a_great), .val (PyData.int v18.2.1), oL q3 PyData.int v18.2.2, .em]) (DS.forS PassesOwn.never rfl (fun s6 => [oL p_draws PyData.int s6.1, .val ((cL PyData.int) a_script), .val (PyData.int a_many), .val (PyData.bool a_great), .val (PyData.int s6.2.1), oL q3 PyData.int s6.2.2, .em]) (fun (s6 : ((List Int) × Int × (List Int))) (x7 : Int) => (bnd ((m_law_size (cond a_great (m_law_take (m_law_take (m_law_take (m_law_take s6.1 (3 : Int)).2 (30 : Int)).2 (3 : Int)).2 (6 : Int)).2 (m_law_take (m_law_take (m_law_take s6.1 (3 : Int)).2 (30 : Int)).2 (3 : Int)).2) a_script).2, ((s6.2.1 + (ix [(0 : Int), (m_law_take s6.1 (3 : Int)).1, (m_law_take (m_law_take s6.1 (3 : Int)).2 (30 : Int)).1] (m_law_take (m_law_take (m_law_take s6.1 (3 : Int)).2 (30 : Int)).2 (3 : Int)).1)) + ((if (a_great && (decide ((m_law_take (m_law_take (m_law_take (m_law_take s6.1 (3 : Int)).2 (30 : Int)).2 (3 : Int)).2 (6 : Int)).1 = (0 : Int)))) = true then (1 : Int) else 0) * ((m_law_size (cond a_great (m_law_take (m_law_take (m_law_take (m_law_take s6.1 (3 : Int)).2 (30 : Int)).2 (3 : Int)).2 (6 : Int)).2 (m_law_take (m_law_take (m_law_take s6.1 (3 : Int)).2 (30 : Int)).2 (3 : Int)).2) a_script).1 % (100000000000000000000000000 : Int))))) fun (v14 : ((List Int) × Int)) => (bnd (s6.2.2 ++ [v14.2]) fun (v16 : (List Int)) => (v14.1, v14.2, v16)))) (v1.1, v1.2, v4) (DX.rng1 (by rfl) bi.range_ (DE.var (i := 2) rfl (.inl rfl) rfl) (by /-_law_times:2 range low a_many-/ first | assumption | omega | decide | (simp only [Bool.and_eq_true, Bool.or_eq_true, Bool.not_eq_true', Bool.not_eq_false', Bool.or_eq_false_iff, Bool.and_eq_false_imp, decide_eq_true_eq, decide_eq_false_iff_not, List.length_append, List.length_cons, List.length_nil, List.length_map, List.length_reverse, irange_len, sizeLine_eq, CMul, CDiv, CPow] at *; first | omega | decide)) (by /-_law_times:3 range high a_many-/ first | assumption | omega | decide | (simp only [Bool.and_eq_true, Bool.or_eq_true, Bool.not_eq_true', Bool.not_eq_false', Bool.or_eq_false_iff, Bool.and_eq_false_imp, decide_eq_true_eq, decide_eq_false_iff_not, List.length_append, List.length_cons, List.length_nil, List.length_map, List.length_reverse, irange_len, sizeLine_eq, CMul, CDiv, CPow] at *; first | omega | decide))) (wi (wi (wi (wi (wi (wi (wi wn))))))) (fun _ => trivial) (fun pre8 x7 post9 s6 he10 hB11 hs12 => by have hrng := irange_mem (mem_mid he10); have hmid := mid_len he10; have hgr_2 := fold_len (fun s6 : ((List Int) × Int × (List Int)) => (s6.2.2).length) 1 (by intro q0 x7; simp only [bnd, onx, unbk]; try ((repeat' split) <;> first | trivial | omega | (simp only [lenO, List.length_append, List.length_cons, List.length_nil, List.length_set, setI, List.length_dropLast, List.length_reverse] <;> omega))) hs12; exact ⟨_, _, (DG.name (i := 6) sc_law_times.nd rfl (.inl rfl)), (DB.step (α := ((List Int) × Int)) (fun v14 => [oL p_draws PyData.int v14.1, .val ((cL PyData.int) a_script), .val (PyData.int a_many), .val (PyData.bool a_great), .val (PyData.int v14.2), oL q3 PyData.int s6.2.2, .val (PyData.int x7)]) (DS.set (i := 4) sc_law_times.nd rfl (.inl rfl) (DE.bin op_add (DE.bin op_add (DE.var (i := 4) rfl (.inl rfl) rfl) (DE.ix (DQ.list (DE.new (DF.lst (DV.cons DE.int (DV.cons (DE.call c_law_take (hr.mono (by decide)) (by rfl) (DA.own (i := 0) rfl (.inl rfl) rfl (DA.cons DE.int DA.nil) rfl) ⟨p_draws, s6.1, (3 : Int), rfl, (by /-_law_times:6 pre of _law_take-/ first | assumption | omega | decide | (simp only [Bool.and_eq_true, Bool.or_eq_true, Bool.not_eq_true', Bool.not_eq_false', Bool.or_eq_false_iff, Bool.and_eq_false_imp, decide_eq_true_eq, decide_eq_false_iff_not, List.length_append, List.length_cons, List.length_nil, List.length_map, List.length_reverse, irange_len, sizeLine_eq, CMul, CDiv, CPow] at *; first | omega | decide)), rfl, rfl⟩ [0] rfl (by decide) rfl) (DV.cons (DE.call c_law_take (hr.mono (by decide)) (by rfl) (DA.own (i := 0) rfl (.inl rfl) rfl (DA.cons DE.int DA.nil) rfl) ⟨p_draws, (m_law_take s6.1 (3 : Int)).2, (30 : Int), rfl, (by /-_law_times:7 pre of _law_take-/ have := take_bd s6.1 (3 : Int) ; first | assumption | omega | decide | (simp only [Bool.and_eq_true, Bool.or_eq_true, Bool.not_eq_true', Bool.not_eq_false', Bool.or_eq_false_iff, Bool.and_eq_false_imp, decide_eq_true_eq, decide_eq_false_iff_not, List.length_append, List.length_cons, List.length_nil, List.length_map, List.length_reverse, irange_len, sizeLine_eq, CMul, CDiv, CPow] at *; first | omega | decide)), rfl, rfl⟩ [0] rfl (by decide) rfl) DV.nil)))))) (DE.call c_law_take (hr.mono (by decide)) (by rfl) (DA.own (i := 0) rfl (.inl rfl) rfl (DA.cons DE.int DA.nil) rfl) ⟨p_draws, (m_law_take (m_law_take s6.1 (3 : Int)).2 (30 : Int)).2, (3 : Int), rfl, (by /-_law_times:8 pre of _law_take-/ have := take_bd (m_law_take s6.1 (3 : Int)).2 (30 : Int) ; have := take_bd s6.1 (3 : Int) ; first | assumption | omega | decide | (simp only [Bool.and_eq_true, Bool.or_eq_true, Bool.not_eq_true', Bool.not_eq_false', Bool.or_eq_false_iff, Bool.and_eq_false_imp, decide_eq_true_eq, decide_eq_false_iff_not, List.length_append, List.length_cons, List.length_nil, List.length_map, List.length_reverse, irange_len, sizeLine_eq, CMul, CDiv, CPow] at *; first | omega | decide)), rfl, rfl⟩ [0] rfl (by decide) rfl) (atI_ix (c := PyData.int) (xs := [(0 : Int), (m_law_take s6.1 (3 : Int)).1, (m_law_take (m_law_take s6.1 (3 : Int)).2 (30 : Int)).1]) (k := (m_law_take (m_law_take (m_law_take s6.1 (3 : Int)).2 (30 : Int)).2 (3 : Int)).1) (by /-_law_times:9 low ix [(0 : Int), (m_law_take s6.1 (3 : Int)).1, (m_law_take (m_law_take s6.1 (3 : Int)).2 (30 : Int)).1] (m_law_take (m_law_take (m_law_take s6.1 (3 : Int)).2 (30 : Int)).2 (3 : Int)).1-/ have := take_bd s6.1 (3 : Int) ; have := take_bd (m_law_take s6.1 (3 : Int)).2 (30 : Int) ; have := take_bd (m_law_take (m_law_take s6.1 (3 : Int)).2 (30 : Int)).2 (3 : Int) ; first | assumption | omega | decide | (simp only [Bool.and_eq_true, Bool.or_eq_true, Bool.not_eq_true', Bool.not_eq_false', Bool.or_eq_false_iff, Bool.and_eq_false_imp, decide_eq_true_eq, decide_eq_false_iff_not, List.length_append, List.length_cons, List.length_nil, List.length_map, List.length_reverse, irange_len, sizeLine_eq, CMul, CDiv, CPow] at *; first | omega | decide)) (by /-_law_times:10 high ix [(0 : Int), (m_law_take s6.1 (3 : Int)).1, (m_law_take (m_law_take s6.1 (3 : Int)).2 (30 : Int)).1] (m_law_take (m_law_take (m_law_take s6.1 (3 : Int)).2 (30 : Int)).2 (3 : Int)).1-/ have := take_bd s6.1 (3 : Int) ; have := take_bd (m_law_take s6.1 (3 : Int)).2 (30 : Int) ; have := take_bd (m_law_take (m_law_take s6.1 (3 : Int)).2 (30 : Int)).2 (3 : Int) ; first | assumption | omega | decide | (simp only [Bool.and_eq_true, Bool.or_eq_true, Bool.not_eq_true', Bool.not_eq_false', Bool.or_eq_false_iff, Bool.and_eq_false_imp, decide_eq_true_eq, decide_eq_false_iff_not, List.length_append, List.length_cons, List.length_nil, List.length_map, List.length_reverse, irange_len, sizeLine_eq, CMul, CDiv, CPow] at *; first | omega | decide)))) r_int0) (DE.bin op_mul (DE.intB (by rfl) bi.int_ (DE.andX (fun zz : Bool => [oL p_draws PyData.int (cond zz (m_law_take (m_law_take (m_law_take (m_law_take s6.1 (3 : Int)).2 (30 : Int)).2 (3 : Int)).2 (6 : Int)).2 (m_law_take (m_law_take (m_law_take s6.1 (3 : Int)).2 (30 : Int)).2 (3 : Int)).2), .val ((cL PyData.int) a_script), .val (PyData.int a_many), .val (PyData.bool a_great), .val (PyData.int s6.2.1), oL q3 PyData.int s6.2.2, .val (PyData.int x7)]) (DE.var (i := 3) rfl (.inl rfl) rfl) (fun hb13 => (DE.one (DE.cmp op_eq (DE.call c_law_take (hr.mono (by decide)) (by rfl) (DA.own (i := 0) rfl (.inl rfl) rfl (DA.cons DE.int DA.nil) rfl) ⟨p_draws, (m_law_take (m_law_take (m_law_take s6.1 (3 : Int)).2 (30 : Int)).2 (3 : Int)).2, (6 : Int), rfl, (by /-_law_times:11 pre of _law_take-/ have := take_bd (m_law_take (m_law_take s6.1 (3 : Int)).2 (30 : Int)).2 (3 : Int) ; have := take_bd (m_law_take s6.1 (3 : Int)).2 (30 : Int) ; have := take_bd s6.1 (3 : Int) ; first | assumption | omega | decide | (simp only [Bool.and_eq_true, Bool.or_eq_true, Bool.not_eq_true', Bool.not_eq_false', Bool.or_eq_false_iff, Bool.and_eq_false_imp, decide_eq_true_eq, decide_eq_false_iff_not, List.length_append, List.length_cons, List.length_nil, List.length_map, List.length_reverse, irange_len, sizeLine_eq, CMul, CDiv, CPow] at *; first | omega | decide)), rfl, rfl⟩ [0] rfl (by decide) rfl) DE.int r_eqI (nomark _)))))) (DE.bin op_mod (DE.call c_law_size (hr.mono (by decide)) (by rfl) (DA.own (i := 0) rfl (.inl rfl) rfl (DA.cons (DE.var (i := 1) rfl (.inl rfl) rfl) DA.nil) rfl) ⟨p_draws, (cond a_great (m_law_take (m_law_take (m_law_take (m_law_take s6.1 (3 : Int)).2 (30 : Int)).2 (3 : Int)).2 (6 : Int)).2 (m_law_take (m_law_take (m_law_take s6.1 (3 : Int)).2 (30 : Int)).2 (3 : Int)).2), a_script, rfl, rfl, rfl⟩ [0] rfl (by decide) rfl) (DE.eq (DE.bin op_pow DE.int DE.int (r_int (f := fun i j => i ^ j.toNat) (by unfold CPow; decide))) (congrArg PyData.int (show (10 : Int) ^ (Int.toNat (26 : Int)) = (100000000000000000000000000 : Int) by decide))) (r_int (f := fun i j => i % j) (by /-_law_times:12 mod by (100000000000000000000000000 : Int)-/ first | assumption | omega | decide | (simp only [Bool.and_eq_true, Bool.or_eq_true, Bool.not_eq_true', Bool.not_eq_false', Bool.or_eq_false_iff, Bool.and_eq_false_imp, decide_eq_true_eq, decide_eq_false_iff_not, List.length_append, List.length_cons, List.length_nil, List.length_map, List.length_reverse, irange_len, sizeLine_eq, CMul, CDiv, CPow] at *; first | omega | decide)))) (r_int (f := fun i j => i * j) (by /-_law_times:13 mul (if (a_great && (decide ((m_law_take (m_law_take (m_law_take (m_law_take s6.1 (3 : Int)).2 (30 : Int)).2 (3 : Int)).2 (6 : Int)).1 = (0 : Int)))) = true then (1 : Int) else 0), ((m_law_size (cond a_great (m_law_take (m_law_take (m_law_take (m_law_take s6.1 (3 : Int)).2 (30 : Int)).2 (3 : Int)).2 (6 : Int)).2 (m_law_take (m_law_take (m_law_take s6.1 (3 : Int)).2 (30 : Int)).2 (3 : Int)).2) a_script).1 % (100000000000000000000000000 : Int))-/ have := take_bd (m_law_take (m_law_take (m_law_take s6.1 (3 : Int)).2 (30 : Int)).2 (3 : Int)).2 (6 : Int) ; have := take_bd (m_law_take (m_law_take s6.1 (3 : Int)).2 (30 : Int)).2 (3 : Int) ; have := take_bd (m_law_take s6.1 (3 : Int)).2 (30 : Int) ; have := take_bd s6.1 (3 : Int) ; first | assumption | omega | decide | (simp only [Bool.and_eq_true, Bool.or_eq_true, Bool.not_eq_true', Bool.not_eq_false', Bool.or_eq_false_iff, Bool.and_eq_false_imp, decide_eq_true_eq, decide_eq_false_iff_not, List.length_append, List.length_cons, List.length_nil, List.length_map, List.length_reverse, irange_len, sizeLine_eq, CMul, CDiv, CPow] at *; first | omega | decide)))) r_int0) (wi (wi (wi (wi (wi (wi (wi wn)))))))) (fun v14 h15 => by have h15_1 : v14.2 = ((s6.2.1 + (ix [(0 : Int), (m_law_take s6.1 (3 : Int)).1, (m_law_take (m_law_take s6.1 (3 : Int)).2 (30 : Int)).1] (m_law_take (m_law_take (m_law_take s6.1 (3 : Int)).2 (30 : Int)).2 (3 : Int)).1)) + ((if (a_great && (decide ((m_law_take (m_law_take (m_law_take (m_law_take s6.1 (3 : Int)).2 (30 : Int)).2 (3 : Int)).2 (6 : Int)).1 = (0 : Int)))) = true then (1 : Int) else 0) * ((m_law_size (cond a_great (m_law_take (m_law_take (m_law_take (m_law_take s6.1 (3 : Int)).2 (30 : Int)).2 (3 : Int)).2 (6 : Int)).2 (m_law_take (m_law_take (m_law_take s6.1 (3 : Int)).2 (30 : Int)).2 (3 : Int)).2) a_script).1 % (100000000000000000000000000 : Int)))) := congrArg (fun p : ((List Int) × Int) => p.2) h15; exact (DB.szO (i := 0) (ca := PyData.int) (xs := v14.1) rfl fun hz_v14_1 => (DB.step (α := (List Int)) (fun v16 => [oL p_draws PyData.int v14.1, .val ((cL PyData.int) a_script), .val (PyData.int a_many), .val (PyData.bool a_great), .val (PyData.int v14.2), oL q3 PyData.int v16, .val (PyData.int x7)]) (DS.appendC (i := 5) (ca := PyData.int) rfl (.inl rfl) rfl (DE.var (i := 4) rfl (.inl rfl) rfl) rfl (by /-_law_times:14 append to s6.2.2-/ first | assumption | omega | decide | (simp only [Bool.and_eq_true, Bool.or_eq_true, Bool.not_eq_true', Bool.not_eq_false', Bool.or_eq_false_iff, Bool.and_eq_false_imp, decide_eq_true_eq, decide_eq_false_iff_not, List.length_append, List.length_cons, List.length_nil, List.length_map, List.length_reverse, irange_len, sizeLine_eq, CMul, CDiv, CPow] at *; first | omega | decide)) (wi (wi (wi (wi (wi (wi (wi wn)))))))) (fun v16 h17 => by have h17_l0 : (v16).length = (s6.2.2).length + 1 := (congrArg (fun p : (List Int) => (p).length) h17).trans (by simp only [List.length_append, List.length_cons, List.length_nil, List.length_map, List.length_reverse, irange_len, List.length_dropLast, setI, List.length_set]); exact (DB.szO (i := 5) (ca := PyData.int) (xs := v16) rfl fun hz_v16 => (DB.endS (wi (wi (wi (wi (wi (wi (we wn))))))))))))))⟩)) (fun v18 h19 => (DB.ret (DE.tuple (by rfl) bi.tuple_ (DQ.own (i := 5) rfl (.inl rfl) rfl)) (And.intro rfl (kp_o (kp_v (kp_v (kp_v kp_n))))))))))))))))
end W

set_option Elab.async false
set_option linter.all false
set_option maxRecDepth 100000
namespace W
open PySem L2 PySem.Spec PyProof.Rows PD
set_option maxHeartbeats 4000000 in
theorem ok_law_in {P : Program} {w : World} {K : PySem.W.Frag} {mg : Str → Option Value} {base : Heap} {f : Addr} {fd : FuncData} (F : FunD K "_law_in" "_law_in" (defArgs s_law_in) (defBody s_law_in) (defScope s_law_in) [] [] f fd) (hm : mg "_law_in" = some (.ref f)) (bi : Bi mg)  : Cal P w K mg base 1 "_law_in" R_law_in := by
  refine cal_of (k := 0) F sc_law_in hm (FunD.bindsN F fun _ _ _ _ _ _ us hl => match us, hl with | [_, _, _], _ => rfl) (by decide) (fun γ r γ' h => by obtain ⟨_, _, _, rfl, _⟩ := h; rfl) (fun cdv A outer s H E hr γ r γ' h => ?_)
  obtain ⟨a_times, a_begin, a_end, rfl, rfl, rfl⟩ := h
  have hu := hu200 hr
  show DB _ _ [.val ((cT PyData.int) a_times), .val (PyData.int a_begin), .val (PyData.int a_end), .em] (Phi__law_in a_times a_begin a_end (m_law_in a_times a_begin a_end))
  unfold m_law_in
  exact (DB.sz (i := 0) (ca := PyData.int) rfl fun hsz_times => (DB.ret (DE.lenC (ca := PyData.int) (by rfl) bi.len_ (DQ.list (DE.new (DF.map (c := PyData.int) (c' := PyData.int) (own := [("time", 3)]) (vs := [3]) (fun z5 : Int => ((decide (a_begin ≤ z5)) && (decide (z5 < a_end)))) (fun z5 : Int => z5) rfl sc_law_in.nd (blkOk_by (by kernel_rfl)) rfl (DX.seq (c := PyData.int) (xs := a_times) (DQ.tup (DE.var (i := 0) rfl (.inl rfl) rfl))) (fun h => h) (by exact trivial) (by exact (And.intro trivial trivial)) (fun z5 hz6 => ⟨_, [3], (fun j h => h), (fun _ _ _ _ _ => (DG.name (i := 3) sc_law_in.nd rfl (.inl rfl))), (fun _ _ _ _ _ => (DTl.one (DT.of_w (DW.and (DT.cmp op_le (DE.var (i := 1) rfl (.inr (.inl rfl)) rfl) (DE.var (i := 3) rfl (.inl rfl) rfl) r_bl0 (nomark _)) (fun hb7 => (DW.and1 (DT.cmp op_lt (DE.var (i := 3) rfl (.inl rfl) rfl) (DE.var (i := 2) rfl (.inr (.inl rfl)) rfl) r_bl0 (nomark _)))))))), (fun hp8 => (fun _ _ _ _ _ => (DE.var (i := 3) rfl (.inl rfl) rfl))), rfl⟩))))) (And.intro rfl (kp_v (kp_v (kp_v kp_n))))))
end W

set_option Elab.async false
set_option linter.all false
set_option maxRecDepth 100000
namespace W
open PySem L2 PySem.Spec PyProof.Rows PD
set_option maxHeartbeats 4000000 in
theorem ok_law_quiet {P : Program} {w : World} {K : PySem.W.Frag} {mg : Str → Option Value} {base : Heap} {f : Addr} {fd : FuncData} (F : FunD K "_law_quiet" "_law_quiet" (defArgs s_law_quiet) (defBody s_law_quiet) (defScope s_law_quiet) [] [] f fd) (hm : mg "_law_quiet" = some (.ref f)) (bi : Bi mg)  : Cal P w K mg base 1 "_law_quiet" R_law_quiet := by
  refine cal_of (k := 0) F sc_law_quiet hm (FunD.bindsN F fun _ _ _ _ _ _ us hl => match us, hl with | [_, _, _], _ => rfl) (by decide) (fun γ r γ' h => by obtain ⟨_, _, _, rfl, _⟩ := h; rfl) (fun cdv A outer s H E hr γ r γ' h => ?_)
  obtain ⟨a_times, a_begin, a_end, rfl, hpre, rfl, rfl⟩ := h
  have hu := hu200 hr
  show DB _ _ [.val ((cT PyData.int) a_times), .val (PyData.int a_begin), .val (PyData.int a_end), .em, .em, .em, .em] (Phi__law_quiet a_times a_begin a_end (m_law_quiet a_times a_begin a_end))
  unfold m_law_quiet
  exact (DB.sz (i := 0) (ca := PyData.int) rfl fun hsz_times => (DB.step (α := (List Int)) (fun v9 => [.val ((cT PyData.int) a_times), .val (PyData.int a_begin), .val (PyData.int a_end), .val ((cL PyData.int) v9), .em, .em, .em]) (DS.set (i := 3) sc_law_quiet.nd rfl (.inl rfl) (DE.new (DF.catC (ca := PyData.int) (xs := ([(a_begin - (1 : Int))] ++ (srtSet ((a_times.filter (fun z5 : Int => ((decide (a_begin ≤ z5)) && (decide (z5 < a_end))))).map (fun z5 : Int => z5))))) (ys := [a_end]) (DQ.list (DE.new (DF.catC (ca := PyData.int) (xs := [(a_begin - (1 : Int))]) (ys := (srtSet ((a_times.filter (fun z5 : Int => ((decide (a_begin ≤ z5)) && (decide (z5 < a_end))))).map (fun z5 : Int => z5)))) (DQ.list (DE.new (DF.lst (DV.cons (DE.bin op_sub (DE.var (i := 1) rfl (.inr (.inl rfl)) rfl) DE.int r_int0) DV.nil)))) (DQ.list (DE.new (DF.sortedSetI rfl (by rfl) bi.sorted_ (by rfl) bi.set_ (DQ.list (DE.new (DF.map (c := PyData.int) (c' := PyData.int) (own := [("time", 6)]) (vs := [6]) (fun z5 : Int => ((decide (a_begin ≤ z5)) && (decide (z5 < a_end)))) (fun z5 : Int => z5) rfl sc_law_quiet.nd (blkOk_by (by kernel_rfl)) rfl (DX.seq (c := PyData.int) (xs := a_times) (DQ.tup (DE.var (i := 0) rfl (.inl rfl) rfl))) (fun h => h) (by exact trivial) (by exact (And.intro trivial trivial)) (fun z5 hz6 => ⟨_, [6], (fun j h => h), (fun _ _ _ _ _ => (DG.name (i := 6) sc_law_quiet.nd rfl (.inl rfl))), (fun _ _ _ _ _ => (DTl.one (DT.of_w (DW.and (DT.cmp op_le (DE.var (i := 1) rfl (.inr (.inl rfl)) rfl) (DE.var (i := 6) rfl (.inl rfl) rfl) r_bl0 (nomark _)) (fun hb7 => (DW.and1 (DT.cmp op_lt (DE.var (i := 6) rfl (.inl rfl) rfl) (DE.var (i := 2) rfl (.inr (.inl rfl)) rfl) r_bl0 (nomark _)))))))), (fun hp8 => (fun _ _ _ _ _ => (DE.var (i := 6) rfl (.inl rfl) rfl))), rfl⟩)))) (by /-_law_quiet:3 few-/ exact few_filt hpre)))) (by /-_law_quiet:4 list cat-/ exact set_filt hpre)))) (DQ.list (DE.new (DF.lst (DV.cons (DE.var (i := 2) rfl (.inr (.inl rfl)) rfl) DV.nil)))) (by /-_law_quiet:5 list cat-/ exact set_filt2 hpre))) (wi (wi (wi (wi (wi (wi (wi wn)))))))) (fun v9 h10 => (DB.szL (i := 3) (ca := PyData.int) (xs := v9) rfl fun hz_v9 => (DB.step (α := (Int × Int)) (fun v11 => [.val ((cT PyData.int) a_times), .val (PyData.int a_begin), .val (PyData.int a_end), .val ((cL PyData.int) v9), .val ((c2 PyData.int PyData.int) v11), .em, .em]) (DS.set (i := 4) sc_law_quiet.nd rfl (.inl rfl) (DE.tup (DV.cons (DE.var (i := 1) rfl (.inr (.inl rfl)) rfl) (DV.cons (DE.var (i := 1) rfl (.inr (.inl rfl)) rfl) DV.nil))) (wi (wi (wi (wi (wi (wi (wi wn)))))))) (fun v11 h12 => (DB.step (α := (Int × Int)) (fun v25 => [.val ((cT PyData.int) a_times), .val (PyData.int a_begin), .val (PyData.int a_end), .val ((cL PyData.int) v9), .val ((c2 PyData.int PyData.int) v25), .em, .em]) (DS.forS PassesOwn.never rfl (fun s13 => [.val ((cT PyData.int) a_times), .val (PyData.int a_begin), .val (PyData.int a_end), .val ((cL PyData.int) v9), .val ((c2 PyData.int PyData.int) s13), .em, .em]) (fun (s13 : (Int × Int)) (x14 : Int) => (bnd (if (decide ((s13.2 - s13.1) < (((ix v9 x14) - (ix v9 (x14 - (1 : Int)))) - (1 : Int)))) = true then (bnd (((ix v9 (x14 - (1 : Int))) + (1 : Int)), (ix v9 x14)) fun (v23 : (Int × Int)) => v23) else s13) fun (v21 : (Int × Int)) => v21)) v11 (DX.rng2 (by rfl) bi.range_ DE.int (DE.lenC (ca := PyData.int) (by rfl) bi.len_ (DQ.list (DE.var (i := 3) rfl (.inl rfl) rfl))) (by /-_law_quiet:6 range from (1 : Int)-/ first | assumption | omega | decide | (simp only [Bool.and_eq_true, Bool.or_eq_true, Bool.not_eq_true', Bool.not_eq_false', Bool.or_eq_false_iff, Bool.and_eq_false_imp, decide_eq_true_eq, decide_eq_false_iff_not, List.length_append, List.length_cons, List.length_nil, List.length_map, List.length_reverse, irange_len, sizeLine_eq, CMul, CDiv, CPow] at *; first | omega | decide)) (by /-_law_quiet:7 range to (v9.length : Int)-/ first | assumption | omega | decide | (simp only [Bool.and_eq_true, Bool.or_eq_true, Bool.not_eq_true', Bool.not_eq_false', Bool.or_eq_false_iff, Bool.and_eq_false_imp, decide_eq_true_eq, decide_eq_false_iff_not, List.length_append, List.length_cons, List.length_nil, List.length_map, List.length_reverse, irange_len, sizeLine_eq, CMul, CDiv, CPow] at *; first | omega | decide))) (wi (wi (wi (wi (wi (wi (wi wn))))))) (fun _ => trivial) (fun pre15 x14 post16 s13 he17 hB18 hs19 => by have hrng := irange_mem (mem_mid he17); have hmid := mid_len he17; exact ⟨_, _, (DG.name (i := 5) sc_law_quiet.nd rfl (.inl rfl)), (DB.step (α := (Int × Int)) (fun v21 => [.val ((cT PyData.int) a_times), .val (PyData.int a_begin), .val (PyData.int a_end), .val ((cL PyData.int) v9), .val ((c2 PyData.int PyData.int) v21), .val (PyData.int x14), .em]) (DS.iteS (DT.cmp op_gt (DE.bin op_sub (DE.bin op_sub (DE.ix (DQ.list (DE.var (i := 3) rfl (.inl rfl) rfl)) (DE.var (i := 5) rfl (.inl rfl) rfl) (atI_ix (c := PyData.int) (xs := v9) (k := x14) (by /-_law_quiet:8 low ix v9 x14-/ first | assumption | omega | decide | (simp only [Bool.and_eq_true, Bool.or_eq_true, Bool.not_eq_true', Bool.not_eq_false', Bool.or_eq_false_iff, Bool.and_eq_false_imp, decide_eq_true_eq, decide_eq_false_iff_not, List.length_append, List.length_cons, List.length_nil, List.length_map, List.length_reverse, irange_len, sizeLine_eq, CMul, CDiv, CPow] at *; first | omega | decide)) (by /-_law_quiet:9 high ix v9 x14-/ first | assumption | omega | decide | (simp only [Bool.and_eq_true, Bool.or_eq_true, Bool.not_eq_true', Bool.not_eq_false', Bool.or_eq_false_iff, Bool.and_eq_false_imp, decide_eq_true_eq, decide_eq_false_iff_not, List.length_append, List.length_cons, List.length_nil, List.length_map, List.length_reverse, irange_len, sizeLine_eq, CMul, CDiv, CPow] at *; first | omega | decide)))) (DE.ix (DQ.list (DE.var (i := 3) rfl (.inl rfl) rfl)) (DE.bin op_sub (DE.var (i := 5) rfl (.inl rfl) rfl) DE.int r_int0) (atI_ix (c := PyData.int) (xs := v9) (k := (x14 - (1 : Int))) (by /-_law_quiet:10 low ix v9 (x14 - (1 : Int))-/ first | assumption | omega | decide | (simp only [Bool.and_eq_true, Bool.or_eq_true, Bool.not_eq_true', Bool.not_eq_false', Bool.or_eq_false_iff, Bool.and_eq_false_imp, decide_eq_true_eq, decide_eq_false_iff_not, List.length_append, List.length_cons, List.length_nil, List.length_map, List.length_reverse, irange_len, sizeLine_eq, CMul, CDiv, CPow] at *; first | omega | decide)) (by /-_law_quiet:11 high ix v9 (x14 - (1 : Int))-/ first | assumption | omega | decide | (simp only [Bool.and_eq_true, Bool.or_eq_true, Bool.not_eq_true', Bool.not_eq_false', Bool.or_eq_false_iff, Bool.and_eq_false_imp, decide_eq_true_eq, decide_eq_false_iff_not, List.length_append, List.length_cons, List.length_nil, List.length_map, List.length_reverse, irange_len, sizeLine_eq, CMul, CDiv, CPow] at *; first | omega | decide)))) r_int0) DE.int r_int0) (DE.bin op_sub (DE.ix (DQ.tup (DE.var (i := 4) rfl (.inl rfl) rfl)) DE.int at_1) (DE.ix (DQ.tup (DE.var (i := 4) rfl (.inl rfl) rfl)) DE.int at_0) r_int0) r_bl0 (nomark _)) (fun hb20 => (DB.step (α := (Int × Int)) (fun v23 => [.val ((cT PyData.int) a_times), .val (PyData.int a_begin), .val (PyData.int a_end), .val ((cL PyData.int) v9), .val ((c2 PyData.int PyData.int) v23), .val (PyData.int x14), .em]) (DS.set (i := 4) sc_law_quiet.nd rfl (.inl rfl) (DE.tup (DV.cons (DE.bin op_add (DE.ix (DQ.list (DE.var (i := 3) rfl (.inl rfl) rfl)) (DE.bin op_sub (DE.var (i := 5) rfl (.inl rfl) rfl) DE.int r_int0) (atI_ix (c := PyData.int) (xs := v9) (k := (x14 - (1 : Int))) (by /-_law_quiet:12 low ix v9 (x14 - (1 : Int))-/ first | assumption | omega | decide | (simp only [Bool.and_eq_true, Bool.or_eq_true, Bool.not_eq_true', Bool.not_eq_false', Bool.or_eq_false_iff, Bool.and_eq_false_imp, decide_eq_true_eq, decide_eq_false_iff_not, List.length_append, List.length_cons, List.length_nil, List.length_map, List.length_reverse, irange_len, sizeLine_eq, CMul, CDiv, CPow] at *; first | omega | decide)) (by /-_law_quiet:13 high ix v9 (x14 - (1 : Int))-/ first | assumption | omega | decide | (simp only [Bool.and_eq_true, Bool.or_eq_true, Bool.not_eq_true', Bool.not_eq_false', Bool.or_eq_false_iff, Bool.and_eq_false_imp, decide_eq_true_eq, decide_eq_false_iff_not, List.length_append, List.length_cons, List.length_nil, List.length_map, List.length_reverse, irange_len, sizeLine_eq, CMul, CDiv, CPow] at *; first | omega | decide)))) DE.int r_int0) (DV.cons (DE.ix (DQ.list (DE.var (i := 3) rfl (.inl rfl) rfl)) (DE.var (i := 5) rfl (.inl rfl) rfl) (atI_ix (c := PyData.int) (xs := v9) (k := x14) (by /-_law_quiet:14 low ix v9 x14-/ first | assumption | omega | decide | (simp only [Bool.and_eq_true, Bool.or_eq_true, Bool.not_eq_true', Bool.not_eq_false', Bool.or_eq_false_iff, Bool.and_eq_false_imp, decide_eq_true_eq, decide_eq_false_iff_not, List.length_append, List.length_cons, List.length_nil, List.length_map, List.length_reverse, irange_len, sizeLine_eq, CMul, CDiv, CPow] at *; first | omega | decide)) (by /-_law_quiet:15 high ix v9 x14-/ first | assumption | omega | decide | (simp only [Bool.and_eq_true, Bool.or_eq_true, Bool.not_eq_true', Bool.not_eq_false', Bool.or_eq_false_iff, Bool.and_eq_false_imp, decide_eq_true_eq, decide_eq_false_iff_not, List.length_append, List.length_cons, List.length_nil, List.length_map, List.length_reverse, irange_len, sizeLine_eq, CMul, CDiv, CPow] at *; first | omega | decide)))) DV.nil))) (wi (wi (wi (wi (wi (wi (wi wn)))))))) (fun v23 h24 => (DB.endS (wi (wi (wi (wi (wi (wi (wi wn))))))))))) (fun hb20 => (DB.endS (wi (wi (wi (wi (wi (wi (wi wn)))))))))) (fun v21 h22 => (DB.endS (wi (wi (wi (wi (wi (we (wi wn))))))))))⟩)) (fun v25 h26 => (DB.ret (DE.var (i := 4) rfl (.inl rfl) rfl) (And.intro rfl (kp_v (kp_v (kp_v kp_n)))))))))))))
end W

set_option Elab.async false
set_option linter.all false
set_option maxRecDepth 100000
namespace W
open PySem L2 PySem.Spec PyProof.Rows PD
set_option maxHeartbeats 4000000 in
theorem ok_law_by_minutes {P : Program} {w : World} {K : PySem.W.Frag} {mg : Str → Option Value} {base : Heap} {f : Addr} {fd : FuncData} (F : FunD K "_law_by_minutes" "_law_by_minutes" (defArgs s_law_by_minutes) (defBody s_law_by_minutes) (defScope s_law_by_minutes) [] [] f fd) (hm : mg "_law_by_minutes" = some (.ref f)) (bi : Bi mg)  : Cal P w K mg base 1 "_law_by_minutes" R_law_by_minutes := by
  refine cal_of (k := 0) F sc_law_by_minutes hm (FunD.bindsN F fun _ _ _ _ _ _ us hl => match us, hl with | [_, _, _], _ => rfl) (by decide) (fun γ r γ' h => by obtain ⟨_, _, _, rfl, _⟩ := h; rfl) (fun cdv A outer s H E hr γ r γ' h => ?_)
  obtain ⟨a_times, a_begin, a_end, rfl, rfl, rfl⟩ := h
  have hu := hu200 hr
  show DB _ _ [.val ((cT PyData.int) a_times), .val (PyData.int a_begin), .val (PyData.int a_end), .em, .em, .em] (Phi__law_by_minutes a_times a_begin a_end (m_law_by_minutes a_times a_begin a_end))
  unfold m_law_by_minutes
  exact (DB.sz (i := 0) (ca := PyData.int) rfl fun hsz_times => (DB.step (α := (Int × Int)) (fun v1 => [.val ((cT PyData.int) a_times), .val (PyData.int a_begin), .val (PyData.int a_end), .val ((c2 PyData.int PyData.int) v1), .em, .em]) (DS.set (i := 3) sc_law_by_minutes.nd rfl (.inl rfl) (DE.tup (DV.cons (DE.var (i := 1) rfl (.inl rfl) rfl) (DV.cons (DE.var (i := 1) rfl (.inl rfl) rfl) DV.nil))) (wi (wi (wi (wi (wi (wi wn))))))) (fun v1 h2 => (DB.step (α := Int) (fun v3 => [.val ((cT PyData.int) a_times), .val (PyData.int a_begin), .val (PyData.int a_end), .val ((c2 PyData.int PyData.int) v1), .val (PyData.int v3), .em]) (DS.set (i := 4) sc_law_by_minutes.nd rfl (.inl rfl) (DE.var (i := 1) rfl (.inl rfl) rfl) (wi (wi (wi (wi (wi (wi wn))))))) (fun v3 h4 => (DB.step (α := ((Int × Int) × Int)) (fun v23 => [.val ((cT PyData.int) a_times), .val (PyData.int a_begin), .val (PyData.int a_end), .val ((c2 PyData.int PyData.int) v23.1), .val (PyData.int v23.2), .em]) (DS.forS PassesOwn.never rfl (fun s5 => [.val ((cT PyData.int) a_times), .val (PyData.int a_begin), .val (PyData.int a_end), .val ((c2 PyData.int PyData.int) s5.1), .val (PyData.int s5.2), .em]) (fun (s5 : ((Int × Int) × Int)) (x6 : Int) => (bnd (if ((decide (x6 = a_end)) || (decide (x6 ∈ a_times))) = true then (bnd (if (decide ((s5.1.2 - s5.1.1) < (x6 - s5.2))) = true then (bnd (s5.2, x6) fun (v19 : (Int × Int)) => v19) else s5.1) fun (v17 : (Int × Int)) => (bnd (x6 + (1 : Int)) fun (v21 : Int) => (v17, v21))) else (s5.1, s5.2)) fun (v14 : ((Int × Int) × Int)) => (v14.1, v14.2))) (v1, v3) (DX.rngW (by rfl) bi.range_ (DE.var (i := 1) rfl (.inl rfl) rfl) (DE.bin op_add (DE.var (i := 2) rfl (.inl rfl) rfl) DE.int r_int0)) (wi (wi (wi (wi (wi (wi wn)))))) (fun _ => trivial) (fun pre7 x6 post8 s5 he9 hB10 hs11 => by have hrng := irange_mem (mem_mid he9); have hmid := mid_len he9; exact ⟨_, _, (DG.name (i := 5) sc_law_by_minutes.nd rfl (.inl rfl)), (DB.step (α := ((Int × Int) × Int)) (fun v14 => [.val ((cT PyData.int) a_times), .val (PyData.int a_begin), .val (PyData.int a_end), .val ((c2 PyData.int PyData.int) v14.1), .val (PyData.int v14.2), .val (PyData.int x6)]) (DS.iteS (DT.of_w (DW.or (DT.cmp op_eq (DE.var (i := 5) rfl (.inl rfl) rfl) (DE.var (i := 2) rfl (.inl rfl) rfl) r_eqI (nomark _)) (fun hb12 => (DW.or1 (DT.in_ hu (c := PyData.int) eqc_int (DE.var (i := 5) rfl (.inl rfl) rfl) (DQ.tup (DE.var (i := 0) rfl (.inl rfl) rfl))))))) (fun hb13 => (DB.step (α := (Int × Int)) (fun v17 => [.val ((cT PyData.int) a_times), .val (PyData.int a_begin), .val (PyData.int a_end), .val ((c2 PyData.int PyData.int) v17), .val (PyData.int s5.2), .val (PyData.int x6)]) (DS.iteS (DT.cmp op_gt (DE.bin op_sub (DE.var (i := 5) rfl (.inl rfl) rfl) (DE.var (i := 4) rfl (.inl rfl) rfl) r_int0) (DE.bin op_sub (DE.ix (DQ.tup (DE.var (i := 3) rfl (.inl rfl) rfl)) DE.int at_1) (DE.ix (DQ.tup (DE.var (i := 3) rfl (.inl rfl) rfl)) DE.int at_0) r_int0) r_bl0 (nomark _)) (fun hb16 => (DB.step (α := (Int × Int)) (fun v19 => [.val ((cT PyData.int) a_times), .val (PyData.int a_begin), .val (PyData.int a_end), .val ((c2 PyData.int PyData.int) v19), .val (PyData.int s5.2), .val (PyData.int x6)]) (DS.set (i := 3) sc_law_by_minutes.nd rfl (.inl rfl) (DE.tup (DV.cons (DE.var (i := 4) rfl (.inl rfl) rfl) (DV.cons (DE.var (i := 5) rfl (.inl rfl) rfl) DV.nil))) (wi (wi (wi (wi (wi (wi wn))))))) (fun v19 h20 => (DB.endS (wi (wi (wi (wi (wi (wi wn)))))))))) (fun hb16 => (DB.endS (wi (wi (wi (wi (wi (wi wn))))))))) (fun v17 h18 => (DB.step (α := Int) (fun v21 => [.val ((cT PyData.int) a_times), .val (PyData.int a_begin), .val (PyData.int a_end), .val ((c2 PyData.int PyData.int) v17), .val (PyData.int v21), .val (PyData.int x6)]) (DS.set (i := 4) sc_law_by_minutes.nd rfl (.inl rfl) (DE.bin op_add (DE.var (i := 5) rfl (.inl rfl) rfl) DE.int r_int0) (wi (wi (wi (wi (wi (wi wn))))))) (fun v21 h22 => (DB.endS (wi (wi (wi (wi (wi (wi wn)))))))))))) (fun hb13 => (DB.endS (wi (wi (wi (wi (wi (wi wn))))))))) (fun v14 h15 => (DB.endS (wi (wi (wi (wi (wi (we wn)))))))))⟩)) (fun v23 h24 => (DB.ret (DE.var (i := 3) rfl (.inl rfl) rfl) (And.intro rfl (kp_v (kp_v (kp_v kp_n))))))))))))
end W

set_option Elab.async false
set_option linter.all false
set_option maxRecDepth 100000
namespace W
open PySem L2 PySem.Spec PyProof.Rows PD
set_option maxHeartbeats 4000000 in
theorem ok_law_quiet_right {P : Program} {w : World} {K : PySem.W.Frag} {mg : Str → Option Value} {base : Heap} {f : Addr} {fd : FuncData} (F : FunD K "_law_quiet_right" "_law_quiet_right" (defArgs s_law_quiet_right) (defBody s_law_quiet_right) (defScope s_law_quiet_right) [] [] f fd) (hm : mg "_law_quiet_right" = some (.ref f)) (bi : Bi mg) (clongest_quiet : Cal P w K mg base 1 "longest_quiet" Rlongest_quiet) (c_law_take : Cal P w K mg base 1 "_law_take" R_law_take) (c_law_same : Cal P w K mg base 9 "_law_same" (RSame 8)) (c_law_size : Cal P w K mg base 2 "_law_size" R_law_size) (c_law_quiet : Cal P w K mg base 1 "_law_quiet" R_law_quiet) (c_law_by_minutes : Cal P w K mg base 1 "_law_by_minutes" R_law_by_minutes) : Cal P w K mg base 10 "_law_quiet_right" R_law_quiet_right := by
  refine cal_of (k := 9) F sc_law_quiet_right hm (FunD.bindsN F fun _ _ _ _ _ _ us hl => match us, hl with | [_, _, _], _ => rfl) (by decide) (fun γ r γ' h => by obtain ⟨_, _, _, _, rfl, _⟩ := h; rfl) (fun cdv A outer s H E hr γ r γ' h => ?_)
  obtain ⟨p_draws, a_draws, a_script, a_times, rfl, hpre, rfl, rfl⟩ := h
  have hu := hu200 hr
  show DB _ _ [oL p_draws PyData.int a_draws, .val ((cL PyData.int) a_script), .val ((cT PyData.int) a_times), .em, .em, .em, .em, .em] (Phi__law_quiet_right p_draws a_draws a_script a_times (m_law_quiet_right a_draws a_script a_times))
  unfold m_law_quiet_right
  exact (DB.szO (i := 0) (ca := PyData.int) rfl fun hsz_draws => (DB.szL (i := 1) (ca := PyData.int) rfl fun hsz_script => (DB.sz (i := 2) (ca := PyData.int) rfl fun hsz_times => (DB.stepF (α := (List (Int × Int))) (fun q1 v2 => [oL p_draws PyData.int a_draws, .val ((cL PyData.int) a_script), .val ((cT PyData.int) a_times), oL q1 (c2 PyData.int PyData.int) v2, .em, .em, .em, .em]) (DS.setF (i := 3) sc_law_quiet_right.nd rfl (.inl rfl) (DF.lst DV.nil) (fun q _ => ⟨q, (wi (wi (wi (wi (wi (wi (wi (wi wn))))))))⟩)) (fun q1 v2 h3 => by have h3_l0 : (v2).length = 0 := (congrArg (fun p : (List (Int × Int)) => (p).length) h3).trans (by simp only [List.length_append, List.length_cons, List.length_nil, List.length_map, List.length_reverse, irange_len, List.length_dropLast, setI, List.length_set]); exact (DB.szO (i := 3) (ca := (c2 PyData.int PyData.int)) (xs := v2) rfl fun hz_v2 => (DB.step (α := ((List Int) × (List (Int × Int)))) (fun v15 => [oL p_draws PyData.int v15.1, .val ((cL PyData.int) a_script), .val ((cT PyData.int) a_times), oL q1 (c2 PyData.int PyData.int) v15.2, .em, .em, .em, .em]) (DS.forS PassesOwn.never rfl (fun s4 => [oL p_draws PyData.int s4.1, .val ((cL PyData.int) a_script), .val ((cT PyData.int) a_times), oL q1 (c2 PyData.int PyData.int) s4.2, .em, .em, .em, .em]) (fun (s4 : ((List Int) × (List (Int × Int)))) (x5 : Int) => (bnd ((m_law_take (m_law_take (m_law_take s4.1 (60 : Int)).2 ((a_times.length : Int) + (1 : Int))).2 (2 : Int)).2, (ix [((m_law_take s4.1 (60 : Int)).1 - (30 : Int)), (ix (a_times ++ [(0 : Int)]) (m_law_take (m_law_take s4.1 (60 : Int)).2 ((a_times.length : Int) + (1 : Int))).1)] (m_law_take (m_law_take (m_law_take s4.1 (60 : Int)).2 ((a_times.length : Int) + (1 : Int))).2 (2 : Int)).1)) fun (v11 : ((List Int) × Int)) => (bnd ((m_law_take (m_law_size (m_law_take v11.1 (80 : Int)).2 a_script).2 (4 : Int)).2, (s4.2 ++ [(v11.2, (v11.2 + (ix [(m_law_take v11.1 (80 : Int)).1, ((m_law_size (m_law_take v11.1 (80 : Int)).2 a_script).1 % (100000000000000000000000000 : Int))] (if (decide ((m_law_take (m_law_size (m_law_take v11.1 (80 : Int)).2 a_script).2 (4 : Int)).1 = (0 : Int))) = true then (1 : Int) else 0))))])) fun (v13 : ((List Int) × (List (Int × Int)))) => (v13.1, v13.2)))) (a_draws, v2) (DX.rng1 (by rfl) bi.range_ DE.int (by /-_law_quiet_right:1 range low (3 : Int)-/ first | assumption | omega | decide | (simp only [Bool.and_eq_true, Bool.or_eq_true, Bool.not_eq_true', Bool.not_eq_false', Bool.or_eq_false_iff, Bool.and_eq_false_imp, decide_eq_true_eq, decide_eq_false_iff_not, List.length_append, List.length_cons, List.length_nil, List.length_map, List.length_reverse, irange_len, sizeLine_eq, CMul, CDiv, CPow] at *; first | omega | decide)) (by /-_law_quiet_right:2 range high (3 : Int)-/ first | assumption | omega | decide | (simp only [Bool.and_eq_true, Bool.or_eq_true, Bool.not_eq_true', Bool.not_eq_false', Bool.or_eq_false_iff, Bool.and_eq_false_imp, decide_eq_true_eq, decide_eq_false_iff_not, List.length_append, List.length_cons, List.length_nil, List.length_map, List.length_reverse, irange_len, sizeLine_eq, CMul, CDiv, CPow] at *; first | omega | decide))) (wi (wi (wi (wi (wi (wi (wi (wi wn)))))))) (fun _ => trivial) (fun pre6 x5 post7 s4 he8 hB9 hs10 => by have hrng := irange_mem (mem_mid he8); have hmid := mid_len he8; have hgr_1 := fold_len (fun s4 : ((List Int) × (List (Int × Int))) => (s4.2).length) 1 (by intro q0 x5; simp only [bnd, onx, unbk]; try ((repeat' split) <;> first | trivial | omega | (simp only [lenO, List.length_append, List.length_cons, List.length_nil, List.length_set, setI, List.length_dropLast, List.length_reverse] <;> omega))) hs10; exact ⟨_, _, (DG.name (i := 4) sc_law_quiet_right.nd rfl (.inl rfl)), (DB.step (α := ((List Int) × Int)) (fun v11 => [oL p_draws PyData.int v11.1, .val ((cL PyData.int) a_script), .val ((cT PyData.int) a_times), oL q1 (c2 PyData.int PyData.int) s4.2, .val (PyData.int x5), .val (PyData.int v11.2), .em, .em]) (DS.set (i := 5) sc_law_quiet_right.nd rfl (.inl rfl) (DE.ix (DQ.list (DE.new (DF.lst (DV.cons (DE.bin op_sub (DE.call c_law_take (hr.mono (by decide)) (by rfl) (DA.own (i := 0) rfl (.inl rfl) rfl (DA.cons DE.int DA.nil) rfl) ⟨p_draws, s4.1, (60 : Int), rfl, (by /-_law_quiet_right:9 pre of _law_take-/ first | assumption | omega | decide | (simp only [Bool.and_eq_true, Bool.or_eq_true, Bool.not_eq_true', Bool.not_eq_false', Bool.or_eq_false_iff, Bool.and_eq_false_imp, decide_eq_true_eq, decide_eq_false_iff_not, List.length_append, List.length_cons, List.length_nil, List.length_map, List.length_reverse, irange_len, sizeLine_eq, CMul, CDiv, CPow] at *; first | omega | decide)), rfl, rfl⟩ [0] rfl (by decide) rfl) DE.int r_int0) (DV.cons (DE.ix (DQ.tup (DE.cat (c := PyData.int) (xs := a_times) (ys := [(0 : Int)]) (DE.var (i := 2) rfl (.inl rfl) rfl) (DE.tup (DV.cons DE.int DV.nil)) (by /-_law_quiet_right:11 cat-/ first | assumption | omega | decide | (simp only [Bool.and_eq_true, Bool.or_eq_true, Bool.not_eq_true', Bool.not_eq_false', Bool.or_eq_false_iff, Bool.and_eq_false_imp, decide_eq_true_eq, decide_eq_false_iff_not, List.length_append, List.length_cons, List.length_nil, List.length_map, List.length_reverse, irange_len, sizeLine_eq, CMul, CDiv, CPow] at *; first | omega | decide)))) (DE.call c_law_take (hr.mono (by decide)) (by rfl) (DA.own (i := 0) rfl (.inl rfl) rfl (DA.cons (DE.bin op_add (DE.lenC (ca := PyData.int) (by rfl) bi.len_ (DQ.tup (DE.var (i := 2) rfl (.inl rfl) rfl))) DE.int r_int0) DA.nil) rfl) ⟨p_draws, (m_law_take s4.1 (60 : Int)).2, ((a_times.length : Int) + (1 : Int)), rfl, (by /-_law_quiet_right:12 pre of _law_take-/ have := take_bd s4.1 (60 : Int) ; first | assumption | omega | decide | (simp only [Bool.and_eq_true, Bool.or_eq_true, Bool.not_eq_true', Bool.not_eq_false', Bool.or_eq_false_iff, Bool.and_eq_false_imp, decide_eq_true_eq, decide_eq_false_iff_not, List.length_append, List.length_cons, List.length_nil, List.length_map, List.length_reverse, irange_len, sizeLine_eq, CMul, CDiv, CPow] at *; first | omega | decide)), rfl, rfl⟩ [0] rfl (by decide) rfl) (atI_ix (c := PyData.int) (xs := (a_times ++ [(0 : Int)])) (k := (m_law_take (m_law_take s4.1 (60 : Int)).2 ((a_times.length : Int) + (1 : Int))).1) (by /-_law_quiet_right:13 low ix (a_times ++ [(0 : Int)]) (m_law_take (m_law_take s4.1 (60 : Int)).2 ((a_times.length : Int) + (1 : Int))).1-/ have := take_bd (m_law_take s4.1 (60 : Int)).2 ((a_times.length : Int) + (1 : Int)) ; have := take_bd s4.1 (60 : Int) ; first | assumption | omega | decide | (simp only [Bool.and_eq_true, Bool.or_eq_true, Bool.not_eq_true', Bool.not_eq_false', Bool.or_eq_false_iff, Bool.and_eq_false_imp, decide_eq_true_eq, decide_eq_false_iff_not, List.length_append, List.length_cons, List.length_nil, List.length_map, List.length_reverse, irange_len, sizeLine_eq, CMul, CDiv, CPow] at *; first | omega | decide)) (by /-_law_quiet_right:14 high ix (a_times ++ [(0 : Int)]) (m_law_take (m_law_take s4.1 (60 : Int)).2 ((a_times.length : Int) + (1 : Int))).1-/ have := take_bd (m_law_take s4.1 (60 : Int)).2 ((a_times.length : Int) + (1 : Int)) ; have := take_bd s4.1 (60 : Int) ; first | assumption | omega | decide | (simp only [Bool.and_eq_true, Bool.or_eq_true, Bool.not_eq_true', Bool.not_eq_false', Bool.or_eq_false_iff, Bool.and_eq_false_imp, decide_eq_true_eq, decide_eq_false_iff_not, List.length_append, List.length_cons, List.length_nil, List.length_map, List.length_reverse, irange_len, sizeLine_eq, CMul, CDiv, CPow] at *; first | omega | decide)))) DV.nil))))) (DE.call c_law_take (hr.mono (by decide)) (by rfl) (DA.own (i := 0) rfl (.inl rfl) rfl (DA.cons DE.int DA.nil) rfl) ⟨p_draws, (m_law_take (m_law_take s4.1 (60 : Int)).2 ((a_times.length : Int) + (1 : Int))).2, (2 : Int), rfl, (by /-_law_quiet_right:15 pre of _law_take-/ have := take_bd (m_law_take s4.1 (60 : Int)).2 ((a_times.length : Int) + (1 : Int)) ; have := take_bd s4.1 (60 : Int) ; first | assumption | omega | decide | (simp only [Bool.and_eq_true, Bool.or_eq_true, Bool.not_eq_true', Bool.not_eq_false', Bool.or_eq_false_iff, Bool.and_eq_false_imp, decide_eq_true_eq, decide_eq_false_iff_not, List.length_append, List.length_cons, List.length_nil, List.length_map, List.length_reverse, irange_len, sizeLine_eq, CMul, CDiv, CPow] at *; first | omega | decide)), rfl, rfl⟩ [0] rfl (by decide) rfl) (atI_ix (c := PyData.int) (xs := [((m_law_take s4.1 (60 : Int)).1 - (30 : Int)), (ix (a_times ++ [(0 : Int)]) (m_law_take (m_law_take s4.1 (60 : Int)).2 ((a_times.length : Int) + (1 : Int))).1)]) (k := (m_law_take (m_law_take (m_law_take s4.1 (60 : Int)).2 ((a_times.length : Int) + (1 : Int))).2 (2 : Int)).1) (by /-_law_quiet_right:16 low ix [((m_law_take s4.1 (60 : Int)).1 - (30 : Int)), (ix (a_times ++ [(0 : Int)]) (m_law_take (m_law_take s4.1 (60 : Int)).2 ((a_times.length : Int) + (1 : Int))).1)] (m_law_take (m_law_take (m_law_take s4.1 (60 : Int)).2 ((a_times.length : Int) + (1 : Int))).2 (2 : Int)).1-/ have := take_bd s4.1 (60 : Int) ; have := take_bd (m_law_take s4.1 (60 : Int)).2 ((a_times.length : Int) + (1 : Int)) ; have := take_bd (m_law_take (m_law_take s4.1 (60 : Int)).2 ((a_times.length : Int) + (1 : Int))).2 (2 : Int) ; first | assumption | omega | decide | (simp only [Bool.and_eq_true, Bool.or_eq_true, Bool.not_eq_true', Bool.not_eq_false', Bool.or_eq_false_iff, Bool.and_eq_false_imp, decide_eq_true_eq, decide_eq_false_iff_not, List.length_append, List.length_cons, List.length_nil, List.length_map, List.length_reverse, irange_len, sizeLine_eq, CMul, CDiv, CPow] at *; first | omega | decide)) (by /-_law_quiet_right:17 high ix [((m_law_take s4.1 (60 : Int)).1 - (30 : Int)), (ix (a_times ++ [(0 : Int)]) (m_law_take (m_law_take s4.1 (60 : Int)).2 ((a_times.length : Int) + (1 : Int))).1)] (m_law_take (m_law_take (m_law_take s4.1 (60 : Int)).2 ((a_times.length : Int) + (1 : Int))).2 (2 : Int)).1-/ have := take_bd s4.1 (60 : Int) ; have := take_bd (m_law_take s4.1 (60 : Int)).2 ((a_times.length : Int) + (1 : Int)) ; have := take_bd (m_law_take (m_law_take s4.1 (60 : Int)).2 ((a_times.length : Int) + (1 : Int))).2 (2 : Int) ; first | assumption | omega | decide | (simp only [Bool.and_eq_true, Bool.or_eq_true, Bool.not_eq_true', Bool.not_eq_false', Bool.or_eq_false_iff, Bool.and_eq_false_imp, decide_eq_true_eq, decide_eq_false_iff_not, List.length_append, List.length_cons, List.length_nil, List.length_map, List.length_reverse, irange_len, sizeLine_eq, CMul, CDiv, CPow] at *; first | omega | decide)))) (wi (wi (wi (wi (wi (wi (wi (wi wn))))))))) (fun v11 h12 => by have h12_1 : v11.2 = (ix [((m_law_take s4.1 (60 : Int)).1 - (30 : Int)), (ix (a_times ++ [(0 : Int)]) (m_law_take (m_law_take s4.1 (60 : Int)).2 ((a_times.length : Int) + (1 : Int))).1)] (m_law_take (m_law_take (m_law_take s4.1 (60 : Int)).2 ((a_times.length : Int) + (1 : Int))).2 (2 : Int)).1) := congrArg (fun p : ((List Int) × Int) => p.2) h12; exact (DB.szO (i := 0) (ca := PyData.int) (xs := v11.1) rfl fun hz_v11_1 => (DB.step (α := ((List Int) × (List (Int × Int)))) (fun v13 => [oL p_draws PyData.int v13.1, .val ((cL PyData.int) a_script), .val ((cT PyData.int) a_times), oL q1 (c2 PyData.int PyData.int) v13.2, .val (PyData.int x5), .val (PyData.int v11.2), .em, .em]) (DS.appendC (i := 3) (ca := (c2 PyData.int PyData.int)) rfl (.inl rfl) rfl (DE.tup (DV.cons (DE.var (i := 5) rfl (.inl rfl) rfl) (DV.cons (DE.bin op_add (DE.var (i := 5) rfl (.inl rfl) rfl) (DE.ix (DQ.list (DE.new (DF.lst (DV.cons (DE.call c_law_take (hr.mono (by decide)) (by rfl) (DA.own (i := 0) rfl (.inl rfl) rfl (DA.cons DE.int DA.nil) rfl) ⟨p_draws, v11.1, (80 : Int), rfl, (by /-_law_quiet_right:20 pre of _law_take-/ have := take_bd (m_law_take (m_law_take s4.1 (60 : Int)).2 ((a_times.length : Int) + (1 : Int))).2 (2 : Int) ; have := take_bd (m_law_take s4.1 (60 : Int)).2 ((a_times.length : Int) + (1 : Int)) ; have := take_bd s4.1 (60 : Int) ; first | assumption | omega | decide | (simp only [Bool.and_eq_true, Bool.or_eq_true, Bool.not_eq_true', Bool.not_eq_false', Bool.or_eq_false_iff, Bool.and_eq_false_imp, decide_eq_true_eq, decide_eq_false_iff_not, List.length_append, List.length_cons, List.length_nil, List.length_map, List.length_reverse, irange_len, sizeLine_eq, CMul, CDiv, CPow] at *; first | omega | decide)), rfl, rfl⟩ [0] rfl (by decide) rfl) (DV.cons (DE.bin op_mod (DE.call c_law_size (hr.mono (by decide)) (by rfl) (DA.own (i := 0) rfl (.inl rfl) rfl (DA.cons (DE.var (i := 1) rfl (.inl rfl) rfl) DA.nil) rfl) ⟨p_draws, (m_law_take v11.1 (80 : Int)).2, a_script, rfl, rfl, rfl⟩ [0] rfl (by decide) rfl) (DE.eq (DE.bin op_pow DE.int DE.int (r_int (f := fun i j => i ^ j.toNat) (by unfold CPow; decide))) (congrArg PyData.int (show (10 : Int) ^ (Int.toNat (26 : Int)) = (100000000000000000000000000 : Int) by decide))) (r_int (f := fun i j => i % j) (by /-_law_quiet_right:21 mod by (100000000000000000000000000 : Int)-/ first | assumption | omega | decide | (simp only [Bool.and_eq_true, Bool.or_eq_true, Bool.not_eq_true', Bool.not_eq_false', Bool.or_eq_false_iff, Bool.and_eq_false_imp, decide_eq_true_eq, decide_eq_false_iff_not, List.length_append, List.length_cons, List.length_nil, List.length_map, List.length_reverse, irange_len, sizeLine_eq, CMul, CDiv, CPow] at *; first | omega | decide)))) DV.nil))))) (DE.intB (by rfl) bi.int_ (DE.cmp op_eq (DE.call c_law_take (hr.mono (by decide)) (by rfl) (DA.own (i := 0) rfl (.inl rfl) rfl (DA.cons DE.int DA.nil) rfl) ⟨p_draws, (m_law_size (m_law_take v11.1 (80 : Int)).2 a_script).2, (4 : Int), rfl, (by /-_law_quiet_right:22 pre of _law_take-/ have := take_bd v11.1 (80 : Int) ; have := take_bd (m_law_take (m_law_take s4.1 (60 : Int)).2 ((a_times.length : Int) + (1 : Int))).2 (2 : Int) ; have := take_bd (m_law_take s4.1 (60 : Int)).2 ((a_times.length : Int) + (1 : Int)) ; have := take_bd s4.1 (60 : Int) ; first | assumption | omega | decide | (simp only [Bool.and_eq_true, Bool.or_eq_true, Bool.not_eq_true', Bool.not_eq_false', Bool.or_eq_false_iff, Bool.and_eq_false_imp, decide_eq_true_eq, decide_eq_false_iff_not, List.length_append, List.length_cons, List.length_nil, List.length_map, List.length_reverse, irange_len, sizeLine_eq, CMul, CDiv, CPow] at *; first | omega | decide)), rfl, rfl⟩ [0] rfl (by decide) rfl) DE.int r_eqI (nomark _))) (atI_ix (c := PyData.int) (xs := [(m_law_take v11.1 (80 : Int)).1, ((m_law_size (m_law_take v11.1 (80 : Int)).2 a_script).1 % (100000000000000000000000000 : Int))]) (k := (if (decide ((m_law_take (m_law_size (m_law_take v11.1 (80 : Int)).2 a_script).2 (4 : Int)).1 = (0 : Int))) = true then (1 : Int) else 0)) (by /-_law_quiet_right:23 low ix [(m_law_take v11.1 (80 : Int)).1, ((m_law_size (m_law_take v11.1 (80 : Int)).2 a_script).1 % (100000000000000000000000000 : Int))] (if (decide ((m_law_take (m_law_size (m_law_take v11.1 (80 : Int)).2 a_script).2 (4 : Int)).1 = (0 : Int))) = true then (1 : Int) else 0)-/ have := take_bd v11.1 (80 : Int) ; have := take_bd (m_law_size (m_law_take v11.1 (80 : Int)).2 a_script).2 (4 : Int) ; have := take_bd (m_law_take (m_law_take s4.1 (60 : Int)).2 ((a_times.length : Int) + (1 : Int))).2 (2 : Int) ; have := take_bd (m_law_take s4.1 (60 : Int)).2 ((a_times.length : Int) + (1 : Int)) ; have := take_bd s4.1 (60 : Int) ; first | assumption | omega | decide | (simp only [Bool.and_eq_true, Bool.or_eq_true, Bool.not_eq_true', Bool.not_eq_false', Bool.or_eq_false_iff, Bool.and_eq_false_imp, decide_eq_true_eq, decide_eq_false_iff_not, List.length_append, List.length_cons, List.length_nil, List.length_map, List.length_reverse, irange_len, sizeLine_eq, CMul, CDiv, CPow] at *; first | omega | decide)) (by /-_law_quiet_right:24 high ix [(m_law_take v11.1 (80 : Int)).1, ((m_law_size (m_law_take v11.1 (80 : Int)).2 a_script).1 % (100000000000000000000000000 : Int))] (if (decide ((m_law_take (m_law_size (m_law_take v11.1 (80 : Int)).2 a_script).2 (4 : Int)).1 = (0 : Int))) = true then (1 : Int) else 0)-/ have := take_bd v11.1 (80 : Int) ; have := take_bd (m_law_size (m_law_take v11.1 (80 : Int)).2 a_script).2 (4 : Int) ; have := take_bd (m_law_take (m_law_take s4.1 (60 : Int)).2 ((a_times.length : Int) + (1 : Int))).2 (2 : Int) ; have := take_bd (m_law_take s4.1 (60 : Int)).2 ((a_times.length : Int) + (1 : Int)) ; have := take_bd s4.1 (60 : Int) ; first | assumption | omega | decide | (simp only [Bool.and_eq_true, Bool.or_eq_true, Bool.not_eq_true', Bool.not_eq_false', Bool.or_eq_false_iff, Bool.and_eq_false_imp, decide_eq_true_eq, decide_eq_false_iff_not, List.length_append, List.length_cons, List.length_nil, List.length_map, List.length_reverse, irange_len, sizeLine_eq, CMul, CDiv, CPow] at *; first | omega | decide)))) r_int0) DV.nil))) rfl (by /-_law_quiet_right:25 append to s4.2-/ first | assumption | omega | decide | (simp only [Bool.and_eq_true, Bool.or_eq_true, Bool.not_eq_true', Bool.not_eq_false', Bool.or_eq_false_iff, Bool.and_eq_false_imp, decide_eq_true_eq, decide_eq_false_iff_not, List.length_append, List.length_cons, List.length_nil, List.length_map, List.length_reverse, irange_len, sizeLine_eq, CMul, CDiv, CPow] at *; first | omega | decide)) (wi (wi (wi (wi (wi (wi (wi (wi wn))))))))) (fun v13 h14 => by have h14_l1 : (v13.2).length = (s4.2).length + 1 := (congrArg (fun p : ((List Int) × (List (Int × Int))) => (p.2).length) h14).trans (by simp only [List.length_append, List.length_cons, List.length_nil, List.length_map, List.length_reverse, irange_len, List.length_dropLast, setI, List.length_set]); exact (DB.szO (i := 0) (ca := PyData.int) (xs := v13.1) rfl fun hz_v13_1 => (DB.szO (i := 3) (ca := (c2 PyData.int PyData.int)) (xs := v13.2) rfl fun hz_v13_2 => (DB.endS (wi (wi (wi (wi (we (we (wi (wi wn))))))))))))))))⟩)) (fun v15 h16 => (DB.stepO (fun s17 => [oL p_draws PyData.int v15.1, .val ((cL PyData.int) a_script), .val ((cT PyData.int) a_times), oL q1 (c2 PyData.int PyData.int) v15.2, .em, .em, .em, .em]) (Rt__law_quiet_right p_draws a_draws a_script a_times) (DS.forO_ PassesOwn.never rfl (fun s17 => [oL p_draws PyData.int v15.1, .val ((cL PyData.int) a_script), .val ((cT PyData.int) a_times), oL q1 (c2 PyData.int PyData.int) v15.2, .em, .em, .em, .em]) (Rt__law_quiet_right p_draws a_draws a_script a_times) (fun (s17 : Unit) (x18 : (Int × Int)) => ((bnd (m_law_quiet a_times x18.1 x18.2) fun (v24 : (Int × Int)) => (if (!(decide ((mlongest_quiet a_times x18.1 x18.2) = v24))) = true then (.rt (false, v15.1)) else (if ((decide ((x18.2 - x18.1) ≤ (90 : Int))) && ((!decide ((m_law_by_minutes a_times x18.1 x18.2) = v24)))) = true then (.rt (false, v15.1)) else (.nx ())))) : Out Unit (Bool × (List Int)))) () (DX.seq (c := (c2 PyData.int PyData.int)) (xs := v15.2) (DQ.own (i := 3) rfl (.inl rfl) rfl)) (wi (wi (wi (wi (wi (wi (wi (wi wn)))))))) (fun _ => rfl) (fun pre19 x18 post20 s17 he21 hB22 hs23 => by have hmem := mem_mid he21; have hmid := mid_len he21; exact ⟨_, _, (DG.tup rfl (DGl.cons (DG.name (i := 5) sc_law_quiet_right.nd rfl (.inl rfl)) (DGl.cons (DG.name (i := 6) sc_law_quiet_right.nd rfl (.inl rfl)) DGl.nil)) 2), (DB.step (α := (Int × Int)) (fun v24 => [oL p_draws PyData.int v15.1, .val ((cL PyData.int) a_script), .val ((cT PyData.int) a_times), oL q1 (c2 PyData.int PyData.int) v15.2, .em, .val (PyData.int x18.1), .val (PyData.int x18.2), .val ((c2 PyData.int PyData.int) v24)]) (DS.set (i := 7) sc_law_quiet_right.nd rfl (.inl rfl) (DE.call c_law_quiet (hr.mono (by decide)) (by rfl) (DA.cons (DE.var (i := 2) rfl (.inl rfl) rfl) (DA.cons (DE.var (i := 5) rfl (.inl rfl) rfl) (DA.cons (DE.var (i := 6) rfl (.inl rfl) rfl) DA.nil))) ⟨a_times, x18.1, x18.2, rfl, (by /-_law_quiet_right:26 pre of _law_quiet-/ first | assumption | omega | decide | (simp only [Bool.and_eq_true, Bool.or_eq_true, Bool.not_eq_true', Bool.not_eq_false', Bool.or_eq_false_iff, Bool.and_eq_false_imp, decide_eq_true_eq, decide_eq_false_iff_not, List.length_append, List.length_cons, List.length_nil, List.length_map, List.length_reverse, irange_len, sizeLine_eq, CMul, CDiv, CPow] at *; first | omega | decide)), rfl, rfl⟩ [] rfl (by decide) rfl) (wi (wi (wi (wi (wi (wi (wi (wi wn))))))))) (fun v24 h25 => (DB.ifR (DT.not (DT.val (DE.eq (DE.call c_law_same (hr.mono (by decide)) (by rfl) (DA.cons (DE.call clongest_quiet (hr.mono (by decide)) (by rfl) (DA.cons (DE.var (i := 2) rfl (.inl rfl) rfl) (DA.cons (DE.var (i := 5) rfl (.inl rfl) rfl) (DA.cons (DE.var (i := 6) rfl (.inl rfl) rfl) DA.nil))) ⟨a_times, x18.1, x18.2, rfl, (by /-_law_quiet_right:27 pre of longest_quiet-/ first | assumption | omega | decide | (simp only [Bool.and_eq_true, Bool.or_eq_true, Bool.not_eq_true', Bool.not_eq_false', Bool.or_eq_false_iff, Bool.and_eq_false_imp, decide_eq_true_eq, decide_eq_false_iff_not, List.length_append, List.length_cons, List.length_nil, List.length_map, List.length_reverse, irange_len, sizeLine_eq, CMul, CDiv, CPow] at *; first | omega | decide)), rfl, rfl⟩ [] rfl (by decide) rfl) (DA.cons (DE.var (i := 7) rfl (.inl rfl) rfl) DA.nil)) ⟨_, _, rfl, (show Sm 8 (c2 PyData.int PyData.int) from (sm_2 sm_int sm_int)).ok (mlongest_quiet a_times x18.1 x18.2), (show Sm 8 (c2 PyData.int PyData.int) from (sm_2 sm_int sm_int)).ok v24, rfl, rfl⟩ [] rfl (by decide) rfl) (congrArg PyData.bool (sm_dec (c := (c2 PyData.int PyData.int)) (sm_2 sm_int sm_int) (mlongest_quiet a_times x18.1 x18.2) v24))))) (fun hb26 => (DB.ret DE.bl (And.intro rfl (kp_o (kp_v (kp_v kp_n)))))) (fun hb26 => (DB.nil (DB.ifR (DT.of_w (DW.and (DT.cmp op_le (DE.bin op_sub (DE.var (i := 6) rfl (.inl rfl) rfl) (DE.var (i := 5) rfl (.inl rfl) rfl) r_int0) DE.int r_bl0 (nomark _)) (fun hb27 => (DW.and1 (DT.cmp (op_neD (Nat.lt_of_le_of_lt (Nat.add_le_add_left (show 64 ≤ 200 by decide) _) hu)) (DE.call c_law_by_minutes (hr.mono (by decide)) (by rfl) (DA.cons (DE.var (i := 2) rfl (.inl rfl) rfl) (DA.cons (DE.var (i := 5) rfl (.inl rfl) rfl) (DA.cons (DE.var (i := 6) rfl (.inl rfl) rfl) DA.nil))) ⟨a_times, x18.1, x18.2, rfl, rfl, rfl⟩ [] rfl (by decide) rfl) (DE.var (i := 7) rfl (.inl rfl) rfl) (r_neC (c := (c2 PyData.int PyData.int)) (x := (m_law_by_minutes a_times x18.1 x18.2)) (y := v24) (eqc_2 eqc_int eqc_int)) (nomark _)))))) (fun hb28 => (DB.ret DE.bl (And.intro rfl (kp_o (kp_v (kp_v kp_n)))))) (fun hb28 => (DB.nil (DB.endO (wi (wi (wi (wi (wi (we (we (we wn)))))))))))))))))⟩)) (fun s29 h30 => (DB.ret DE.bl (And.intro rfl (kp_o (kp_v (kp_v kp_n)))))) (fun _ _ _ z => z) unbk_ne)))))))))
end W

set_option Elab.async false
set_option linter.all false
set_option maxRecDepth 100000
namespace W
open PySem L2 PySem.Spec PyProof.Rows PD
set_option maxHeartbeats 4000000 in
theorem ok_law_counts {P : Program} {w : World} {K : PySem.W.Frag} {mg : Str → Option Value} {base : Heap} {f : Addr} {fd : FuncData} (F : FunD K "_law_counts" "_law_counts" (defArgs s_law_counts) (defBody s_law_counts) (defScope s_law_counts) [] [] f fd) (hm : mg "_law_counts" = some (.ref f)) (bi : Bi mg) (c_law_in : Cal P w K mg base 1 "_law_in" R_law_in) : Cal P w K mg base 2 "_law_counts" R_law_counts := by
  refine cal_of (k := 1) F sc_law_counts hm (FunD.bindsN F fun _ _ _ _ _ _ us hl => match us, hl with | [_, _, _, _], _ => rfl) (by decide) (fun γ r γ' h => by obtain ⟨_, _, _, _, rfl, _⟩ := h; rfl) (fun cdv A outer s H E hr γ r γ' h => ?_)
  obtain ⟨a_times, a_wide, a_many, a_dead, rfl, rfl, rfl⟩ := h
  have hu := hu200 hr
  show DB _ _ [.val ((cT PyData.int) a_times), .val (PyData.int a_wide), .val (PyData.int a_many), .val (PyData.int a_dead), .em, .em, .em, .em, .em] (Phi__law_counts a_times a_wide a_many a_dead (m_law_counts a_times a_wide a_many a_dead))
  unfold m_law_counts
  exact (DB.sz (i := 0) (ca := PyData.int) rfl fun hsz_times => (DB.step (α := (Option (Int × Int))) (fun v1 => [.val ((cT PyData.int) a_times), .val (PyData.int a_wide), .val (PyData.int a_many), .val (PyData.int a_dead), .val ((cO (c2 PyData.int PyData.int)) v1), .em, .em, .em, .em]) (DS.set (i := 4) sc_law_counts.nd rfl (.inl rfl) DE.non (wi (wi (wi (wi (wi (wi (wi (wi (wi wn)))))))))) (fun v1 h2 => (DB.step (α := (Option Int)) (fun v3 => [.val ((cT PyData.int) a_times), .val (PyData.int a_wide), .val (PyData.int a_many), .val (PyData.int a_dead), .val ((cO (c2 PyData.int PyData.int)) v1), .val ((cO PyData.int) v3), .em, .em, .em]) (DS.set (i := 5) sc_law_counts.nd rfl (.inl rfl) DE.non (wi (wi (wi (wi (wi (wi (wi (wi (wi wn)))))))))) (fun v3 h4 => (DB.stepF (α := (List Int)) (fun q5 v6 => [.val ((cT PyData.int) a_times), .val (PyData.int a_wide), .val (PyData.int a_many), .val (PyData.int a_dead), .val ((cO (c2 PyData.int PyData.int)) v1), .val ((cO PyData.int) v3), oL q5 PyData.int v6, .em, .em]) (DS.setF (i := 6) sc_law_counts.nd rfl (.inl rfl) (DF.lst DV.nil) (fun q _ => ⟨q, (wi (wi (wi (wi (wi (wi (wi (wi (wi wn)))))))))⟩)) (fun q5 v6 h7 => by have h7_l0 : (v6).length = 0 := (congrArg (fun p : (List Int) => (p).length) h7).trans (by simp only [List.length_append, List.length_cons, List.length_nil, List.length_map, List.length_reverse, irange_len, List.length_dropLast, setI, List.length_set]); exact (DB.szO (i := 6) (ca := PyData.int) (xs := v6) rfl fun hz_v6 => (DB.step (α := ((Option (Int × Int)) × (Option Int) × (List Int))) (fun v36 => [.val ((cT PyData.int) a_times), .val (PyData.int a_wide), .val (PyData.int a_many), .val (PyData.int a_dead), .val ((cO (c2 PyData.int PyData.int)) v36.1), .val ((cO PyData.int) v36.2.1), oL q5 PyData.int v36.2.2, .em, .em]) (DS.forS PassesOwn.never rfl (fun s8 => [.val ((cT PyData.int) a_times), .val (PyData.int a_wide), .val (PyData.int a_many), .val (PyData.int a_dead), .val ((cO (c2 PyData.int PyData.int)) s8.1), .val ((cO PyData.int) s8.2.1), oL q5 PyData.int s8.2.2, .em, .em]) (fun (s8 : ((Option (Int × Int)) × (Option Int) × (List Int))) (x9 : Int) => (bnd (m_law_in a_times (ix a_times x9) ((ix a_times x9) + a_wide)) fun (v15 : Int) => (bnd (if (((s8.1).isNone) || (decide ((s8.1.getD default).1 < v15))) = true then (bnd (some (v15, (ix a_times x9))) fun (v21 : (Option (Int × Int))) => v21) else s8.1) fun (v19 : (Option (Int × Int))) => (bnd (if (((s8.2.1).isNone) && ((decide (a_many ≤ v15)) && (decide (((2 : Int) * (m_law_in a_times ((ix a_times x9) - a_wide) (ix a_times x9))) ≤ v15)))) = true then (bnd (some (ix a_times x9)) fun (v28 : (Option Int)) => v28) else s8.2.1) fun (v26 : (Option Int)) => (bnd (if ((decide ((s8.2.2.length : Int) = (0 : Int))) || (decide (((ix s8.2.2 (-(1 : Int))) + a_dead) < (ix a_times x9)))) = true then (bnd (s8.2.2 ++ [(ix a_times x9)]) fun (v34 : (List Int)) => v34) else s8.2.2) fun (v32 : (List Int)) => (v19, v26, v32)))))) (v1, v3, v6) (DX.rng1 (by rfl) bi.range_ (DE.lenC (ca := PyData.int) (by rfl) bi.len_ (DQ.tup (DE.var (i := 0) rfl (.inl rfl) rfl))) (by /-_law_counts:1 range low (a_times.length : Int)-/ first | assumption | omega | decide | (simp only [Bool.and_eq_true, Bool.or_eq_true, Bool.not_eq_true', Bool.not_eq_false', Bool.or_eq_false_iff, Bool.and_eq_false_imp, decide_eq_true_eq, decide_eq_false_iff_not, List.length_append, List.length_cons, List.length_nil, List.length_map, List.length_reverse, irange_len, sizeLine_eq, CMul, CDiv, CPow] at *; first | omega | decide)) (by /-_law_counts:2 range high (a_times.length : Int)-/ first | assumption | omega | decide | (simp only [Bool.and_eq_true, Bool.or_eq_true, Bool.not_eq_true', Bool.not_eq_false', Bool.or_eq_false_iff, Bool.and_eq_false_imp, decide_eq_true_eq, decide_eq_false_iff_not, List.length_append, List.length_cons, List.length_nil, List.length_map, List.length_reverse, irange_len, sizeLine_eq, CMul, CDiv, CPow] at *; first | omega | decide))) (wi (wi (wi (wi (wi (wi (wi (wi (wi wn))))))))) (fun _ => trivial) (fun pre10 x9 post11 s8 he12 hB13 hs14 => by have hrng := irange_mem (mem_mid he12); have hmid := mid_len he12; have hgr_2 := fold_len (fun s8 : ((Option (Int × Int)) × (Option Int) × (List Int)) => (s8.2.2).length) 1 (by intro q0 x9; simp only [bnd, onx, unbk]; try ((repeat' split) <;> first | trivial | omega | (simp only [lenO, List.length_append, List.length_cons, List.length_nil, List.length_set, setI, List.length_dropLast, List.length_reverse] <;> omega))) hs14; exact ⟨_, _, (DG.name (i := 7) sc_law_counts.nd rfl (.inl rfl)), (DB.step (α := Int) (fun v15 => [.val ((cT PyData.int) a_times), .val (PyData.int a_wide), .val (PyData.int a_many), .val (PyData.int a_dead), .val ((cO (c2 PyData.int PyData.int)) s8.1), .val ((cO PyData.int) s8.2.1), oL q5 PyData.int s8.2.2, .val (PyData.int x9), .val (PyData.int v15)]) (DS.set (i := 8) sc_law_counts.nd rfl (.inl rfl) (DE.call c_law_in (hr.mono (by decide)) (by rfl) (DA.cons (DE.var (i := 0) rfl (.inl rfl) rfl) (DA.cons (DE.ix (DQ.tup (DE.var (i := 0) rfl (.inl rfl) rfl)) (DE.var (i := 7) rfl (.inl rfl) rfl) (atI_ix (c := PyData.int) (xs := a_times) (k := x9) (by /-_law_counts:3 low ix a_times x9-/ first | assumption | omega | decide | (simp only [Bool.and_eq_true, Bool.or_eq_true, Bool.not_eq_true', Bool.not_eq_false', Bool.or_eq_false_iff, Bool.and_eq_false_imp, decide_eq_true_eq, decide_eq_false_iff_not, List.length_append, List.length_cons, List.length_nil, List.length_map, List.length_reverse, irange_len, sizeLine_eq, CMul, CDiv, CPow] at *; first | omega | decide)) (by /-_law_counts:4 high ix a_times x9-/ first | assumption | omega | decide | (simp only [Bool.and_eq_true, Bool.or_eq_true, Bool.not_eq_true', Bool.not_eq_false', Bool.or_eq_false_iff, Bool.and_eq_false_imp, decide_eq_true_eq, decide_eq_false_iff_not, List.length_append, List.length_cons, List.length_nil, List.length_map, List.length_reverse, irange_len, sizeLine_eq, CMul, CDiv, CPow] at *; first | omega | decide)))) (DA.cons (DE.bin op_add (DE.ix (DQ.tup (DE.var (i := 0) rfl (.inl rfl) rfl)) (DE.var (i := 7) rfl (.inl rfl) rfl) (atI_ix (c := PyData.int) (xs := a_times) (k := x9) (by /-_law_counts:5 low ix a_times x9-/ first | assumption | omega | decide | (simp only [Bool.and_eq_true, Bool.or_eq_true, Bool.not_eq_true', Bool.not_eq_false', Bool.or_eq_false_iff, Bool.and_eq_false_imp, decide_eq_true_eq, decide_eq_false_iff_not, List.length_append, List.length_cons, List.length_nil, List.length_map, List.length_reverse, irange_len, sizeLine_eq, CMul, CDiv, CPow] at *; first | omega | decide)) (by /-_law_counts:6 high ix a_times x9-/ first | assumption | omega | decide | (simp only [Bool.and_eq_true, Bool.or_eq_true, Bool.not_eq_true', Bool.not_eq_false', Bool.or_eq_false_iff, Bool.and_eq_false_imp, decide_eq_true_eq, decide_eq_false_iff_not, List.length_append, List.length_cons, List.length_nil, List.length_map, List.length_reverse, irange_len, sizeLine_eq, CMul, CDiv, CPow] at *; first | omega | decide)))) (DE.var (i := 1) rfl (.inl rfl) rfl) r_int0) DA.nil))) ⟨a_times, (ix a_times x9), ((ix a_times x9) + a_wide), rfl, rfl, rfl⟩ [] rfl (by decide) rfl) (wi (wi (wi (wi (wi (wi (wi (wi (wi wn)))))))))) (fun v15 h16 => (DB.step (α := (Option (Int × Int))) (fun v19 => [.val ((cT PyData.int) a_times), .val (PyData.int a_wide), .val (PyData.int a_many), .val (PyData.int a_dead), .val ((cO (c2 PyData.int PyData.int)) v19), .val ((cO PyData.int) s8.2.1), oL q5 PyData.int s8.2.2, .val (PyData.int x9), .val (PyData.int v15)]) (DS.iteS (DT.of_w (DW.or (DT.cmp op_isN (DE.var (i := 4) rfl (.inl rfl) rfl) DE.non (r_isN (isNon_cO (c1 := (c2 PyData.int PyData.int)) (fun _ => rfl) s8.1)) (nomark _)) (fun hb17 => (DW.or1 (DT.cmp op_gt (DE.var (i := 8) rfl (.inl rfl) rfl) (DE.ix (DQ.tup (DE.eq (DE.var (i := 4) rfl (.inl rfl) rfl) (cO_get (c1 := (c2 PyData.int PyData.int)) (o := s8.1) (by /-_law_counts:7 not None: s8.1-/ first | assumption | omega | decide | (simp only [Bool.and_eq_true, Bool.or_eq_true, Bool.not_eq_true', Bool.not_eq_false', Bool.or_eq_false_iff, Bool.and_eq_false_imp, decide_eq_true_eq, decide_eq_false_iff_not, List.length_append, List.length_cons, List.length_nil, List.length_map, List.length_reverse, irange_len, sizeLine_eq, CMul, CDiv, CPow] at *; first | omega | decide))))) DE.int at_0) r_bl0 (nomark _)))))) (fun hb18 => (DB.step (α := (Option (Int × Int))) (fun v21 => [.val ((cT PyData.int) a_times), .val (PyData.int a_wide), .val (PyData.int a_many), .val (PyData.int a_dead), .val ((cO (c2 PyData.int PyData.int)) v21), .val ((cO PyData.int) s8.2.1), oL q5 PyData.int s8.2.2, .val (PyData.int x9), .val (PyData.int v15)]) (DS.set (i := 4) sc_law_counts.nd rfl (.inl rfl) (DE.tup (DV.cons (DE.var (i := 8) rfl (.inl rfl) rfl) (DV.cons (DE.ix (DQ.tup (DE.var (i := 0) rfl (.inl rfl) rfl)) (DE.var (i := 7) rfl (.inl rfl) rfl) (atI_ix (c := PyData.int) (xs := a_times) (k := x9) (by /-_law_counts:8 low ix a_times x9-/ first | assumption | omega | decide | (simp only [Bool.and_eq_true, Bool.or_eq_true, Bool.not_eq_true', Bool.not_eq_false', Bool.or_eq_false_iff, Bool.and_eq_false_imp, decide_eq_true_eq, decide_eq_false_iff_not, List.length_append, List.length_cons, List.length_nil, List.length_map, List.length_reverse, irange_len, sizeLine_eq, CMul, CDiv, CPow] at *; first | omega | decide)) (by /-_law_counts:9 high ix a_times x9-/ first | assumption | omega | decide | (simp only [Bool.and_eq_true, Bool.or_eq_true, Bool.not_eq_true', Bool.not_eq_false', Bool.or_eq_false_iff, Bool.and_eq_false_imp, decide_eq_true_eq, decide_eq_false_iff_not, List.length_append, List.length_cons, List.length_nil, List.length_map, List.length_reverse, irange_len, sizeLine_eq, CMul, CDiv, CPow] at *; first | omega | decide)))) DV.nil))) (wi (wi (wi (wi (wi (wi (wi (wi (wi wn)))))))))) (fun v21 h22 => (DB.endS (wi (wi (wi (wi (wi (wi (wi (wi (wi wn))))))))))))) (fun hb18 => (DB.endS (wi (wi (wi (wi (wi (wi (wi (wi (wi wn)))))))))))) (fun v19 h20 => (DB.step (α := (Option Int)) (fun v26 => [.val ((cT PyData.int) a_times), .val (PyData.int a_wide), .val (PyData.int a_many), .val (PyData.int a_dead), .val ((cO (c2 PyData.int PyData.int)) v19), .val ((cO PyData.int) v26), oL q5 PyData.int s8.2.2, .val (PyData.int x9), .val (PyData.int v15)]) (DS.iteS (DT.of_w (DW.and (DT.cmp op_isN (DE.var (i := 5) rfl (.inl rfl) rfl) DE.non (r_isN (isNon_cO (c1 := PyData.int) (fun _ => rfl) s8.2.1)) (nomark _)) (fun hb23 => (DW.and (DT.cmp op_ge (DE.var (i := 8) rfl (.inl rfl) rfl) (DE.var (i := 2) rfl (.inl rfl) rfl) r_bl0 (nomark _)) (fun hb24 => (DW.and1 (DT.cmp op_ge (DE.var (i := 8) rfl (.inl rfl) rfl) (DE.bin op_mul DE.int (DE.call c_law_in (hr.mono (by decide)) (by rfl) (DA.cons (DE.var (i := 0) rfl (.inl rfl) rfl) (DA.cons (DE.bin op_sub (DE.ix (DQ.tup (DE.var (i := 0) rfl (.inl rfl) rfl)) (DE.var (i := 7) rfl (.inl rfl) rfl) (atI_ix (c := PyData.int) (xs := a_times) (k := x9) (by /-_law_counts:10 low ix a_times x9-/ first | assumption | omega | decide | (simp only [Bool.and_eq_true, Bool.or_eq_true, Bool.not_eq_true', Bool.not_eq_false', Bool.or_eq_false_iff, Bool.and_eq_false_imp, decide_eq_true_eq, decide_eq_false_iff_not, List.length_append, List.length_cons, List.length_nil, List.length_map, List.length_reverse, irange_len, sizeLine_eq, CMul, CDiv, CPow] at *; first | omega | decide)) (by /-_law_counts:11 high ix a_times x9-/ first | assumption | omega | decide | (simp only [Bool.and_eq_true, Bool.or_eq_true, Bool.not_eq_true', Bool.not_eq_false', Bool.or_eq_false_iff, Bool.and_eq_false_imp, decide_eq_true_eq, decide_eq_false_iff_not, List.length_append, List.length_cons, List.length_nil, List.length_map, List.length_reverse, irange_len, sizeLine_eq, CMul, CDiv, CPow] at *; first | omega | decide)))) (DE.var (i := 1) rfl (.inl rfl) rfl) r_int0) (DA.cons (DE.ix (DQ.tup (DE.var (i := 0) rfl (.inl rfl) rfl)) (DE.var (i := 7) rfl (.inl rfl) rfl) (atI_ix (c := PyData.int) (xs := a_times) (k := x9) (by /-_law_counts:12 low ix a_times x9-/ first | assumption | omega | decide | (simp only [Bool.and_eq_true, Bool.or_eq_true, Bool.not_eq_true', Bool.not_eq_false', Bool.or_eq_false_iff, Bool.and_eq_false_imp, decide_eq_true_eq, decide_eq_false_iff_not, List.length_append, List.length_cons, List.length_nil, List.length_map, List.length_reverse, irange_len, sizeLine_eq, CMul, CDiv, CPow] at *; first | omega | decide)) (by /-_law_counts:13 high ix a_times x9-/ first | assumption | omega | decide | (simp only [Bool.and_eq_true, Bool.or_eq_true, Bool.not_eq_true', Bool.not_eq_false', Bool.or_eq_false_iff, Bool.and_eq_false_imp, decide_eq_true_eq, decide_eq_false_iff_not, List.length_append, List.length_cons, List.length_nil, List.length_map, List.length_reverse, irange_len, sizeLine_eq, CMul, CDiv, CPow] at *; first | omega | decide)))) DA.nil))) ⟨a_times, ((ix a_times x9) - a_wide), (ix a_times x9), rfl, rfl, rfl⟩ [] rfl (by decide) rfl) (r_int (f := fun i j => i * j) (by /-_law_counts:14 mul (2 : Int), (m_law_in a_times ((ix a_times x9) - a_wide) (ix a_times x9))-/ first | assumption | omega | decide | (simp only [Bool.and_eq_true, Bool.or_eq_true, Bool.not_eq_true', Bool.not_eq_false', Bool.or_eq_false_iff, Bool.and_eq_false_imp, decide_eq_true_eq, decide_eq_false_iff_not, List.length_append, List.length_cons, List.length_nil, List.length_map, List.length_reverse, irange_len, sizeLine_eq, CMul, CDiv, CPow] at *; first | omega | decide)))) r_bl0 (nomark _)))))))) (fun hb25 => (DB.step (α := (Option Int)) (fun v28 => [.val ((cT PyData.int) a_times), .val (PyData.int a_wide), .val (PyData.int a_many), .val (PyData.int a_dead), .val ((cO (c2 PyData.int PyData.int)) v19), .val ((cO PyData.int) v28), oL q5 PyData.int s8.2.2, .val (PyData.int x9), .val (PyData.int v15)]) (DS.set (i := 5) sc_law_counts.nd rfl (.inl rfl) (DE.ix (DQ.tup (DE.var (i := 0) rfl (.inl rfl) rfl)) (DE.var (i := 7) rfl (.inl rfl) rfl) (atI_ix (c := PyData.int) (xs := a_times) (k := x9) (by /-_law_counts:15 low ix a_times x9-/ first | assumption | omega | decide | (simp only [Bool.and_eq_true, Bool.or_eq_true, Bool.not_eq_true', Bool.not_eq_false', Bool.or_eq_false_iff, Bool.and_eq_false_imp, decide_eq_true_eq, decide_eq_false_iff_not, List.length_append, List.length_cons, List.length_nil, List.length_map, List.length_reverse, irange_len, sizeLine_eq, CMul, CDiv, CPow] at *; first | omega | decide)) (by /-_law_counts:16 high ix a_times x9-/ first | assumption | omega | decide | (simp only [Bool.and_eq_true, Bool.or_eq_true, Bool.not_eq_true', Bool.not_eq_false', Bool.or_eq_false_iff, Bool.and_eq_false_imp, decide_eq_true_eq, decide_eq_false_iff_not, List.length_append, List.length_cons, List.length_nil, List.length_map, List.length_reverse, irange_len, sizeLine_eq, CMul, CDiv, CPow] at *; first | omega | decide)))) (wi (wi (wi (wi (wi (wi (wi (wi (wi wn)))))))))) (fun v28 h29 => (DB.endS (wi (wi (wi (wi (wi (wi (wi (wi (wi wn))))))))))))) (fun hb25 => (DB.endS (wi (wi (wi (wi (wi (wi (wi (wi (wi wn)))))))))))) (fun v26 h27 => (DB.step (α := (List Int)) (fun v32 => [.val ((cT PyData.int) a_times), .val (PyData.int a_wide), .val (PyData.int a_many), .val (PyData.int a_dead), .val ((cO (c2 PyData.int PyData.int)) v19), .val ((cO PyData.int) v26), oL q5 PyData.int v32, .val (PyData.int x9), .val (PyData.int v15)]) (DS.iteS (DT.of_w (DW.or (DT.cmp op_eq (DE.lenC (ca := PyData.int) (by rfl) bi.len_ (DQ.own (i := 6) rfl (.inl rfl) rfl)) DE.int r_eqI (nomark _)) (fun hb30 => (DW.or1 (DT.cmp op_gt (DE.ix (DQ.tup (DE.var (i := 0) rfl (.inl rfl) rfl)) (DE.var (i := 7) rfl (.inl rfl) rfl) (atI_ix (c := PyData.int) (xs := a_times) (k := x9) (by /-_law_counts:17 low ix a_times x9-/ first | assumption | omega | decide | (simp only [Bool.and_eq_true, Bool.or_eq_true, Bool.not_eq_true', Bool.not_eq_false', Bool.or_eq_false_iff, Bool.and_eq_false_imp, decide_eq_true_eq, decide_eq_false_iff_not, List.length_append, List.length_cons, List.length_nil, List.length_map, List.length_reverse, irange_len, sizeLine_eq, CMul, CDiv, CPow] at *; first | omega | decide)) (by /-_law_counts:18 high ix a_times x9-/ first | assumption | omega | decide | (simp only [Bool.and_eq_true, Bool.or_eq_true, Bool.not_eq_true', Bool.not_eq_false', Bool.or_eq_false_iff, Bool.and_eq_false_imp, decide_eq_true_eq, decide_eq_false_iff_not, List.length_append, List.length_cons, List.length_nil, List.length_map, List.length_reverse, irange_len, sizeLine_eq, CMul, CDiv, CPow] at *; first | omega | decide)))) (DE.bin op_add (DE.ix (DQ.own (i := 6) rfl (.inl rfl) rfl) (DE.un un_neg DE.int r_neg) (atI_ix (c := PyData.int) (xs := s8.2.2) (k := (-(1 : Int))) (by /-_law_counts:19 low ix s8.2.2 (-(1 : Int))-/ first | assumption | omega | decide | (simp only [Bool.and_eq_true, Bool.or_eq_true, Bool.not_eq_true', Bool.not_eq_false', Bool.or_eq_false_iff, Bool.and_eq_false_imp, decide_eq_true_eq, decide_eq_false_iff_not, List.length_append, List.length_cons, List.length_nil, List.length_map, List.length_reverse, irange_len, sizeLine_eq, CMul, CDiv, CPow] at *; first | omega | decide)) (by /-_law_counts:20 high ix s8.2.2 (-(1 : Int))-/ first | assumption | omega | decide | (simp only [Bool.and_eq_true, Bool.or_eq_true, Bool.not_eq_true', Bool.not_eq_false', Bool.or_eq_false_iff, Bool.and_eq_false_imp, decide_eq_true_eq, decide_eq_false_iff_not, List.length_append, List.length_cons, List.length_nil, List.length_map, List.length_reverse, irange_len, sizeLine_eq, CMul, CDiv, CPow] at *; first | omega | decide)))) (DE.var (i := 3) rfl (.inl rfl) rfl) r_int0) r_bl0 (nomark _)))))) (fun hb31 => (DB.step (α := (List Int)) (fun v34 => [.val ((cT PyData.int) a_times), .val (PyData.int a_wide), .val (PyData.int a_many), .val (PyData.int a_dead), .val ((cO (c2 PyData.int PyData.int)) v19), .val ((cO PyData.int) v26), oL q5 PyData.int v34, .val (PyData.int x9), .val (PyData.int v15)]) (DS.appendC (i := 6) (ca := PyData.int) rfl (.inl rfl) rfl (DE.ix (DQ.tup (DE.var (i := 0) rfl (.inl rfl) rfl)) (DE.var (i := 7) rfl (.inl rfl) rfl) (atI_ix (c := PyData.int) (xs := a_times) (k := x9) (by /-_law_counts:21 low ix a_times x9-/ first | assumption | omega | decide | (simp only [Bool.and_eq_true, Bool.or_eq_true, Bool.not_eq_true', Bool.not_eq_false', Bool.or_eq_false_iff, Bool.and_eq_false_imp, decide_eq_true_eq, decide_eq_false_iff_not, List.length_append, List.length_cons, List.length_nil, List.length_map, List.length_reverse, irange_len, sizeLine_eq, CMul, CDiv, CPow] at *; first | omega | decide)) (by /-_law_counts:22 high ix a_times x9-/ first | assumption | omega | decide | (simp only [Bool.and_eq_true, Bool.or_eq_true, Bool.not_eq_true', Bool.not_eq_false', Bool.or_eq_false_iff, Bool.and_eq_false_imp, decide_eq_true_eq, decide_eq_false_iff_not, List.length_append, List.length_cons, List.length_nil, List.length_map, List.length_reverse, irange_len, sizeLine_eq, CMul, CDiv, CPow] at *; first | omega | decide)))) rfl (by /-_law_counts:23 append to s8.2.2-/ first | assumption | omega | decide | (simp only [Bool.and_eq_true, Bool.or_eq_true, Bool.not_eq_true', Bool.not_eq_false', Bool.or_eq_false_iff, Bool.and_eq_false_imp, decide_eq_true_eq, decide_eq_false_iff_not, List.length_append, List.length_cons, List.length_nil, List.length_map, List.length_reverse, irange_len, sizeLine_eq, CMul, CDiv, CPow] at *; first | omega | decide)) (wi (wi (wi (wi (wi (wi (wi (wi (wi wn)))))))))) (fun v34 h35 => by have h35_l0 : (v34).length = (s8.2.2).length + 1 := (congrArg (fun p : (List Int) => (p).length) h35).trans (by simp only [List.length_append, List.length_cons, List.length_nil, List.length_map, List.length_reverse, irange_len, List.length_dropLast, setI, List.length_set]); exact (DB.szO (i := 6) (ca := PyData.int) (xs := v34) rfl fun hz_v34 => (DB.endS (wi (wi (wi (wi (wi (wi (wi (wi (wi wn)))))))))))))) (fun hb31 => (DB.endS (wi (wi (wi (wi (wi (wi (wi (wi (wi wn)))))))))))) (fun v32 h33 => (DB.endS (wi (wi (wi (wi (wi (wi (wi (we (we wn))))))))))))))))))⟩)) (fun v36 h37 => (DB.ret (DE.tup (DV.cons (DE.var (i := 4) rfl (.inl rfl) rfl) (DV.cons (DE.var (i := 5) rfl (.inl rfl) rfl) (DV.cons (DE.tuple (by rfl) bi.tuple_ (DQ.own (i := 6) rfl (.inl rfl) rfl)) DV.nil)))) (And.intro rfl (kp_v (kp_v (kp_v (kp_v kp_n))))))))))))))))
end W

set_option Elab.async false
set_option linter.all false
set_option maxRecDepth 100000
namespace W
open PySem L2 PySem.Spec PyProof.Rows PD
set_option maxHeartbeats 4000000 in
theorem ok_law_fading {P : Program} {w : World} {K : PySem.W.Frag} {mg : Str → Option Value} {base : Heap} {f : Addr} {fd : FuncData} (F : FunD K "_law_fading" "_law_fading" (defArgs s_law_fading) (defBody s_law_fading) (defScope s_law_fading) [] [] f fd) (hm : mg "_law_fading" = some (.ref f)) (bi : Bi mg) (c_law_in : Cal P w K mg base 1 "_law_in" R_law_in) : Cal P w K mg base 2 "_law_fading" R_law_fading := by
  refine cal_of (k := 1) F sc_law_fading hm (FunD.bindsN F fun _ _ _ _ _ _ us hl => match us, hl with | [_, _, _], _ => rfl) (by decide) (fun γ r γ' h => by obtain ⟨_, _, _, rfl, _⟩ := h; rfl) (fun cdv A outer s H E hr γ r γ' h => ?_)
  obtain ⟨a_times, a_begin, a_wide, rfl, hpre, rfl, rfl⟩ := h
  have hu := hu200 hr
  show DB _ _ [.val ((cT PyData.int) a_times), .val (PyData.int a_begin), .val (PyData.int a_wide), .em] (Phi__law_fading a_times a_begin a_wide (m_law_fading a_times a_begin a_wide))
  unfold m_law_fading
  exact (DB.sz (i := 0) (ca := PyData.int) rfl fun hsz_times => (DB.stepF (α := (List Int)) (fun q1 v2 => [.val ((cT PyData.int) a_times), .val (PyData.int a_begin), .val (PyData.int a_wide), oL q1 PyData.int v2]) (DS.setF (i := 3) sc_law_fading.nd rfl (.inl rfl) (DF.lst DV.nil) (fun q _ => ⟨q, (wi (wi (wi (wi wn))))⟩)) (fun q1 v2 h3 => by have h3_l0 : (v2).length = 0 := (congrArg (fun p : (List Int) => (p).length) h3).trans (by simp only [List.length_append, List.length_cons, List.length_nil, List.length_map, List.length_reverse, irange_len, List.length_dropLast, setI, List.length_set]); exact (DB.szO (i := 3) (ca := PyData.int) (xs := v2) rfl fun hz_v2 => (DB.step (α := (Int × Int × (List Int))) (fun v14 => [.val ((cT PyData.int) a_times), .val (PyData.int v14.1), .val (PyData.int v14.2.1), oL q1 PyData.int v14.2.2]) (DS.whileS PassesOwn.never (fun s4 => [.val ((cT PyData.int) a_times), .val (PyData.int s4.1), .val (PyData.int s4.2.1), oL q1 PyData.int s4.2.2]) (fun (s4 : (Int × Int × (List Int))) => ((decide ((0 : Int) < (a_times.length : Int))) && (decide (s4.1 ≤ (ix a_times (-(1 : Int))))))) (fun (s4 : (Int × Int × (List Int))) => (bnd (s4.2.2 ++ [(m_law_in a_times s4.1 (s4.1 + s4.2.1))]) fun (v8 : (List Int)) => (bnd (s4.1 + s4.2.1) fun (v10 : Int) => (bnd ((2 : Int) * s4.2.1) fun (v12 : Int) => (v10, v12, v8))))) (fun (s4 : (Int × Int × (List Int))) => (ix a_times (-1) - s4.1 + 1).toNat) (fun (s4 : (Int × Int × (List Int))) => 1 ≤ s4.2.1 ∧ (2:Int)^(s4.2.2.length) ≤ s4.2.1 ∧ a_begin + (2:Int)^(s4.2.2.length) - 1 ≤ s4.1) (a_begin, a_wide, v2) (wi (wi (wi (wi wn)))) (by exact fad_start (by assumption) hpre.2.1) (fun s4 hi5 => (DT.of_w (DW.and (DT.cmp op_gt (DE.lenC (ca := PyData.int) (by rfl) bi.len_ (DQ.tup (DE.var (i := 0) rfl (.inl rfl) rfl))) DE.int r_bl0 (nomark _)) (fun hb7 => (DW.and1 (DT.cmp op_ge (DE.ix (DQ.tup (DE.var (i := 0) rfl (.inl rfl) rfl)) (DE.un un_neg DE.int r_neg) (atI_ix (c := PyData.int) (xs := a_times) (k := (-(1 : Int))) (by /-_law_fading:1 low ix a_times (-(1 : Int))-/ first | assumption | omega | decide | (simp only [Bool.and_eq_true, Bool.or_eq_true, Bool.not_eq_true', Bool.not_eq_false', Bool.or_eq_false_iff, Bool.and_eq_false_imp, decide_eq_true_eq, decide_eq_false_iff_not, List.length_append, List.length_cons, List.length_nil, List.length_map, List.length_reverse, irange_len, sizeLine_eq, CMul, CDiv, CPow] at *; first | omega | decide)) (by /-_law_fading:2 high ix a_times (-(1 : Int))-/ first | assumption | omega | decide | (simp only [Bool.and_eq_true, Bool.or_eq_true, Bool.not_eq_true', Bool.not_eq_false', Bool.or_eq_false_iff, Bool.and_eq_false_imp, decide_eq_true_eq, decide_eq_false_iff_not, List.length_append, List.length_cons, List.length_nil, List.length_map, List.length_reverse, irange_len, sizeLine_eq, CMul, CDiv, CPow] at *; first | omega | decide)))) (DE.var (i := 1) rfl (.inl rfl) rfl) r_bl0 (nomark _))))))) (fun s4 hi5 ht6 => ⟨(DB.step (α := (List Int)) (fun v8 => [.val ((cT PyData.int) a_times), .val (PyData.int s4.1), .val (PyData.int s4.2.1), oL q1 PyData.int v8]) (DS.appendC (i := 3) (ca := PyData.int) rfl (.inl rfl) rfl (DE.call c_law_in (hr.mono (by decide)) (by rfl) (DA.cons (DE.var (i := 0) rfl (.inl rfl) rfl) (DA.cons (DE.var (i := 1) rfl (.inl rfl) rfl) (DA.cons (DE.bin op_add (DE.var (i := 1) rfl (.inl rfl) rfl) (DE.var (i := 2) rfl (.inl rfl) rfl) r_int0) DA.nil))) ⟨a_times, s4.1, (s4.1 + s4.2.1), rfl, rfl, rfl⟩ [] rfl (by decide) rfl) rfl (by /-_law_fading:3 append to s4.2.2-/ exact fad_app hpre (by assumption) (by assumption)) (wi (wi (wi (wi wn))))) (fun v8 h9 => by have h9_l0 : (v8).length = (s4.2.2).length + 1 := (congrArg (fun p : (List Int) => (p).length) h9).trans (by simp only [List.length_append, List.length_cons, List.length_nil, List.length_map, List.length_reverse, irange_len, List.length_dropLast, setI, List.length_set]); exact (DB.szO (i := 3) (ca := PyData.int) (xs := v8) rfl fun hz_v8 => (DB.step (α := Int) (fun v10 => [.val ((cT PyData.int) a_times), .val (PyData.int v10), .val (PyData.int s4.2.1), oL q1 PyData.int v8]) (DS.set (i := 1) sc_law_fading.nd rfl (.inl rfl) (DE.bin op_add (DE.var (i := 1) rfl (.inl rfl) rfl) (DE.var (i := 2) rfl (.inl rfl) rfl) r_int0) (wi (wi (wi (wi wn))))) (fun v10 h11 => (DB.step (α := Int) (fun v12 => [.val ((cT PyData.int) a_times), .val (PyData.int v10), .val (PyData.int v12), oL q1 PyData.int v8]) (DS.set (i := 2) sc_law_fading.nd rfl (.inl rfl) (DE.bin op_mul DE.int (DE.var (i := 2) rfl (.inl rfl) rfl) (r_int (f := fun i j => i * j) (by /-_law_fading:4 mul (2 : Int), s4.2.1-/ first | assumption | omega | decide | (simp only [Bool.and_eq_true, Bool.or_eq_true, Bool.not_eq_true', Bool.not_eq_false', Bool.or_eq_false_iff, Bool.and_eq_false_imp, decide_eq_true_eq, decide_eq_false_iff_not, List.length_append, List.length_cons, List.length_nil, List.length_map, List.length_reverse, irange_len, sizeLine_eq, CMul, CDiv, CPow] at *; first | omega | decide)))) (wi (wi (wi (wi wn))))) (fun v12 h13 => (DB.endS (wi (wi (wi (wi wn)))))))))))), (by exact fad_keep2 hi5), (by exact fad_falls hi5.1 ht6)⟩)) (fun v14 h15 => (DB.ret (DE.tuple (by rfl) bi.tuple_ (DQ.own (i := 3) rfl (.inl rfl) rfl)) (And.intro rfl (kp_v (kp_v (kp_v kp_n)))))))))))
end W

set_option Elab.async false
set_option linter.all false
set_option maxRecDepth 100000
namespace W
open PySem L2 PySem.Spec PyProof.Rows PD
set_option maxHeartbeats 4000000 in
theorem ok_law_right {P : Program} {w : World} {K : PySem.W.Frag} {mg : Str → Option Value} {base : Heap} {f : Addr} {fd : FuncData} (F : FunD K "_law_right" "_law_right" (defArgs s_law_right) (defBody s_law_right) (defScope s_law_right) [] [] f fd) (hm : mg "_law_right" = some (.ref f)) (bi : Bi mg) (cmost_in : Cal P w K mg base 2 "most_in" Rmost_in) (cgaps_of : Cal P w K mg base 1 "gaps_of" Rgaps_of) (crates_rise : Cal P w K mg base 2 "rates_rise" Rrates_rise) (cfading : Cal P w K mg base 2 "fading" Rfading) (cdoubled_steps : Cal P w K mg base 2 "doubled_steps" Rdoubled_steps) (cthinned_times : Cal P w K mg base 1 "thinned_times" Rthinned_times) (c_law_take : Cal P w K mg base 1 "_law_take" R_law_take) (c_law_same : Cal P w K mg base 9 "_law_same" (RSame 8)) (c_law_size : Cal P w K mg base 2 "_law_size" R_law_size) (c_law_quiet_right : Cal P w K mg base 10 "_law_quiet_right" R_law_quiet_right) (c_law_counts : Cal P w K mg base 2 "_law_counts" R_law_counts) (c_law_fading : Cal P w K mg base 2 "_law_fading" R_law_fading) : Cal P w K mg base 11 "_law_right" R_law_right := by
  refine cal_of (k := 10) F sc_law_right hm (FunD.bindsN F fun _ _ _ _ _ _ us hl => match us, hl with | [_, _, _], _ => rfl) (by decide) (fun γ r γ' h => by obtain ⟨_, _, _, _, rfl, _⟩ := h; rfl) (fun cdv A outer s H E hr γ r γ' h => ?_)
  obtain ⟨p_draws, a_draws, a_script, a_times, rfl, hpre, rfl, rfl⟩ := h
  have hu := hu200 hr
  show DB _ _ [oL p_draws PyData.int a_draws, .val ((cL PyData.int) a_script), .val ((cT PyData.int) a_times), .em, .em, .em, .em, .em, .em, .em, .em, .em, .em, .em, .em, .em, .em, .em] (Phi__law_right p_draws a_draws a_script a_times (m_law_right a_draws a_script a_times))
  unfold m_law_right
  have hpl : a_times.length ≤ 60 := hpre.1
  exact (DB.szO (i := 0) (ca := PyData.int) rfl fun hsz_draws => (DB.szL (i := 1) (ca := PyData.int) rfl fun hsz_script => (DB.sz (i := 2) (ca := PyData.int) rfl fun hsz_times => (DB.step (α := ((List Int) × Int)) (fun v1 => [oL p_draws PyData.int v1.1, .val ((cL PyData.int) a_script), .val ((cT PyData.int) a_times), .val (PyData.int v1.2), .em, .em, .em, .em, .em, .em, .em, .em, .em, .em, .em, .em, .em, .em]) (DS.set (i := 3) sc_law_right.nd rfl (.inl rfl) (DE.bin op_add DE.int (DE.ix (DQ.list (DE.new (DF.lst (DV.cons (DE.call c_law_take (hr.mono (by decide)) (by rfl) (DA.own (i := 0) rfl (.inl rfl) rfl (DA.cons DE.int DA.nil) rfl) ⟨p_draws, a_draws, (9 : Int), rfl, (by /-_law_right:4 pre of _law_take-/ first | assumption | omega | decide | (simp only [Bool.and_eq_true, Bool.or_eq_true, Bool.not_eq_true', Bool.not_eq_false', Bool.or_eq_false_iff, Bool.and_eq_false_imp, decide_eq_true_eq, decide_eq_false_iff_not, List.length_append, List.length_cons, List.length_nil, List.length_map, List.length_reverse, irange_len, sizeLine_eq, CMul, CDiv, CPow] at *; first | omega | decide)), rfl, rfl⟩ [0] rfl (by decide) rfl) (DV.cons (DE.call c_law_take (hr.mono (by decide)) (by rfl) (DA.own (i := 0) rfl (.inl rfl) rfl (DA.cons DE.int DA.nil) rfl) ⟨p_draws, (m_law_take a_draws (9 : Int)).2, (60 : Int), rfl, (by /-_law_right:5 pre of _law_take-/ have := take_bd a_draws (9 : Int) ; first | assumption | omega | decide | (simp only [Bool.and_eq_true, Bool.or_eq_true, Bool.not_eq_true', Bool.not_eq_false', Bool.or_eq_false_iff, Bool.and_eq_false_imp, decide_eq_true_eq, decide_eq_false_iff_not, List.length_append, List.length_cons, List.length_nil, List.length_map, List.length_reverse, irange_len, sizeLine_eq, CMul, CDiv, CPow] at *; first | omega | decide)), rfl, rfl⟩ [0] rfl (by decide) rfl) (DV.cons (DE.bin op_mod (DE.call c_law_size (hr.mono (by decide)) (by rfl) (DA.own (i := 0) rfl (.inl rfl) rfl (DA.cons (DE.var (i := 1) rfl (.inl rfl) rfl) DA.nil) rfl) ⟨p_draws, (m_law_take (m_law_take a_draws (9 : Int)).2 (60 : Int)).2, a_script, rfl, rfl, rfl⟩ [0] rfl (by decide) rfl) (DE.eq (DE.bin op_pow DE.int DE.int (r_int (f := fun i j => i ^ j.toNat) (by unfold CPow; decide))) (congrArg PyData.int (show (10 : Int) ^ (Int.toNat (26 : Int)) = (100000000000000000000000000 : Int) by decide))) (r_int (f := fun i j => i % j) (by /-_law_right:6 mod by (100000000000000000000000000 : Int)-/ first | assumption | omega | decide | (simp only [Bool.and_eq_true, Bool.or_eq_true, Bool.not_eq_true', Bool.not_eq_false', Bool.or_eq_false_iff, Bool.and_eq_false_imp, decide_eq_true_eq, decide_eq_false_iff_not, List.length_append, List.length_cons, List.length_nil, List.length_map, List.length_reverse, irange_len, sizeLine_eq, CMul, CDiv, CPow] at *; first | omega | decide)))) DV.nil)))))) (DE.call c_law_take (hr.mono (by decide)) (by rfl) (DA.own (i := 0) rfl (.inl rfl) rfl (DA.cons DE.int DA.nil) rfl) ⟨p_draws, (m_law_size (m_law_take (m_law_take a_draws (9 : Int)).2 (60 : Int)).2 a_script).2, (3 : Int), rfl, (by /-_law_right:7 pre of _law_take-/ have := take_bd (m_law_take a_draws (9 : Int)).2 (60 : Int) ; have := take_bd a_draws (9 : Int) ; first | assumption | omega | decide | (simp only [Bool.and_eq_true, Bool.or_eq_true, Bool.not_eq_true', Bool.not_eq_false', Bool.or_eq_false_iff, Bool.and_eq_false_imp, decide_eq_true_eq, decide_eq_false_iff_not, List.length_append, List.length_cons, List.length_nil, List.length_map, List.length_reverse, irange_len, sizeLine_eq, CMul, CDiv, CPow] at *; first | omega | decide)), rfl, rfl⟩ [0] rfl (by decide) rfl) (atI_ix (c := PyData.int) (xs := [(m_law_take a_draws (9 : Int)).1, (m_law_take (m_law_take a_draws (9 : Int)).2 (60 : Int)).1, ((m_law_size (m_law_take (m_law_take a_draws (9 : Int)).2 (60 : Int)).2 a_script).1 % (100000000000000000000000000 : Int))]) (k := (m_law_take (m_law_size (m_law_take (m_law_take a_draws (9 : Int)).2 (60 : Int)).2 a_script).2 (3 : Int)).1) (by /-_law_right:8 low ix [(m_law_take a_draws (9 : Int)).1, (m_law_take (m_law_take a_draws (9 : Int)).2 (60 : Int)).1, ((m_law_size (m_law_take (m_law_take a_draws (9 : Int)).2 (60 : Int)).2 a_script).1 % (100000000000000000000000000 : Int))] (m_law_take (m_law_size (m_law_take (m_law_take a_draws (9 : Int)).2 (60 : Int)).2 a_script).2 (3 : Int)).1-/ have := take_bd a_draws (9 : Int) ; have := take_bd (m_law_take a_draws (9 : Int)).2 (60 : Int) ; have := take_bd (m_law_size (m_law_take (m_law_take a_draws (9 : Int)).2 (60 : Int)).2 a_script).2 (3 : Int) ; first | assumption | omega | decide | (simp only [Bool.and_eq_true, Bool.or_eq_true, Bool.not_eq_true', Bool.not_eq_false', Bool.or_eq_false_iff, Bool.and_eq_false_imp, decide_eq_true_eq, decide_eq_false_iff_not, List.length_append, List.length_cons, List.length_nil, List.length_map, List.length_reverse, irange_len, sizeLine_eq, CMul, CDiv, CPow] at *; first | omega | decide)) (by /-_law_right:9 high ix [(m_law_take a_draws (9 : Int)).1, (m_law_take (m_law_take a_draws (9 : Int)).2 (60 : Int)).1, ((m_law_size (m_law_take (m_law_take a_draws (9 : Int)).2 (60 : Int)).2 a_script).1 % (100000000000000000000000000 : Int))] (m_law_take (m_law_size (m_law_take (m_law_take a_draws (9 : Int)).2 (60 : Int)).2 a_script).2 (3 : Int)).1-/ have := take_bd a_draws (9 : Int) ; have := take_bd (m_law_take a_draws (9 : Int)).2 (60 : Int) ; have := take_bd (m_law_size (m_law_take (m_law_take a_draws (9 : Int)).2 (60 : Int)).2 a_script).2 (3 : Int) ; first | assumption | omega | decide | (simp only [Bool.and_eq_true, Bool.or_eq_true, Bool.not_eq_true', Bool.not_eq_false', Bool.or_eq_false_iff, Bool.and_eq_false_imp, decide_eq_true_eq, decide_eq_false_iff_not, List.length_append, List.length_cons, List.length_nil, List.length_map, List.length_reverse, irange_len, sizeLine_eq, CMul, CDiv, CPow] at *; first | omega | decide)))) r_int0) (wi (wi (wi (wi (wi (wi (wi (wi (wi (wi (wi (wi (wi (wi (wi (wi (wi (wi wn))))))))))))))))))) (fun v1 h2 => by have h2_1 : v1.2 = ((1 : Int) + (ix [(m_law_take a_draws (9 : Int)).1, (m_law_take (m_law_take a_draws (9 : Int)).2 (60 : Int)).1, ((m_law_size (m_law_take (m_law_take a_draws (9 : Int)).2 (60 : Int)).2 a_script).1 % (100000000000000000000000000 : Int))] (m_law_take (m_law_size (m_law_take (m_law_take a_draws (9 : Int)).2 (60 : Int)).2 a_script).2 (3 : Int)).1)) := congrArg (fun p : ((List Int) × Int) => p.2) h2; have hwide := wide_bd h2_1; exact (DB.szO (i := 0) (ca := PyData.int) (xs := v1.1) rfl fun hz_v1_1 => (DB.step (α := ((List Int) × Int)) (fun v3 => [oL p_draws PyData.int v3.1, .val ((cL PyData.int) a_script), .val ((cT PyData.int) a_times), .val (PyData.int v1.2), .val (PyData.int v3.2), .em, .em, .em, .em, .em, .em, .em, .em, .em, .em, .em, .em, .em]) (DS.set (i := 4) sc_law_right.nd rfl (.inl rfl) (DE.call c_law_take (hr.mono (by decide)) (by rfl) (DA.own (i := 0) rfl (.inl rfl) rfl (DA.cons DE.int DA.nil) rfl) ⟨p_draws, v1.1, (6 : Int), rfl, (by /-_law_right:10 pre of _law_take-/ have := take_bd (m_law_size (m_law_take (m_law_take a_draws (9 : Int)).2 (60 : Int)).2 a_script).2 (3 : Int) ; have := take_bd (m_law_take a_draws (9 : Int)).2 (60 : Int) ; have := take_bd a_draws (9 : Int) ; first | assumption | omega | decide | (simp only [Bool.and_eq_true, Bool.or_eq_true, Bool.not_eq_true', Bool.not_eq_false', Bool.or_eq_false_iff, Bool.and_eq_false_imp, decide_eq_true_eq, decide_eq_false_iff_not, List.length_append, List.length_cons, List.length_nil, List.length_map, List.length_reverse, irange_len, sizeLine_eq, CMul, CDiv, CPow] at *; first | omega | decide)), rfl, rfl⟩ [0] rfl (by decide) rfl) (wi (wi (wi (wi (wi (wi (wi (wi (wi (wi (wi (wi (wi (wi (wi (wi (wi (wi wn))))))))))))))))))) (fun v3 h4 => by have h4_1 : v3.2 = (m_law_take v1.1 (6 : Int)).1 := congrArg (fun p : ((List Int) × Int) => p.2) h4; exact (DB.szO (i := 0) (ca := PyData.int) (xs := v3.1) rfl fun hz_v3_1 => (DB.step (α := ((List Int) × Int)) (fun v5 => [oL p_draws PyData.int v5.1, .val ((cL PyData.int) a_script), .val ((cT PyData.int) a_times), .val (PyData.int v1.2), .val (PyData.int v3.2), .val (PyData.int v5.2), .em, .em, .em, .em, .em, .em, .em, .em, .em, .em, .em, .em]) (DS.set (i := 5) sc_law_right.nd rfl (.inl rfl) (DE.ix (DQ.list (DE.new (DF.lst (DV.cons (DE.call c_law_take (hr.mono (by decide)) (by rfl) (DA.own (i := 0) rfl (.inl rfl) rfl (DA.cons DE.int DA.nil) rfl) ⟨p_draws, v3.1, (9 : Int), rfl, (by /-_law_right:14 pre of _law_take-/ have := take_bd v1.1 (6 : Int) ; have := take_bd (m_law_size (m_law_take (m_law_take a_draws (9 : Int)).2 (60 : Int)).2 a_script).2 (3 : Int) ; have := take_bd (m_law_take a_draws (9 : Int)).2 (60 : Int) ; have := take_bd a_draws (9 : Int) ; first | assumption | omega | decide | (simp only [Bool.and_eq_true, Bool.or_eq_true, Bool.not_eq_true', Bool.not_eq_false', Bool.or_eq_false_iff, Bool.and_eq_false_imp, decide_eq_true_eq, decide_eq_false_iff_not, List.length_append, List.length_cons, List.length_nil, List.length_map, List.length_reverse, irange_len, sizeLine_eq, CMul, CDiv, CPow] at *; first | omega | decide)), rfl, rfl⟩ [0] rfl (by decide) rfl) (DV.cons (DE.call c_law_take (hr.mono (by decide)) (by rfl) (DA.own (i := 0) rfl (.inl rfl) rfl (DA.cons DE.int DA.nil) rfl) ⟨p_draws, (m_law_take v3.1 (9 : Int)).2, (60 : Int), rfl, (by /-_law_right:15 pre of _law_take-/ have := take_bd v3.1 (9 : Int) ; have := take_bd v1.1 (6 : Int) ; have := take_bd (m_law_size (m_law_take (m_law_take a_draws (9 : Int)).2 (60 : Int)).2 a_script).2 (3 : Int) ; have := take_bd (m_law_take a_draws (9 : Int)).2 (60 : Int) ; have := take_bd a_draws (9 : Int) ; first | assumption | omega | decide | (simp only [Bool.and_eq_true, Bool.or_eq_true, Bool.not_eq_true', Bool.not_eq_false', Bool.or_eq_false_iff, Bool.and_eq_false_imp, decide_eq_true_eq, decide_eq_false_iff_not, List.length_append, List.length_cons, List.length_nil, List.length_map, List.length_reverse, irange_len, sizeLine_eq, CMul, CDiv, CPow] at *; first | omega | decide)), rfl, rfl⟩ [0] rfl (by decide) rfl) (DV.cons (DE.bin op_mod (DE.call c_law_size (hr.mono (by decide)) (by rfl) (DA.own (i := 0) rfl (.inl rfl) rfl (DA.cons (DE.var (i := 1) rfl (.inl rfl) rfl) DA.nil) rfl) ⟨p_draws, (m_law_take (m_law_take v3.1 (9 : Int)).2 (60 : Int)).2, a_script, rfl, rfl, rfl⟩ [0] rfl (by decide) rfl) (DE.eq (DE.bin op_pow DE.int DE.int (r_int (f := fun i j => i ^ j.toNat) (by unfold CPow; decide))) (congrArg PyData.int (show (10 : Int) ^ (Int.toNat (26 : Int)) = (100000000000000000000000000 : Int) by decide))) (r_int (f := fun i j => i % j) (by /-_law_right:16 mod by (100000000000000000000000000 : Int)-/ first | assumption | omega | decide | (simp only [Bool.and_eq_true, Bool.or_eq_true, Bool.not_eq_true', Bool.not_eq_false', Bool.or_eq_false_iff, Bool.and_eq_false_imp, decide_eq_true_eq, decide_eq_false_iff_not, List.length_append, List.length_cons, List.length_nil, List.length_map, List.length_reverse, irange_len, sizeLine_eq, CMul, CDiv, CPow] at *; first | omega | decide)))) DV.nil)))))) (DE.call c_law_take (hr.mono (by decide)) (by rfl) (DA.own (i := 0) rfl (.inl rfl) rfl (DA.cons DE.int DA.nil) rfl) ⟨p_draws, (m_law_size (m_law_take (m_law_take v3.1 (9 : Int)).2 (60 : Int)).2 a_script).2, (3 : Int), rfl, (by /-_law_right:17 pre of _law_take-/ have := take_bd (m_law_take v3.1 (9 : Int)).2 (60 : Int) ; have := take_bd v3.1 (9 : Int) ; have := take_bd v1.1 (6 : Int) ; have := take_bd (m_law_size (m_law_take (m_law_take a_draws (9 : Int)).2 (60 : Int)).2 a_script).2 (3 : Int) ; have := take_bd (m_law_take a_draws (9 : Int)).2 (60 : Int) ; have := take_bd a_draws (9 : Int) ; first | assumption | omega | decide | (simp only [Bool.and_eq_true, Bool.or_eq_true, Bool.not_eq_true', Bool.not_eq_false', Bool.or_eq_false_iff, Bool.and_eq_false_imp, decide_eq_true_eq, decide_eq_false_iff_not, List.length_append, List.length_cons, List.length_nil, List.length_map, List.length_reverse, irange_len, sizeLine_eq, CMul, CDiv, CPow] at *; first | omega | decide)), rfl, rfl⟩ [0] rfl (by decide) rfl) (atI_ix (c := PyData.int) (xs := [(m_law_take v3.1 (9 : Int)).1, (m_law_take (m_law_take v3.1 (9 : Int)).2 (60 : Int)).1, ((m_law_size (m_law_take (m_law_take v3.1 (9 : Int)).2 (60 : Int)).2 a_script).1 % (100000000000000000000000000 : Int))]) (k := (m_law_take (m_law_size (m_law_take (m_law_take v3.1 (9 : Int)).2 (60 : Int)).2 a_script).2 (3 : Int)).1) (by /-_law_right:18 low ix [(m_law_take v3.1 (9 : Int)).1, (m_law_take (m_law_take v3.1 (9 : Int)).2 (60 : Int)).1, ((m_law_size (m_law_take (m_law_take v3.1 (9 : Int)).2 (60 : Int)).2 a_script).1 % (100000000000000000000000000 : Int))] (m_law_take (m_law_size (m_law_take (m_law_take v3.1 (9 : Int)).2 (60 : Int)).2 a_script).2 (3 : Int)).1-/ have := take_bd v3.1 (9 : Int) ; have := take_bd (m_law_take v3.1 (9 : Int)).2 (60 : Int) ; have := take_bd (m_law_size (m_law_take (m_law_take v3.1 (9 : Int)).2 (60 : Int)).2 a_script).2 (3 : Int) ; have := take_bd v1.1 (6 : Int) ; have := take_bd (m_law_size (m_law_take (m_law_take a_draws (9 : Int)).2 (60 : Int)).2 a_script).2 (3 : Int) ; have := take_bd (m_law_take a_draws (9 : Int)).2 (60 : Int) ; have := take_bd a_draws (9 : Int) ; first | assumption | omega | decide | (simp only [Bool.and_eq_true, Bool.or_eq_true, Bool.not_eq_true', Bool.not_eq_false', Bool.or_eq_false_iff, Bool.and_eq_false_imp, decide_eq_true_eq, decide_eq_false_iff_not, List.length_append, List.length_cons, List.length_nil, List.length_map, List.length_reverse, irange_len, sizeLine_eq, CMul, CDiv, CPow] at *; first | omega | decide)) (by /-_law_right:19 high ix [(m_law_take v3.1 (9 : Int)).1, (m_law_take (m_law_take v3.1 (9 : Int)).2 (60 : Int)).1, ((m_law_size (m_law_take (m_law_take v3.1 (9 : Int)).2 (60 : Int)).2 a_script).1 % (100000000000000000000000000 : Int))] (m_law_take (m_law_size (m_law_take (m_law_take v3.1 (9 : Int)).2 (60 : Int)).2 a_script).2 (3 : Int)).1-/ have := take_bd v3.1 (9 : Int) ; have := take_bd (m_law_take v3.1 (9 : Int)).2 (60 : Int) ; have := take_bd (m_law_size (m_law_take (m_law_take v3.1 (9 : Int)).2 (60 : Int)).2 a_script).2 (3 : Int) ; have := take_bd v1.1 (6 : Int) ; have := take_bd (m_law_size (m_law_take (m_law_take a_draws (9 : Int)).2 (60 : Int)).2 a_script).2 (3 : Int) ; have := take_bd (m_law_take a_draws (9 : Int)).2 (60 : Int) ; have := take_bd a_draws (9 : Int) ; first | assumption | omega | decide | (simp only [Bool.and_eq_true, Bool.or_eq_true, Bool.not_eq_true', Bool.not_eq_false', Bool.or_eq_false_iff, Bool.and_eq_false_imp, decide_eq_true_eq, decide_eq_false_iff_not, List.length_append, List.length_cons, List.length_nil, List.length_map, List.length_reverse, irange_len, sizeLine_eq, CMul, CDiv, CPow] at *; first | omega | decide)))) (wi (wi (wi (wi (wi (wi (wi (wi (wi (wi (wi (wi (wi (wi (wi (wi (wi (wi wn))))))))))))))))))) (fun v5 h6 => by have h6_1 : v5.2 = (ix [(m_law_take v3.1 (9 : Int)).1, (m_law_take (m_law_take v3.1 (9 : Int)).2 (60 : Int)).1, ((m_law_size (m_law_take (m_law_take v3.1 (9 : Int)).2 (60 : Int)).2 a_script).1 % (100000000000000000000000000 : Int))] (m_law_take (m_law_size (m_law_take (m_law_take v3.1 (9 : Int)).2 (60 : Int)).2 a_script).2 (3 : Int)).1) := congrArg (fun p : ((List Int) × Int) => p.2) h6; have hdead := dead_bd h6_1; exact (DB.szO (i := 0) (ca := PyData.int) (xs := v5.1) rfl fun hz_v5_1 => (DB.step (α := ((List Int) × Int)) (fun v7 => [oL p_draws PyData.int v7.1, .val ((cL PyData.int) a_script), .val ((cT PyData.int) a_times), .val (PyData.int v1.2), .val (PyData.int v3.2), .val (PyData.int v5.2), .val (PyData.int v7.2), .em, .em, .em, .em, .em, .em, .em, .em, .em, .em, .em]) (DS.set (i := 6) sc_law_right.nd rfl (.inl rfl) (DE.bin op_sub (DE.call c_law_take (hr.mono (by decide)) (by rfl) (DA.own (i := 0) rfl (.inl rfl) rfl (DA.cons DE.int DA.nil) rfl) ⟨p_draws, v5.1, (60 : Int), rfl, (by /-_law_right:20 pre of _law_take-/ have := take_bd (m_law_size (m_law_take (m_law_take v3.1 (9 : Int)).2 (60 : Int)).2 a_script).2 (3 : Int) ; have := take_bd (m_law_take v3.1 (9 : Int)).2 (60 : Int) ; have := take_bd v3.1 (9 : Int) ; have := take_bd v1.1 (6 : Int) ; have := take_bd (m_law_size (m_law_take (m_law_take a_draws (9 : Int)).2 (60 : Int)).2 a_script).2 (3 : Int) ; have := take_bd (m_law_take a_draws (9 : Int)).2 (60 : Int) ; have := take_bd a_draws (9 : Int) ; first | assumption | omega | decide | (simp only [Bool.and_eq_true, Bool.or_eq_true, Bool.not_eq_true', Bool.not_eq_false', Bool.or_eq_false_iff, Bool.and_eq_false_imp, decide_eq_true_eq, decide_eq_false_iff_not, List.length_append, List.length_cons, List.length_nil, List.length_map, List.length_reverse, irange_len, sizeLine_eq, CMul, CDiv, CPow] at *; first | omega | decide)), rfl, rfl⟩ [0] rfl (by decide) rfl) DE.int r_int0) (wi (wi (wi (wi (wi (wi (wi (wi (wi (wi (wi (wi (wi (wi (wi (wi (wi (wi wn))))))))))))))))))) (fun v7 h8 => by have h8_1 : v7.2 = ((m_law_take v5.1 (60 : Int)).1 - (40 : Int)) := congrArg (fun p : ((List Int) × Int) => p.2) h8; have hbeg := beg_bd h8_1; exact (DB.szO (i := 0) (ca := PyData.int) (xs := v7.1) rfl fun hz_v7_1 => (DB.step (α := ((List Int) × Int)) (fun v9 => [oL p_draws PyData.int v9.1, .val ((cL PyData.int) a_script), .val ((cT PyData.int) a_times), .val (PyData.int v1.2), .val (PyData.int v3.2), .val (PyData.int v5.2), .val (PyData.int v7.2), .val (PyData.int v9.2), .em, .em, .em, .em, .em, .em, .em, .em, .em, .em]) (DS.set (i := 7) sc_law_right.nd rfl (.inr rfl) (DE.bin op_mul (DE.bin op_mod (DE.call c_law_size (hr.mono (by decide)) (by rfl) (DA.own (i := 0) rfl (.inl rfl) rfl (DA.cons (DE.var (i := 1) rfl (.inl rfl) rfl) DA.nil) rfl) ⟨p_draws, v7.1, a_script, rfl, rfl, rfl⟩ [0] rfl (by decide) rfl) (DE.eq (DE.bin op_pow DE.int DE.int (r_int (f := fun i j => i ^ j.toNat) (by unfold CPow; decide))) (congrArg PyData.int (show (10 : Int) ^ (Int.toNat (26 : Int)) = (100000000000000000000000000 : Int) by decide))) (r_int (f := fun i j => i % j) (by /-_law_right:21 mod by (100000000000000000000000000 : Int)-/ first | assumption | omega | decide | (simp only [Bool.and_eq_true, Bool.or_eq_true, Bool.not_eq_true', Bool.not_eq_false', Bool.or_eq_false_iff, Bool.and_eq_false_imp, decide_eq_true_eq, decide_eq_false_iff_not, List.length_append, List.length_cons, List.length_nil, List.length_map, List.length_reverse, irange_len, sizeLine_eq, CMul, CDiv, CPow] at *; first | omega | decide)))) (DE.bin op_sub DE.int (DE.bin op_mul DE.int (DE.call c_law_take (hr.mono (by decide)) (by rfl) (DA.own (i := 0) rfl (.inl rfl) rfl (DA.cons DE.int DA.nil) rfl) ⟨p_draws, (m_law_size v7.1 a_script).2, (2 : Int), rfl, (by /-_law_right:22 pre of _law_take-/ have := take_bd v5.1 (60 : Int) ; have := take_bd (m_law_size (m_law_take (m_law_take v3.1 (9 : Int)).2 (60 : Int)).2 a_script).2 (3 : Int) ; have := take_bd (m_law_take v3.1 (9 : Int)).2 (60 : Int) ; have := take_bd v3.1 (9 : Int) ; have := take_bd v1.1 (6 : Int) ; have := take_bd (m_law_size (m_law_take (m_law_take a_draws (9 : Int)).2 (60 : Int)).2 a_script).2 (3 : Int) ; have := take_bd (m_law_take a_draws (9 : Int)).2 (60 : Int) ; have := take_bd a_draws (9 : Int) ; first | assumption | omega | decide | (simp only [Bool.and_eq_true, Bool.or_eq_true, Bool.not_eq_true', Bool.not_eq_false', Bool.or_eq_false_iff, Bool.and_eq_false_imp, decide_eq_true_eq, decide_eq_false_iff_not, List.length_append, List.length_cons, List.length_nil, List.length_map, List.length_reverse, irange_len, sizeLine_eq, CMul, CDiv, CPow] at *; first | omega | decide)), rfl, rfl⟩ [0] rfl (by decide) rfl) (r_int (f := fun i j => i * j) (by /-_law_right:23 mul (2 : Int), (m_law_take (m_law_size v7.1 a_script).2 (2 : Int)).1-/ have := take_bd (m_law_size v7.1 a_script).2 (2 : Int) ; have := take_bd v5.1 (60 : Int) ; have := take_bd (m_law_size (m_law_take (m_law_take v3.1 (9 : Int)).2 (60 : Int)).2 a_script).2 (3 : Int) ; have := take_bd (m_law_take v3.1 (9 : Int)).2 (60 : Int) ; have := take_bd v3.1 (9 : Int) ; have := take_bd v1.1 (6 : Int) ; have := take_bd (m_law_size (m_law_take (m_law_take a_draws (9 : Int)).2 (60 : Int)).2 a_script).2 (3 : Int) ; have := take_bd (m_law_take a_draws (9 : Int)).2 (60 : Int) ; have := take_bd a_draws (9 : Int) ; first | assumption | omega | decide | (simp only [Bool.and_eq_true, Bool.or_eq_true, Bool.not_eq_true', Bool.not_eq_false', Bool.or_eq_false_iff, Bool.and_eq_false_imp, decide_eq_true_eq, decide_eq_false_iff_not, List.length_append, List.length_cons, List.length_nil, List.length_map, List.length_reverse, irange_len, sizeLine_eq, CMul, CDiv, CPow] at *; first | omega | decide)))) r_int0) (r_int (f := fun i j => i * j) (by /-_law_right:24 mul ((m_law_size v7.1 a_script).1 % (100000000000000000000000000 : Int)), ((1 : Int) - ((2 : Int) * (m_law_take (m_law_size v7.1 a_script).2 (2 : Int)).1))-/ have := take_bd (m_law_size v7.1 a_script).2 (2 : Int) ; have := take_bd v5.1 (60 : Int) ; have := take_bd (m_law_size (m_law_take (m_law_take v3.1 (9 : Int)).2 (60 : Int)).2 a_script).2 (3 : Int) ; have := take_bd (m_law_take v3.1 (9 : Int)).2 (60 : Int) ; have := take_bd v3.1 (9 : Int) ; have := take_bd v1.1 (6 : Int) ; have := take_bd (m_law_size (m_law_take (m_law_take a_draws (9 : Int)).2 (60 : Int)).2 a_script).2 (3 : Int) ; have := take_bd (m_law_take a_draws (9 : Int)).2 (60 : Int) ; have := take_bd a_draws (9 : Int) ; first | assumption | omega | decide | (simp only [Bool.and_eq_true, Bool.or_eq_true, Bool.not_eq_true', Bool.not_eq_false', Bool.or_eq_false_iff, Bool.and_eq_false_imp, decide_eq_true_eq, decide_eq_false_iff_not, List.length_append, List.length_cons, List.length_nil, List.length_map, List.length_reverse, irange_len, sizeLine_eq, CMul, CDiv, CPow] at *; first | omega | decide)))) (wi (wi (wi (wi (wi (wi (wi (wi (wi (wi (wi (wi (wi (wi (wi (wi (wi (wi wn))))))))))))))))))) (fun v9 h10 => by have h10_1 : v9.2 = (((m_law_size v7.1 a_script).1 % (100000000000000000000000000 : Int)) * ((1 : Int) - ((2 : Int) * (m_law_take (m_law_size v7.1 a_script).2 (2 : Int)).1))) := congrArg (fun p : ((List Int) × Int) => p.2) h10; have hby := by_bd h10_1; exact (DB.szO (i := 0) (ca := PyData.int) (xs := v9.1) rfl fun hz_v9_1 => (DB.step (α := ((List Int) × Int)) (fun v11 => [oL p_draws PyData.int v11.1, .val ((cL PyData.int) a_script), .val ((cT PyData.int) a_times), .val (PyData.int v1.2), .val (PyData.int v3.2), .val (PyData.int v5.2), .val (PyData.int v7.2), .val (PyData.int v9.2), .val (PyData.int v11.2), .em, .em, .em, .em, .em, .em, .em, .em, .em]) (DS.set (i := 8) sc_law_right.nd rfl (.inr rfl) (DE.bin op_add DE.int (DE.call c_law_take (hr.mono (by decide)) (by rfl) (DA.own (i := 0) rfl (.inl rfl) rfl (DA.cons DE.int DA.nil) rfl) ⟨p_draws, v9.1, (9 : Int), rfl, (by /-_law_right:25 pre of _law_take-/ have := take_bd (m_law_size v7.1 a_script).2 (2 : Int) ; have := take_bd v5.1 (60 : Int) ; have := take_bd (m_law_size (m_law_take (m_law_take v3.1 (9 : Int)).2 (60 : Int)).2 a_script).2 (3 : Int) ; have := take_bd (m_law_take v3.1 (9 : Int)).2 (60 : Int) ; have := take_bd v3.1 (9 : Int) ; have := take_bd v1.1 (6 : Int) ; have := take_bd (m_law_size (m_law_take (m_law_take a_draws (9 : Int)).2 (60 : Int)).2 a_script).2 (3 : Int) ; have := take_bd (m_law_take a_draws (9 : Int)).2 (60 : Int) ; have := take_bd a_draws (9 : Int) ; first | assumption | omega | decide | (simp only [Bool.and_eq_true, Bool.or_eq_true, Bool.not_eq_true', Bool.not_eq_false', Bool.or_eq_false_iff, Bool.and_eq_false_imp, decide_eq_true_eq, decide_eq_false_iff_not, List.length_append, List.length_cons, List.length_nil, List.length_map, List.length_reverse, irange_len, sizeLine_eq, CMul, CDiv, CPow] at *; first | omega | decide)), rfl, rfl⟩ [0] rfl (by decide) rfl) r_int0) (wi (wi (wi (wi (wi (wi (wi (wi (wi (wi (wi (wi (wi (wi (wi (wi (wi (wi wn))))))))))))))))))) (fun v11 h12 => by have h12_1 : v11.2 = ((1 : Int) + (m_law_take v9.1 (9 : Int)).1) := congrArg (fun p : ((List Int) × Int) => p.2) h12; have htm := tm_bd h12_1; exact (DB.szO (i := 0) (ca := PyData.int) (xs := v11.1) rfl fun hz_v11_1 => (DB.step (α := ((Option (Int × Int)) × (Option Int) × (List Int))) (fun v13 => [oL p_draws PyData.int v11.1, .val ((cL PyData.int) a_script), .val ((cT PyData.int) a_times), .val (PyData.int v1.2), .val (PyData.int v3.2), .val (PyData.int v5.2), .val (PyData.int v7.2), .val (PyData.int v9.2), .val (PyData.int v11.2), .em, .em, .em, .em, .val ((cO (c2 PyData.int PyData.int)) v13.1), .val ((cO PyData.int) v13.2.1), .val ((cT PyData.int) v13.2.2), .em, .em]) (DS.asg (DE.call c_law_counts (hr.mono (by decide)) (by rfl) (DA.cons (DE.var (i := 2) rfl (.inr (.inl rfl)) rfl) (DA.cons (DE.var (i := 3) rfl (.inl rfl) rfl) (DA.cons (DE.var (i := 4) rfl (.inl rfl) rfl) (DA.cons (DE.var (i := 5) rfl (.inl rfl) rfl) DA.nil)))) ⟨a_times, v1.2, v3.2, v5.2, rfl, rfl, rfl⟩ [] rfl (by decide) rfl) (DG.tup rfl (DGl.cons (DG.name (i := 13) sc_law_right.nd rfl (.inl rfl)) (DGl.cons (DG.name (i := 14) sc_law_right.nd rfl (.inl rfl)) (DGl.cons (DG.name (i := 15) sc_law_right.nd rfl (.inl rfl)) DGl.nil))) 3) (wi (wi (wi (wi (wi (wi (wi (wi (wi (wi (wi (wi (wi (wi (wi (wi (wi (wi wn))))))))))))))))))) (fun v13 h14 => (DB.sz (i := 15) (ca := PyData.int) (xs := v13.2.2) rfl fun hz_v13_2_2 => (DB.step (α := (List Int)) (fun v18 => [oL p_draws PyData.int v11.1, .val ((cL PyData.int) a_script), .val ((cT PyData.int) a_times), .val (PyData.int v1.2), .val (PyData.int v3.2), .val (PyData.int v5.2), .val (PyData.int v7.2), .val (PyData.int v9.2), .val (PyData.int v11.2), .val ((cT PyData.int) v18), .em, .em, .em, .val ((cO (c2 PyData.int PyData.int)) v13.1), .val ((cO PyData.int) v13.2.1), .val ((cT PyData.int) v13.2.2), .em, .em]) (DS.set (i := 9) sc_law_right.nd rfl (.inl rfl) (DE.tuple (by rfl) bi.tuple_ (DQ.list (DE.new (DF.map1 (c := PyData.int) (c' := PyData.int) (own := [("k", 16)]) (vs := [16]) (fun z15 : Int => ((ix a_times z15) - (ix a_times (z15 - (1 : Int))))) rfl sc_law_right.nd (blkOk_by (by kernel_rfl)) rfl (DX.rng2 (by rfl) bi.range_ DE.int (DE.lenC (ca := PyData.int) (by rfl) bi.len_ (DQ.tup (DE.var (i := 2) rfl (.inr (.inl rfl)) rfl))) (by /-_law_right:26 range from (1 : Int)-/ first | assumption | omega | decide | (simp only [Bool.and_eq_true, Bool.or_eq_true, Bool.not_eq_true', Bool.not_eq_false', Bool.or_eq_false_iff, Bool.and_eq_false_imp, decide_eq_true_eq, decide_eq_false_iff_not, List.length_append, List.length_cons, List.length_nil, List.length_map, List.length_reverse, irange_len, sizeLine_eq, CMul, CDiv, CPow] at *; first | omega | decide)) (by /-_law_right:27 range to (a_times.length : Int)-/ first | assumption | omega | decide | (simp only [Bool.and_eq_true, Bool.or_eq_true, Bool.not_eq_true', Bool.not_eq_false', Bool.or_eq_false_iff, Bool.and_eq_false_imp, decide_eq_true_eq, decide_eq_false_iff_not, List.length_append, List.length_cons, List.length_nil, List.length_map, List.length_reverse, irange_len, sizeLine_eq, CMul, CDiv, CPow] at *; first | omega | decide))) (fun _ => (by /-_law_right:32 few turns-/ first | assumption | omega | decide | (simp only [Bool.and_eq_true, Bool.or_eq_true, Bool.not_eq_true', Bool.not_eq_false', Bool.or_eq_false_iff, Bool.and_eq_false_imp, decide_eq_true_eq, decide_eq_false_iff_not, List.length_append, List.length_cons, List.length_nil, List.length_map, List.length_reverse, irange_len, sizeLine_eq, CMul, CDiv, CPow] at *; first | omega | decide))) (by exact trivial) (by exact (And.intro trivial trivial)) (fun z15 hz16 => by have hrng := irange_mem hz16; exact ⟨_, [16], (fun j h => h), (fun _ _ _ _ _ => (DG.name (i := 16) sc_law_right.nd rfl (.inl rfl))), (fun _ _ _ _ _ => (DE.bin op_sub (DE.ix (DQ.tup (DE.var (i := 2) rfl (.inr (.inl rfl)) rfl)) (DE.var (i := 16) rfl (.inl rfl) rfl) (atI_ix (c := PyData.int) (xs := a_times) (k := z15) (by /-_law_right:28 low ix a_times z15-/ first | assumption | omega | decide | (simp only [Bool.and_eq_true, Bool.or_eq_true, Bool.not_eq_true', Bool.not_eq_false', Bool.or_eq_false_iff, Bool.and_eq_false_imp, decide_eq_true_eq, decide_eq_false_iff_not, List.length_append, List.length_cons, List.length_nil, List.length_map, List.length_reverse, irange_len, sizeLine_eq, CMul, CDiv, CPow] at *; first | omega | decide)) (by /-_law_right:29 high ix a_times z15-/ first | assumption | omega | decide | (simp only [Bool.and_eq_true, Bool.or_eq_true, Bool.not_eq_true', Bool.not_eq_false', Bool.or_eq_false_iff, Bool.and_eq_false_imp, decide_eq_true_eq, decide_eq_false_iff_not, List.length_append, List.length_cons, List.length_nil, List.length_map, List.length_reverse, irange_len, sizeLine_eq, CMul, CDiv, CPow] at *; first | omega | decide)))) (DE.ix (DQ.tup (DE.var (i := 2) rfl (.inr (.inl rfl)) rfl)) (DE.bin op_sub (DE.var (i := 16) rfl (.inl rfl) rfl) DE.int r_int0) (atI_ix (c := PyData.int) (xs := a_times) (k := (z15 - (1 : Int))) (by /-_law_right:30 low ix a_times (z15 - (1 : Int))-/ first | assumption | omega | decide | (simp only [Bool.and_eq_true, Bool.or_eq_true, Bool.not_eq_true', Bool.not_eq_false', Bool.or_eq_false_iff, Bool.and_eq_false_imp, decide_eq_true_eq, decide_eq_false_iff_not, List.length_append, List.length_cons, List.length_nil, List.length_map, List.length_reverse, irange_len, sizeLine_eq, CMul, CDiv, CPow] at *; first | omega | decide)) (by /-_law_right:31 high ix a_times (z15 - (1 : Int))-/ first | assumption | omega | decide | (simp only [Bool.and_eq_true, Bool.or_eq_true, Bool.not_eq_true', Bool.not_eq_false', Bool.or_eq_false_iff, Bool.and_eq_false_imp, decide_eq_true_eq, decide_eq_false_iff_not, List.length_append, List.length_cons, List.length_nil, List.length_map, List.length_reverse, irange_len, sizeLine_eq, CMul, CDiv, CPow] at *; first | omega | decide)))) r_int0)), rfl⟩))))) (wi (wi (wi (wi (wi (wi (wi (wi (wi (wi (wi (wi (wi (wi (wi (wi (wi (wi wn))))))))))))))))))) (fun v18 h19 => (DB.sz (i := 9) (ca := PyData.int) (xs := v18) rfl fun hz_v18 => (DB.step (α := (List Int)) (fun v24 => [oL p_draws PyData.int v11.1, .val ((cL PyData.int) a_script), .val ((cT PyData.int) a_times), .val (PyData.int v1.2), .val (PyData.int v3.2), .val (PyData.int v5.2), .val (PyData.int v7.2), .val (PyData.int v9.2), .val (PyData.int v11.2), .val ((cT PyData.int) v18), .val ((cT PyData.int) v24), .em, .em, .val ((cO (c2 PyData.int PyData.int)) v13.1), .val ((cO PyData.int) v13.2.1), .val ((cT PyData.int) v13.2.2), .em, .em]) (DS.set (i := 10) sc_law_right.nd rfl (.inl rfl) (DE.tuple (by rfl) bi.tuple_ (DQ.list (DE.new (DF.map (c := PyData.int) (c' := PyData.int) (own := [("k", 16)]) (vs := [16]) (fun z20 : Int => ((decide ((ix a_times (z20 - (2 : Int))) < (ix a_times (z20 - (1 : Int))))) && (decide (((2 : Int) * ((ix a_times (z20 - (1 : Int))) - (ix a_times (z20 - (2 : Int))))) ≤ ((ix a_times z20) - (ix a_times (z20 - (1 : Int)))))))) (fun z20 : Int => z20) rfl sc_law_right.nd (blkOk_by (by kernel_rfl)) rfl (DX.rng2 (by rfl) bi.range_ DE.int (DE.lenC (ca := PyData.int) (by rfl) bi.len_ (DQ.tup (DE.var (i := 2) rfl (.inr (.inl rfl)) rfl))) (by /-_law_right:33 range from (2 : Int)-/ first | assumption | omega | decide | (simp only [Bool.and_eq_true, Bool.or_eq_true, Bool.not_eq_true', Bool.not_eq_false', Bool.or_eq_false_iff, Bool.and_eq_false_imp, decide_eq_true_eq, decide_eq_false_iff_not, List.length_append, List.length_cons, List.length_nil, List.length_map, List.length_reverse, irange_len, sizeLine_eq, CMul, CDiv, CPow] at *; first | omega | decide)) (by /-_law_right:34 range to (a_times.length : Int)-/ first | assumption | omega | decide | (simp only [Bool.and_eq_true, Bool.or_eq_true, Bool.not_eq_true', Bool.not_eq_false', Bool.or_eq_false_iff, Bool.and_eq_false_imp, decide_eq_true_eq, decide_eq_false_iff_not, List.length_append, List.length_cons, List.length_nil, List.length_map, List.length_reverse, irange_len, sizeLine_eq, CMul, CDiv, CPow] at *; first | omega | decide))) (fun _ => (by /-_law_right:48 few turns-/ first | assumption | omega | decide | (simp only [Bool.and_eq_true, Bool.or_eq_true, Bool.not_eq_true', Bool.not_eq_false', Bool.or_eq_false_iff, Bool.and_eq_false_imp, decide_eq_true_eq, decide_eq_false_iff_not, List.length_append, List.length_cons, List.length_nil, List.length_map, List.length_reverse, irange_len, sizeLine_eq, CMul, CDiv, CPow] at *; first | omega | decide))) (by exact trivial) (by exact (And.intro trivial trivial)) (fun z20 hz21 => by have hrng := irange_mem hz21; exact ⟨_, [16], (fun j h => h), (fun _ _ _ _ _ => (DG.name (i := 16) sc_law_right.nd rfl (.inl rfl))), (fun _ _ _ _ _ => (DTl.one (DT.of_w (DW.and (DT.cmp op_gt (DE.ix (DQ.tup (DE.var (i := 2) rfl (.inr (.inl rfl)) rfl)) (DE.bin op_sub (DE.var (i := 16) rfl (.inl rfl) rfl) DE.int r_int0) (atI_ix (c := PyData.int) (xs := a_times) (k := (z20 - (1 : Int))) (by /-_law_right:35 low ix a_times (z20 - (1 : Int))-/ first | assumption | omega | decide | (simp only [Bool.and_eq_true, Bool.or_eq_true, Bool.not_eq_true', Bool.not_eq_false', Bool.or_eq_false_iff, Bool.and_eq_false_imp, decide_eq_true_eq, decide_eq_false_iff_not, List.length_append, List.length_cons, List.length_nil, List.length_map, List.length_reverse, irange_len, sizeLine_eq, CMul, CDiv, CPow] at *; first | omega | decide)) (by /-_law_right:36 high ix a_times (z20 - (1 : Int))-/ first | assumption | omega | decide | (simp only [Bool.and_eq_true, Bool.or_eq_true, Bool.not_eq_true', Bool.not_eq_false', Bool.or_eq_false_iff, Bool.and_eq_false_imp, decide_eq_true_eq, decide_eq_false_iff_not, List.length_append, List.length_cons, List.length_nil, List.length_map, List.length_reverse, irange_len, sizeLine_eq, CMul, CDiv, CPow] at *; first | omega | decide)))) (DE.ix (DQ.tup (DE.var (i := 2) rfl (.inr (.inl rfl)) rfl)) (DE.bin op_sub (DE.var (i := 16) rfl (.inl rfl) rfl) DE.int r_int0) (atI_ix (c := PyData.int) (xs := a_times) (k := (z20 - (2 : Int))) (by /-_law_right:37 low ix a_times (z20 - (2 : Int))-/ first | assumption | omega | decide | (simp only [Bool.and_eq_true, Bool.or_eq_true, Bool.not_eq_true', Bool.not_eq_false', Bool.or_eq_false_iff, Bool.and_eq_false_imp, decide_eq_true_eq, decide_eq_false_iff_not, List.length_append, List.length_cons, List.length_nil, List.length_map, List.length_reverse, irange_len, sizeLine_eq, CMul, CDiv, CPow] at *; first | omega | decide)) (by /-_law_right:38 high ix a_times (z20 - (2 : Int))-/ first | assumption | omega | decide | (simp only [Bool.and_eq_true, Bool.or_eq_true, Bool.not_eq_true', Bool.not_eq_false', Bool.or_eq_false_iff, Bool.and_eq_false_imp, decide_eq_true_eq, decide_eq_false_iff_not, List.length_append, List.length_cons, List.length_nil, List.length_map, List.length_reverse, irange_len, sizeLine_eq, CMul, CDiv, CPow] at *; first | omega | decide)))) r_bl0 (nomark _)) (fun hb22 => (DW.and1 (DT.cmp op_ge (DE.bin op_sub (DE.ix (DQ.tup (DE.var (i := 2) rfl (.inr (.inl rfl)) rfl)) (DE.var (i := 16) rfl (.inl rfl) rfl) (atI_ix (c := PyData.int) (xs := a_times) (k := z20) (by /-_law_right:39 low ix a_times z20-/ first | assumption | omega | decide | (simp only [Bool.and_eq_true, Bool.or_eq_true, Bool.not_eq_true', Bool.not_eq_false', Bool.or_eq_false_iff, Bool.and_eq_false_imp, decide_eq_true_eq, decide_eq_false_iff_not, List.length_append, List.length_cons, List.length_nil, List.length_map, List.length_reverse, irange_len, sizeLine_eq, CMul, CDiv, CPow] at *; first | omega | decide)) (by /-_law_right:40 high ix a_times z20-/ first | assumption | omega | decide | (simp only [Bool.and_eq_true, Bool.or_eq_true, Bool.not_eq_true', Bool.not_eq_false', Bool.or_eq_false_iff, Bool.and_eq_false_imp, decide_eq_true_eq, decide_eq_false_iff_not, List.length_append, List.length_cons, List.length_nil, List.length_map, List.length_reverse, irange_len, sizeLine_eq, CMul, CDiv, CPow] at *; first | omega | decide)))) (DE.ix (DQ.tup (DE.var (i := 2) rfl (.inr (.inl rfl)) rfl)) (DE.bin op_sub (DE.var (i := 16) rfl (.inl rfl) rfl) DE.int r_int0) (atI_ix (c := PyData.int) (xs := a_times) (k := (z20 - (1 : Int))) (by /-_law_right:41 low ix a_times (z20 - (1 : Int))-/ first | assumption | omega | decide | (simp only [Bool.and_eq_true, Bool.or_eq_true, Bool.not_eq_true', Bool.not_eq_false', Bool.or_eq_false_iff, Bool.and_eq_false_imp, decide_eq_true_eq, decide_eq_false_iff_not, List.length_append, List.length_cons, List.length_nil, List.length_map, List.length_reverse, irange_len, sizeLine_eq, CMul, CDiv, CPow] at *; first | omega | decide)) (by /-_law_right:42 high ix a_times (z20 - (1 : Int))-/ first | assumption | omega | decide | (simp only [Bool.and_eq_true, Bool.or_eq_true, Bool.not_eq_true', Bool.not_eq_false', Bool.or_eq_false_iff, Bool.and_eq_false_imp, decide_eq_true_eq, decide_eq_false_iff_not, List.length_append, List.length_cons, List.length_nil, List.length_map, List.length_reverse, irange_len, sizeLine_eq, CMul, CDiv, CPow] at *; first | omega | decide)))) r_int0) (DE.bin op_mul DE.int (DE.bin op_sub (DE.ix (DQ.tup (DE.var (i := 2) rfl (.inr (.inl rfl)) rfl)) (DE.bin op_sub (DE.var (i := 16) rfl (.inl rfl) rfl) DE.int r_int0) (atI_ix (c := PyData.int) (xs := a_times) (k := (z20 - (1 : Int))) (by /-_law_right:43 low ix a_times (z20 - (1 : Int))-/ first | assumption | omega | decide | (simp only [Bool.and_eq_true, Bool.or_eq_true, Bool.not_eq_true', Bool.not_eq_false', Bool.or_eq_false_iff, Bool.and_eq_false_imp, decide_eq_true_eq, decide_eq_false_iff_not, List.length_append, List.length_cons, List.length_nil, List.length_map, List.length_reverse, irange_len, sizeLine_eq, CMul, CDiv, CPow] at *; first | omega | decide)) (by /-_law_right:44 high ix a_times (z20 - (1 : Int))-/ first | assumption | omega | decide | (simp only [Bool.and_eq_true, Bool.or_eq_true, Bool.not_eq_true', Bool.not_eq_false', Bool.or_eq_false_iff, Bool.and_eq_false_imp, decide_eq_true_eq, decide_eq_false_iff_not, List.length_append, List.length_cons, List.length_nil, List.length_map, List.length_reverse, irange_len, sizeLine_eq, CMul, CDiv, CPow] at *; first | omega | decide)))) (DE.ix (DQ.tup (DE.var (i := 2) rfl (.inr (.inl rfl)) rfl)) (DE.bin op_sub (DE.var (i := 16) rfl (.inl rfl) rfl) DE.int r_int0) (atI_ix (c := PyData.int) (xs := a_times) (k := (z20 - (2 : Int))) (by /-_law_right:45 low ix a_times (z20 - (2 : Int))-/ first | assumption | omega | decide | (simp only [Bool.and_eq_true, Bool.or_eq_true, Bool.not_eq_true', Bool.not_eq_false', Bool.or_eq_false_iff, Bool.and_eq_false_imp, decide_eq_true_eq, decide_eq_false_iff_not, List.length_append, List.length_cons, List.length_nil, List.length_map, List.length_reverse, irange_len, sizeLine_eq, CMul, CDiv, CPow] at *; first | omega | decide)) (by /-_law_right:46 high ix a_times (z20 - (2 : Int))-/ first | assumption | omega | decide | (simp only [Bool.and_eq_true, Bool.or_eq_true, Bool.not_eq_true', Bool.not_eq_false', Bool.or_eq_false_iff, Bool.and_eq_false_imp, decide_eq_true_eq, decide_eq_false_iff_not, List.length_append, List.length_cons, List.length_nil, List.length_map, List.length_reverse, irange_len, sizeLine_eq, CMul, CDiv, CPow] at *; first | omega | decide)))) r_int0) (r_int (f := fun i j => i * j) (by /-_law_right:47 mul (2 : Int), ((ix a_times (z20 - (1 : Int))) - (ix a_times (z20 - (2 : Int))))-/ first | assumption | omega | decide | (simp only [Bool.and_eq_true, Bool.or_eq_true, Bool.not_eq_true', Bool.not_eq_false', Bool.or_eq_false_iff, Bool.and_eq_false_imp, decide_eq_true_eq, decide_eq_false_iff_not, List.length_append, List.length_cons, List.length_nil, List.length_map, List.length_reverse, irange_len, sizeLine_eq, CMul, CDiv, CPow] at *; first | omega | decide)))) r_bl0 (nomark _)))))))), (fun hp23 => (fun _ _ _ _ _ => (DE.var (i := 16) rfl (.inl rfl) rfl))), rfl⟩))))) (wi (wi (wi (wi (wi (wi (wi (wi (wi (wi (wi (wi (wi (wi (wi (wi (wi (wi wn))))))))))))))))))) (fun v24 h25 => (DB.sz (i := 10) (ca := PyData.int) (xs := v24) rfl fun hz_v24 => (DB.ifR (DT.of_w (DW.or (DT.not (DT.val (DE.eq (DE.call c_law_same (hr.mono (by decide)) (by rfl) (DA.cons (DE.call cmost_in (hr.mono (by decide)) (by rfl) (DA.cons (DE.var (i := 2) rfl (.inr (.inl rfl)) rfl) (DA.cons (DE.var (i := 3) rfl (.inl rfl) rfl) DA.nil)) ⟨a_times, v1.2, rfl, rfl, rfl⟩ [] rfl (by decide) rfl) (DA.cons (DE.var (i := 13) rfl (.inl rfl) rfl) DA.nil)) ⟨_, _, rfl, (show Sm 8 (cO (c2 PyData.int PyData.int)) from (sm_O (sm_2 sm_int sm_int) (fun _ => rfl))).ok (mmost_in a_times v1.2), (show Sm 8 (cO (c2 PyData.int PyData.int)) from (sm_O (sm_2 sm_int sm_int) (fun _ => rfl))).ok v13.1, rfl, rfl⟩ [] rfl (by decide) rfl) (congrArg PyData.bool (sm_dec (c := (cO (c2 PyData.int PyData.int))) (sm_O (sm_2 sm_int sm_int) (fun _ => rfl)) (mmost_in a_times v1.2) v13.1))))) (fun hb26 => (DW.or (DT.not (DT.val (DE.eq (DE.call c_law_same (hr.mono (by decide)) (by rfl) (DA.cons (DE.call crates_rise (hr.mono (by decide)) (by rfl) (DA.cons (DE.var (i := 2) rfl (.inr (.inl rfl)) rfl) (DA.cons (DE.var (i := 3) rfl (.inl rfl) rfl) (DA.cons (DE.var (i := 4) rfl (.inl rfl) rfl) DA.nil))) ⟨a_times, v1.2, v3.2, rfl, rfl, rfl⟩ [] rfl (by decide) rfl) (DA.cons (DE.var (i := 14) rfl (.inl rfl) rfl) DA.nil)) ⟨_, _, rfl, (show Sm 8 (cO PyData.int) from (sm_O sm_int (fun _ => rfl))).ok (mrates_rise a_times v1.2 v3.2), (show Sm 8 (cO PyData.int) from (sm_O sm_int (fun _ => rfl))).ok v13.2.1, rfl, rfl⟩ [] rfl (by decide) rfl) (congrArg PyData.bool (sm_dec (c := (cO PyData.int)) (sm_O sm_int (fun _ => rfl)) (mrates_rise a_times v1.2 v3.2) v13.2.1))))) (fun hb27 => (DW.or1 (DT.not (DT.val (DE.eq (DE.call c_law_same (hr.mono (by decide)) (by rfl) (DA.cons (DE.call cthinned_times (hr.mono (by decide)) (by rfl) (DA.cons (DE.var (i := 2) rfl (.inr (.inl rfl)) rfl) (DA.cons (DE.var (i := 5) rfl (.inl rfl) rfl) DA.nil)) ⟨a_times, v5.2, rfl, rfl, rfl⟩ [] rfl (by decide) rfl) (DA.cons (DE.var (i := 15) rfl (.inl rfl) rfl) DA.nil)) ⟨_, _, rfl, (show Sm 8 (cT PyData.int) from (sm_T sm_int)).ok (mthinned_times a_times v5.2), (show Sm 8 (cT PyData.int) from (sm_T sm_int)).ok v13.2.2, rfl, rfl⟩ [] rfl (by decide) rfl) (congrArg PyData.bool (sm_dec (c := (cT PyData.int)) (sm_T sm_int) (mthinned_times a_times v5.2) v13.2.2))))))))))) (fun hb28 => (DB.ret DE.bl (And.intro rfl (kp_o (kp_v (kp_v kp_n)))))) (fun hb28 => (DB.nil (DB.ifR (DT.of_w (DW.or (DT.not (DT.val (DE.eq (DE.call c_law_same (hr.mono (by decide)) (by rfl) (DA.cons (DE.call cgaps_of (hr.mono (by decide)) (by rfl) (DA.cons (DE.var (i := 2) rfl (.inr (.inl rfl)) rfl) DA.nil) ⟨a_times, rfl, rfl, rfl⟩ [] rfl (by decide) rfl) (DA.cons (DE.var (i := 9) rfl (.inl rfl) rfl) DA.nil)) ⟨_, _, rfl, (show Sm 8 (cT PyData.int) from (sm_T sm_int)).ok (mgaps_of a_times), (show Sm 8 (cT PyData.int) from (sm_T sm_int)).ok v18, rfl, rfl⟩ [] rfl (by decide) rfl) (congrArg PyData.bool (sm_dec (c := (cT PyData.int)) (sm_T sm_int) (mgaps_of a_times) v18))))) (fun hb29 => (DW.or1 (DT.not (DT.val (DE.eq (DE.call c_law_same (hr.mono (by decide)) (by rfl) (DA.cons (DE.call cdoubled_steps (hr.mono (by decide)) (by rfl) (DA.cons (DE.var (i := 2) rfl (.inr (.inl rfl)) rfl) DA.nil) ⟨a_times, rfl, rfl, rfl⟩ [] rfl (by decide) rfl) (DA.cons (DE.var (i := 10) rfl (.inl rfl) rfl) DA.nil)) ⟨_, _, rfl, (show Sm 8 (cT PyData.int) from (sm_T sm_int)).ok (mdoubled_steps a_times), (show Sm 8 (cT PyData.int) from (sm_T sm_int)).ok v24, rfl, rfl⟩ [] rfl (by decide) rfl) (congrArg PyData.bool (sm_dec (c := (cT PyData.int)) (sm_T sm_int) (mdoubled_steps a_times) v24))))))))) (fun hb30 => (DB.ret DE.bl (And.intro rfl (kp_o (kp_v (kp_v kp_n)))))) (fun hb30 => (DB.nil (DB.ifR (DT.of_w (DW.and (DT.cmp op_gt (DE.lenC (ca := PyData.int) (by rfl) bi.len_ (DQ.tup (DE.var (i := 2) rfl (.inr (.inl rfl)) rfl))) DE.int r_bl0 (nomark _)) (fun hb31 => (DW.and1 (DT.cmp op_ne (DE.sum (ns := v18) rfl (by rfl) bi.sum_ (DQ.tup (DE.var (i := 9) rfl (.inl rfl) rfl))) (DE.bin op_sub (DE.ix (DQ.tup (DE.var (i := 2) rfl (.inr (.inl rfl)) rfl)) (DE.un un_neg DE.int r_neg) (atI_ix (c := PyData.int) (xs := a_times) (k := (-(1 : Int))) (by /-_law_right:49 low ix a_times (-(1 : Int))-/ first | assumption | omega | decide | (simp only [Bool.and_eq_true, Bool.or_eq_true, Bool.not_eq_true', Bool.not_eq_false', Bool.or_eq_false_iff, Bool.and_eq_false_imp, decide_eq_true_eq, decide_eq_false_iff_not, List.length_append, List.length_cons, List.length_nil, List.length_map, List.length_reverse, irange_len, sizeLine_eq, CMul, CDiv, CPow] at *; first | omega | decide)) (by /-_law_right:50 high ix a_times (-(1 : Int))-/ first | assumption | omega | decide | (simp only [Bool.and_eq_true, Bool.or_eq_true, Bool.not_eq_true', Bool.not_eq_false', Bool.or_eq_false_iff, Bool.and_eq_false_imp, decide_eq_true_eq, decide_eq_false_iff_not, List.length_append, List.length_cons, List.length_nil, List.length_map, List.length_reverse, irange_len, sizeLine_eq, CMul, CDiv, CPow] at *; first | omega | decide)))) (DE.ix (DQ.tup (DE.var (i := 2) rfl (.inr (.inl rfl)) rfl)) DE.int (atI_ix (c := PyData.int) (xs := a_times) (k := (0 : Int)) (by /-_law_right:51 low ix a_times (0 : Int)-/ first | assumption | omega | decide | (simp only [Bool.and_eq_true, Bool.or_eq_true, Bool.not_eq_true', Bool.not_eq_false', Bool.or_eq_false_iff, Bool.and_eq_false_imp, decide_eq_true_eq, decide_eq_false_iff_not, List.length_append, List.length_cons, List.length_nil, List.length_map, List.length_reverse, irange_len, sizeLine_eq, CMul, CDiv, CPow] at *; first | omega | decide)) (by /-_law_right:52 high ix a_times (0 : Int)-/ first | assumption | omega | decide | (simp only [Bool.and_eq_true, Bool.or_eq_true, Bool.not_eq_true', Bool.not_eq_false', Bool.or_eq_false_iff, Bool.and_eq_false_imp, decide_eq_true_eq, decide_eq_false_iff_not, List.length_append, List.length_cons, List.length_nil, List.length_map, List.length_reverse, irange_len, sizeLine_eq, CMul, CDiv, CPow] at *; first | omega | decide)))) r_int0) r_neI (nomark _)))))) (fun hb32 => (DB.ret DE.bl (And.intro rfl (kp_o (kp_v (kp_v kp_n)))))) (fun hb32 => (DB.nil (DB.ifR (DT.not (DT.val (DE.eq (DE.call c_law_same (hr.mono (by decide)) (by rfl) (DA.cons (DE.call cfading (hr.mono (by decide)) (by rfl) (DA.cons (DE.var (i := 2) rfl (.inr (.inl rfl)) rfl) (DA.cons (DE.var (i := 6) rfl (.inl rfl) rfl) (DA.cons (DE.var (i := 3) rfl (.inl rfl) rfl) DA.nil))) ⟨a_times, v7.2, v1.2, rfl, (by /-_law_right:53 pre of fading-/ have := take_bd (m_law_size (m_law_take (m_law_take a_draws (9 : Int)).2 (60 : Int)).2 a_script).2 (3 : Int) ; have := take_bd (m_law_take a_draws (9 : Int)).2 (60 : Int) ; have := take_bd a_draws (9 : Int) ; have := take_bd v5.1 (60 : Int) ; have := take_bd (m_law_size (m_law_take (m_law_take v3.1 (9 : Int)).2 (60 : Int)).2 a_script).2 (3 : Int) ; have := take_bd (m_law_take v3.1 (9 : Int)).2 (60 : Int) ; have := take_bd v3.1 (9 : Int) ; have := take_bd v1.1 (6 : Int) ; first | exact ⟨Nat.le_trans hpl (by decide), hwide.1, by have := hpre.last; omega⟩ | exact hfl), rfl, rfl⟩ [] rfl (by decide) rfl) (DA.cons (DE.call c_law_fading (hr.mono (by decide)) (by rfl) (DA.cons (DE.var (i := 2) rfl (.inr (.inl rfl)) rfl) (DA.cons (DE.var (i := 6) rfl (.inl rfl) rfl) (DA.cons (DE.var (i := 3) rfl (.inl rfl) rfl) DA.nil))) ⟨a_times, v7.2, v1.2, rfl, (by /-_law_right:54 pre of _law_fading-/ have := take_bd (m_law_size (m_law_take (m_law_take a_draws (9 : Int)).2 (60 : Int)).2 a_script).2 (3 : Int) ; have := take_bd (m_law_take a_draws (9 : Int)).2 (60 : Int) ; have := take_bd a_draws (9 : Int) ; have := take_bd v5.1 (60 : Int) ; have := take_bd (m_law_size (m_law_take (m_law_take v3.1 (9 : Int)).2 (60 : Int)).2 a_script).2 (3 : Int) ; have := take_bd (m_law_take v3.1 (9 : Int)).2 (60 : Int) ; have := take_bd v3.1 (9 : Int) ; have := take_bd v1.1 (6 : Int) ; exact ⟨Nat.le_trans hpl (by decide), hwide.1, by have := hpre.last; omega⟩), rfl, rfl⟩ [] rfl (by decide) rfl) DA.nil)) ⟨_, _, rfl, (show Sm 8 (cT PyData.int) from (sm_T sm_int)).ok (mfading a_times v7.2 v1.2), (show Sm 8 (cT PyData.int) from (sm_T sm_int)).ok (m_law_fading a_times v7.2 v1.2), rfl, rfl⟩ [] rfl (by decide) rfl) (congrArg PyData.bool (sm_dec (c := (cT PyData.int)) (sm_T sm_int) (mfading a_times v7.2 v1.2) (m_law_fading a_times v7.2 v1.2)))))) (fun hb33 => (DB.ret DE.bl (And.intro rfl (kp_o (kp_v (kp_v kp_n)))))) (fun hb33 => (DB.nil (DB.step (α := (List Int)) (fun v37 => [oL p_draws PyData.int v11.1, .val ((cL PyData.int) a_script), .val ((cT PyData.int) a_times), .val (PyData.int v1.2), .val (PyData.int v3.2), .val (PyData.int v5.2), .val (PyData.int v7.2), .val (PyData.int v9.2), .val (PyData.int v11.2), .val ((cT PyData.int) v18), .val ((cT PyData.int) v24), .val ((cT PyData.int) v37), .em, .val ((cO (c2 PyData.int PyData.int)) v13.1), .val ((cO PyData.int) v13.2.1), .val ((cT PyData.int) v13.2.2), .em, .em]) (DS.set (i := 11) sc_law_right.nd rfl (.inl rfl) (DE.tuple (by rfl) bi.tuple_ (DQ.list (DE.new (DF.map1 (c := PyData.int) (c' := PyData.int) (own := [("time", 17)]) (vs := [17]) (fun z34 : Int => ((z34 * v11.2) + v9.2)) rfl sc_law_right.nd (blkOk_by (by kernel_rfl)) rfl (DX.seq (c := PyData.int) (xs := a_times) (DQ.tup (DE.var (i := 2) rfl (.inr (.inl rfl)) rfl))) (fun h => h) (by exact trivial) (by exact (And.intro trivial trivial)) (fun z34 hz35 => ⟨_, [17], (fun j h => h), (fun _ _ _ _ _ => (DG.name (i := 17) sc_law_right.nd rfl (.inl rfl))), (fun _ _ _ _ _ => (DE.bin op_add (DE.bin op_mul (DE.var (i := 17) rfl (.inl rfl) rfl) (DE.var (i := 8) rfl (.inr (.inl rfl)) rfl) (r_int (f := fun i j => i * j) (by /-_law_right:55 mul z34, v11.2-/ have := take_bd v9.1 (9 : Int) ; have := take_bd (m_law_size v7.1 a_script).2 (2 : Int) ; have := take_bd v5.1 (60 : Int) ; have := take_bd (m_law_size (m_law_take (m_law_take v3.1 (9 : Int)).2 (60 : Int)).2 a_script).2 (3 : Int) ; have := take_bd (m_law_take v3.1 (9 : Int)).2 (60 : Int) ; have := take_bd v3.1 (9 : Int) ; have := take_bd v1.1 (6 : Int) ; have := take_bd (m_law_size (m_law_take (m_law_take a_draws (9 : Int)).2 (60 : Int)).2 a_script).2 (3 : Int) ; have := take_bd (m_law_take a_draws (9 : Int)).2 (60 : Int) ; have := take_bd a_draws (9 : Int) ; first | assumption | omega | decide | (simp only [Bool.and_eq_true, Bool.or_eq_true, Bool.not_eq_true', Bool.not_eq_false', Bool.or_eq_false_iff, Bool.and_eq_false_imp, decide_eq_true_eq, decide_eq_false_iff_not, List.length_append, List.length_cons, List.length_nil, List.length_map, List.length_reverse, irange_len, sizeLine_eq, CMul, CDiv, CPow] at *; first | omega | decide)))) (DE.var (i := 7) rfl (.inr (.inl rfl)) rfl) r_int0)), rfl⟩))))) (wi (wi (wi (wi (wi (wi (wi (wi (wi (wi (wi (wi (wi (wi (wi (wi (wi (wi wn))))))))))))))))))) (fun v37 h38 => by have h38_l0 : (v37).length = (a_times).length := (congrArg (fun p : (List Int) => (p).length) h38).trans (by simp only [List.length_append, List.length_cons, List.length_nil, List.length_map, List.length_reverse, irange_len, List.length_dropLast, setI, List.length_set]); have hfl := fad_pre2 hpre h38 hwide htm hbeg hby; exact (DB.sz (i := 11) (ca := PyData.int) (xs := v37) rfl fun hz_v37 => (DB.step (α := Unit) (fun v39 => [oL p_draws PyData.int v11.1, .val ((cL PyData.int) a_script), .val ((cT PyData.int) a_times), .val (PyData.int v1.2), .val (PyData.int v3.2), .val (PyData.int v5.2), .val (PyData.int v7.2), .val (PyData.int v9.2), .val (PyData.int v11.2), .val ((cT PyData.int) v18), .val ((cT PyData.int) v24), .val ((cT PyData.int) v37), .val (cU v39), .val ((cO (c2 PyData.int PyData.int)) v13.1), .val ((cO PyData.int) v13.2.1), .val ((cT PyData.int) v13.2.2), .em, .em]) (DS.set (i := 12) sc_law_right.nd rfl (.inl rfl) DE.non (wi (wi (wi (wi (wi (wi (wi (wi (wi (wi (wi (wi (wi (wi (wi (wi (wi (wi wn))))))))))))))))))) (fun v39 h40 => (DB.step (α := (Option (Int × Int))) (fun v42 => [oL p_draws PyData.int v11.1, .val ((cL PyData.int) a_script), .val ((cT PyData.int) a_times), .val (PyData.int v1.2), .val (PyData.int v3.2), .val (PyData.int v5.2), .val (PyData.int v7.2), .val (PyData.int v9.2), .val (PyData.int v11.2), .val ((cT PyData.int) v18), .val ((cT PyData.int) v24), .val ((cT PyData.int) v37), .val ((cO (c2 PyData.int PyData.int)) v42), .val ((cO (c2 PyData.int PyData.int)) v13.1), .val ((cO PyData.int) v13.2.1), .val ((cT PyData.int) v13.2.2), .em, .em]) (DS.iteS (DT.cmp op_notN (DE.var (i := 13) rfl (.inl rfl) rfl) DE.non (r_notN (isNon_cO (c1 := (c2 PyData.int PyData.int)) (fun _ => rfl) v13.1)) (nomark _)) (fun hb41 => (DB.step (α := (Int × Int)) (fun v44 => [oL p_draws PyData.int v11.1, .val ((cL PyData.int) a_script), .val ((cT PyData.int) a_times), .val (PyData.int v1.2), .val (PyData.int v3.2), .val (PyData.int v5.2), .val (PyData.int v7.2), .val (PyData.int v9.2), .val (PyData.int v11.2), .val ((cT PyData.int) v18), .val ((cT PyData.int) v24), .val ((cT PyData.int) v37), .val ((c2 PyData.int PyData.int) v44), .val ((cO (c2 PyData.int PyData.int)) v13.1), .val ((cO PyData.int) v13.2.1), .val ((cT PyData.int) v13.2.2), .em, .em]) (DS.set (i := 12) sc_law_right.nd rfl (.inl rfl) (DE.tup (DV.cons (DE.ix (DQ.tup (DE.eq (DE.var (i := 13) rfl (.inl rfl) rfl) (cO_get (c1 := (c2 PyData.int PyData.int)) (o := v13.1) (by /-_law_right:56 not None: v13.1-/ have := take_bd (m_law_size (m_law_take (m_law_take a_draws (9 : Int)).2 (60 : Int)).2 a_script).2 (3 : Int) ; have := take_bd (m_law_take a_draws (9 : Int)).2 (60 : Int) ; have := take_bd a_draws (9 : Int) ; have := take_bd v1.1 (6 : Int) ; have := take_bd (m_law_size (m_law_take (m_law_take v3.1 (9 : Int)).2 (60 : Int)).2 a_script).2 (3 : Int) ; have := take_bd (m_law_take v3.1 (9 : Int)).2 (60 : Int) ; have := take_bd v3.1 (9 : Int) ; first | assumption | omega | decide | (simp only [Bool.and_eq_true, Bool.or_eq_true, Bool.not_eq_true', Bool.not_eq_false', Bool.or_eq_false_iff, Bool.and_eq_false_imp, decide_eq_true_eq, decide_eq_false_iff_not, List.length_append, List.length_cons, List.length_nil, List.length_map, List.length_reverse, irange_len, sizeLine_eq, CMul, CDiv, CPow] at *; first | omega | decide))))) DE.int at_0) (DV.cons (DE.bin op_add (DE.bin op_mul (DE.ix (DQ.tup (DE.eq (DE.var (i := 13) rfl (.inl rfl) rfl) (cO_get (c1 := (c2 PyData.int PyData.int)) (o := v13.1) (by /-_law_right:57 not None: v13.1-/ have := take_bd (m_law_size (m_law_take (m_law_take a_draws (9 : Int)).2 (60 : Int)).2 a_script).2 (3 : Int) ; have := take_bd (m_law_take a_draws (9 : Int)).2 (60 : Int) ; have := take_bd a_draws (9 : Int) ; have := take_bd v1.1 (6 : Int) ; have := take_bd (m_law_size (m_law_take (m_law_take v3.1 (9 : Int)).2 (60 : Int)).2 a_script).2 (3 : Int) ; have := take_bd (m_law_take v3.1 (9 : Int)).2 (60 : Int) ; have := take_bd v3.1 (9 : Int) ; first | assumption | omega | decide | (simp only [Bool.and_eq_true, Bool.or_eq_true, Bool.not_eq_true', Bool.not_eq_false', Bool.or_eq_false_iff, Bool.and_eq_false_imp, decide_eq_true_eq, decide_eq_false_iff_not, List.length_append, List.length_cons, List.length_nil, List.length_map, List.length_reverse, irange_len, sizeLine_eq, CMul, CDiv, CPow] at *; first | omega | decide))))) DE.int at_1) (DE.var (i := 8) rfl (.inr (.inl rfl)) rfl) (r_int (f := fun i j => i * j) (by /-_law_right:58 mul (v13.1.getD default).2, v11.2-/ have := take_bd (m_law_size (m_law_take (m_law_take a_draws (9 : Int)).2 (60 : Int)).2 a_script).2 (3 : Int) ; have := take_bd (m_law_take a_draws (9 : Int)).2 (60 : Int) ; have := take_bd a_draws (9 : Int) ; have := take_bd v1.1 (6 : Int) ; have := take_bd (m_law_size (m_law_take (m_law_take v3.1 (9 : Int)).2 (60 : Int)).2 a_script).2 (3 : Int) ; have := take_bd (m_law_take v3.1 (9 : Int)).2 (60 : Int) ; have := take_bd v3.1 (9 : Int) ; have := take_bd v9.1 (9 : Int) ; have := take_bd (m_law_size v7.1 a_script).2 (2 : Int) ; have := take_bd v5.1 (60 : Int) ; first | assumption | omega | decide | (simp only [Bool.and_eq_true, Bool.or_eq_true, Bool.not_eq_true', Bool.not_eq_false', Bool.or_eq_false_iff, Bool.and_eq_false_imp, decide_eq_true_eq, decide_eq_false_iff_not, List.length_append, List.length_cons, List.length_nil, List.length_map, List.length_reverse, irange_len, sizeLine_eq, CMul, CDiv, CPow] at *; first | omega | decide)))) (DE.var (i := 7) rfl (.inr (.inl rfl)) rfl) r_int0) DV.nil))) (wi (wi (wi (wi (wi (wi (wi (wi (wi (wi (wi (wi (wi (wi (wi (wi (wi (wi wn))))))))))))))))))) (fun v44 h45 => (DB.endS (wi (wi (wi (wi (wi (wi (wi (wi (wi (wi (wi (wi (wi (wi (wi (wi (wi (wi wn)))))))))))))))))))))) (fun hb41 => (DB.endS (wi (wi (wi (wi (wi (wi (wi (wi (wi (wi (wi (wi (wi (wi (wi (wi (wi (wi wn))))))))))))))))))))) (fun v42 h43 => (DB.ifR (DT.of_w (DW.or (DT.not (DT.val (DE.eq (DE.call c_law_same (hr.mono (by decide)) (by rfl) (DA.cons (DE.call cmost_in (hr.mono (by decide)) (by rfl) (DA.cons (DE.var (i := 11) rfl (.inl rfl) rfl) (DA.cons (DE.bin op_mul (DE.var (i := 3) rfl (.inl rfl) rfl) (DE.var (i := 8) rfl (.inr (.inl rfl)) rfl) (r_int (f := fun i j => i * j) (by /-_law_right:59 mul v1.2, v11.2-/ have := take_bd (m_law_size (m_law_take (m_law_take a_draws (9 : Int)).2 (60 : Int)).2 a_script).2 (3 : Int) ; have := take_bd (m_law_take a_draws (9 : Int)).2 (60 : Int) ; have := take_bd a_draws (9 : Int) ; have := take_bd v9.1 (9 : Int) ; have := take_bd (m_law_size v7.1 a_script).2 (2 : Int) ; have := take_bd v5.1 (60 : Int) ; have := take_bd (m_law_size (m_law_take (m_law_take v3.1 (9 : Int)).2 (60 : Int)).2 a_script).2 (3 : Int) ; have := take_bd (m_law_take v3.1 (9 : Int)).2 (60 : Int) ; have := take_bd v3.1 (9 : Int) ; have := take_bd v1.1 (6 : Int) ; first | assumption | omega | decide | (simp only [Bool.and_eq_true, Bool.or_eq_true, Bool.not_eq_true', Bool.not_eq_false', Bool.or_eq_false_iff, Bool.and_eq_false_imp, decide_eq_true_eq, decide_eq_false_iff_not, List.length_append, List.length_cons, List.length_nil, List.length_map, List.length_reverse, irange_len, sizeLine_eq, CMul, CDiv, CPow] at *; first | omega | decide)))) DA.nil)) ⟨v37, (v1.2 * v11.2), rfl, rfl, rfl⟩ [] rfl (by decide) rfl) (DA.cons (DE.var (i := 12) rfl (.inl rfl) rfl) DA.nil)) ⟨_, _, rfl, (show Sm 8 (cO (c2 PyData.int PyData.int)) from (sm_O (sm_2 sm_int sm_int) (fun _ => rfl))).ok (mmost_in v37 (v1.2 * v11.2)), (show Sm 8 (cO (c2 PyData.int PyData.int)) from (sm_O (sm_2 sm_int sm_int) (fun _ => rfl))).ok v42, rfl, rfl⟩ [] rfl (by decide) rfl) (congrArg PyData.bool (sm_dec (c := (cO (c2 PyData.int PyData.int))) (sm_O (sm_2 sm_int sm_int) (fun _ => rfl)) (mmost_in v37 (v1.2 * v11.2)) v42))))) (fun hb46 => (DW.or1 (DT.not (DT.val (DE.eq (DE.call c_law_same (hr.mono (by decide)) (by rfl) (DA.cons (DE.call cdoubled_steps (hr.mono (by decide)) (by rfl) (DA.cons (DE.var (i := 11) rfl (.inl rfl) rfl) DA.nil) ⟨v37, rfl, rfl, rfl⟩ [] rfl (by decide) rfl) (DA.cons (DE.var (i := 10) rfl (.inl rfl) rfl) DA.nil)) ⟨_, _, rfl, (show Sm 8 (cT PyData.int) from (sm_T sm_int)).ok (mdoubled_steps v37), (show Sm 8 (cT PyData.int) from (sm_T sm_int)).ok v24, rfl, rfl⟩ [] rfl (by decide) rfl) (congrArg PyData.bool (sm_dec (c := (cT PyData.int)) (sm_T sm_int) (mdoubled_steps v37) v24))))))))) (fun hb47 => (DB.ret DE.bl (And.intro rfl (kp_o (kp_v (kp_v kp_n)))))) (fun hb47 => (DB.nil (DB.ifR (DT.not (DT.val (DE.eq (DE.call c_law_same (hr.mono (by decide)) (by rfl) (DA.cons (DE.call cthinned_times (hr.mono (by decide)) (by rfl) (DA.cons (DE.var (i := 11) rfl (.inl rfl) rfl) (DA.cons (DE.bin op_mul (DE.var (i := 5) rfl (.inl rfl) rfl) (DE.var (i := 8) rfl (.inr (.inl rfl)) rfl) (r_int (f := fun i j => i * j) (by /-_law_right:60 mul v5.2, v11.2-/ have := take_bd (m_law_size (m_law_take (m_law_take v3.1 (9 : Int)).2 (60 : Int)).2 a_script).2 (3 : Int) ; have := take_bd (m_law_take v3.1 (9 : Int)).2 (60 : Int) ; have := take_bd v3.1 (9 : Int) ; have := take_bd v1.1 (6 : Int) ; have := take_bd (m_law_size (m_law_take (m_law_take a_draws (9 : Int)).2 (60 : Int)).2 a_script).2 (3 : Int) ; have := take_bd (m_law_take a_draws (9 : Int)).2 (60 : Int) ; have := take_bd a_draws (9 : Int) ; have := take_bd v9.1 (9 : Int) ; have := take_bd (m_law_size v7.1 a_script).2 (2 : Int) ; have := take_bd v5.1 (60 : Int) ; first | assumption | omega | decide | (simp only [Bool.and_eq_true, Bool.or_eq_true, Bool.not_eq_true', Bool.not_eq_false', Bool.or_eq_false_iff, Bool.and_eq_false_imp, decide_eq_true_eq, decide_eq_false_iff_not, List.length_append, List.length_cons, List.length_nil, List.length_map, List.length_reverse, irange_len, sizeLine_eq, CMul, CDiv, CPow] at *; first | omega | decide)))) DA.nil)) ⟨v37, (v5.2 * v11.2), rfl, rfl, rfl⟩ [] rfl (by decide) rfl) (DA.cons (DE.tuple (by rfl) bi.tuple_ (DQ.list (DE.new (DF.map1 (c := PyData.int) (c' := PyData.int) (own := [("time", 17)]) (vs := [17]) (fun z48 : Int => ((z48 * v11.2) + v9.2)) rfl sc_law_right.nd (blkOk_by (by kernel_rfl)) rfl (DX.seq (c := PyData.int) (xs := v13.2.2) (DQ.tup (DE.var (i := 15) rfl (.inl rfl) rfl))) (fun h => h) (by exact trivial) (by exact (And.intro trivial trivial)) (fun z48 hz49 => ⟨_, [17], (fun j h => h), (fun _ _ _ _ _ => (DG.name (i := 17) sc_law_right.nd rfl (.inl rfl))), (fun _ _ _ _ _ => (DE.bin op_add (DE.bin op_mul (DE.var (i := 17) rfl (.inl rfl) rfl) (DE.var (i := 8) rfl (.inr (.inl rfl)) rfl) (r_int (f := fun i j => i * j) (by /-_law_right:61 mul z48, v11.2-/ have := take_bd v9.1 (9 : Int) ; have := take_bd (m_law_size v7.1 a_script).2 (2 : Int) ; have := take_bd v5.1 (60 : Int) ; have := take_bd (m_law_size (m_law_take (m_law_take v3.1 (9 : Int)).2 (60 : Int)).2 a_script).2 (3 : Int) ; have := take_bd (m_law_take v3.1 (9 : Int)).2 (60 : Int) ; have := take_bd v3.1 (9 : Int) ; have := take_bd v1.1 (6 : Int) ; have := take_bd (m_law_size (m_law_take (m_law_take a_draws (9 : Int)).2 (60 : Int)).2 a_script).2 (3 : Int) ; have := take_bd (m_law_take a_draws (9 : Int)).2 (60 : Int) ; have := take_bd a_draws (9 : Int) ; first | assumption | omega | decide | (simp only [Bool.and_eq_true, Bool.or_eq_true, Bool.not_eq_true', Bool.not_eq_false', Bool.or_eq_false_iff, Bool.and_eq_false_imp, decide_eq_true_eq, decide_eq_false_iff_not, List.length_append, List.length_cons, List.length_nil, List.length_map, List.length_reverse, irange_len, sizeLine_eq, CMul, CDiv, CPow] at *; first | omega | decide)))) (DE.var (i := 7) rfl (.inr (.inl rfl)) rfl) r_int0)), rfl⟩))))) DA.nil)) ⟨_, _, rfl, (show Sm 8 (cT PyData.int) from (sm_T sm_int)).ok (mthinned_times v37 (v5.2 * v11.2)), (show Sm 8 (cT PyData.int) from (sm_T sm_int)).ok (v13.2.2.map (fun z48 : Int => ((z48 * v11.2) + v9.2))), rfl, rfl⟩ [] rfl (by decide) rfl) (congrArg PyData.bool (sm_dec (c := (cT PyData.int)) (sm_T sm_int) (mthinned_times v37 (v5.2 * v11.2)) (v13.2.2.map (fun z48 : Int => ((z48 * v11.2) + v9.2)))))))) (fun hb51 => (DB.ret DE.bl (And.intro rfl (kp_o (kp_v (kp_v kp_n)))))) (fun hb51 => (DB.nil (DB.ret (DE.andX (fun zz : Bool => [oL p_draws PyData.int (cond zz (m_law_quiet_right v11.1 a_script a_times).2 v11.1), .val ((cL PyData.int) a_script), .val ((cT PyData.int) a_times), .val (PyData.int v1.2), .val (PyData.int v3.2), .val (PyData.int v5.2), .val (PyData.int v7.2), .val (PyData.int v9.2), .val (PyData.int v11.2), .val ((cT PyData.int) v18), .val ((cT PyData.int) v24), .val ((cT PyData.int) v37), .val ((cO (c2 PyData.int PyData.int)) v42), .val ((cO (c2 PyData.int PyData.int)) v13.1), .val ((cO PyData.int) v13.2.1), .val ((cT PyData.int) v13.2.2), .em, .em]) (DE.eq (DE.call c_law_same (hr.mono (by decide)) (by rfl) (DA.cons (DE.call cfading (hr.mono (by decide)) (by rfl) (DA.cons (DE.var (i := 11) rfl (.inl rfl) rfl) (DA.cons (DE.bin op_add (DE.bin op_mul (DE.var (i := 6) rfl (.inl rfl) rfl) (DE.var (i := 8) rfl (.inr (.inl rfl)) rfl) (r_int (f := fun i j => i * j) (by /-_law_right:62 mul v7.2, v11.2-/ have := take_bd v5.1 (60 : Int) ; have := take_bd (m_law_size (m_law_take (m_law_take v3.1 (9 : Int)).2 (60 : Int)).2 a_script).2 (3 : Int) ; have := take_bd (m_law_take v3.1 (9 : Int)).2 (60 : Int) ; have := take_bd v3.1 (9 : Int) ; have := take_bd v1.1 (6 : Int) ; have := take_bd (m_law_size (m_law_take (m_law_take a_draws (9 : Int)).2 (60 : Int)).2 a_script).2 (3 : Int) ; have := take_bd (m_law_take a_draws (9 : Int)).2 (60 : Int) ; have := take_bd a_draws (9 : Int) ; have := take_bd v9.1 (9 : Int) ; have := take_bd (m_law_size v7.1 a_script).2 (2 : Int) ; first | assumption | omega | decide | (simp only [Bool.and_eq_true, Bool.or_eq_true, Bool.not_eq_true', Bool.not_eq_false', Bool.or_eq_false_iff, Bool.and_eq_false_imp, decide_eq_true_eq, decide_eq_false_iff_not, List.length_append, List.length_cons, List.length_nil, List.length_map, List.length_reverse, irange_len, sizeLine_eq, CMul, CDiv, CPow] at *; first | omega | decide)))) (DE.var (i := 7) rfl (.inr (.inl rfl)) rfl) r_int0) (DA.cons (DE.bin op_mul (DE.var (i := 3) rfl (.inl rfl) rfl) (DE.var (i := 8) rfl (.inr (.inl rfl)) rfl) (r_int (f := fun i j => i * j) (by /-_law_right:63 mul v1.2, v11.2-/ have := take_bd (m_law_size (m_law_take (m_law_take a_draws (9 : Int)).2 (60 : Int)).2 a_script).2 (3 : Int) ; have := take_bd (m_law_take a_draws (9 : Int)).2 (60 : Int) ; have := take_bd a_draws (9 : Int) ; have := take_bd v9.1 (9 : Int) ; have := take_bd (m_law_size v7.1 a_script).2 (2 : Int) ; have := take_bd v5.1 (60 : Int) ; have := take_bd (m_law_size (m_law_take (m_law_take v3.1 (9 : Int)).2 (60 : Int)).2 a_script).2 (3 : Int) ; have := take_bd (m_law_take v3.1 (9 : Int)).2 (60 : Int) ; have := take_bd v3.1 (9 : Int) ; have := take_bd v1.1 (6 : Int) ; first | assumption | omega | decide | (simp only [Bool.and_eq_true, Bool.or_eq_true, Bool.not_eq_true', Bool.not_eq_false', Bool.or_eq_false_iff, Bool.and_eq_false_imp, decide_eq_true_eq, decide_eq_false_iff_not, List.length_append, List.length_cons, List.length_nil, List.length_map, List.length_reverse, irange_len, sizeLine_eq, CMul, CDiv, CPow] at *; first | omega | decide)))) DA.nil))) ⟨v37, ((v7.2 * v11.2) + v9.2), (v1.2 * v11.2), rfl, (by /-_law_right:64 pre of fading-/ have := take_bd (m_law_size (m_law_take (m_law_take a_draws (9 : Int)).2 (60 : Int)).2 a_script).2 (3 : Int) ; have := take_bd (m_law_take a_draws (9 : Int)).2 (60 : Int) ; have := take_bd a_draws (9 : Int) ; have := take_bd v9.1 (9 : Int) ; have := take_bd v5.1 (60 : Int) ; have := take_bd (m_law_size (m_law_take (m_law_take v3.1 (9 : Int)).2 (60 : Int)).2 a_script).2 (3 : Int) ; have := take_bd (m_law_take v3.1 (9 : Int)).2 (60 : Int) ; have := take_bd v3.1 (9 : Int) ; have := take_bd v1.1 (6 : Int) ; have := take_bd (m_law_size v7.1 a_script).2 (2 : Int) ; first | exact ⟨Nat.le_trans hpl (by decide), hwide.1, by have := hpre.last; omega⟩ | exact hfl), rfl, rfl⟩ [] rfl (by decide) rfl) (DA.cons (DE.call c_law_fading (hr.mono (by decide)) (by rfl) (DA.cons (DE.var (i := 2) rfl (.inr (.inl rfl)) rfl) (DA.cons (DE.var (i := 6) rfl (.inl rfl) rfl) (DA.cons (DE.var (i := 3) rfl (.inl rfl) rfl) DA.nil))) ⟨a_times, v7.2, v1.2, rfl, (by /-_law_right:65 pre of _law_fading-/ have := take_bd (m_law_size (m_law_take (m_law_take a_draws (9 : Int)).2 (60 : Int)).2 a_script).2 (3 : Int) ; have := take_bd (m_law_take a_draws (9 : Int)).2 (60 : Int) ; have := take_bd a_draws (9 : Int) ; have := take_bd v5.1 (60 : Int) ; have := take_bd (m_law_size (m_law_take (m_law_take v3.1 (9 : Int)).2 (60 : Int)).2 a_script).2 (3 : Int) ; have := take_bd (m_law_take v3.1 (9 : Int)).2 (60 : Int) ; have := take_bd v3.1 (9 : Int) ; have := take_bd v1.1 (6 : Int) ; exact ⟨Nat.le_trans hpl (by decide), hwide.1, by have := hpre.last; omega⟩), rfl, rfl⟩ [] rfl (by decide) rfl) DA.nil)) ⟨_, _, rfl, (show Sm 8 (cT PyData.int) from (sm_T sm_int)).ok (mfading v37 ((v7.2 * v11.2) + v9.2) (v1.2 * v11.2)), (show Sm 8 (cT PyData.int) from (sm_T sm_int)).ok (m_law_fading a_times v7.2 v1.2), rfl, rfl⟩ [] rfl (by decide) rfl) (congrArg PyData.bool (sm_dec (c := (cT PyData.int)) (sm_T sm_int) (mfading v37 ((v7.2 * v11.2) + v9.2) (v1.2 * v11.2)) (m_law_fading a_times v7.2 v1.2)))) (fun hb52 => (DE.one (DE.call c_law_quiet_right (hr.mono (by decide)) (by rfl) (DA.own (i := 0) rfl (.inl rfl) rfl (DA.cons (DE.var (i := 1) rfl (.inl rfl) rfl) (DA.cons (DE.var (i := 2) rfl (.inr (.inl rfl)) rfl) DA.nil)) rfl) ⟨p_draws, v11.1, a_script, a_times, rfl, (by /-_law_right:66 pre of _law_quiet_right-/ have := take_bd v9.1 (9 : Int) ; have := take_bd (m_law_size v7.1 a_script).2 (2 : Int) ; have := take_bd v5.1 (60 : Int) ; have := take_bd (m_law_size (m_law_take (m_law_take v3.1 (9 : Int)).2 (60 : Int)).2 a_script).2 (3 : Int) ; have := take_bd (m_law_take v3.1 (9 : Int)).2 (60 : Int) ; have := take_bd v3.1 (9 : Int) ; have := take_bd v1.1 (6 : Int) ; have := take_bd (m_law_size (m_law_take (m_law_take a_draws (9 : Int)).2 (60 : Int)).2 a_script).2 (3 : Int) ; have := take_bd (m_law_take a_draws (9 : Int)).2 (60 : Int) ; have := take_bd a_draws (9 : Int) ; first | assumption | omega | decide | (simp only [Bool.and_eq_true, Bool.or_eq_true, Bool.not_eq_true', Bool.not_eq_false', Bool.or_eq_false_iff, Bool.and_eq_false_imp, decide_eq_true_eq, decide_eq_false_iff_not, List.length_append, List.length_cons, List.length_nil, List.length_map, List.length_reverse, irange_len, sizeLine_eq, CMul, CDiv, CPow] at *; first | omega | decide)), rfl, rfl⟩ [0] rfl (by decide) rfl)))) (And.intro rfl (kp_o (kp_v (kp_v kp_n))))))))))))))))))))))))))))))))))))))))))))))))))))))))))))
end W

set_option Elab.async false
set_option linter.all false
set_option maxRecDepth 100000
namespace W
open PySem L2 PySem.Spec PyProof.Rows PD
set_option maxHeartbeats 4000000 in
theorem oklaw {P : Program} {w : World} {K : PySem.W.Frag} {mg : Str → Option Value} {base : Heap} {f : Addr} {fd : FuncData} (F : FunD K "law" "law" (defArgs slaw) (defBody slaw) (defScope slaw) [] [] f fd) (hm : mg "law" = some (.ref f)) (bi : Bi mg) (cmost_in : Cal P w K mg base 2 "most_in" Rmost_in) (clongest_quiet : Cal P w K mg base 1 "longest_quiet" Rlongest_quiet) (crates_rise : Cal P w K mg base 2 "rates_rise" Rrates_rise) (cfading : Cal P w K mg base 2 "fading" Rfading) (cdoubled_steps : Cal P w K mg base 2 "doubled_steps" Rdoubled_steps) (cthinned_times : Cal P w K mg base 1 "thinned_times" Rthinned_times) (c_law_draws : Cal P w K mg base 1 "_law_draws" R_law_draws) (c_law_take : Cal P w K mg base 1 "_law_take" R_law_take) (c_law_same : Cal P w K mg base 9 "_law_same" (RSame 8)) (c_law_times : Cal P w K mg base 3 "_law_times" R_law_times) (c_law_right : Cal P w K mg base 11 "_law_right" R_law_right) : FnOk P w K mg base CX0 12 f fd ["script"] (spD K Rlaw) := by
  refine fn_of (k := 11) F sclaw (by decide) (fun γ r γ' h => by obtain ⟨_, rfl, _⟩ := h; rfl) (fun cdv A outer s H E hr γ r γ' h => ?_)
  obtain ⟨a_script, rfl, rfl, rfl⟩ := h
  have hu := hu200 hr
  show DB _ _ [.val ((cL PyData.int) a_script), .em, .em, .em] (Phi_law a_script (mlaw a_script))
  unfold mlaw
  exact (DB.szL (i := 0) (ca := PyData.int) rfl fun hsz_script => (DB.stepF (α := (List Int)) (fun q1 v2 => [.val ((cL PyData.int) a_script), oL q1 PyData.int v2, .em, .em]) (DS.setF (i := 1) sclaw.nd rfl (.inl rfl) (DF.call c_law_draws (hr.mono (by decide)) (by rfl) (DA.cons (DE.var (i := 0) rfl (.inl rfl) rfl) (DA.cons DE.int DA.nil)) ⟨a_script, (520 : Int), rfl, (by /-law:1 pre of _law_draws-/ first | assumption | omega | decide | (simp only [Bool.and_eq_true, Bool.or_eq_true, Bool.not_eq_true', Bool.not_eq_false', Bool.or_eq_false_iff, Bool.and_eq_false_imp, decide_eq_true_eq, decide_eq_false_iff_not, List.length_append, List.length_cons, List.length_nil, List.length_map, List.length_reverse, irange_len, sizeLine_eq, CMul, CDiv, CPow] at *; first | omega | decide)), rfl, rfl⟩ [] rfl (by decide) rfl) (fun q _ => ⟨q, (wi (wi (wi (wi wn))))⟩)) (fun q1 v2 h3 => (DB.szO (i := 1) (ca := PyData.int) (xs := v2) rfl fun hz_v2 => (DB.stepO (fun s4 => [.val ((cL PyData.int) a_script), oL q1 PyData.int s4, .em, .em]) (Rt_law a_script) (DS.forO_ PassesOwn.never rfl (fun s4 => [.val ((cL PyData.int) a_script), oL q1 PyData.int s4, .em, .em]) (Rt_law a_script) (fun (s4 : (List Int)) (x5 : Int) => ((if (!(m_law_right (m_law_times (m_law_take s4 (ix [(6 : Int), (26 : Int), (14 : Int)] x5)).2 a_script (m_law_take s4 (ix [(6 : Int), (26 : Int), (14 : Int)] x5)).1 (decide (x5 = (2 : Int)))).2 a_script (m_law_times (m_law_take s4 (ix [(6 : Int), (26 : Int), (14 : Int)] x5)).2 a_script (m_law_take s4 (ix [(6 : Int), (26 : Int), (14 : Int)] x5)).1 (decide (x5 = (2 : Int)))).1).1) = true then (.rt false) else (.nx (m_law_right (m_law_times (m_law_take s4 (ix [(6 : Int), (26 : Int), (14 : Int)] x5)).2 a_script (m_law_take s4 (ix [(6 : Int), (26 : Int), (14 : Int)] x5)).1 (decide (x5 = (2 : Int)))).2 a_script (m_law_times (m_law_take s4 (ix [(6 : Int), (26 : Int), (14 : Int)] x5)).2 a_script (m_law_take s4 (ix [(6 : Int), (26 : Int), (14 : Int)] x5)).1 (decide (x5 = (2 : Int)))).1).2)) : Out (List Int) Bool)) v2 (DX.rng1 (by rfl) bi.range_ DE.int (by /-law:2 range low (3 : Int)-/ first | assumption | omega | decide | (simp only [Bool.and_eq_true, Bool.or_eq_true, Bool.not_eq_true', Bool.not_eq_false', Bool.or_eq_false_iff, Bool.and_eq_false_imp, decide_eq_true_eq, decide_eq_false_iff_not, List.length_append, List.length_cons, List.length_nil, List.length_map, List.length_reverse, irange_len, sizeLine_eq, CMul, CDiv, CPow] at *; first | omega | decide)) (by /-law:3 range high (3 : Int)-/ first | assumption | omega | decide | (simp only [Bool.and_eq_true, Bool.or_eq_true, Bool.not_eq_true', Bool.not_eq_false', Bool.or_eq_false_iff, Bool.and_eq_false_imp, decide_eq_true_eq, decide_eq_false_iff_not, List.length_append, List.length_cons, List.length_nil, List.length_map, List.length_reverse, irange_len, sizeLine_eq, CMul, CDiv, CPow] at *; first | omega | decide))) (wi (wi (wi (wi wn)))) (fun _ => trivial) (fun pre6 x5 post7 s4 he8 hB9 hs10 => by have hrng := irange_mem (mem_mid he8); have hmid := mid_len he8; have hk := ix3c hrng; exact ⟨_, _, (DG.name (i := 2) sclaw.nd rfl (.inl rfl)), (DB.ifR (DT.not (DT.val (DE.call c_law_right (hr.mono (by decide)) (by rfl) (DA.own (i := 1) rfl (.inl rfl) rfl (DA.cons (DE.var (i := 0) rfl (.inl rfl) rfl) (DA.cons (DE.call c_law_times (hr.mono (by decide)) (by rfl) (DA.own (i := 1) rfl (.inl rfl) rfl (DA.cons (DE.var (i := 0) rfl (.inl rfl) rfl) (DA.cons (DE.call c_law_take (hr.mono (by decide)) (by rfl) (DA.own (i := 1) rfl (.inl rfl) rfl (DA.cons (DE.ix (DQ.list (DE.new (DF.lst (DV.cons DE.int (DV.cons DE.int (DV.cons DE.int DV.nil)))))) (DE.var (i := 2) rfl (.inl rfl) rfl) (atI_ix (c := PyData.int) (xs := [(6 : Int), (26 : Int), (14 : Int)]) (k := x5) (by /-law:4 low ix [(6 : Int), (26 : Int), (14 : Int)] x5-/ first | assumption | omega | decide | (simp only [Bool.and_eq_true, Bool.or_eq_true, Bool.not_eq_true', Bool.not_eq_false', Bool.or_eq_false_iff, Bool.and_eq_false_imp, decide_eq_true_eq, decide_eq_false_iff_not, List.length_append, List.length_cons, List.length_nil, List.length_map, List.length_reverse, irange_len, sizeLine_eq, CMul, CDiv, CPow] at *; first | omega | decide)) (by /-law:5 high ix [(6 : Int), (26 : Int), (14 : Int)] x5-/ first | assumption | omega | decide | (simp only [Bool.and_eq_true, Bool.or_eq_true, Bool.not_eq_true', Bool.not_eq_false', Bool.or_eq_false_iff, Bool.and_eq_false_imp, decide_eq_true_eq, decide_eq_false_iff_not, List.length_append, List.length_cons, List.length_nil, List.length_map, List.length_reverse, irange_len, sizeLine_eq, CMul, CDiv, CPow] at *; first | omega | decide)))) DA.nil) rfl) ⟨q1, s4, (ix [(6 : Int), (26 : Int), (14 : Int)] x5), rfl, (by /-law:6 pre of _law_take-/ first | assumption | omega | decide | (simp only [Bool.and_eq_true, Bool.or_eq_true, Bool.not_eq_true', Bool.not_eq_false', Bool.or_eq_false_iff, Bool.and_eq_false_imp, decide_eq_true_eq, decide_eq_false_iff_not, List.length_append, List.length_cons, List.length_nil, List.length_map, List.length_reverse, irange_len, sizeLine_eq, CMul, CDiv, CPow] at *; first | omega | decide)), rfl, rfl⟩ [1] rfl (by decide) rfl) (DA.cons (DE.cmp op_eq (DE.var (i := 2) rfl (.inl rfl) rfl) DE.int r_eqI (nomark _)) DA.nil))) rfl) ⟨q1, (m_law_take s4 (ix [(6 : Int), (26 : Int), (14 : Int)] x5)).2, a_script, (m_law_take s4 (ix [(6 : Int), (26 : Int), (14 : Int)] x5)).1, (decide (x5 = (2 : Int))), rfl, (by /-law:7 pre of _law_times-/ have := take_bd s4 (ix [(6 : Int), (26 : Int), (14 : Int)] x5) ; first | assumption | omega | decide | (simp only [Bool.and_eq_true, Bool.or_eq_true, Bool.not_eq_true', Bool.not_eq_false', Bool.or_eq_false_iff, Bool.and_eq_false_imp, decide_eq_true_eq, decide_eq_false_iff_not, List.length_append, List.length_cons, List.length_nil, List.length_map, List.length_reverse, irange_len, sizeLine_eq, CMul, CDiv, CPow] at *; first | omega | decide)), rfl, rfl⟩ [1] rfl (by decide) rfl) DA.nil)) rfl) ⟨q1, (m_law_times (m_law_take s4 (ix [(6 : Int), (26 : Int), (14 : Int)] x5)).2 a_script (m_law_take s4 (ix [(6 : Int), (26 : Int), (14 : Int)] x5)).1 (decide (x5 = (2 : Int)))).2, a_script, (m_law_times (m_law_take s4 (ix [(6 : Int), (26 : Int), (14 : Int)] x5)).2 a_script (m_law_take s4 (ix [(6 : Int), (26 : Int), (14 : Int)] x5)).1 (decide (x5 = (2 : Int)))).1, rfl, (by /-law:8 pre of _law_right-/ have := take_bd s4 (ix [(6 : Int), (26 : Int), (14 : Int)] x5) ; exact times_ok _ _ _ _ (by have := take_bd s4 (ix [6, 26, 14] x5); omega)), rfl, rfl⟩ [1] rfl (by decide) rfl))) (fun hb11 => (DB.ret DE.bl (And.intro rfl (kp_v kp_n)))) (fun hb11 => (DB.nil (DB.endO (wi (wi (we (wi wn))))))))⟩)) (fun s12 h13 => (DB.step (α := (List Int)) (fun v14 => [.val ((cL PyData.int) a_script), oL q1 PyData.int s12, .em, .val ((cT PyData.int) v14)]) (DS.set (i := 3) sclaw.nd rfl (.inl rfl) (DE.tup (DV.cons DE.int (DV.cons DE.int (DV.cons DE.int (DV.cons DE.int (DV.cons DE.int (DV.cons DE.int DV.nil))))))) (wi (wi (wi (wi wn))))) (fun v14 h15 => by have htm : v14.length ≤ 1000 ∧ ix v14 (-1) < 100 := (by rw [h15]; decide); exact (DB.sz (i := 3) (ca := PyData.int) (xs := v14) rfl fun hz_v14 => (DB.ifR (DT.of_w (DW.or (DT.not (DT.val (DE.eq (DE.call c_law_same (hr.mono (by decide)) (by rfl) (DA.cons (DE.call cmost_in (hr.mono (by decide)) (by rfl) (DA.cons (DE.var (i := 3) rfl (.inl rfl) rfl) (DA.cons DE.int DA.nil)) ⟨v14, (2 : Int), rfl, rfl, rfl⟩ [] rfl (by decide) rfl) (DA.cons (DE.tup (DV.cons DE.int (DV.cons DE.int DV.nil))) DA.nil)) ⟨_, _, rfl, (show Sm 8 (cO (c2 PyData.int PyData.int)) from (sm_O (sm_2 sm_int sm_int) (fun _ => rfl))).ok (mmost_in v14 (2 : Int)), (show Sm 8 (cO (c2 PyData.int PyData.int)) from (sm_O (sm_2 sm_int sm_int) (fun _ => rfl))).ok (some ((3 : Int), (3 : Int))), rfl, rfl⟩ [] rfl (by decide) rfl) (congrArg PyData.bool (sm_dec (c := (cO (c2 PyData.int PyData.int))) (sm_O (sm_2 sm_int sm_int) (fun _ => rfl)) (mmost_in v14 (2 : Int)) (some ((3 : Int), (3 : Int)))))))) (fun hb16 => (DW.or (DT.not (DT.val (DE.eq (DE.call c_law_same (hr.mono (by decide)) (by rfl) (DA.cons (DE.call clongest_quiet (hr.mono (by decide)) (by rfl) (DA.cons (DE.var (i := 3) rfl (.inl rfl) rfl) (DA.cons DE.int (DA.cons DE.int DA.nil))) ⟨v14, (0 : Int), (20 : Int), rfl, (by /-law:9 pre of longest_quiet-/ first | assumption | omega | decide | (simp only [Bool.and_eq_true, Bool.or_eq_true, Bool.not_eq_true', Bool.not_eq_false', Bool.or_eq_false_iff, Bool.and_eq_false_imp, decide_eq_true_eq, decide_eq_false_iff_not, List.length_append, List.length_cons, List.length_nil, List.length_map, List.length_reverse, irange_len, sizeLine_eq, CMul, CDiv, CPow] at *; first | omega | decide)), rfl, rfl⟩ [] rfl (by decide) rfl) (DA.cons (DE.tup (DV.cons DE.int (DV.cons DE.int DV.nil))) DA.nil)) ⟨_, _, rfl, (show Sm 8 (c2 PyData.int PyData.int) from (sm_2 sm_int sm_int)).ok (mlongest_quiet v14 (0 : Int) (20 : Int)), (show Sm 8 (c2 PyData.int PyData.int) from (sm_2 sm_int sm_int)).ok ((10 : Int), (20 : Int)), rfl, rfl⟩ [] rfl (by decide) rfl) (congrArg PyData.bool (sm_dec (c := (c2 PyData.int PyData.int)) (sm_2 sm_int sm_int) (mlongest_quiet v14 (0 : Int) (20 : Int)) ((10 : Int), (20 : Int))))))) (fun hb17 => (DW.or1 (DT.not (DT.val (DE.eq (DE.call c_law_same (hr.mono (by decide)) (by rfl) (DA.cons (DE.call crates_rise (hr.mono (by decide)) (by rfl) (DA.cons (DE.var (i := 3) rfl (.inl rfl) rfl) (DA.cons DE.int (DA.cons DE.int DA.nil))) ⟨v14, (3 : Int), (3 : Int), rfl, rfl, rfl⟩ [] rfl (by decide) rfl) (DA.cons DE.int DA.nil)) ⟨_, _, rfl, (show Sm 8 (cO PyData.int) from (sm_O sm_int (fun _ => rfl))).ok (mrates_rise v14 (3 : Int) (3 : Int)), (show Sm 8 (cO PyData.int) from (sm_O sm_int (fun _ => rfl))).ok (some (1 : Int)), rfl, rfl⟩ [] rfl (by decide) rfl) (congrArg PyData.bool (sm_dec (c := (cO PyData.int)) (sm_O sm_int (fun _ => rfl)) (mrates_rise v14 (3 : Int) (3 : Int)) (some (1 : Int))))))))))))) (fun hb18 => (DB.ret DE.bl (And.intro rfl (kp_v kp_n)))) (fun hb18 => (DB.nil (DB.ifR (DT.of_w (DW.or (DT.not (DT.val (DE.eq (DE.call c_law_same (hr.mono (by decide)) (by rfl) (DA.cons (DE.call cfading (hr.mono (by decide)) (by rfl) (DA.cons (DE.var (i := 3) rfl (.inl rfl) rfl) (DA.cons DE.int (DA.cons DE.int DA.nil))) ⟨v14, (1 : Int), (3 : Int), rfl, (by /-law:10 pre of fading-/ first | assumption | omega | decide | (simp only [Bool.and_eq_true, Bool.or_eq_true, Bool.not_eq_true', Bool.not_eq_false', Bool.or_eq_false_iff, Bool.and_eq_false_imp, decide_eq_true_eq, decide_eq_false_iff_not, List.length_append, List.length_cons, List.length_nil, List.length_map, List.length_reverse, irange_len, sizeLine_eq, CMul, CDiv, CPow] at *; first | omega | decide)), rfl, rfl⟩ [] rfl (by decide) rfl) (DA.cons (DE.tup (DV.cons DE.int (DV.cons DE.int (DV.cons DE.int DV.nil)))) DA.nil)) ⟨_, _, rfl, (show Sm 8 (cT PyData.int) from (sm_T sm_int)).ok (mfading v14 (1 : Int) (3 : Int)), (show Sm 8 (cT PyData.int) from (sm_T sm_int)).ok ([(3 : Int), (2 : Int), (1 : Int)] : (List Int)), rfl, rfl⟩ [] rfl (by decide) rfl) (congrArg PyData.bool (sm_dec (c := (cT PyData.int)) (sm_T sm_int) (mfading v14 (1 : Int) (3 : Int)) ([(3 : Int), (2 : Int), (1 : Int)] : (List Int))))))) (fun hb19 => (DW.or (DT.not (DT.val (DE.eq (DE.call c_law_same (hr.mono (by decide)) (by rfl) (DA.cons (DE.call cdoubled_steps (hr.mono (by decide)) (by rfl) (DA.cons (DE.var (i := 3) rfl (.inl rfl) rfl) DA.nil) ⟨v14, rfl, rfl, rfl⟩ [] rfl (by decide) rfl) (DA.cons (DE.tup (DV.cons DE.int (DV.cons DE.int DV.nil))) DA.nil)) ⟨_, _, rfl, (show Sm 8 (cT PyData.int) from (sm_T sm_int)).ok (mdoubled_steps v14), (show Sm 8 (cT PyData.int) from (sm_T sm_int)).ok ([(4 : Int), (5 : Int)] : (List Int)), rfl, rfl⟩ [] rfl (by decide) rfl) (congrArg PyData.bool (sm_dec (c := (cT PyData.int)) (sm_T sm_int) (mdoubled_steps v14) ([(4 : Int), (5 : Int)] : (List Int))))))) (fun hb20 => (DW.or1 (DT.not (DT.val (DE.eq (DE.call c_law_same (hr.mono (by decide)) (by rfl) (DA.cons (DE.call cthinned_times (hr.mono (by decide)) (by rfl) (DA.cons (DE.var (i := 3) rfl (.inl rfl) rfl) (DA.cons DE.int DA.nil)) ⟨v14, (2 : Int), rfl, rfl, rfl⟩ [] rfl (by decide) rfl) (DA.cons (DE.tup (DV.cons DE.int (DV.cons DE.int (DV.cons DE.int (DV.cons DE.int DV.nil))))) DA.nil)) ⟨_, _, rfl, (show Sm 8 (cT PyData.int) from (sm_T sm_int)).ok (mthinned_times v14 (2 : Int)), (show Sm 8 (cT PyData.int) from (sm_T sm_int)).ok ([(1 : Int), (4 : Int), (9 : Int), (20 : Int)] : (List Int)), rfl, rfl⟩ [] rfl (by decide) rfl) (congrArg PyData.bool (sm_dec (c := (cT PyData.int)) (sm_T sm_int) (mthinned_times v14 (2 : Int)) ([(1 : Int), (4 : Int), (9 : Int), (20 : Int)] : (List Int))))))))))))) (fun hb21 => (DB.ret DE.bl (And.intro rfl (kp_v kp_n)))) (fun hb21 => (DB.nil (DB.ret (DE.and (DE.eq (DE.call c_law_same (hr.mono (by decide)) (by rfl) (DA.cons (DE.call clongest_quiet (hr.mono (by decide)) (by rfl) (DA.cons (DE.tup (DV.cons DE.int (DV.cons DE.int (DV.cons DE.int DV.nil)))) (DA.cons DE.int (DA.cons DE.int DA.nil))) ⟨([(0 : Int), (1 : Int), (2 : Int)] : (List Int)), (0 : Int), (3 : Int), rfl, (by /-law:11 pre of longest_quiet-/ first | assumption | omega | decide | (simp only [Bool.and_eq_true, Bool.or_eq_true, Bool.not_eq_true', Bool.not_eq_false', Bool.or_eq_false_iff, Bool.and_eq_false_imp, decide_eq_true_eq, decide_eq_false_iff_not, List.length_append, List.length_cons, List.length_nil, List.length_map, List.length_reverse, irange_len, sizeLine_eq, CMul, CDiv, CPow] at *; first | omega | decide)), rfl, rfl⟩ [] rfl (by decide) rfl) (DA.cons (DE.tup (DV.cons DE.int (DV.cons DE.int DV.nil))) DA.nil)) ⟨_, _, rfl, (show Sm 8 (c2 PyData.int PyData.int) from (sm_2 sm_int sm_int)).ok (mlongest_quiet ([(0 : Int), (1 : Int), (2 : Int)] : (List Int)) (0 : Int) (3 : Int)), (show Sm 8 (c2 PyData.int PyData.int) from (sm_2 sm_int sm_int)).ok ((0 : Int), (0 : Int)), rfl, rfl⟩ [] rfl (by decide) rfl) (congrArg PyData.bool (sm_dec (c := (c2 PyData.int PyData.int)) (sm_2 sm_int sm_int) (mlongest_quiet ([(0 : Int), (1 : Int), (2 : Int)] : (List Int)) (0 : Int) (3 : Int)) ((0 : Int), (0 : Int))))) (fun hb22 => (DE.and (DE.eq (DE.call c_law_same (hr.mono (by decide)) (by rfl) (DA.cons (DE.call cfading (hr.mono (by decide)) (by rfl) (DA.cons (DE.tup DV.nil) (DA.cons DE.int (DA.cons DE.int DA.nil))) ⟨([] : (List Int)), (5 : Int), (1 : Int), rfl, (by /-law:12 pre of fading-/ first | assumption | omega | decide | (simp only [Bool.and_eq_true, Bool.or_eq_true, Bool.not_eq_true', Bool.not_eq_false', Bool.or_eq_false_iff, Bool.and_eq_false_imp, decide_eq_true_eq, decide_eq_false_iff_not, List.length_append, List.length_cons, List.length_nil, List.length_map, List.length_reverse, irange_len, sizeLine_eq, CMul, CDiv, CPow] at *; first | omega | decide)), rfl, rfl⟩ [] rfl (by decide) rfl) (DA.cons (DE.tup DV.nil) DA.nil)) ⟨_, _, rfl, (show Sm 8 (cT PyData.int) from (sm_T sm_int)).ok (mfading ([] : (List Int)) (5 : Int) (1 : Int)), (show Sm 8 (cT PyData.int) from (sm_T sm_int)).ok ([] : (List Int)), rfl, rfl⟩ [] rfl (by decide) rfl) (congrArg PyData.bool (sm_dec (c := (cT PyData.int)) (sm_T sm_int) (mfading ([] : (List Int)) (5 : Int) (1 : Int)) ([] : (List Int))))) (fun hb23 => (DE.one (DE.cmp op_isN (DE.call cmost_in (hr.mono (by decide)) (by rfl) (DA.cons (DE.tup DV.nil) (DA.cons DE.int DA.nil)) ⟨([] : (List Int)), (4 : Int), rfl, rfl, rfl⟩ [] rfl (by decide) rfl) DE.non (r_isN (isNon_cO (c1 := (c2 PyData.int PyData.int)) (fun _ => rfl) (mmost_in ([] : (List Int)) (4 : Int)))) (nomark _))))))) (And.intro rfl (kp_v kp_n))))))))))))) (fun _ _ _ z => z) unbk_ne)))))
end W

set_option Elab.async false
set_option linter.all false
set_option maxRecDepth 100000
namespace W
open PySem L2 PySem.Spec PyProof.Rows PD
def dcount_in : He.DefD := ⟨("count_in", none), "count_in", "count_in", defArgs scount_in, defBody scount_in, defScope scount_in, [], []⟩
def dmost_in : He.DefD := ⟨("most_in", none), "most_in", "most_in", defArgs smost_in, defBody smost_in, defScope smost_in, [], []⟩
def dgaps_of : He.DefD := ⟨("gaps_of", none), "gaps_of", "gaps_of", defArgs sgaps_of, defBody sgaps_of, defScope sgaps_of, [], []⟩
def dlongest_quiet : He.DefD := ⟨("longest_quiet", none), "longest_quiet", "longest_quiet", defArgs slongest_quiet, defBody slongest_quiet, defScope slongest_quiet, [], []⟩
def drates_rise : He.DefD := ⟨("rates_rise", none), "rates_rise", "rates_rise", defArgs srates_rise, defBody srates_rise, defScope srates_rise, [], []⟩
def dfading : He.DefD := ⟨("fading", none), "fading", "fading", defArgs sfading, defBody sfading, defScope sfading, [], []⟩
def ddoubled_steps : He.DefD := ⟨("doubled_steps", none), "doubled_steps", "doubled_steps", defArgs sdoubled_steps, defBody sdoubled_steps, defScope sdoubled_steps, [], []⟩
def dthinned_times : He.DefD := ⟨("thinned_times", none), "thinned_times", "thinned_times", defArgs sthinned_times, defBody sthinned_times, defScope sthinned_times, [], []⟩
def d_law_draws : He.DefD := ⟨("_law_draws", none), "_law_draws", "_law_draws", defArgs s_law_draws, defBody s_law_draws, defScope s_law_draws, [], []⟩
def d_law_take : He.DefD := ⟨("_law_take", none), "_law_take", "_law_take", defArgs s_law_take, defBody s_law_take, defScope s_law_take, [], []⟩
def d_law_same : He.DefD := ⟨("_law_same", none), "_law_same", "_law_same", defArgs s_law_same, defBody s_law_same, defScope s_law_same, [], []⟩
def d_law_size : He.DefD := ⟨("_law_size", none), "_law_size", "_law_size", defArgs s_law_size, defBody s_law_size, defScope s_law_size, [], []⟩
def d_law_times : He.DefD := ⟨("_law_times", none), "_law_times", "_law_times", defArgs s_law_times, defBody s_law_times, defScope s_law_times, [], []⟩
def d_law_in : He.DefD := ⟨("_law_in", none), "_law_in", "_law_in", defArgs s_law_in, defBody s_law_in, defScope s_law_in, [], []⟩
def d_law_quiet : He.DefD := ⟨("_law_quiet", none), "_law_quiet", "_law_quiet", defArgs s_law_quiet, defBody s_law_quiet, defScope s_law_quiet, [], []⟩
def d_law_by_minutes : He.DefD := ⟨("_law_by_minutes", none), "_law_by_minutes", "_law_by_minutes", defArgs s_law_by_minutes, defBody s_law_by_minutes, defScope s_law_by_minutes, [], []⟩
def d_law_quiet_right : He.DefD := ⟨("_law_quiet_right", none), "_law_quiet_right", "_law_quiet_right", defArgs s_law_quiet_right, defBody s_law_quiet_right, defScope s_law_quiet_right, [], []⟩
def d_law_counts : He.DefD := ⟨("_law_counts", none), "_law_counts", "_law_counts", defArgs s_law_counts, defBody s_law_counts, defScope s_law_counts, [], []⟩
def d_law_fading : He.DefD := ⟨("_law_fading", none), "_law_fading", "_law_fading", defArgs s_law_fading, defBody s_law_fading, defScope s_law_fading, [], []⟩
def d_law_right : He.DefD := ⟨("_law_right", none), "_law_right", "_law_right", defArgs s_law_right, defBody s_law_right, defScope s_law_right, [], []⟩
def dlaw : He.DefD := ⟨("law", none), "law", "law", defArgs slaw, defBody slaw, defScope slaw, [], []⟩
def fn : List He.DefD := [dcount_in, dmost_in, dgaps_of, dlongest_quiet, drates_rise, dfading, ddoubled_steps, dthinned_times, d_law_draws, d_law_take, d_law_same, d_law_size, d_law_times, d_law_in, d_law_quiet, d_law_by_minutes, d_law_quiet_right, d_law_counts, d_law_fading, d_law_right, dlaw]
def fa : List He.Fa := [.glo "count_in", .glo "most_in", .glo "gaps_of", .glo "longest_quiet", .glo "rates_rise", .glo "fading", .glo "doubled_steps", .glo "thinned_times", .glo "_law_draws", .glo "_law_take", .glo "_law_same", .glo "_law_size", .glo "_law_times", .glo "_law_in", .glo "_law_quiet", .glo "_law_by_minutes", .glo "_law_quiet_right", .glo "_law_counts", .glo "_law_fading", .glo "_law_right", .glo "law", .free "len", .free "abs", .free "int", .free "min", .free "max", .free "sum", .free "sorted", .free "tuple", .free "list", .free "range", .free "isinstance", .free "any", .free "all", .free "set", .free "bool", .free "str"]
abbrev Rw : PySem.W.OpenRow := PySem.W.OpenLaw.row PySem.Challenge.rw_shocksknown_k94_times_and_quiet
abbrev hk : PySem.W.Hook := He.hookD 4 fa fn
def obv (s : PySem.W.SharedT) : He.AlD := He.obsDG 4 fa fn (HandSHeadRun.getT s)
theorem obv_eq (s : PySem.W.SharedT) : obv s = hk.obs s.abs := He.obsDG_eq (HandSHeadRun.getT_eq s)
set_option maxHeartbeats 0 in
theorem run_top (w : World) : HandSHeadRun.RunEq Rw (PySem.W.view Rw.prog [22]) hk obv 2000 ["count_in", "most_in", "gaps_of", "longest_quiet", "rates_rise", "fading", "doubled_steps", "thinned_times", "_law_draws", "_law_take", "_law_same", "_law_size", "_law_times", "_law_in", "_law_quiet", "_law_by_minutes", "_law_quiet_right", "_law_counts", "_law_fading", "_law_right"] w := fun os => by kernel_rfl
set_option maxHeartbeats 0 in
theorem facts_top (HL : ∀ ns : List Int, ns.length ≤ 63 → mlaw ns = true) {P : Program} {w : World} {K : PySem.W.Frag} {h : Heap} {mg : Str → Option Value} {f : Addr} (X : K.In h) (G : h.Ns mainGlobals mg) (hfa : mg ("law" : Str) = some (.ref f)) (c : He.SaysD fa fn K) :
    ∃ fd : FuncData, (∀ (s : Shared) (v : Value), BindsTo s fd ⟨[v], []⟩ [("script", v)]) ∧ ∀ base : Heap, K.In base → base.Ns mainGlobals mg → FnOk P w K mg base CX0 12 f fd ["script"] (spLaw K) := by
  obtain ⟨fdcount_in, Fcount_in⟩ := c.def_ 0 (d := dcount_in) rfl
  obtain ⟨fdmost_in, Fmost_in⟩ := c.def_ 1 (d := dmost_in) rfl
  obtain ⟨fdgaps_of, Fgaps_of⟩ := c.def_ 2 (d := dgaps_of) rfl
  obtain ⟨fdlongest_quiet, Flongest_quiet⟩ := c.def_ 3 (d := dlongest_quiet) rfl
  obtain ⟨fdrates_rise, Frates_rise⟩ := c.def_ 4 (d := drates_rise) rfl
  obtain ⟨fdfading, Ffading⟩ := c.def_ 5 (d := dfading) rfl
  obtain ⟨fddoubled_steps, Fdoubled_steps⟩ := c.def_ 6 (d := ddoubled_steps) rfl
  obtain ⟨fdthinned_times, Fthinned_times⟩ := c.def_ 7 (d := dthinned_times) rfl
  obtain ⟨fd_law_draws, F_law_draws⟩ := c.def_ 8 (d := d_law_draws) rfl
  obtain ⟨fd_law_take, F_law_take⟩ := c.def_ 9 (d := d_law_take) rfl
  obtain ⟨fd_law_same, F_law_same⟩ := c.def_ 10 (d := d_law_same) rfl
  obtain ⟨fd_law_size, F_law_size⟩ := c.def_ 11 (d := d_law_size) rfl
  obtain ⟨fd_law_times, F_law_times⟩ := c.def_ 12 (d := d_law_times) rfl
  obtain ⟨fd_law_in, F_law_in⟩ := c.def_ 13 (d := d_law_in) rfl
  obtain ⟨fd_law_quiet, F_law_quiet⟩ := c.def_ 14 (d := d_law_quiet) rfl
  obtain ⟨fd_law_by_minutes, F_law_by_minutes⟩ := c.def_ 15 (d := d_law_by_minutes) rfl
  obtain ⟨fd_law_quiet_right, F_law_quiet_right⟩ := c.def_ 16 (d := d_law_quiet_right) rfl
  obtain ⟨fd_law_counts, F_law_counts⟩ := c.def_ 17 (d := d_law_counts) rfl
  obtain ⟨fd_law_fading, F_law_fading⟩ := c.def_ 18 (d := d_law_fading) rfl
  obtain ⟨fd_law_right, F_law_right⟩ := c.def_ 19 (d := d_law_right) rfl
  obtain ⟨fdlaw, Flaw⟩ := c.def_ 20 (d := dlaw) rfl
  have gcount_in := He.glo_ok X G (c.fact 0 (f := .glo "count_in") rfl)
  have gmost_in := He.glo_ok X G (c.fact 1 (f := .glo "most_in") rfl)
  have ggaps_of := He.glo_ok X G (c.fact 2 (f := .glo "gaps_of") rfl)
  have glongest_quiet := He.glo_ok X G (c.fact 3 (f := .glo "longest_quiet") rfl)
  have grates_rise := He.glo_ok X G (c.fact 4 (f := .glo "rates_rise") rfl)
  have gfading := He.glo_ok X G (c.fact 5 (f := .glo "fading") rfl)
  have gdoubled_steps := He.glo_ok X G (c.fact 6 (f := .glo "doubled_steps") rfl)
  have gthinned_times := He.glo_ok X G (c.fact 7 (f := .glo "thinned_times") rfl)
  have g_law_draws := He.glo_ok X G (c.fact 8 (f := .glo "_law_draws") rfl)
  have g_law_take := He.glo_ok X G (c.fact 9 (f := .glo "_law_take") rfl)
  have g_law_same := He.glo_ok X G (c.fact 10 (f := .glo "_law_same") rfl)
  have g_law_size := He.glo_ok X G (c.fact 11 (f := .glo "_law_size") rfl)
  have g_law_times := He.glo_ok X G (c.fact 12 (f := .glo "_law_times") rfl)
  have g_law_in := He.glo_ok X G (c.fact 13 (f := .glo "_law_in") rfl)
  have g_law_quiet := He.glo_ok X G (c.fact 14 (f := .glo "_law_quiet") rfl)
  have g_law_by_minutes := He.glo_ok X G (c.fact 15 (f := .glo "_law_by_minutes") rfl)
  have g_law_quiet_right := He.glo_ok X G (c.fact 16 (f := .glo "_law_quiet_right") rfl)
  have g_law_counts := He.glo_ok X G (c.fact 17 (f := .glo "_law_counts") rfl)
  have g_law_fading := He.glo_ok X G (c.fact 18 (f := .glo "_law_fading") rfl)
  have g_law_right := He.glo_ok X G (c.fact 19 (f := .glo "_law_right") rfl)
  have glaw := He.glo_ok X G (c.fact 20 (f := .glo "law") rfl)
  have bi : Bi mg := ⟨He.free_ok X G (c.fact 21 (f := .free "len") rfl), He.free_ok X G (c.fact 22 (f := .free "abs") rfl), He.free_ok X G (c.fact 23 (f := .free "int") rfl), He.free_ok X G (c.fact 24 (f := .free "min") rfl), He.free_ok X G (c.fact 25 (f := .free "max") rfl), He.free_ok X G (c.fact 26 (f := .free "sum") rfl), He.free_ok X G (c.fact 27 (f := .free "sorted") rfl), He.free_ok X G (c.fact 28 (f := .free "tuple") rfl), He.free_ok X G (c.fact 29 (f := .free "list") rfl), He.free_ok X G (c.fact 30 (f := .free "range") rfl), He.free_ok X G (c.fact 31 (f := .free "isinstance") rfl), He.free_ok X G (c.fact 32 (f := .free "any") rfl), He.free_ok X G (c.fact 33 (f := .free "all") rfl), He.free_ok X G (c.fact 34 (f := .free "set") rfl), He.free_ok X G (c.fact 35 (f := .free "bool") rfl), He.free_ok X G (c.fact 36 (f := .free "str") rfl)⟩
  have ee := hfa.symm.trans glaw
  cases ee
  have bb := FunD.bindsA (ps := ["script"]) Flaw fun _ _ _ _ _ _ us hl => match us, hl with | [_], _ => rfl
  refine ⟨fdlaw, fun s v => bb s [v] rfl, fun base _ _ => ?_⟩
  have ccount_in : Cal P w K mg base 1 "count_in" Rcount_in := okcount_in Fcount_in gcount_in bi 
  have cmost_in : Cal P w K mg base 2 "most_in" Rmost_in := okmost_in Fmost_in gmost_in bi ccount_in
  have cgaps_of : Cal P w K mg base 1 "gaps_of" Rgaps_of := okgaps_of Fgaps_of ggaps_of bi 
  have clongest_quiet : Cal P w K mg base 1 "longest_quiet" Rlongest_quiet := oklongest_quiet Flongest_quiet glongest_quiet bi 
  have crates_rise : Cal P w K mg base 2 "rates_rise" Rrates_rise := okrates_rise Frates_rise grates_rise bi ccount_in
  have cfading : Cal P w K mg base 2 "fading" Rfading := okfading Ffading gfading bi ccount_in
  have cdoubled_steps : Cal P w K mg base 2 "doubled_steps" Rdoubled_steps := okdoubled_steps Fdoubled_steps gdoubled_steps bi cgaps_of
  have cthinned_times : Cal P w K mg base 1 "thinned_times" Rthinned_times := okthinned_times Fthinned_times gthinned_times bi 
  have c_law_draws : Cal P w K mg base 1 "_law_draws" R_law_draws := ok_law_draws F_law_draws g_law_draws bi 
  have c_law_take : Cal P w K mg base 1 "_law_take" R_law_take := ok_law_take F_law_take g_law_take bi 
  have c_law_same : Cal P w K mg base 9 "_law_same" (RSame 8) := ok_law_same F_law_same g_law_same bi 8
  have c_law_size : Cal P w K mg base 2 "_law_size" R_law_size := ok_law_size F_law_size g_law_size bi c_law_take
  have c_law_times : Cal P w K mg base 3 "_law_times" R_law_times := ok_law_times F_law_times g_law_times bi c_law_take c_law_size
  have c_law_in : Cal P w K mg base 1 "_law_in" R_law_in := ok_law_in F_law_in g_law_in bi 
  have c_law_quiet : Cal P w K mg base 1 "_law_quiet" R_law_quiet := ok_law_quiet F_law_quiet g_law_quiet bi 
  have c_law_by_minutes : Cal P w K mg base 1 "_law_by_minutes" R_law_by_minutes := ok_law_by_minutes F_law_by_minutes g_law_by_minutes bi 
  have c_law_quiet_right : Cal P w K mg base 10 "_law_quiet_right" R_law_quiet_right := ok_law_quiet_right F_law_quiet_right g_law_quiet_right bi clongest_quiet c_law_take c_law_same c_law_size c_law_quiet c_law_by_minutes
  have c_law_counts : Cal P w K mg base 2 "_law_counts" R_law_counts := ok_law_counts F_law_counts g_law_counts bi c_law_in
  have c_law_fading : Cal P w K mg base 2 "_law_fading" R_law_fading := ok_law_fading F_law_fading g_law_fading bi c_law_in
  have c_law_right : Cal P w K mg base 11 "_law_right" R_law_right := ok_law_right F_law_right g_law_right bi cmost_in cgaps_of crates_rise cfading cdoubled_steps cthinned_times c_law_take c_law_same c_law_size c_law_quiet_right c_law_counts c_law_fading
  exact law_fn (oklaw Flaw glaw bi cmost_in clongest_quiet crates_rise cfading cdoubled_steps cthinned_times c_law_draws c_law_take c_law_same c_law_times c_law_right) fun ns hl => ⟨ns, rfl, by show _ = Res.v (PyData.bool (mlaw ns)); rw [HL ns hl], rfl⟩
end W

open PySem PySem.W PySem.Calls PyProof.Rows
set_option maxRecDepth 100000 in
set_option maxHeartbeats 0 in
theorem PySem.Challenge.cw_shocksknown_k94_times_and_quiet_holds : PySem.Challenge.rw_shocksknown_k94_times_and_quiet.Holds := by
  w_on; o_law
  refine HandSHeadRun.head_any (r := W.Rw) (q := view W.Rw.prog [22]) (H := W.hk) (ob := W.obv) (M := 2000) (loose := ["count_in", "most_in", "gaps_of", "longest_quiet", "rates_rise", "fading", "doubled_steps", "thinned_times", "_law_draws", "_law_take", "_law_same", "_law_size", "_law_times", "_law_in", "_law_quiet", "_law_by_minutes", "_law_quiet_right", "_law_counts", "_law_fading", "_law_right"]) (d := HandSHeadRun.topDef W.Rw.prog 22) (kwd := []) W.obv_eq (by kernel_rfl) (fun s => by kernel_rfl) W.run_top (by kernel_rfl) (by kernel_rfl) (by kernel_rfl) (by rfl) (by first | assumption | decide +kernel) (by decide +kernel) ⟨rfl, rfl, rfl, rfl, rfl, by decide +kernel⟩ ?hw ?hc
  case hw => w_witness2
  case hc =>
    refine L2.walk_ofE (l := PySem.Challenge.rw_shocksknown_k94_times_and_quiet) (n := 63) (k := 12) (x := "script") (CX := L2.CX0) rfl (by decide) (by kernel_rfl) ⟨rfl, by decide, by decide⟩ ?F (fun _ _ _ _ z => z)
    intro w mg fa h Y G hmg0
    obtain ⟨K, KX, c⟩ := Y
    have nm : (HandSHeadRun.topDef W.Rw.prog 22).name = ("law" : PySem.Str) := by kernel_rfl
    rw [nm] at hmg0
    obtain ⟨fd, hb, hF⟩ := W.facts_top (P := (PySem.Challenge.rw_shocksknown_k94_times_and_quiet).prog) (w := w) W.law_true KX G hmg0 c
    exact ⟨K, fd, PD.spLaw K, KX, hb, fun H a ns hl _ hS => ⟨a, ns, rfl, hS, hl, fun _ => rfl⟩, hF⟩
