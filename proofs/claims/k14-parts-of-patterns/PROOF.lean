import PyProof.Rows.All
import Wide.All
import OpenK.AllK
import Wide.FinOn
import PyProof.EqAt
import PyProof.EqKinds
import PyProof.TupleCall
import KE.Datum
import KE.DatumMore
import KE.DatumIndex
import HandS.Base
import HandS.Call
import HandS.List
import HandS.Comp
import HandS.Ends
import HandS.Dict
import HandS.Iter
import HandS.Text
import HandS.Words
import HandS.WordsList
import HandS.WordsDict
import HandS.Deep
import HandS.Style
import HandS.Wide
import HandS.IsInst
import HandS.Flow
import HandS.More
import HandS.Star
import HandS.ClsMeth
import HandS.DictComp
import HandS.HeadHook1
import HandS.HeadHook2
import HandS.HeadNt
import KE.KStateDown
import Lean
import HandS.Head0
import HandS.Head1
import HandS.Head2
import HandS.HeadEnd
import PyProof.InstNe
import PySem.Challenge.RW_foundormade_k14_parts_of_patterns
set_option Elab.async false
set_option linter.all false
set_option maxRecDepth 100000
set_option maxHeartbeats 4000000
/-! ## The state of a walk: S what is settled, T what is known, H the heap -/
namespace Fm
open PySem PySem.Spec PyProof.Rows L2
open PySem.W (Datum Tup)

theorem same_new {H : Hp} {p : Addr} {o : HO} (h : H p = none) : Same H (upd H p o) := fun b x e => by
  rw [upd_ne (ne_of_none e h)]
  exact e
theorem same_upd {S H : Hp} {p : Addr} {o : HO} (e : Same S H) (h : S p = none) : Same S (upd H p o) := fun b x q => by
  rw [upd_ne (ne_of_none q h)]
  exact e b x q
theorem same_both {S H : Hp} {p : Addr} {o : HO} (e : Same S H) : Same (upd S p o) (upd H p o) := fun b x q => by
  by_cases hb : b = p
  · subst hb; rw [upd_same] at q ⊢; exact q
  · rw [upd_ne hb] at q ⊢; exact e b x q

structure Step (S T S' T' : Hp) : Prop where
  ss : Same S S'
  st : Same S' T'
  tt : Same T T'
  nw : ∀ a, T a ≠ none → S a = none → S' a = none
section
variable {S T S' T' S0 T0 S1 T1 S2 T2 H H' : Hp} {p : Addr} {o : HO}
theorem Step.refl (h : Same S T) : Step S T S T := ⟨Same.refl _, h, Same.refl _, fun _ _ h => h⟩
theorem Step.trans (a : Step S T S1 T1) (b : Step S1 T1 S2 T2) : Step S T S2 T2 :=
  ⟨a.ss.trans b.ss, b.st, a.tt.trans b.tt, fun x hx hs => b.nw x (fun z => hx (a.tt.free z)) (a.nw x hx hs)⟩
theorem Step.new (h : Same S T) (n : T p = none) : Step S T (upd S p o) (upd T p o) := by
  refine ⟨same_new (h.free n), same_both h, same_new n, fun a ha hs => ?_⟩
  have hne : a ≠ p := fun z => ha (by rw [z]; exact n)
  rw [upd_ne hne]; exact hs
theorem Step.tmp (h : Same S T) (n : T p = none) : Step S T S (upd T p o) :=
  ⟨Same.refl _, h.trans (same_new n), same_new n, fun _ _ h => h⟩
theorem Step.freeze (s : Step S0 T0 S T) (n : T0 p = none) (h : T p = some o) : Step S0 T0 (upd S p o) T := by
  refine ⟨fun b x q => ?_, fun b x q => ?_, s.tt, fun a ha hs => ?_⟩
  · have q' := s.ss b x q
    by_cases hb : b = p
    · subst hb
      have z := s.st b x q'
      rw [h] at z; rw [upd_same]; exact z
    · rw [upd_ne hb]; exact q'
  · by_cases hb : b = p
    · subst hb; rw [upd_same] at q; rw [← q]; exact h
    · rw [upd_ne hb] at q; exact s.st b x q
  · have hne : a ≠ p := fun z => ha (by rw [z]; exact n)
    rw [upd_ne hne]; exact s.nw a ha hs
theorem Step.set (s : Step S0 T0 S T) (n0 : T0 p = none) (ns : S p = none) : Step S0 T0 S (upd T p o) :=
  ⟨s.ss, same_upd s.st ns, same_upd s.tt n0, s.nw⟩
/-- the part of what is known that is settled, and what is new and settled -/
def join (A B : Hp) : Hp := fun a => match A a with | some o => some o | none => B a
theorem join_l {A B : Hp} : Same A (join A B) := fun b x q => by unfold join; rw [q]
theorem Step.widen (s : Step S T S' T') (e : Same S S1) (h1 : Same S1 T) : Step S1 T (join S1 S') T' ∧ Same S' (join S1 S') := by
  refine ⟨⟨join_l, fun b x q => ?_, s.tt, fun a ha hs => ?_⟩, fun b x q => ?_⟩
  · unfold join at q
    cases z : S1 b with
    | some y => rw [z] at q; cases q; exact s.tt b _ (h1 b _ z)
    | none => rw [z] at q; exact s.st b x q
  · unfold join; rw [hs]; exact s.nw a ha (e.free hs)
  · unfold join
    cases z : S1 b with
    | some y =>
      have h2 := s.tt b _ (h1 b _ z)
      rw [s.st b x q] at h2; exact h2.symm
    | none => exact q

/-- a world: how the known part T lies in the heap H -/
structure Wld where
  W : Hp → Hp → Prop
  sub : ∀ {T H}, W T H → Same T H
  new : ∀ {T H a o}, W T H → H a = none → W (upd T a o) (upd H a o)
  tmp : ∀ {T H a o}, W T H → H a = none → W T (upd H a o)
  set : ∀ {T H a o o'}, W T H → T a = some o → W (upd T a o') (upd H a o')
  lift : ∀ {S S' T H H'}, W T H → Same S T → Step S H S' H' → ∃ T', Step S T S' T' ∧ W T' H'
/-- what a step over the whole heap is to the known part -/
def liftT (T H S' : Hp) : Hp := fun a => match H a with | some _ => T a | none => S' a
theorem liftT_step (h : Same T H) (e : Same S T) (s : Step S H S' H') : Step S T S' (liftT T H S') ∧ Same (liftT T H S') H' := by
  refine ⟨⟨s.ss, fun b x q => ?_, fun b x q => ?_, fun a ha hs => s.nw a (fun z => ha (h.free z)) hs⟩, fun b x q => ?_⟩
  · unfold liftT
    cases z : H b with
    | none => exact q
    | some y =>
      cases w : S b with
      | none => rw [s.nw b (by rw [z]; simp) w] at q; cases q
      | some u => rw [s.ss b u w] at q; cases q; exact e b _ w
  · unfold liftT; rw [h b x q]; exact q
  · unfold liftT at q
    cases z : H b with
    | none => rw [z] at q; exact s.st b x q
    | some y => rw [z] at q; exact s.tt b x (h b x q)
/-- the plain world -/
def W0 : Wld where
  W := Same
  sub := fun h => h
  new := fun h n => same_both h
  tmp := fun h n => h.trans (same_new n)
  set := fun h _ => same_both h
  lift := fun h e s => ⟨_, (liftT_step h e s).1, (liftT_step h e s).2⟩
end

/-! ### data -/
mutual
/-- v is the datum d: lists stand in the heap itself -/
inductive Dq (K : PySem.W.Frag) (H : Hp) : V → PyData → Prop
  | non : Dq K H .non .none
  | bl (b : Bool) : Dq K H (.bl b) (.bool b)
  | int (i : Int) : Dq K H (.int i) (.int i)
  | str (x : Str) : Dq K H (.str x) (.str x)
  | lst {a : Addr} {xs : List V} {ds : List PyData} : Rd H a (.lst xs) → DqAll K H xs ds → Dq K H (.ref a) (.list ds)
  | tup {a : Addr} {xs : List V} {ds : List PyData} : SqT K H a xs → DqAll K H xs ds → Dq K H (.ref a) (.tuple ds)
inductive DqAll (K : PySem.W.Frag) (H : Hp) : List V → List PyData → Prop
  | nil : DqAll K H [] []
  | cons {v : V} {vs : List V} {d : PyData} {ds : List PyData} : Dq K H v d → DqAll K H vs ds → DqAll K H (v :: vs) (d :: ds)
end
theorem Same.rd {S S' : Hp} {a : Addr} {u : HO} (e : Same S S') (h : Rd S a u) : Rd S' a u := by
  rcases h with h | ⟨o, h⟩
  · exact .inl (e _ _ h)
  · exact .inr ⟨o, e _ _ h⟩
mutual
theorem Dq.dp {K : PySem.W.Frag} {S : Hp} : ∀ {v : V} {d : PyData}, Dq K S v d → Dp K S v d
  | _, _, .non => .non
  | _, _, .bl b => .bl b
  | _, _, .int i => .int i
  | _, _, .str x => .str x
  | _, _, .lst h r => .lst (.inl h) (DqAll.dp r)
  | _, _, .tup h r => .tup h (DqAll.dp r)
theorem DqAll.dp {K : PySem.W.Frag} {S : Hp} : ∀ {vs : List V} {ds : List PyData}, DqAll K S vs ds → DpAll K S vs ds
  | _, _, .nil => .nil
  | _, _, .cons h r => .cons (Dq.dp h) (DqAll.dp r)
end
section
variable {K : PySem.W.Frag} {S S' : Hp} {v : V} {vs : List V}
mutual
theorem Dq.mono (e : Same S S') : ∀ {v : V} {d : PyData}, Dq K S v d → Dq K S' v d
  | _, _, .non => .non
  | _, _, .bl b => .bl b
  | _, _, .int i => .int i
  | _, _, .str x => .str x
  | _, _, .lst h r => .lst (Same.rd e h) (DqAll.mono e r)
  | _, _, .tup h r => .tup (by
      rcases h with (h | ⟨o, h⟩) | h
      · exact .inl (.inl (e _ _ h))
      · exact .inl (.inr ⟨o, e _ _ h⟩)
      · exact .inr h) (DqAll.mono e r)
theorem DqAll.mono (e : Same S S') : ∀ {vs : List V} {ds : List PyData}, DqAll K S vs ds → DqAll K S' vs ds
  | _, _, .nil => .nil
  | _, _, .cons h r => .cons (Dq.mono e h) (DqAll.mono e r)
end
theorem Same.tup {a : Addr} {xs : List V} (e : Same S S') (h : SqT K S a xs) : SqT K S' a xs := by
  rcases h with (h | ⟨o, h⟩) | h
  · exact .inl (.inl (e _ _ h))
  · exact .inl (.inr ⟨o, e _ _ h⟩)
  · exact .inr h
theorem DqAll.len : ∀ {vs : List V} {ds : List PyData}, DqAll K S vs ds → vs.length = ds.length
  | _, _, .nil => rfl
  | _, _, .cons _ r => by rw [List.length_cons, List.length_cons, DqAll.len r]
theorem DqAll.at_ : ∀ {vs : List V} {ds : List PyData} {i : Nat} {d : PyData}, DqAll K S vs ds → ds[i]? = some d → ∃ v, vs[i]? = some v ∧ Dq K S v d
  | _, _, _, _, .nil, e => by simp at e
  | _, _, 0, _, .cons h _, e => by simp at e; subst e; exact ⟨_, rfl, h⟩
  | _, _, i + 1, d, .cons _ r, e => by
    obtain ⟨v, h1, h2⟩ := DqAll.at_ (i := i) (d := d) r (by simpa using e)
    exact ⟨v, by simpa using h1, h2⟩
theorem DqAll.of : ∀ {vs : List V} {ds : List PyData} {i : Nat} {v : V}, DqAll K S vs ds → vs[i]? = some v → ∃ d, ds[i]? = some d ∧ Dq K S v d
  | _, _, _, _, .nil, e => by simp at e
  | _, _, 0, _, .cons h _, e => by simp at e; subst e; exact ⟨_, rfl, h⟩
  | _, _, i + 1, v, .cons _ r, e => by
    obtain ⟨d, h1, h2⟩ := DqAll.of (i := i) (v := v) r (by simpa using e)
    exact ⟨d, by simpa using h1, h2⟩
theorem DqAll.app : ∀ {vs ws : List V} {ds es : List PyData}, DqAll K S vs ds → DqAll K S ws es → DqAll K S (vs ++ ws) (ds ++ es)
  | _, _, _, _, .nil, h => h
  | _, _, _, _, .cons h r, q => .cons h (DqAll.app r q)
theorem DqAll.drop_ : ∀ {vs : List V} {ds : List PyData} (n : Nat), DqAll K S vs ds → DqAll K S (vs.drop n) (ds.drop n)
  | _, _, 0, h => h
  | _, _, _ + 1, .nil => .nil
  | _, _, n + 1, .cons _ r => DqAll.drop_ n r
theorem DqAll.take_ : ∀ {vs : List V} {ds : List PyData} (n : Nat), DqAll K S vs ds → DqAll K S (vs.take n) (ds.take n)
  | _, _, 0, h => .nil
  | _, _, _ + 1, .nil => .nil
  | _, _, n + 1, .cons h r => .cons h (DqAll.take_ n r)
theorem DqAll.rev : ∀ {vs : List V} {ds : List PyData}, DqAll K S vs ds → DqAll K S vs.reverse ds.reverse
  | _, _, .nil => .nil
  | _, _, .cons h r => by rw [List.reverse_cons, List.reverse_cons]; exact DqAll.app (DqAll.rev r) (.cons h .nil)
end
section
variable {K : PySem.W.Frag} {S S' : Hp} {v : V} {vs : List V} {α β : Type} [DecidableEq α] [Datum α] [DecidableEq β] [Datum β]
/-- v is the datum x, as S has it -/
def Is (K : PySem.W.Frag) (x : α) (S : Hp) (v : V) : Prop := Dq K S v (Datum.toD x)
def IsAll (K : PySem.W.Frag) (xs : List α) (S : Hp) (vs : List V) : Prop := DqAll K S vs (xs.map Datum.toD)
theorem Is.mono {x : α} (h : Is K x S v) (e : Same S S') : Is K x S' v := Dq.mono e h
theorem IsAll.mono {xs : List α} (h : IsAll K xs S vs) (e : Same S S') : IsAll K xs S' vs := DqAll.mono e h
theorem is_int {i : Int} : Is K i S (.int i) := .int i
theorem is_bl {b : Bool} : Is K b S (.bl b) := .bl b
theorem is_str {x : Str} : Is K x S (.str x) := .str x
theorem is_non : Is K () S .non := .non
theorem Is.int {i : Int} (h : Is K i S v) : v = .int i := by cases h; rfl
theorem Is.bl {b : Bool} (h : Is K b S v) : v = .bl b := by cases h; rfl
theorem Is.str {x : Str} (h : Is K x S v) : v = .str x := by cases h; rfl
theorem is_lst {a : Addr} {xs : List α} (h : Rd S a (.lst vs)) (r : IsAll K xs S vs) : Is K xs S (.ref a) := .lst h r
theorem is_tup {a : Addr} {xs : List α} (h : SqT K S a vs) (r : IsAll K xs S vs) : Is K (Tup.mk xs) S (.ref a) := .tup h r
theorem Is.lst {xs : List α} (h : Is K xs S v) : ∃ a vs, v = .ref a ∧ Rd S a (.lst vs) ∧ IsAll K xs S vs := by
  cases h with
  | lst h r => exact ⟨_, _, rfl, h, r⟩
theorem Is.tup {t : Tup α} (h : Is K t S v) : ∃ a vs, v = .ref a ∧ SqT K S a vs ∧ IsAll K t.items S vs := by
  cases h with
  | tup h r => exact ⟨_, _, rfl, h, r⟩
theorem IsAll.len {xs : List α} (h : IsAll K xs S vs) : vs.length = xs.length := by rw [DqAll.len h, List.length_map]
theorem IsAll.at_ {xs : List α} {i : Nat} {x : α} (h : IsAll K xs S vs) (e : xs[i]? = some x) : ∃ v, vs[i]? = some v ∧ Is K x S v :=
  DqAll.at_ h (by rw [List.getElem?_map, e]; rfl)
theorem IsAll.of {xs : List α} {i : Nat} (h : IsAll K xs S vs) (e : vs[i]? = some v) : ∃ x, xs[i]? = some x ∧ Is K x S v := by
  obtain ⟨d, h1, h2⟩ := DqAll.of h e
  rw [List.getElem?_map] at h1
  cases z : xs[i]? with
  | none => rw [z] at h1; cases h1
  | some x => rw [z] at h1; cases h1; exact ⟨x, rfl, h2⟩
theorem IsAll.nil : IsAll K ([] : List α) S [] := DqAll.nil
theorem IsAll.cons {x : α} {xs : List α} (h : Is K x S v) (r : IsAll K xs S vs) : IsAll K (x :: xs) S (v :: vs) := DqAll.cons h r
theorem IsAll.app {xs ys : List α} {ws : List V} (h : IsAll K xs S vs) (r : IsAll K ys S ws) : IsAll K (xs ++ ys) S (vs ++ ws) := by
  unfold IsAll; rw [List.map_append]; exact DqAll.app h r
theorem IsAll.one {x : α} (h : Is K x S v) : IsAll K [x] S [v] := DqAll.cons h DqAll.nil
theorem IsAll.drop_ {xs : List α} (n : Nat) (h : IsAll K xs S vs) : IsAll K (xs.drop n) S (vs.drop n) := by
  unfold IsAll; rw [List.map_drop]; exact DqAll.drop_ n h
theorem IsAll.take_ {xs : List α} (n : Nat) (h : IsAll K xs S vs) : IsAll K (xs.take n) S (vs.take n) := by
  unfold IsAll; rw [List.map_take]; exact DqAll.take_ n h
theorem IsAll.rev {xs : List α} (h : IsAll K xs S vs) : IsAll K xs.reverse S vs.reverse := by
  unfold IsAll; rw [List.map_reverse]; exact DqAll.rev h
theorem isAll_ints : ∀ {ns : List Int}, IsAll K ns S (ns.map V.int)
  | [] => DqAll.nil
  | n :: r => DqAll.cons (Dq.int n) isAll_ints
theorem isAll_strs : ∀ {ns : List Str}, IsAll K ns S (ns.map V.str)
  | [] => DqAll.nil
  | n :: r => DqAll.cons (Dq.str n) isAll_strs
theorem isAll_bls : ∀ {ns : List Bool}, IsAll K ns S (ns.map V.bl)
  | [] => DqAll.nil
  | n :: r => DqAll.cons (Dq.bl n) isAll_bls
theorem IsAll.strs : ∀ {ns : List Str} {vs : List V}, IsAll K ns S vs → vs = ns.map V.str
  | [], _, h => by cases h; rfl
  | n :: r, _, h => by
    cases h with
    | cons h t => rw [Is.str h, IsAll.strs t]; rfl
theorem IsAll.ints : ∀ {ns : List Int} {vs : List V}, IsAll K ns S vs → vs = ns.map V.int
  | [], _, h => by cases h; rfl
  | n :: r, _, h => by
    cases h with
    | cons h t => rw [Is.int h, IsAll.ints t]; rfl
theorem IsAll.bls : ∀ {ns : List Bool} {vs : List V}, IsAll K ns S vs → vs = ns.map V.bl
  | [], _, h => by cases h; rfl
  | n :: r, _, h => by
    cases h with
    | cons h t => rw [Is.bl h, IsAll.bls t]; rfl
end
end Fm

/-! ## Rules that take any data -/
namespace Fm
open PySem PySem.Spec PyProof.Rows L2
open PySem.W (Datum Tup)
section
variable {X : Cx}
def rEqP (K : PySem.W.Frag) : R2 := fun x y H Q => ∃ d e, Dp K H x d ∧ Dp K H y e ∧ d.plain = true ∧ e.plain = true ∧ min d.depth e.depth ≤ 60 ∧ Q (.bl (PyData.eqv d e)) H
def rNeP (K : PySem.W.Frag) : R2 := fun x y H Q => ∃ d e, Dp K H x d ∧ Dp K H y e ∧ d.plain = true ∧ e.plain = true ∧ min d.depth e.depth ≤ 60 ∧ Q (.bl (!PyData.eqv d e)) H
theorem op_eqP (hu : X.A.units + 64 < cLine) : OpR X (compareOp .Eq) (rEqP X.K) := by
  intro pins s σ H x y v u Q I rx ry h
  obtain ⟨d, e, hd, he, sd, se, hm, q⟩ := h
  obtain ⟨as, r1⟩ := Dp.reads I d x v hd rx
  obtain ⟨bs, r2⟩ := Dp.reads I e y u he ry
  exact SeqAt.eq_plain r1 r2 sd se (by omega) ⟨.bl _, H, I, rfl, q⟩
theorem op_neP (hu : X.A.units + 64 < cLine) : OpR X (compareOp .NotEq) (rNeP X.K) := by
  intro pins s σ H x y v u Q I rx ry h
  obtain ⟨d, e, hd, he, sd, se, hm, q⟩ := h
  obtain ⟨as, r1⟩ := Dp.reads I d x v hd rx
  obtain ⟨bs, r2⟩ := Dp.reads I e y u he ry
  exact SeqAt.ne_plain r1 r2 sd se (by omega) ⟨.bl _, H, I, rfl, q⟩
/-- x in a list or tuple of data; a sign in a text -/
def rInP (K : PySem.W.Frag) (neg : Bool) : R2 := fun x y H Q => (∃ d ds, Dp K H x d ∧ (Dp K H y (.list ds) ∨ Dp K H y (.tuple ds)) ∧ d.plain = true ∧ PyData.plainAll ds = true ∧ d.depth ≤ 60 ∧ Q (.bl (if neg then !ds.any (fun z => PyData.eqv z d) else ds.any (fun z => PyData.eqv z d))) H)
  ∨ ∃ (c : Nat) (z : Str), x = .str ⟨#[c]⟩ ∧ y = .str z ∧ Q (.bl (if neg then !decide (c ∈ z.cps.toList) else decide (c ∈ z.cps.toList))) H
theorem op_inP (hu : X.A.units + 65 < cLine) : OpR X (compareOp .In) (rInP X.K false) := by
  intro pins s σ H x y v u Q I rx ry h
  rcases h with ⟨d, ds, hd, he, sd, se, hm, q⟩ | ⟨c, z, hx, hy, q⟩
  · obtain ⟨as, r1⟩ := Dp.reads I d x v hd rx
    have hr : X.A.units + 1 + min (PyData.depthAll ds) d.depth < cLine := by
      have := Nat.min_le_right (PyData.depthAll ds) d.depth
      omega
    rcases he with he | he
    · obtain ⟨bs, r2⟩ := Dp.reads I (.list ds) y u he ry
      exact SeqAt.in_list_data r2 r1 se sd hr ⟨.bl _, H, I, rfl, q⟩
    · obtain ⟨bs, r2⟩ := Dp.reads I (.tuple ds) y u he ry
      exact SeqAt.in_tuple_data r2 r1 se sd hr ⟨.bl _, H, I, rfl, q⟩
  · exact op_in_sign pins s σ H x y v u Q I rx ry ⟨c, z, hx, hy, q⟩
theorem op_notInP (hu : X.A.units + 65 < cLine) : OpR X (compareOp .NotIn) (rInP X.K true) := by
  intro pins s σ H x y v u Q I rx ry h
  rcases h with ⟨d, ds, hd, he, sd, se, hm, q⟩ | ⟨c, z, hx, hy, q⟩
  · obtain ⟨as, r1⟩ := Dp.reads I d x v hd rx
    have hr : X.A.units + 1 + min (PyData.depthAll ds) d.depth < cLine := by
      have := Nat.min_le_right (PyData.depthAll ds) d.depth
      omega
    rcases he with he | he
    · obtain ⟨bs, r2⟩ := Dp.reads I (.list ds) y u he ry
      exact SeqAt.notIn_list_data r2 r1 se sd hr ⟨.bl _, H, I, rfl, q⟩
    · obtain ⟨bs, r2⟩ := Dp.reads I (.tuple ds) y u he ry
      exact SeqAt.notIn_tuple_data r2 r1 se sd hr ⟨.bl _, H, I, rfl, q⟩
  · exact op_notIn_sign pins s σ H x y v u Q I rx ry ⟨c, z, hx, hy, q⟩
/-- + of lists -/
def rCatR : R2 := fun x y H Q => ∃ l b xs zs, x = .ref l ∧ y = .ref b ∧ Rd H l (.lst xs) ∧ Rd H b (.lst zs) ∧ xs.length + zs.length ≤ sizeLine ∧ ∀ p, H p = none → Q (.ref p) (upd H p (.lst (xs ++ zs)))
theorem op_catR : OpR X (binaryOp .Add) rCatR := by
  intro pins s σ H x y v u Q I rx ry h
  obtain ⟨l, b, xs, zs, rfl, rfl, hH, hB, hz, q⟩ := h
  cases rx
  cases ry
  obtain ⟨z, its, n, r, e⟩ := hH.ok I.hok
  obtain ⟨z2, its2, n2, r2, e2⟩ := hB.ok I.hok
  have hl := r.length
  have hl2 := r2.length
  refine PySem.P.add_list e e2 ?_ (by rw [List.size_toArray, List.size_toArray]; omega)
  have ea : its.toArray ++ its2.toArray = (its ++ its2).toArray := by simp
  rw [ea]
  exact ⟨.ref _, _, I.lnew (t' := s.toks) (r.append r2) (by rw [List.length_append]; omega), rfl, q _ I.fresh⟩
/-- + of ints, texts, lists -/
def rAddA : R2 := fun x y H Q => (∃ i j, x = .int i ∧ y = .int j ∧ Q (.int (i + j)) H) ∨ (∃ i j, x = .str i ∧ y = .str j ∧ i.length + j.length ≤ sizeLine ∧ Q (.str (i ++ j)) H) ∨ rCatR x y H Q
theorem OpR.or {f : Value → Value → Sem Value} {r r' : R2} (h : OpR X f r) (h' : OpR X f r') : OpR X f (fun x y H Q => r x y H Q ∨ r' x y H Q) := by
  intro pins s σ H x y v u Q I rx ry q
  rcases q with q | q
  · exact h pins s σ H x y v u Q I rx ry q
  · exact h' pins s σ H x y v u Q I rx ry q
theorem op_addA : OpR X (binaryOp .Add) rAddA := OpR.or op_add (OpR.or op_add_str op_catR)
/-- a list, a tuple, a text, walked -/
def iSeq (K : PySem.W.Frag) (tl : TE) : TI := fun σ H R => tl σ H fun x H1 => (∃ a, x = .ref a ∧ (∃ xs, SqL K H1 a xs) ∧ R (Itl K a) H1) ∨ (∃ a, x = .ref a ∧ (∃ xs, SqT K H1 a xs) ∧ R (Itt K a) H1) ∨ ∃ z, x = .str z ∧ R (Its z) H1
theorem pi_seq {tg l : Expr} {tl : TE} (hl : PE X l tl) : PI X tg l (iSeq X.K tl) := by
  refine ⟨fun pins s σ H R I h => ?_⟩
  refine thn (hl.run pins s σ H _ I h) fun v s1 ⟨x, H1, I1, r1, q1⟩ => ?_
  rcases q1 with ⟨a, e, ⟨xs, hq⟩, q⟩ | ⟨a, e, ⟨xs, hq⟩, q⟩ | ⟨z, e, q⟩
  · subst e
    cases r1
    obtain ⟨its, rv, p, hz⟩ := I1.list hq
    refine wpAny_pyIter_list p.isList ?_
    refine ⟨s1.heap.objs.size, [s1.heap.objs.size], _, _, H1, rfl, I1.kept (t' := s1.toks) fun b o e => Heap.get?_push_of_some _ e, turn_list a _, ⟨_, Heap.get?_push_size _ rfl, rfl, rfl⟩, fun b hb => ?_, q⟩
    have e : b = s1.heap.objs.size := by simpa using hb
    subst e
    exact I1.fpOk (Nat.le_refl _) (I1.hok.fresh (Nat.le_refl _))
  · subst e
    cases r1
    obtain ⟨its, rv, p, hz⟩ := I1.tuple hq
    refine wpAny_pyIter_tuple (show s1.heap.IsTuple a its.toArray from p) ?_
    refine ⟨s1.heap.objs.size, [s1.heap.objs.size], _, _, H1, rfl, I1.kept (t' := s1.toks) fun b o e => Heap.get?_push_of_some _ e, turn_tuple a _, ⟨_, Heap.get?_push_size _ rfl, rfl, rfl⟩, fun b hb => ?_, q⟩
    have e : b = s1.heap.objs.size := by simpa using hb
    subst e
    exact I1.fpOk (Nat.le_refl _) (I1.hok.fresh (Nat.le_refl _))
  · subst e
    obtain ⟨t, rfl⟩ := r1
    cases ha : z.cps.all (· < 128)
    · exact wpAny_pyIter_wide ha (pi_one (tk := s1.toks) I1 _ (turn_str _ z t "str_iterator" (.inr rfl)) ⟨_, Heap.get?_push_size _ rfl, rfl, rfl⟩ q)
    · exact wpAny_pyIter_ascii ha (pi_one (tk := s1.toks) I1 _ (turn_str _ z t "str_ascii_iterator" (.inl rfl)) ⟨_, Heap.get?_push_size _ rfl, rfl, rfl⟩ q)
/-- x[i:j] of a list or a text -/
def rSlA (K : PySem.W.Frag) : V → Option Int → Option Int → Hp → VK → Prop := fun x lo hi H Q => (∃ a xs, x = .ref a ∧ SqL K H a xs ∧ ∀ p, H p = none → Q (.ref p) (upd H p (.lst (cutV xs lo hi)))) ∨ ∃ z, x = .str z ∧ z.length ≤ sizeLine ∧ Q (.str (cutS z lo hi)) H
theorem sl_any : SlR X (rSlA X.K) := by
  intro pins s σ H x v vl vu lo hi sl Q I rx hs pl pu h
  rcases h with h | h
  · exact sl_list pins s σ H x v vl vu lo hi sl Q I rx hs pl pu h
  · exact sl_str pins s σ H x v vl vu lo hi sl Q I rx hs pl pu h
/-- xs[i] op= e -/
def rGetL : V → V → Hp → VK → Prop := fun x y H Q => ∃ p xs i v, x = .ref p ∧ y = .int i ∧ 0 ≤ i ∧ H p = some (.lst xs) ∧ xs[i.toNat]? = some v ∧ Q v H
theorem get_list {X : Cx} : PGet X rGetL := by
  intro pins s σ H o i ov iv Q I ro ri h
  obtain ⟨p, xs, i, z, rfl, rfl, h0, hq, he, q⟩ := h
  cases ro
  obtain ⟨t, rfl⟩ := ri
  obtain ⟨its, r, pl, hz⟩ := I.list (SqL.of hq)
  obtain ⟨w, ew, rw'⟩ := r.get he
  have hl := r.length
  have hn := line63
  have hi : i.toNat < its.length := (List.getElem?_eq_some_iff.mp ew).1
  exact wpAny_getItem_list pl.isList h0 (by omega) (by simpa using ew) ⟨z, H, I, rw', q⟩
end
end Fm

/-! ## What an expression comes to -/
namespace Fm
open PySem PySem.Spec PyProof.Rows L2
open PySem.W (Datum Tup T3 T4)

def Ev (M : Wld) (t : TE) (σ : L2.St) (S : Hp) (P : Hp → V → Prop) : Prop :=
  ∀ T H, M.W T H → Same S T → ∀ Q : VK, (∀ S' T' H' v, Step S T S' T' → M.W T' H' → P S' v → Q v H') → t σ H Q
def EvT (M : Wld) (t : TT) (σ : L2.St) (S : Hp) (b : Bool) : Prop :=
  ∀ T H, M.W T H → Same S T → ∀ Q : Bool → Hp → Prop, (∀ S' T' H', Step S T S' T' → M.W T' H' → Q b H') → t σ H Q
def EvA (M : Wld) (t : TA) (σ : L2.St) (S : Hp) (P : Hp → List V → Prop) : Prop :=
  ∀ T H, M.W T H → Same S T → ∀ Q : List V → Hp → Prop, (∀ S' T' H' vs, Step S T S' T' → M.W T' H' → P S' vs → Q vs H') → t σ H Q
/-- an operation on values -/
def Rv (M : Wld) (r : Hp → VK → Prop) (S : Hp) (P : Hp → V → Prop) : Prop :=
  ∀ T H, M.W T H → Same S T → ∀ Q : VK, (∀ S' T' H' v, Step S T S' T' → M.W T' H' → P S' v → Q v H') → r H Q
/-- what holds of S holds of all that is more -/
def Mono (P : Hp → V → Prop) : Prop := ∀ S S' v, Same S S' → P S v → P S' v
def MonoA (P : Hp → List V → Prop) : Prop := ∀ S S' v, Same S S' → P S v → P S' v

section
variable {M : Wld} {K : PySem.W.Frag} {σ : L2.St} {S S1 : Hp} {P P1 P2 : Hp → V → Prop} {ta tb te tc : TE} {t u : TT} {v x y : V}
theorem Ev.mono (hP : Mono P) (h : Ev M te σ S P) (e : Same S S1) : Ev M te σ S1 P := fun T H w s Q q =>
  h T H w (e.trans s) Q fun S' T' H' v st w' p => by
    obtain ⟨a, b⟩ := st.widen e s
    exact q _ T' H' v a w' (hP _ _ _ b p)
theorem EvT.mono {b : Bool} (h : EvT M t σ S b) (e : Same S S1) : EvT M t σ S1 b := fun T H w s Q q =>
  h T H w (e.trans s) Q fun S' T' H' st w' => q _ T' H' (st.widen e s).1 w'
theorem EvA.mono {ta : TA} {P : Hp → List V → Prop} (hP : MonoA P) (h : EvA M ta σ S P) (e : Same S S1) : EvA M ta σ S1 P := fun T H w s Q q =>
  h T H w (e.trans s) Q fun S' T' H' v st w' p => by
    obtain ⟨a, b⟩ := st.widen e s
    exact q _ T' H' v a w' (hP _ _ _ b p)
theorem Ev.imp (h : Ev M te σ S P) (hp : ∀ S' v, Same S S' → P S' v → P1 S' v) : Ev M te σ S P1 := fun T H w s Q q =>
  h T H w s Q fun S' T' H' v st w' p => q S' T' H' v st w' (hp S' v st.ss p)
theorem EvT.is {a b : Bool} (h : EvT M t σ S a) (e : a = b) : EvT M t σ S b := e ▸ h
theorem ev_var {i : Nat} (h : σ[i]? = some (some v)) (p : P S v) : Ev M (tVar i) σ S P := fun T H w s Q q => ⟨v, h, q S T H v (Step.refl s) w p⟩
theorem ev_c (p : P S v) : Ev M (tC v) σ S P := fun T H w s Q q => q S T H v (Step.refl s) w p
/-- a value that hangs on nothing -/
theorem rv_now {r : Hp → VK → Prop} (h : ∀ H, Same S H → ∀ Q : VK, Q v H → r H Q) (p : P S v) : Rv M r S P := fun T H w s Q q =>
  h H (s.trans (M.sub w)) Q (q S T H v (Step.refl s) w p)
/-- a new object -/
theorem rv_new {r : Hp → VK → Prop} {o : HO} (h : ∀ H, Same S H → ∀ Q : VK, (∀ p, H p = none → Q (.ref p) (upd H p o)) → r H Q) (hp : ∀ p, S p = none → P (upd S p o) (.ref p)) : Rv M r S P := fun T H w s Q q =>
  h H (s.trans (M.sub w)) Q fun p np => by
    have nt := (M.sub w).free np
    exact q (upd S p o) (upd T p o) (upd H p o) (.ref p) (Step.new s nt) (M.new w np) (hp p (s.free nt))
theorem ev_op {r : R2} (hP : Mono P1) (ha : Ev M ta σ S P1) (hb : ∀ S1, Same S S1 → Ev M tb σ S1 P2) (hr : ∀ S2 x y, Same S S2 → P1 S2 x → P2 S2 y → Rv M (r x y) S2 P) : Ev M (tOp r ta tb) σ S P := fun T H w s Q q =>
  ha T H w s _ fun S1 T1 H1 x st1 w1 p1 => hb S1 st1.ss T1 H1 w1 st1.st _ fun S2 T2 H2 y st2 w2 p2 =>
    hr S2 x y (st1.ss.trans st2.ss) (hP _ _ _ st2.ss p1) p2 T2 H2 w2 st2.st Q fun S3 T3 H3 v st3 w3 p => q S3 T3 H3 v ((st1.trans st2).trans st3) w3 p
theorem ev_un {r : V → Hp → VK → Prop} (ha : Ev M ta σ S P1) (hr : ∀ S2 x, Same S S2 → P1 S2 x → Rv M (r x) S2 P) : Ev M (tUn r ta) σ S P := fun T H w s Q q =>
  ha T H w s _ fun S1 T1 H1 x st1 w1 p1 => hr S1 x st1.ss p1 T1 H1 w1 st1.st Q fun S3 T3 H3 v st3 w3 p => q S3 T3 H3 v (st1.trans st3) w3 p
theorem ev_test {b : Bool} (h : Ev M te σ S (Is K b)) : EvT M (tTest te) σ S b := fun T H w s Q q => h T H w s _ fun S' T' H' v st w' p => ⟨b, p.bl, q S' T' H' st w'⟩
theorem ev_tB {b : Bool} (h : Ev M te σ S (Is K b)) : EvT M (tB te) σ S b := fun T H w s Q q => h T H w s _ fun S' T' H' v st w' p => ⟨b, p.bl, q S' T' H' st w'⟩
theorem ev_and {a b : Bool} (h1 : EvT M t σ S a) (h2 : a = true → EvT M u σ S b) : EvT M (tAnd t u) σ S (a && b) := fun T H w s Q q => h1 T H w s _ fun S1 T1 H1 st w1 => by
  cases a with
  | true => exact iteT ((h2 rfl).mono st.ss T1 H1 w1 st.st Q fun S2 T2 H2 st2 w2 => q S2 T2 H2 (st.trans st2) w2)
  | false => exact iteF (q S1 T1 H1 st w1)
theorem ev_or {a b : Bool} (h1 : EvT M t σ S a) (h2 : a = false → EvT M u σ S b) : EvT M (tOr t u) σ S (a || b) := fun T H w s Q q => h1 T H w s _ fun S1 T1 H1 st w1 => by
  cases a with
  | true => exact iteT (q S1 T1 H1 st w1)
  | false => exact iteF ((h2 rfl).mono st.ss T1 H1 w1 st.st Q fun S2 T2 H2 st2 w2 => q S2 T2 H2 (st.trans st2) w2)
theorem ev_not {a : Bool} (h1 : EvT M t σ S a) : EvT M (tNot t) σ S (!a) := fun T H w s Q q => h1 T H w s _ fun S1 T1 H1 st w1 => q S1 T1 H1 st w1
theorem is_mono {α : Type} [DecidableEq α] [Datum α] {a : α} : Mono (Is K a) := fun _ _ _ e h => h.mono e
theorem ev_andV {a b : Bool} (h1 : Ev M ta σ S (Is K a)) (h2 : a = true → Ev M tb σ S (Is K b)) : Ev M (tAndV ta tb) σ S (Is K (a && b)) := fun T H w s Q q => h1 T H w s _ fun S1 T1 H1 v st w1 p => ⟨a, p.bl, by
  cases a with
  | true => exact iteT ((h2 rfl).mono is_mono st.ss T1 H1 w1 st.st Q fun S2 T2 H2 v st2 w2 p2 => q S2 T2 H2 v (st.trans st2) w2 p2)
  | false => exact iteF (q S1 T1 H1 _ st w1 is_bl)⟩
theorem ev_orV {a b : Bool} (h1 : Ev M ta σ S (Is K a)) (h2 : a = false → Ev M tb σ S (Is K b)) : Ev M (tOrV ta tb) σ S (Is K (a || b)) := fun T H w s Q q => h1 T H w s _ fun S1 T1 H1 v st w1 p => ⟨a, p.bl, by
  cases a with
  | true => exact iteT (q S1 T1 H1 _ st w1 is_bl)
  | false => exact iteF ((h2 rfl).mono is_mono st.ss T1 H1 w1 st.st Q fun S2 T2 H2 v st2 w2 p2 => q S2 T2 H2 v (st.trans st2) w2 p2)⟩
theorem ev_notV {a : Bool} (h1 : Ev M ta σ S (Is K a)) : Ev M (tNotV ta) σ S (Is K (!a)) := fun T H w s Q q => h1 T H w s _ fun S1 T1 H1 v st w1 p => ⟨a, p.bl, q S1 T1 H1 _ st w1 is_bl⟩
theorem ev_if {b : Bool} (hP : Mono P) (h : EvT M t σ S b) (h1 : b = true → Ev M ta σ S P) (h2 : b = false → Ev M tb σ S P) : Ev M (tIf t ta tb) σ S P := fun T H w s Q q => h T H w s _ fun S1 T1 H1 st w1 => by
  cases b with
  | true => exact iteT ((h1 rfl).mono hP st.ss T1 H1 w1 st.st Q fun S2 T2 H2 v st2 w2 p2 => q S2 T2 H2 v (st.trans st2) w2 p2)
  | false => exact iteF ((h2 rfl).mono hP st.ss T1 H1 w1 st.st Q fun S2 T2 H2 v st2 w2 p2 => q S2 T2 H2 v (st.trans st2) w2 p2)
end

/-! ### arguments -/
section
variable {M : Wld} {K : PySem.W.Frag} {σ : L2.St} {S S1 : Hp} {P P1 P2 P3 P4 : Hp → V → Prop} {PA : Hp → List V → Prop} {ta tb te tc td : TE} {tr : TA} {v x y : V}
theorem ev_nil (p : PA S []) : EvA M tNil σ S PA := fun T H w s Q q => q S T H [] (Step.refl s) w p
theorem ev_cons {PR : Hp → List V → Prop} (hP : Mono P1) (ha : Ev M ta σ S P1) (hr : ∀ S1, Same S S1 → EvA M tr σ S1 PR) (hq : ∀ S2 x xs, Same S S2 → P1 S2 x → PR S2 xs → PA S2 (x :: xs)) : EvA M (tCons ta tr) σ S PA := fun T H w s Q q =>
  ha T H w s _ fun S1 T1 H1 x st1 w1 p1 => hr S1 st1.ss T1 H1 w1 st1.st _ fun S2 T2 H2 xs st2 w2 p2 => q S2 T2 H2 (x :: xs) (st1.trans st2) w2 (hq S2 x xs (st1.ss.trans st2.ss) (hP _ _ _ st2.ss p1) p2)
/-- the arguments one by one -/
def All1 (P1 : Hp → V → Prop) : Hp → List V → Prop := fun S vs => ∃ a, vs = [a] ∧ P1 S a
def All2 (P1 P2 : Hp → V → Prop) : Hp → List V → Prop := fun S vs => ∃ a b, vs = [a, b] ∧ P1 S a ∧ P2 S b
def All3 (P1 P2 P3 : Hp → V → Prop) : Hp → List V → Prop := fun S vs => ∃ a b c, vs = [a, b, c] ∧ P1 S a ∧ P2 S b ∧ P3 S c
def All4 (P1 P2 P3 P4 : Hp → V → Prop) : Hp → List V → Prop := fun S vs => ∃ a b c d, vs = [a, b, c, d] ∧ P1 S a ∧ P2 S b ∧ P3 S c ∧ P4 S d
theorem eva_1 (h1 : Mono P1) (ha : Ev M ta σ S P1) : EvA M (tCons ta tNil) σ S (All1 P1) := ev_cons (PR := fun _ vs => vs = []) h1 ha (fun S1 _ => ev_nil rfl) fun S2 x xs _ p e => ⟨x, by rw [e], p⟩
theorem eva_2 (h1 : Mono P1) (h2 : Mono P2) (ha : Ev M ta σ S P1) (hb : Ev M tb σ S P2) : EvA M (tCons ta (tCons tb tNil)) σ S (All2 P1 P2) :=
  ev_cons (PR := All1 P2) h1 ha (fun S1 e => eva_1 h2 (hb.mono h2 e)) fun S2 x xs _ p ⟨b, e, q⟩ => ⟨x, b, by rw [e], p, q⟩
theorem eva_3 (h1 : Mono P1) (h2 : Mono P2) (h3 : Mono P3) (ha : Ev M ta σ S P1) (hb : Ev M tb σ S P2) (hc : Ev M tc σ S P3) : EvA M (tCons ta (tCons tb (tCons tc tNil))) σ S (All3 P1 P2 P3) :=
  ev_cons (PR := All2 P2 P3) h1 ha (fun S1 e => eva_2 h2 h3 (hb.mono h2 e) (hc.mono h3 e)) fun S2 x xs _ p ⟨b, c, e, q, r⟩ => ⟨x, b, c, by rw [e], p, q, r⟩
theorem eva_4 (h1 : Mono P1) (h2 : Mono P2) (h3 : Mono P3) (h4 : Mono P4) (ha : Ev M ta σ S P1) (hb : Ev M tb σ S P2) (hc : Ev M tc σ S P3) (hd : Ev M td σ S P4) : EvA M (tCons ta (tCons tb (tCons tc (tCons td tNil)))) σ S (All4 P1 P2 P3 P4) :=
  ev_cons (PR := All3 P2 P3 P4) h1 ha (fun S1 e => eva_3 h2 h3 h4 (hb.mono h2 e) (hc.mono h3 e) (hd.mono h4 e)) fun S2 x xs _ p ⟨b, c, d, e, q, r⟩ => ⟨x, b, c, d, by rw [e], p, q, r⟩
end
end Fm

/-! ## What operations on data come to -/
namespace Fm
open PySem PySem.Spec PyProof.Rows L2
open PySem.W (Datum Tup T3 T4)
section
variable {X : Cx}
def rLenA (K : PySem.W.Frag) : List V → Hp → VK → Prop := fun xs H Q => ∃ x n, xs = [x] ∧ LenV K x H n ∧ Q (.int n) H
theorem call_lenA : CallR X (.builtin "len") (rLenA X.K) := call_len
def rInt1 : List V → Hp → VK → Prop := fun xs H Q => (∃ i, xs = [.int i] ∧ Q (.int i) H) ∨ ∃ k, xs = [.bl k] ∧ Q (.int (if k then 1 else 0)) H
theorem call_intA : CallR X (.type "int") rInt1 := call_int1
def rListOf (K : PySem.W.Frag) : List V → Hp → VK → Prop := fun xs H Q => ∃ p ys, xs = [.ref p] ∧ (SqL K H p ys ∨ SqT K H p ys) ∧ ∀ l, H l = none → Q (.ref l) (upd H l (.lst ys))
theorem call_listA : CallR X (.type "list") (rListOf X.K) := call_list_of
def rTupOf (K : PySem.W.Frag) : List V → Hp → VK → Prop := fun xs H Q => ∃ p ys, xs = [.ref p] ∧ ((SqL K H p ys ∧ ∀ l, H l = none → Q (.ref l) (upd H l (.tup ys))) ∨ (SqT K H p ys ∧ Q (.ref p) H))
theorem call_tupA : CallR X (.type "tuple") (rTupOf X.K) := call_tuple_of
def rAllA (K : PySem.W.Frag) : List V → Hp → VK → Prop := rAll K
def rJoinA (K : PySem.W.Frag) : V → List V → Hp → VK → Prop := fun x xs H Q => ∃ a p, ∃ ys : List Str, x = .str a ∧ xs = [.ref p] ∧ (SqL K H p (ys.map V.str) ∨ SqT K H p (ys.map V.str)) ∧ (ys.map (·.length)).sum + ys.length * a.length ≤ 16777216 ∧ Q (.str (Txt.join a ys)) H
theorem pe_joinA {o e : Expr} {to te : TE} {apos pos : Pos} (ho : PE X o to) (he : PE X e te) (hs : starEach [e] X.env = [(false, eval e X.env)] := by rfl) (hbase : attributeBase o "join" X.env (eval o X.env) = eval o X.env := by rfl) (hline : (apos.endLine == pos.line) = true := by rfl) :
    PE X (.Call (.Attribute o "join" apos) [e] [] pos) (tM1 (rJoinA X.K) to te) := pe_join ho he hs hbase hline
def rLtA : R2 := rI0 fun i j => .bl (decide (i < j))
def rLeA : R2 := rI0 fun i j => .bl (decide (i ≤ j))
def rGtA : R2 := rI0 fun i j => .bl (decide (j < i))
def rGeA : R2 := rI0 fun i j => .bl (decide (j ≤ i))
theorem op_ltA : OpR X (compareOp .Lt) rLtA := op_lt
theorem op_leA : OpR X (compareOp .LtE) rLeA := op_le
theorem op_gtA : OpR X (compareOp .Gt) rGtA := op_gt
theorem op_geA : OpR X (compareOp .GtE) rGeA := op_ge
def rSubI : R2 := rI0 fun i j => .int (i - j)
theorem op_subI : OpR X (binaryOp .Sub) rSubI := op_sub
def rMulA : R2 := rI CMul fun i j => .int (i * j)
theorem op_mulA : OpR X (binaryOp .Mult) rMulA := op_mul
def rDivA : R2 := rI CDivW fun i j => .int (i / j)
theorem op_divA : OpR X (binaryOp .FloorDiv) rDivA := op_fdivW
def rIsNA : R2 := fun x y H Q => y = .non ∧ Q (.bl (decide (x = .non))) H
def rNotNA : R2 := fun x y H Q => y = .non ∧ Q (.bl (!decide (x = .non))) H
theorem op_isNA : OpR X (compareOp .Is) rIsNA := op_isN
theorem op_notNA : OpR X (compareOp .IsNot) rNotNA := op_notN
end

section
variable {M : Wld} {K : PySem.W.Frag} {σ : L2.St} {S : Hp} {P : Hp → V → Prop} {ta tb te tc td : TE} {v x y : V} {α β γ δ : Type} [DecidableEq α] [Datum α] [DecidableEq β] [Datum β] [DecidableEq γ] [Datum γ] [DecidableEq δ] [Datum δ]
theorem isb {b b' : Bool} (e : b = b') : Is K b' S (.bl b) := by subst e; exact is_bl
theorem rv_eq {a b : α} (hd : Datum.depth α ≤ 60) (hx : Is K a S x) (hy : Is K b S y) : Rv M (rEqP K x y) S (Is K (decide (a = b))) :=
  rv_now (v := .bl (PyData.eqv (Datum.toD a) (Datum.toD b))) (fun H s Q q => ⟨_, _, (hx.mono s).dp, (hy.mono s).dp, Datum.plain a, Datum.plain b, Nat.le_trans (Nat.min_le_left _ _) (Nat.le_trans (Datum.depth_le a) hd), q⟩) (isb (Datum.eqv a b))
theorem rv_ne {a b : α} (hd : Datum.depth α ≤ 60) (hx : Is K a S x) (hy : Is K b S y) : Rv M (rNeP K x y) S (Is K (!decide (a = b))) :=
  rv_now (v := .bl (!PyData.eqv (Datum.toD a) (Datum.toD b))) (fun H s Q q => ⟨_, _, (hx.mono s).dp, (hy.mono s).dp, Datum.plain a, Datum.plain b, Nat.le_trans (Nat.min_le_left _ _) (Nat.le_trans (Datum.depth_le a) hd), q⟩) (isb (by rw [Datum.eqv a b]))
theorem ev_eq {a b : α} (ha : Ev M ta σ S (Is K a)) (hb : Ev M tb σ S (Is K b)) (hd : Datum.depth α ≤ 60 := by decide) : Ev M (tOp (rEqP K) ta tb) σ S (Is K (decide (a = b))) :=
  ev_op is_mono ha (fun S1 e => hb.mono is_mono e) fun S2 x y _ hx hy => rv_eq hd hx hy
theorem ev_ne {a b : α} (ha : Ev M ta σ S (Is K a)) (hb : Ev M tb σ S (Is K b)) (hd : Datum.depth α ≤ 60 := by decide) : Ev M (tOp (rNeP K) ta tb) σ S (Is K (!decide (a = b))) :=
  ev_op is_mono ha (fun S1 e => hb.mono is_mono e) fun S2 x y _ hx hy => rv_ne hd hx hy
theorem rv_in {neg : Bool} {a : α} {xs : List α} (hd : Datum.depth α ≤ 60) (hx : Is K a S x) (hy : Is K xs S y ∨ Is K (Tup.mk xs) S y) : Rv M (rInP K neg x y) S (Is K (if neg then !decide (a ∈ xs) else decide (a ∈ xs))) :=
  rv_now (v := .bl (if neg then !(xs.map Datum.toD).any (fun z => PyData.eqv z (Datum.toD a)) else (xs.map Datum.toD).any (fun z => PyData.eqv z (Datum.toD a))))
    (fun H s Q q => .inl ⟨_, xs.map Datum.toD, (hx.mono s).dp, hy.elim (fun h => .inl (h.mono s).dp) (fun h => .inr (h.mono s).dp), Datum.plain a, PySem.W.plainAll_map xs, Nat.le_trans (Datum.depth_le a) hd, q⟩) (isb (by rw [PySem.W.any_datum xs a]))
theorem ev_in {a : α} {xs : List α} (ha : Ev M ta σ S (Is K a)) (hb : Ev M tb σ S (Is K xs)) (hd : Datum.depth α ≤ 60 := by decide) : Ev M (tOp (rInP K false) ta tb) σ S (Is K (decide (a ∈ xs))) :=
  ev_op is_mono ha (fun S1 e => hb.mono is_mono e) fun S2 x y _ hx hy => rv_in (neg := false) hd hx (.inl hy)
theorem ev_inT {a : α} {xs : List α} (ha : Ev M ta σ S (Is K a)) (hb : Ev M tb σ S (Is K (Tup.mk xs))) (hd : Datum.depth α ≤ 60 := by decide) : Ev M (tOp (rInP K false) ta tb) σ S (Is K (decide (a ∈ xs))) :=
  ev_op is_mono ha (fun S1 e => hb.mono is_mono e) fun S2 x y _ hx hy => rv_in (neg := false) hd hx (.inr hy)
theorem ev_ni {a : α} {xs : List α} (ha : Ev M ta σ S (Is K a)) (hb : Ev M tb σ S (Is K xs)) (hd : Datum.depth α ≤ 60 := by decide) : Ev M (tOp (rInP K true) ta tb) σ S (Is K (!decide (a ∈ xs))) :=
  ev_op is_mono ha (fun S1 e => hb.mono is_mono e) fun S2 x y _ hx hy => rv_in (neg := true) hd hx (.inl hy)
theorem ev_niT {a : α} {xs : List α} (ha : Ev M ta σ S (Is K a)) (hb : Ev M tb σ S (Is K (Tup.mk xs))) (hd : Datum.depth α ≤ 60 := by decide) : Ev M (tOp (rInP K true) ta tb) σ S (Is K (!decide (a ∈ xs))) :=
  ev_op is_mono ha (fun S1 e => hb.mono is_mono e) fun S2 x y _ hx hy => rv_in (neg := true) hd hx (.inr hy)
/-- a sign in a text -/
theorem ev_sign {c : Nat} {z : Str} (ha : Ev M ta σ S (Is K (⟨#[c]⟩ : Str))) (hb : Ev M tb σ S (Is K z)) : Ev M (tOp (rInP K false) ta tb) σ S (Is K (decide (c ∈ z.cps.toList))) :=
  ev_op is_mono ha (fun S1 e => hb.mono is_mono e) fun S2 x y _ hx hy => rv_now (fun H s Q q => .inr ⟨c, z, hx.str, hy.str, q⟩) is_bl
theorem ev_nsign {c : Nat} {z : Str} (ha : Ev M ta σ S (Is K (⟨#[c]⟩ : Str))) (hb : Ev M tb σ S (Is K z)) : Ev M (tOp (rInP K true) ta tb) σ S (Is K (!decide (c ∈ z.cps.toList))) :=
  ev_op is_mono ha (fun S1 e => hb.mono is_mono e) fun S2 x y _ hx hy => rv_now (fun H s Q q => .inr ⟨c, z, hx.str, hy.str, q⟩) is_bl
/-! ints -/
theorem ev_I0 {g : Int → Int → V} {i j : Int} (ha : Ev M ta σ S (Is K i)) (hb : Ev M tb σ S (Is K j)) (p : ∀ S', P S' (g i j)) : Ev M (tOp (rI0 g) ta tb) σ S P :=
  ev_op is_mono ha (fun S1 e => hb.mono is_mono e) fun S2 x y _ hx hy => rv_now (fun H s Q q => ⟨i, j, hx.int, hy.int, q⟩) (p _)
theorem ev_I {C : Int → Int → Prop} {g : Int → Int → V} {i j : Int} (ha : Ev M ta σ S (Is K i)) (hb : Ev M tb σ S (Is K j)) (hc : C i j) (p : ∀ S', P S' (g i j)) : Ev M (tOp (rI C g) ta tb) σ S P :=
  ev_op is_mono ha (fun S1 e => hb.mono is_mono e) fun S2 x y _ hx hy => rv_now (fun H s Q q => ⟨i, j, hx.int, hy.int, hc, q⟩) (p _)
theorem ev_lt {i j : Int} (ha : Ev M ta σ S (Is K i)) (hb : Ev M tb σ S (Is K j)) : Ev M (tOp rLtA ta tb) σ S (Is K (decide (i < j))) := ev_I0 ha hb fun _ => is_bl
theorem ev_le {i j : Int} (ha : Ev M ta σ S (Is K i)) (hb : Ev M tb σ S (Is K j)) : Ev M (tOp rLeA ta tb) σ S (Is K (decide (i ≤ j))) := ev_I0 ha hb fun _ => is_bl
theorem ev_gt {i j : Int} (ha : Ev M ta σ S (Is K i)) (hb : Ev M tb σ S (Is K j)) : Ev M (tOp rGtA ta tb) σ S (Is K (decide (j < i))) := ev_I0 ha hb fun _ => is_bl
theorem ev_ge {i j : Int} (ha : Ev M ta σ S (Is K i)) (hb : Ev M tb σ S (Is K j)) : Ev M (tOp rGeA ta tb) σ S (Is K (decide (j ≤ i))) := ev_I0 ha hb fun _ => is_bl
theorem ev_sub {i j : Int} (ha : Ev M ta σ S (Is K i)) (hb : Ev M tb σ S (Is K j)) : Ev M (tOp rSubI ta tb) σ S (Is K (i - j)) := ev_I0 ha hb fun _ => is_int
theorem ev_add {i j : Int} (ha : Ev M ta σ S (Is K i)) (hb : Ev M tb σ S (Is K j)) : Ev M (tOp rAddA ta tb) σ S (Is K (i + j)) :=
  ev_op is_mono ha (fun S1 e => hb.mono is_mono e) fun S2 x y _ hx hy => rv_now (fun H s Q q => .inl ⟨i, j, hx.int, hy.int, q⟩) is_int
theorem ev_addS {i j : Str} (ha : Ev M ta σ S (Is K i)) (hb : Ev M tb σ S (Is K j)) (hz : i.length + j.length ≤ sizeLine) : Ev M (tOp rAddA ta tb) σ S (Is K (i ++ j)) :=
  ev_op is_mono ha (fun S1 e => hb.mono is_mono e) fun S2 x y _ hx hy => rv_now (fun H s Q q => .inr (.inl ⟨i, j, hx.str, hy.str, hz, q⟩)) is_str
theorem ev_addL {xs ys : List α} (ha : Ev M ta σ S (Is K xs)) (hb : Ev M tb σ S (Is K ys)) (hz : xs.length + ys.length ≤ sizeLine) : Ev M (tOp rAddA ta tb) σ S (Is K (xs ++ ys)) :=
  ev_op is_mono ha (fun S1 e => hb.mono is_mono e) fun S2 x y _ hx hy => by
    obtain ⟨a, vs, rfl, h1, h2⟩ := hx.lst
    obtain ⟨b, ws, rfl, h3, h4⟩ := hy.lst
    exact rv_new (o := .lst (vs ++ ws)) (fun H s Q q => .inr (.inr ⟨a, b, vs, ws, rfl, rfl, Same.rd s h1, Same.rd s h3, by rw [h2.len, h4.len]; exact hz, q⟩)) fun p np =>
      is_lst (.inl upd_same) ((h2.app h4).mono (same_new np))
theorem ev_isN {x : V} (hP : ∀ S' v, P S' v → v = x) (ha : Ev M ta σ S P) : Ev M (tOp rIsNA ta (tC .non)) σ S (Is K (decide (x = .non))) := fun T H w s Q q =>
  ha T H w s _ fun S1 T1 H1 v st w1 p => ⟨rfl, by rw [hP _ _ p]; exact q S1 T1 H1 _ st w1 is_bl⟩
theorem ev_notN {x : V} (hP : ∀ S' v, P S' v → v = x) (ha : Ev M ta σ S P) : Ev M (tOp rNotNA ta (tC .non)) σ S (Is K (!decide (x = .non))) := fun T H w s Q q =>
  ha T H w s _ fun S1 T1 H1 v st w1 p => ⟨rfl, by rw [hP _ _ p]; exact q S1 T1 H1 _ st w1 is_bl⟩
/-! calls of built-ins -/
theorem ev_cb {r : List V → Hp → VK → Prop} {t : TA} {PA : Hp → List V → Prop} (ha : EvA M t σ S PA) (hr : ∀ S2 vs, Same S S2 → PA S2 vs → Rv M (r vs) S2 P) : Ev M (tCB r t) σ S P := fun T H w s Q q =>
  ha T H w s _ fun S1 T1 H1 vs st1 w1 p1 => hr S1 vs st1.ss p1 T1 H1 w1 st1.st Q fun S3 T3 H3 v st3 w3 p => q S3 T3 H3 v (st1.trans st3) w3 p
theorem ev_len {xs : List α} (ha : Ev M ta σ S (Is K xs)) : Ev M (tCB (rLenA K) (tCons ta tNil)) σ S (Is K (xs.length : Int)) :=
  ev_cb (eva_1 is_mono ha) fun S2 vs _ ⟨a, e, h⟩ => by
    subst e
    obtain ⟨p, ws, rfl, h1, h2⟩ := h.lst
    exact rv_now (v := .int (ws.length : Nat)) (fun H s Q q => ⟨_, ws.length, rfl, .inl ⟨ws, .inl (Same.rd s h1), rfl⟩, q⟩) (by rw [h2.len]; exact is_int)
theorem ev_lenT {xs : List α} (ha : Ev M ta σ S (Is K (Tup.mk xs))) : Ev M (tCB (rLenA K) (tCons ta tNil)) σ S (Is K (xs.length : Int)) :=
  ev_cb (eva_1 is_mono ha) fun S2 vs _ ⟨a, e, h⟩ => by
    subst e
    obtain ⟨p, ws, rfl, h1, h2⟩ := h.tup
    exact rv_now (v := .int (ws.length : Nat)) (fun H s Q q => ⟨_, ws.length, rfl, .inr ⟨ws, Same.tup s h1, rfl⟩, q⟩) (by rw [h2.len]; exact is_int)
theorem ev_lenS {z : Str} (ha : Ev M ta σ S (Is K z)) (hz : z.length ≤ sizeLine) : Ev M (tCB (rLenA K) (tCons ta tNil)) σ S (Is K (z.length : Int)) :=
  ev_cb (eva_1 is_mono ha) fun S2 vs _ ⟨a, e, h⟩ => by
    subst e
    rw [h.str]
    exact rv_now (v := .int (z.length : Nat)) (fun H s Q q => ⟨_, z.length, rfl, ⟨hz, rfl⟩, q⟩) is_int
theorem ev_int {i : Int} (ha : Ev M ta σ S (Is K i)) : Ev M (tCB rInt1 (tCons ta tNil)) σ S (Is K i) :=
  ev_cb (eva_1 is_mono ha) fun S2 vs _ ⟨a, e, h⟩ => by
    subst e
    rw [h.int]
    exact rv_now (fun H s Q q => .inl ⟨i, rfl, q⟩) is_int
theorem ev_list {xs : List α} (ha : Ev M ta σ S (Is K xs)) : Ev M (tCB (rListOf K) (tCons ta tNil)) σ S (Is K xs) :=
  ev_cb (eva_1 is_mono ha) fun S2 vs _ ⟨a, e, h⟩ => by
    subst e
    obtain ⟨p, ws, rfl, h1, h2⟩ := h.lst
    exact rv_new (o := .lst ws) (fun H s Q q => ⟨_, ws, rfl, .inl (.inl (Same.rd s h1)), q⟩) fun p np => is_lst (.inl upd_same) (h2.mono (same_new np))
theorem ev_listT {xs : List α} (ha : Ev M ta σ S (Is K (Tup.mk xs))) : Ev M (tCB (rListOf K) (tCons ta tNil)) σ S (Is K xs) :=
  ev_cb (eva_1 is_mono ha) fun S2 vs _ ⟨a, e, h⟩ => by
    subst e
    obtain ⟨p, ws, rfl, h1, h2⟩ := h.tup
    exact rv_new (o := .lst ws) (fun H s Q q => ⟨_, ws, rfl, .inr (Same.tup s h1), q⟩) fun p np => is_lst (.inl upd_same) (h2.mono (same_new np))
theorem ev_tup {xs : List α} (ha : Ev M ta σ S (Is K xs)) : Ev M (tCB (rTupOf K) (tCons ta tNil)) σ S (Is K (Tup.mk xs)) :=
  ev_cb (eva_1 is_mono ha) fun S2 vs _ ⟨a, e, h⟩ => by
    subst e
    obtain ⟨p, ws, rfl, h1, h2⟩ := h.lst
    exact rv_new (o := .tup ws) (fun H s Q q => ⟨_, ws, rfl, .inl ⟨.inl (Same.rd s h1), q⟩⟩) fun p np => is_tup (.inl (.inl upd_same)) (h2.mono (same_new np))
theorem ev_all {bs : List Bool} (ha : Ev M ta σ S (Is K bs)) : Ev M (tCB (rAllA K) (tCons ta tNil)) σ S (Is K (bs.all id)) :=
  ev_cb (eva_1 is_mono ha) fun S2 vs _ ⟨a, e, h⟩ => by
    subst e
    obtain ⟨p, ws, rfl, h1, h2⟩ := h.lst
    have e := h2.bls
    subst e
    exact rv_now (fun H s Q q => ⟨p, bs, rfl, .inl (Same.rd s h1), q⟩) is_bl
theorem ev_join {a : Str} {ys : List Str} (ha : Ev M ta σ S (Is K a)) (hb : Ev M tb σ S (Is K ys)) (hz : (ys.map (·.length)).sum + ys.length * a.length ≤ 16777216) : Ev M (tM1 (rJoinA K) ta tb) σ S (Is K (Txt.join a ys)) := fun T H w s Q q =>
  ha T H w s _ fun S1 T1 H1 x st1 w1 p1 => ⟨⟨a, p1.str⟩, (hb.mono is_mono st1.ss) T1 H1 w1 st1.st _ fun S2 T2 H2 y st2 w2 p2 => by
    obtain ⟨p, ws, rfl, h1, h2⟩ := p2.lst
    have e := h2.strs
    subst e
    exact ⟨a, p, ys, p1.str, rfl, .inl (.inl (Same.rd (st2.st.trans (M.sub w2)) h1)), hz, q S2 T2 H2 _ (st1.trans st2) w2 is_str⟩⟩
/-! displays -/
theorem ev_disp {t : TA} {PA : Hp → List V → Prop} (ha : EvA M t σ S PA) (hz : ∀ S vs, PA S vs → vs.length ≤ sizeLine) (hp : ∀ S2 vs p, PA S2 vs → S2 p = none → P (upd S2 p (.lst vs)) (.ref p)) : Ev M (tLst t) σ S P := fun T H w s Q q =>
  ha T H w s _ fun S1 T1 H1 vs st1 w1 p1 => ⟨hz _ _ p1, fun p np => by
    have nt := (M.sub w1).free np
    exact q _ _ _ _ (st1.trans (Step.new st1.st nt)) (M.new w1 np) (hp S1 vs p p1 (st1.st.free nt))⟩
theorem ev_dispT {t : TA} {PA : Hp → List V → Prop} (ha : EvA M t σ S PA) (hz : ∀ S vs, PA S vs → vs.length ≤ sizeLine) (hp : ∀ S2 vs p, PA S2 vs → S2 p = none → P (upd S2 p (.tup vs)) (.ref p)) : Ev M (tTup t) σ S P := fun T H w s Q q =>
  ha T H w s _ fun S1 T1 H1 vs st1 w1 p1 => ⟨hz _ _ p1, fun p np => by
    have nt := (M.sub w1).free np
    exact q _ _ _ _ (st1.trans (Step.new st1.st nt)) (M.new w1 np) (hp S1 vs p p1 (st1.st.free nt))⟩
theorem small_size {n : Nat} (h : n ≤ 1000) : n ≤ sizeLine := Nat.le_trans h (by decide)
theorem ev_pair {a : α} {b : β} (ha : Ev M ta σ S (Is K a)) (hb : Ev M tb σ S (Is K b)) : Ev M (tTup (tCons ta (tCons tb tNil))) σ S (Is K (a, b)) :=
  ev_dispT (eva_2 is_mono is_mono ha hb) (fun _ vs ⟨_, _, e, _⟩ => by subst e; exact small_size (by simp)) fun S2 vs p ⟨x, y, e, h1, h2⟩ np => by
    subst e
    exact Dq.tup (.inl (.inl upd_same)) (.cons (h1.mono (same_new np)) (.cons (h2.mono (same_new np)) .nil))
theorem ev_t3 {a : α} {b : β} {c : γ} (ha : Ev M ta σ S (Is K a)) (hb : Ev M tb σ S (Is K b)) (hc : Ev M tc σ S (Is K c)) : Ev M (tTup (tCons ta (tCons tb (tCons tc tNil)))) σ S (Is K (T3.mk a b c)) :=
  ev_dispT (eva_3 is_mono is_mono is_mono ha hb hc) (fun _ vs ⟨_, _, _, e, _⟩ => by subst e; exact small_size (by simp)) fun S2 vs p ⟨x, y, z, e, h1, h2, h3⟩ np => by
    subst e
    exact Dq.tup (.inl (.inl upd_same)) (.cons (h1.mono (same_new np)) (.cons (h2.mono (same_new np)) (.cons (h3.mono (same_new np)) .nil)))
theorem ev_t4 {a : α} {b : β} {c : γ} {d : δ} (ha : Ev M ta σ S (Is K a)) (hb : Ev M tb σ S (Is K b)) (hc : Ev M tc σ S (Is K c)) (hd : Ev M td σ S (Is K d)) : Ev M (tTup (tCons ta (tCons tb (tCons tc (tCons td tNil))))) σ S (Is K (T4.mk a b c d)) :=
  ev_dispT (eva_4 is_mono is_mono is_mono is_mono ha hb hc hd) (fun _ vs ⟨_, _, _, _, e, _⟩ => by subst e; exact small_size (by simp)) fun S2 vs p ⟨x, y, z, w, e, h1, h2, h3, h4⟩ np => by
    subst e
    exact Dq.tup (.inl (.inl upd_same)) (.cons (h1.mono (same_new np)) (.cons (h2.mono (same_new np)) (.cons (h3.mono (same_new np)) (.cons (h4.mono (same_new np)) .nil))))
theorem ev_l0 : Ev M (tLst tNil) σ S (Is K ([] : List α)) :=
  ev_disp (PA := fun _ vs => vs = []) (ev_nil rfl) (fun _ vs e => by subst e; exact small_size (by simp)) fun S2 vs p e np => by
    subst e
    exact is_lst (.inl upd_same) .nil
theorem ev_u0 : Ev M (tTup tNil) σ S (Is K (Tup.mk ([] : List α))) :=
  ev_dispT (PA := fun _ vs => vs = []) (ev_nil rfl) (fun _ vs e => by subst e; exact small_size (by simp)) fun S2 vs p e np => by
    subst e
    exact is_tup (.inl (.inl upd_same)) .nil
theorem ev_l1 {a : α} (ha : Ev M ta σ S (Is K a)) : Ev M (tLst (tCons ta tNil)) σ S (Is K [a]) :=
  ev_disp (eva_1 is_mono ha) (fun _ vs ⟨_, e, _⟩ => by subst e; exact small_size (by simp)) fun S2 vs p ⟨x, e, h⟩ np => by
    subst e
    exact is_lst (.inl upd_same) (.one (h.mono (same_new np)))
/-! items -/
theorem ev_ix {xs : List α} {i : Nat} {a : α} {j : Int} (ha : Ev M ta σ S (Is K xs)) (hb : Ev M tb σ S (Is K j)) (hj : j = (i : Int)) (h : xs[i]? = some a) : Ev M (tOp (rIx K) ta tb) σ S (Is K a) :=
  ev_op is_mono ha (fun S1 e => hb.mono is_mono e) fun S2 x y _ hx hy => by
    obtain ⟨p, vs, rfl, h1, h2⟩ := hx.lst
    obtain ⟨v, h3, h4⟩ := h2.at_ h
    exact rv_now (fun H s Q q => .inl ⟨p, vs, j, v, rfl, hy.int, .inl (Same.rd s h1), by rw [hj]; exact atI_nat h3, q⟩) h4
theorem ev_ixT {xs : List α} {i : Nat} {a : α} {j : Int} (ha : Ev M ta σ S (Is K (Tup.mk xs))) (hb : Ev M tb σ S (Is K j)) (hj : j = (i : Int)) (h : xs[i]? = some a) : Ev M (tOp (rIx K) ta tb) σ S (Is K a) :=
  ev_op is_mono ha (fun S1 e => hb.mono is_mono e) fun S2 x y _ hx hy => by
    obtain ⟨p, vs, rfl, h1, h2⟩ := hx.tup
    obtain ⟨v, h3, h4⟩ := h2.at_ h
    exact rv_now (fun H s Q q => .inr (.inl ⟨p, vs, j, v, rfl, hy.int, Same.tup s h1, by rw [hj]; exact atI_nat h3, q⟩)) h4
theorem ev_ixS {z : Str} {i : Nat} {c : Nat} {j : Int} (ha : Ev M ta σ S (Is K z)) (hb : Ev M tb σ S (Is K j)) (hj : j = (i : Int)) (hz : z.length ≤ sizeLine) (h : z.cps.toList[i]? = some c) : Ev M (tOp (rIx K) ta tb) σ S (Is K (⟨#[c]⟩ : Str)) :=
  ev_op is_mono ha (fun S1 e => hb.mono is_mono e) fun S2 x y _ hx hy =>
    rv_now (fun H s Q q => .inr (.inr ⟨z, j, c, hx.str, hy.int, hz, by rw [hj]; exact atI_nat h, q⟩)) is_str
theorem ev_fst {a : α} {b : β} (ha : Ev M ta σ S (Is K (a, b))) : Ev M (tOp (rIx K) ta (tC (.int 0))) σ S (Is K a) := fun T H w s Q q => ha T H w s _ fun S1 T1 H1 v st w1 p => by
  cases p with
  | tup h r => cases r with | cons h1 r => cases r with | cons h2 r => cases r; exact .inr (.inl ⟨_, _, 0, _, rfl, rfl, Same.tup (st.st.trans (M.sub w1)) h, atI_nat (j := 0) rfl, q S1 T1 H1 _ st w1 h1⟩)
theorem ev_snd {a : α} {b : β} (ha : Ev M ta σ S (Is K (a, b))) : Ev M (tOp (rIx K) ta (tC (.int 1))) σ S (Is K b) := fun T H w s Q q => ha T H w s _ fun S1 T1 H1 v st w1 p => by
  cases p with
  | tup h r => cases r with | cons h1 r => cases r with | cons h2 r => cases r; exact .inr (.inl ⟨_, _, 1, _, rfl, rfl, Same.tup (st.st.trans (M.sub w1)) h, atI_nat (j := 1) rfl, q S1 T1 H1 _ st w1 h2⟩)
theorem Is.t3 {t : T3 α β γ} (h : Is K t S v) : ∃ p x y z, v = .ref p ∧ SqT K S p [x, y, z] ∧ Is K t.a S x ∧ Is K t.b S y ∧ Is K t.c S z := by
  cases h with
  | tup h r => cases r with | cons h1 r => cases r with | cons h2 r => cases r with | cons h3 r => cases r; exact ⟨_, _, _, _, rfl, h, h1, h2, h3⟩
theorem Is.t4 {t : T4 α β γ δ} (h : Is K t S v) : ∃ p x y z w, v = .ref p ∧ SqT K S p [x, y, z, w] ∧ Is K t.a S x ∧ Is K t.b S y ∧ Is K t.c S z ∧ Is K t.d S w := by
  cases h with
  | tup h r => cases r with | cons h1 r => cases r with | cons h2 r => cases r with | cons h3 r => cases r with | cons h4 r => cases r; exact ⟨_, _, _, _, _, rfl, h, h1, h2, h3, h4⟩
theorem Is.pair {t : α × β} (h : Is K t S v) : ∃ p x y, v = .ref p ∧ SqT K S p [x, y] ∧ Is K t.1 S x ∧ Is K t.2 S y := by
  cases h with
  | tup h r => cases r with | cons h1 r => cases r with | cons h2 r => cases r; exact ⟨_, _, _, rfl, h, h1, h2⟩
theorem ev_a {t : T3 α β γ} (ha : Ev M ta σ S (Is K t)) : Ev M (tOp (rIx K) ta (tC (.int 0))) σ S (Is K t.a) := fun T H w s Q q => ha T H w s _ fun S1 T1 H1 v st w1 p => by
  obtain ⟨p, x, y, z, rfl, h, h1, h2, h3⟩ := p.t3
  exact .inr (.inl ⟨_, _, 0, _, rfl, rfl, Same.tup (st.st.trans (M.sub w1)) h, atI_nat (j := 0) rfl, q S1 T1 H1 _ st w1 h1⟩)
theorem ev_b {t : T3 α β γ} (ha : Ev M ta σ S (Is K t)) : Ev M (tOp (rIx K) ta (tC (.int 1))) σ S (Is K t.b) := fun T H w s Q q => ha T H w s _ fun S1 T1 H1 v st w1 p => by
  obtain ⟨p, x, y, z, rfl, h, h1, h2, h3⟩ := p.t3
  exact .inr (.inl ⟨_, _, 1, _, rfl, rfl, Same.tup (st.st.trans (M.sub w1)) h, atI_nat (j := 1) rfl, q S1 T1 H1 _ st w1 h2⟩)
theorem ev_cc {t : T3 α β γ} (ha : Ev M ta σ S (Is K t)) : Ev M (tOp (rIx K) ta (tC (.int 2))) σ S (Is K t.c) := fun T H w s Q q => ha T H w s _ fun S1 T1 H1 v st w1 p => by
  obtain ⟨p, x, y, z, rfl, h, h1, h2, h3⟩ := p.t3
  exact .inr (.inl ⟨_, _, 2, _, rfl, rfl, Same.tup (st.st.trans (M.sub w1)) h, atI_nat (j := 2) rfl, q S1 T1 H1 _ st w1 h3⟩)
/-! slices of lists -/
theorem IsAll.cut {xs : List α} {vs : List V} {lo hi : Option Int} (h : IsAll K xs S vs) : IsAll K ((xs.drop (HT.sIx xs.length 0 lo)).take (HT.sIx xs.length xs.length hi - HT.sIx xs.length 0 lo)) S (cutV vs lo hi) := by
  unfold cutV
  rw [h.len]
  exact (h.drop_ _).take_ _
def cutL (xs : List α) (lo hi : Option Int) : List α := (xs.drop (HT.sIx xs.length 0 lo)).take (HT.sIx xs.length xs.length hi - HT.sIx xs.length 0 lo)
theorem cutL_to (xs : List α) (n : Nat) : cutL xs none (some (n : Int)) = xs.take n := by
  unfold cutL
  rw [HT.sIx_none, HT.sIx_nat]
  show ((xs.drop 0).take _) = _
  rw [List.drop_zero, Nat.sub_zero]
  by_cases h : n ≤ xs.length
  · rw [Nat.min_eq_left h]
  · rw [Nat.min_eq_right (by omega), List.take_of_length_le (Nat.le_refl _), List.take_of_length_le (by omega)]
theorem cutL_from (xs : List α) (n : Nat) : cutL xs (some (n : Int)) none = xs.drop n := by
  unfold cutL
  rw [HT.sIx_none, HT.sIx_nat]
  by_cases h : n ≤ xs.length
  · rw [Nat.min_eq_left h, List.take_of_length_le (by rw [List.length_drop]; exact Nat.le_refl _)]
  · rw [Nat.min_eq_right (by omega), List.drop_of_length_le (Nat.le_refl _), List.drop_of_length_le (by omega)]; simp
def EvO (M : Wld) (t : TO) (σ : L2.St) (S : Hp) (o : Option Int) : Prop := ∀ T H, M.W T H → Same S T → ∀ Q : Option Int → Hp → Prop, (∀ S' T' H', Step S T S' T' → M.W T' H' → Q o H') → t σ H Q
theorem evo_none : EvO M tNoPart σ S none := fun T H w s Q q => q S T H (Step.refl s) w
theorem evo_some {i : Int} (h : Ev M te σ S (Is K i)) : EvO M (tPart te) σ S (some i) := fun T H w s Q q => h T H w s _ fun S1 T1 H1 v st w1 p => ⟨i, p.int, q S1 T1 H1 st w1⟩
theorem EvO.mono {t : TO} {o : Option Int} {S1 : Hp} (h : EvO M t σ S o) (e : Same S S1) : EvO M t σ S1 o := fun T H w s Q q =>
  h T H w (e.trans s) Q fun S' T' H' st w' => q _ T' H' (st.widen e s).1 w'
theorem ev_cut {tl th : TO} {lo hi : Option Int} {xs : List α} (ha : Ev M ta σ S (Is K xs)) (hl : EvO M tl σ S lo) (hh : EvO M th σ S hi) : Ev M (tSl (rSlA K) ta tl th) σ S (Is K (cutL xs lo hi)) := fun T H w s Q q =>
  ha T H w s _ fun S1 T1 H1 x st1 w1 p1 => (hl.mono st1.ss) T1 H1 w1 st1.st _ fun S2 T2 H2 st2 w2 => (hh.mono (st1.ss.trans st2.ss)) T2 H2 w2 st2.st _ fun S3 T3 H3 st3 w3 => by
    obtain ⟨p, vs, rfl, h1, h2⟩ := (p1.mono (st2.ss.trans st3.ss)).lst
    refine .inl ⟨p, vs, rfl, .inl (Same.rd (st3.st.trans (M.sub w3)) h1), fun l nl => ?_⟩
    have nt := (M.sub w3).free nl
    exact q _ _ _ _ (((st1.trans st2).trans st3).trans (Step.new st3.st nt)) (M.new w3 nl) (is_lst (.inl upd_same) ((IsAll.cut h2).mono (same_new (st3.st.free nt))))
theorem ev_cutS {tl th : TO} {lo hi : Option Int} {z : Str} (ha : Ev M ta σ S (Is K z)) (hl : EvO M tl σ S lo) (hh : EvO M th σ S hi) (hz : z.length ≤ sizeLine) : Ev M (tSl (rSlA K) ta tl th) σ S (Is K (cutS z lo hi)) := fun T H w s Q q =>
  ha T H w s _ fun S1 T1 H1 x st1 w1 p1 => (hl.mono st1.ss) T1 H1 w1 st1.st _ fun S2 T2 H2 st2 w2 => (hh.mono (st1.ss.trans st2.ss)) T2 H2 w2 st2.st _ fun S3 T3 H3 st3 w3 =>
    .inr ⟨z, p1.str, hz, q S3 T3 H3 _ ((st1.trans st2).trans st3) w3 is_str⟩
theorem ev_rev {xs : List α} (ha : Ev M ta σ S (Is K xs)) : Ev M (tRevL K ta) σ S (Is K xs.reverse) := fun T H w s Q q =>
  ha T H w s _ fun S1 T1 H1 x st1 w1 p1 => by
    obtain ⟨p, vs, rfl, h1, h2⟩ := p1.lst
    refine ⟨p, vs, rfl, .inl (Same.rd (st1.st.trans (M.sub w1)) h1), fun l nl => ?_⟩
    have nt := (M.sub w1).free nl
    exact q _ _ _ _ (st1.trans (Step.new st1.st nt)) (M.new w1 nl) (is_lst (.inl upd_same) (h2.rev.mono (same_new (st1.st.free nt))))
end
end Fm

/-! ## Walks, comprehensions, loops, calls -/
namespace Fm
open PySem PySem.Spec PyProof.Rows L2
open PySem.W (Datum Tup T3 T4)
theorem Step.out {S H S' T' H' : Hp} (s : Step S H S' T') (h : Same T' H') : Step S H S' H' := ⟨s.ss, s.st.trans h, s.tt.trans h, s.nw⟩
/-- a walk over n items: item i is what I says; the heap stays -/
structure Walks (J : It) (S : Hp) (n : Nat) (I : Nat → V → Prop) : Prop where
  go : ∀ i H, Same S H → i < n → J.go i H
  yl : ∀ i H x H', Same S H → i < n → J.yld i H x H' → H' = H ∧ I i x
  st : ∀ i H, Same S H → n ≤ i → J.stop i H
section
variable {K : PySem.W.Frag} {S : Hp} {a : Addr} {vs : List V}
theorem walks_list (h : Rd S a (.lst vs)) : Walks (Itl K a) S vs.length (fun i x => vs[i]? = some x) where
  go := fun i H s hi => ⟨vs, vs[i], .inl (Same.rd s h), List.getElem?_eq_getElem hi⟩
  yl := fun i H x H' s hi y => ⟨y.1, y.2 vs (.inl (Same.rd s h))⟩
  st := fun i H s hi => ⟨vs, .inl (Same.rd s h), hi⟩
theorem walks_tup (h : SqT K S a vs) : Walks (Itt K a) S vs.length (fun i x => vs[i]? = some x) where
  go := fun i H s hi => ⟨vs, vs[i], Same.tup s h, List.getElem?_eq_getElem hi⟩
  yl := fun i H x H' s hi y => ⟨y.1, y.2 vs (Same.tup s h)⟩
  st := fun i H s hi => ⟨vs, Same.tup s h, hi⟩
theorem walks_str {z : Str} : Walks (Its z) S z.cps.size (fun i x => ∃ c, z.cps[i]? = some c ∧ x = .str ⟨#[c]⟩) where
  go := fun i H s hi => hi
  yl := fun i H x H' s hi y => y
  st := fun i H s hi => hi
theorem walks_range {lo : Int} {n : Nat} : Walks (Itr lo n) S n (fun i x => x = .int (lo + i)) where
  go := fun i H s hi => hi
  yl := fun i H x H' s hi y => y
  st := fun i H s hi => hi
theorem Walks.imp {J : It} {n : Nat} {I I' : Nat → V → Prop} (w : Walks J S n I) (h : ∀ i x, i < n → I i x → I' i x) : Walks J S n I' where
  go := w.go
  yl := fun i H x H' s hi y => ⟨(w.yl i H x H' s hi y).1, h i x hi (w.yl i H x H' s hi y).2⟩
  st := w.st
end
def EvI (M : Wld) (wi : TI) (σ : L2.St) (S : Hp) (n : Nat) (I : Hp → Nat → V → Prop) : Prop :=
  ∀ T H, M.W T H → Same S T → ∀ R : It → Hp → Prop, (∀ S' T' H' J, Step S T S' T' → M.W T' H' → Walks J S' n (I S') → R J H') → wi σ H R
section
variable {M : Wld} {K : PySem.W.Frag} {σ : L2.St} {S : Hp} {tl : TE} {α β γ δ : Type} [DecidableEq α] [Datum α] [DecidableEq β] [Datum β] [DecidableEq γ] [Datum γ] [DecidableEq δ] [Datum δ]
/-- item i of xs -/
def Itm (K : PySem.W.Frag) (xs : List α) : Hp → Nat → V → Prop := fun S i v => ∃ x, xs[i]? = some x ∧ Is K x S v
theorem evi_list {xs : List α} (h : Ev M tl σ S (Is K xs)) : EvI M (iSeq K tl) σ S xs.length (Itm K xs) := fun T H w s R q => h T H w s _ fun S1 T1 H1 v st w1 p => by
  obtain ⟨a, vs, rfl, h1, h2⟩ := p.lst
  have e : xs.length = vs.length := h2.len.symm
  refine .inl ⟨a, rfl, ⟨vs, .inl (Same.rd (st.st.trans (M.sub w1)) h1)⟩, q S1 T1 H1 _ st w1 ?_⟩
  rw [e]
  exact (walks_list h1).imp fun i x _ hx => h2.of hx
theorem evi_tup {xs : List α} (h : Ev M tl σ S (Is K (Tup.mk xs))) : EvI M (iSeq K tl) σ S xs.length (Itm K xs) := fun T H w s R q => h T H w s _ fun S1 T1 H1 v st w1 p => by
  obtain ⟨a, vs, rfl, h1, h2⟩ := p.tup
  have e : xs.length = vs.length := h2.len.symm
  refine .inr (.inl ⟨a, rfl, ⟨vs, Same.tup (st.st.trans (M.sub w1)) h1⟩, q S1 T1 H1 _ st w1 ?_⟩)
  rw [e]
  exact (walks_tup h1).imp fun i x _ hx => h2.of hx
theorem evi_str {z : Str} (h : Ev M tl σ S (Is K z)) : EvI M (iSeq K tl) σ S z.cps.size (fun _ i v => ∃ c, z.cps[i]? = some c ∧ v = .str ⟨#[c]⟩) := fun T H w s R q => h T H w s _ fun S1 T1 H1 v st w1 p =>
  .inr (.inr ⟨z, p.str, q S1 T1 H1 _ st w1 walks_str⟩)
theorem evi_range {te : TE} {j : Int} (h : Ev M te σ S (Is K j)) (h1 : -(2 ^ 62) ≤ j) (h2 : j < 2 ^ 62) : EvI M (iRng1 (tCons te tNil)) σ S j.toNat (fun _ i v => v = .int i) := fun T H w s R q => h T H w s _ fun S1 T1 H1 v st w1 p =>
  ⟨j, by rw [p.int], h1, h2, q S1 T1 H1 _ st w1 (walks_range.imp fun i x _ e => by rw [e]; simp)⟩
def MonoI (I : Hp → Nat → V → Prop) : Prop := ∀ S S' i v, Same S S' → I S i v → I S' i v
theorem itm_mono {xs : List α} : MonoI (Itm K xs) := fun S S' i v e ⟨x, h1, h2⟩ => ⟨x, h1, h2.mono e⟩

/-- one item under the other -/
theorem Paired.snoc {α β : Type} {F : α → β → Prop} : ∀ {l : List α} {r : List β} {a : α} {b : β}, Paired F l r → F a b → Paired F (l ++ [a]) (r ++ [b])
  | _, _, _, _, .nil, h => .cons h .nil
  | _, _, _, _, .cons x t, h => .cons x (Paired.snoc t h)
/-- a list of values, item by item -/
def LstOf {ι : Type} (E : ι → Hp → V → Prop) (xs : List ι) : Hp → V → Prop := fun S v => ∃ a ws, v = .ref a ∧ Rd S a (.lst ws) ∧ Paired (fun i w => E i S w) xs ws
theorem LstOf.mono {ι : Type} {E : ι → Hp → V → Prop} {xs : List ι} (hE : ∀ i, Mono (E i)) : Mono (LstOf E xs) := fun S S' v e ⟨a, ws, h1, h2, h3⟩ => ⟨a, ws, h1, Same.rd e h2, Paired.mapP h3 fun i w h => hE i _ _ _ e h⟩
theorem paired_is {xs : List α} : ∀ {ι : Type} {is : List ι} {f : ι → α} {ws : List V} {S : Hp}, Paired (fun i w => Is K (f i) S w) is ws → IsAll K (is.map f) S ws
  | _, _, _, _, _, .nil => DqAll.nil
  | _, _, _, _, _, .cons h t => DqAll.cons h (paired_is (xs := xs) t)
theorem ev_lcN {wi : TI} {g : TG} {tt : TT} {te : TE} {vs : List Nat} {n : Nat} {I : Hp → Nat → V → Prop} {p : Nat → Bool} {E : Nat → Hp → V → Prop} (hi : EvI M wi σ S n I) (hI : MonoI I) (hE : ∀ i, Mono (E i)) (hz : n ≤ sizeLine)
    (hb : ∀ i S1 v, i < n → Same S S1 → I S1 i v → ∃ σ', (∀ H, Same S1 H → ∀ Q : L2.St → Hp → Prop, Q σ' H → g v (wipe σ vs) H Q) ∧ wipe σ' vs = wipe σ vs ∧ EvT M tt σ' S1 (p i) ∧ (p i = true → Ev M te σ' S1 (E i))) :
    Ev M (tLc wi g tt te vs) σ S (fun S' v => ∃ a ws, v = .ref a ∧ S a = none ∧ S' a = some (.lst ws) ∧ Paired (fun i w => E i S' w) ((List.range n).filter p) ws) := fun T H w s Q q => hi T H w s _ fun S1 T1 H1 J st1 w1 wk D nD => by
  have nT : T1 D = none := (M.sub w1).free nD
  have nS : S1 D = none := st1.st.free nT
  refine ⟨fun i m H => m = n - i ∧ i ≤ n ∧ ∃ S2 T2 ws, Step S1 T1 S2 T2 ∧ M.W T2 H ∧ T2 D = some (.lst ws) ∧ S2 D = none ∧ Paired (fun i w => E i S2 w) ((List.range i).filter p) ws, ⟨n, by omega, by omega, S1, _, [], Step.tmp st1.st nT, M.new w1 nD, upd_same, nS, by simpa using Paired.nil⟩, ?_⟩
  rintro i m H2 ⟨rfl, hin, S2, T2, ws, st2, w2, hD, hS, hp⟩
  have sH : Same S1 H2 := (st2.ss.trans st2.st).trans (M.sub w2)
  by_cases hlt : i < n
  · refine .inr ⟨wk.go i H2 sH hlt, fun H' => ∃ S2 T2 ws, Step S1 T1 S2 T2 ∧ M.W T2 H' ∧ T2 D = some (.lst ws) ∧ S2 D = none ∧ Paired (fun i w => E i S2 w) ((List.range (i + 1)).filter p) ws, fun H' h => ⟨n - (i + 1), by omega, rfl, hlt, h⟩, fun x H' y => ?_⟩
    obtain ⟨e, hx⟩ := wk.yl i H2 x H' sH hlt y
    subst e
    obtain ⟨σ', hg, hw, ht, he⟩ := hb i S2 x hlt (st1.ss.trans st2.ss) (hI _ _ _ _ st2.ss hx)
    refine hg _ (st2.st.trans (M.sub w2)) _ ⟨hw, ht T2 _ w2 st2.st _ fun S3 T3 H3 st3 w3 => ?_⟩
    have er : List.range (i + 1) = List.range i ++ [i] := List.range_succ
    cases hpi : p i with
    | false =>
      refine iteF ⟨S3, T3, ws, st2.trans st3, w3, st3.tt _ _ hD, st3.nw D (by rw [hD]; simp) hS, ?_⟩
      rw [er, List.filter_append]
      have : List.filter p [i] = [] := by simp [hpi]
      rw [this, List.append_nil]
      exact Paired.mapP hp fun i w h => hE i _ _ _ st3.ss h
    | true =>
      refine iteT (((he hpi).mono (hE i) st3.ss) T3 H3 w3 st3.st _ fun S4 T4 H4 y st4 w4 pe => ?_)
      have h34 := st3.trans st4
      have hD4 : T4 D = some (.lst ws) := h34.tt _ _ hD
      have hS4 : S4 D = none := h34.nw D (by rw [hD]; simp) hS
      have hl : ws.length ≤ i := by
        rw [← Paired.length hp]
        exact Nat.le_trans (List.length_filter_le _ _) (by simp)
      refine ⟨ws, (M.sub w4) _ _ hD4, by omega, S4, _, ws ++ [y], (st2.trans h34).set nT hS4, M.set w4 hD4, upd_same, hS4, ?_⟩
      rw [er, List.filter_append]
      have : List.filter p [i] = [i] := by simp [hpi]
      rw [this]
      exact Paired.snoc (Paired.mapP hp fun i w h => hE i _ _ _ h34.ss h) pe
  · have e : i = n := by omega
    subst e
    refine .inl ⟨wk.st i H2 sH (Nat.le_refl _), q _ T2 H2 (.ref D) (st1.trans (st2.freeze nT hD)) w2 ⟨D, ws, rfl, st1.ss.free nS, upd_same, Paired.mapP hp fun i w h => hE i _ _ _ (same_new hS) h⟩⟩
theorem ev_lc {wi : TI} {g : TG} {tt : TT} {te : TE} {vs : List Nat} {n : Nat} {I : Hp → Nat → V → Prop} {p : Nat → Bool} {E : Nat → Hp → V → Prop} (hi : EvI M wi σ S n I) (hI : MonoI I) (hE : ∀ i, Mono (E i)) (hz : n ≤ sizeLine)
    (hb : ∀ i S1 v, i < n → Same S S1 → I S1 i v → ∃ σ', (∀ H, Same S1 H → ∀ Q : L2.St → Hp → Prop, Q σ' H → g v (wipe σ vs) H Q) ∧ wipe σ' vs = wipe σ vs ∧ EvT M tt σ' S1 (p i) ∧ (p i = true → Ev M te σ' S1 (E i))) :
    Ev M (tLc wi g tt te vs) σ S (LstOf E ((List.range n).filter p)) := (ev_lcN hi hI hE hz hb).imp fun S' v _ ⟨a, ws, h1, _, h2, h3⟩ => ⟨a, ws, h1, .inl h2, h3⟩
theorem range_filter_map {xs : List α} {p : α → Bool} {f : α → β} (d : α) : ((List.range xs.length).filter fun i => p (xs.getD i d)).map (fun i => f (xs.getD i d)) = (xs.filter p).map f := by
  have e : xs = (List.range xs.length).map fun i => xs.getD i d := by
    apply List.ext_getElem
    · simp
    · intro i h1 h2
      simp [List.getElem?_eq_getElem h1]
  conv => rhs; rw [e, List.filter_map, List.map_map]
  rfl
theorem wipe1 {i : Nat} {v : V} : wipe ((wipe σ [i]).set i (some v)) [i] = wipe σ [i] := by
  show (((σ.set i none).set i (some v)).set i none) = σ.set i none
  rw [List.set_set, List.set_set]
/-- [f(x) for x in xs if p(x)] over data, one name -/
theorem ev_comp {tt : TT} {te : TE} {i0 : Nat} {xs : List α} {p : α → Bool} {f : α → β} (hl : EvI M (iSeq K tl) σ S xs.length (Itm K xs)) (hz : xs.length ≤ sizeLine)
    (hb : ∀ S1 v x, x ∈ xs → Same S S1 → Is K x S1 v → EvT M tt ((σ.set i0 none).set i0 (some v)) S1 (p x) ∧ (p x = true → Ev M te ((σ.set i0 none).set i0 (some v)) S1 (Is K (f x)))) :
    Ev M (tLc (iSeq K tl) (gName i0) tt te [i0]) σ S (Is K ((xs.filter p).map f)) := by
  cases xs with
  | nil =>
    refine (ev_lc (E := fun _ _ _ => False) (p := fun _ => false) hl itm_mono (fun i S S' v _ h => h) hz (fun i S1 v hi => absurd hi (Nat.not_lt_zero _))).imp fun S' v e h => ?_
    obtain ⟨a, ws, rfl, h1, h2⟩ := h
    cases h2
    exact is_lst h1 .nil
  | cons d r =>
    generalize hxs : d :: r = xs at *
    refine (ev_lc (E := fun i => Is K (f (xs.getD i d))) (p := fun i => p (xs.getD i d)) hl itm_mono (fun i => is_mono) hz fun i S1 v hi e ⟨x, h1, h2⟩ => ?_).imp fun S' v e h => ?_
    · have ex : xs.getD i d = x := by rw [List.getD_eq_getElem?_getD, h1]; rfl
      obtain ⟨a, b⟩ := hb S1 v x (List.mem_of_getElem? h1) e h2
      exact ⟨_, fun H s Q q => q, wipe1, by rw [ex]; exact a, by rw [ex]; exact b⟩
    · obtain ⟨a, ws, rfl, h1, h2⟩ := h
      have := paired_is (xs := xs.map f) h2
      have e2 : ((List.range xs.length).filter fun i => p (xs.getD i d)).map (fun i => f (xs.getD i d)) = (xs.filter p).map f := range_filter_map d
      rw [← e2]
      exact is_lst h1 this
end
/-! ### for -/
section
variable {M : Wld} {σ : L2.St} {S T H : Hp}
theorem for_ev {wi : TI} {g : TG} {tb : TS} {D : Ends} {n : Nat} {I : Hp → Nat → V → Prop} (hi : EvI M wi σ S n I) (hI : MonoI I) (w : M.W T H) (s : Same S T) (J : Nat → L2.St → Hp → Hp → Prop)
    (h0 : ∀ S1 T1, Step S T S1 T1 → J 0 σ S1 T1)
    (hs : ∀ i v σ2 S2 T2 H2, i < n → Step S T S2 T2 → M.W T2 H2 → J i σ2 S2 T2 → I S2 i v →
      g v σ2 H2 fun σ3 H3 => tb { D with nx := fun σ' H' => ∃ S' T', Step S T S' T' ∧ M.W T' H' ∧ Same S2 S' ∧ J (i + 1) σ' S' T', ct := fun σ' H' => ∃ S' T', Step S T S' T' ∧ M.W T' H' ∧ Same S2 S' ∧ J (i + 1) σ' S' T', bk := D.nx } σ3 H3)
    (hd : ∀ σ2 S2 T2 H2, Step S T S2 T2 → M.W T2 H2 → J n σ2 S2 T2 → D.nx σ2 H2) : tFor wi g tb D σ H := hi T H w s _ fun S1 T1 H1 J1 st1 w1 wk => by
  refine ⟨fun i m σ H => m = n - i ∧ i ≤ n ∧ ∃ S2 T2, Step S T S2 T2 ∧ Same S1 S2 ∧ M.W T2 H ∧ J i σ S2 T2, ⟨n, by omega, by omega, S1, T1, st1, Same.refl _, w1, h0 S1 T1 st1⟩, ?_⟩
  rintro i m σ2 H2 ⟨rfl, hin, S2, T2, st2, e2, w2, hJ⟩
  have sH : Same S1 H2 := (e2.trans st2.st).trans (M.sub w2)
  by_cases hlt : i < n
  · refine .inr ⟨wk.go i H2 sH hlt, fun σ' H' => ∃ S' T', Step S T S' T' ∧ M.W T' H' ∧ Same S2 S' ∧ J (i + 1) σ' S' T', fun σ' H' ⟨S', T', a, b, c, d⟩ => ⟨n - (i + 1), by omega, rfl, hlt, S', T', a, e2.trans c, b, d⟩, fun x H' y => ?_⟩
    obtain ⟨e, hx⟩ := wk.yl i H2 x H' sH hlt y
    subst e
    exact hs i x σ2 S2 T2 _ hlt st2 w2 hJ (hI _ _ _ _ e2 hx)
  · have e : i = n := by omega
    subst e
    exact .inl ⟨wk.st i H2 sH (Nat.le_refl _), hd σ2 S2 T2 H2 st2 w2 hJ⟩
end
/-! ### calls -/
section
variable {M : Wld} {σ : L2.St} {S : Hp} {δ : Type}
/-- a def that changes nothing that stood -/
def SpP (pre : δ → Hp → List V → Prop) (post : δ → Hp → V → Prop) : Sp := fun vs H Q _ => ∃ d S, Same S H ∧ pre d S vs ∧ ∀ S' H' v, Step S H S' H' → post d S' v → Q v H'
theorem ev_call {pre : δ → Hp → List V → Prop} {post : δ → Hp → V → Prop} {E : XK} {t : TA} (d : δ) (ha : EvA M t σ S (pre d)) : Ev M (tCall (SpP pre post) [] E t) σ S (post d) := fun T H w s Q q =>
  ha T H w s _ fun S1 T1 H1 vs st1 w1 p1 => ⟨d, S1, st1.st.trans (M.sub w1), by rw [List.append_nil]; exact p1, fun S' H' v stp po => by
    obtain ⟨T', st', w'⟩ := M.lift w1 st1.st stp
    exact q S' T' H' v (st1.trans st') w' po⟩
end
end Fm

/-! ## Calls by promises of positional values; operators of own classes -/
namespace Fm
open PySem PySem.Spec PyProof.Rows L2
open PySem.W (Datum Tup T3 T4)
section
variable {P : Program} {w : World} {K : PySem.W.Frag} {mg : Str → Option Value} {base : Heap} {CX : CXT} {k : Nat} {f : Addr} {sp : Sp}
theorem fnR_of {fd : FuncData} {ps : List Str} (F : FnOk P w K mg base CX k f fd ps sp) (hb : Binds K fd ps []) : FnR P w K mg base CX k f sp :=
  (F.raw hb .nil).imp fun vs H Q E h => by rw [List.append_nil]; exact h
end
section
variable {X : Cx} {CX : CXT} {k : Nat} {C f : Addr} {sp : Sp} {E : XK} {x m : Str} {e o : Expr} {es : List Expr} {te ta : TE} {t : TA} {p pos apos : Pos}
/-- f(..), a def of the module -/
def tCl (sp : Sp) (E : XK) (t : TA) : TE := fun σ H Q => t σ H fun vs H1 => sp vs H1 Q E
theorem pe_cl (F : FnR X.prog X.w X.K X.mg X.base CX k f sp) (hr : Room k X.A) (hg : Gl X x) (hm : X.mg x = some (.ref f)) (hk : PySem.W.keepIn X.K (.ref f) = true) (hx : Passes CX X E) (ha : PA X (e :: es) t) (hdb : (x == ("__debug__" : Str)) = false := by decide)
    (he : starEach (e :: es) X.env = (false, eval e X.env) :: starEach es X.env := by rfl) (hpl : (backTo pos (starEach es X.env)).any (·.1) = false := by rfl) : PE X (.Call (.Name x p) (e :: es) [] pos) (tCl sp E t) := by
  refine ⟨fun pins s σ H Q I h => ?_⟩
  refine wpAny_Call_Name_kw (ld_glob I hg hm ?_ hdb)
  refine PySem.W.callWith_K (h₀ := X.base) I.ok.mod.kin hk (thn (ha.run pos pins s σ H _ I h) fun us s1 ⟨vs, H1, I1, r, q⟩ => ⟨I1.kIn, ?_⟩) he hpl
  exact wpAny_call (run_fnR F hr hx I1 r q)
/-- C(..) -/
theorem pe_mk (M : Mk X.K C f) (F : FnR X.prog X.w X.K X.mg X.base CX k f sp) (hr : Room (k + 1) X.A) (hg : Gl X x) (hm : X.mg x = some (.ref C)) (hx : Passes CX X E) (ha : PA X (e :: es) t) (hdb : (x == ("__debug__" : Str)) = false := by decide)
    (he : starEach (e :: es) X.env = (false, eval e X.env) :: starEach es X.env := by rfl) (hpl : (backTo pos (starEach es X.env)).any (·.1) = false := by rfl) : PE X (.Call (.Name x p) (e :: es) [] pos) (StX.tMakeR C sp E t) :=
  StX.pe_makeR M F hr hg hm hx ha hdb he hpl
/-- what an instance is to the library's rules -/
theorem inst_at {pins : List (Addr × Obj)} {σ : L2.St} {H : Hp} {s : Shared} {a dx : Addr} {fs : List (Str × V)} (I : Inv X pins σ H s) (h : H a = some (.ins C dx fs)) : ∃ ox od, PySem.W.InstAt s.heap a ox C od := by
  obtain ⟨mA, O, _⟩ := ins_get I.hok h
  obtain ⟨od, J, _⟩ := O.look
  exact ⟨_, _, J⟩
/-- a method that a class has of its own -/
structure Own (K : PySem.W.Frag) (C : Addr) (m : Str) (f : Addr) : Prop where
  at_ : PySem.W.findIn K (.ref C) m = some (some (.ref f))
  fn : PySem.W.isFn K (.ref f) = true
theorem rel_not {v : V} {u : Value} (r : RelV v u) : u ≠ .notImplemented := by
  cases v <;> first | (obtain ⟨t, e⟩ := r; rw [e]; intro z; cases z) | (intro z; rw [z] at r; cases r)
theorem cmpBack {Q : Value → Shared → Prop} {u : Value} {s : Shared} (h : u ≠ .notImplemented) (q : Q u s) : PySem.W.CmpBack Q u s := by
  unfold PySem.W.CmpBack
  cases u <;> first | exact absurd rfl h | exact q
theorem vals1' {x : V} {u : Value} (r : RelV x u) : Vals [x] [u] := .cons r .nil
theorem vals2 {x y : V} {u v : Value} (r : RelV x u) (r' : RelV y v) : Vals [x, y] [u, v] := .cons r (.cons r' .nil)
/-- a op b, both of the class C -/
def rOwn (C : Addr) (sp : Sp) (E : XK) : R2 := fun x y H Q => ∃ a b dx dy fs gs, x = .ref a ∧ y = .ref b ∧ H a = some (.ins C dx fs) ∧ H b = some (.ins C dy gs) ∧ sp [x, y] H Q E
theorem op_own {op : Operator} (hc : PySem.W.selfFirst X.K C = true) (hs : Own X.K C (PySem.dunder op.info.2) f) (F : FnR X.prog X.w X.K X.mg X.base CX k f sp) (hr : Room k X.A) (hx : Passes CX X E) : OpR X (binaryOp op) (rOwn C sp E) := by
  intro pins s σ H x y v u Q I rx ry h
  obtain ⟨a, b, dx, dy, fs, gs, rfl, rfl, ha, hb, q⟩ := h
  obtain rfl : v = Value.ref a := rx
  obtain rfl : u = Value.ref b := ry
  obtain ⟨ox, od, J⟩ := inst_at I ha
  obtain ⟨oy, od', J'⟩ := inst_at I hb
  obtain ⟨m, Fr⟩ := I.fr
  refine PySem.W.binop_K Fr I.mod.kin J J'.type hc hs.at_ hs.fn ?_
  refine thn (wpAny_call (run_fnR F hr hx I (vals2 (x := V.ref a) (y := V.ref b) rfl rfl) q)) fun r s1 hq => ?_
  obtain ⟨z, H', I', rz, qz⟩ := hq
  exact cmpBack (rel_not rz) ⟨z, H', I', rz, qz⟩
/-- a >> (..), the left one of the class C -/
theorem noFill_tuple_rshift : fillsNumberSlot (.type "tuple") "rshift" = pure false := by
  unfold fillsNumberSlot
  dsimp only
  rw [typeLookup_type, typeLookup_type, builtinLookup_eq_fast]
  kernel_rfl
theorem binop_KT {prog : Program} {w : World} {K : PySem.W.Frag} {x L : Addr} {h₀ : Heap} {m : Str → Option Value} {ox : Obj} {od : Option Obj} {s : Shared} {A : Around} {E : Value → Shared → Prop} {b : Value} {Q : Value → Shared → Prop} (F : PyProof.Rows.Fr h₀ L s.heap m) (X₀ : K.In h₀) (I : PySem.W.InstAt s.heap x ox C od) (hb : PySem.W.Looks (model prog w) s.heap (typeOf b) (.type "tuple")) (hc : PySem.W.selfFirst K C = true)
    (hs : PySem.W.findIn K (.ref C) (PySem.dunder "rshift") = some (some (.ref f))) (hf : PySem.W.isFn K (.ref f) = true)
    (h : wpAny (model prog w) A (call (.ref f) [.ref x, b]) (PySem.W.CmpBack Q) E s) : wpAny (model prog w) A (binaryOp .RShift (.ref x) b) Q E s := by
  have X := X₀.keeps F.keep
  obtain ⟨cd, hcd, hm⟩ := PySem.W.any_some hc
  obtain ⟨rest, hm⟩ : ∃ rest, cd.mro = .ref C :: rest := by
    cases q : cd.mro with
    | nil => rw [q] at hm; cases hm
    | cons a r => rw [q] at hm; exact ⟨r, by rw [List.head?_cons] at hm; cases (beq_iff_eq.mp hm); rfl⟩
  unfold binaryOp
  refine wpAny_holding (wpAny_bind ?_)
  unfold binaryOp1
  refine wpAny_bind (I.type.here (wpAny_bind (hb.here (wpAny_bind ((PySem.W.fills_K X hcd hm hs).here ?_)))))
  simp only [show (Value.ref C == Value.type "tuple") = false from rfl, Bool.false_eq_true, if_false]
  refine wpAny_bind (wpAny_of_eq noFill_tuple_rshift ?_)
  simp only [Bool.and_false, Bool.false_eq_true, if_false, Bool.false_and, if_true]
  refine wpAny_bind (wpAny_pure ?_)
  simp only [Bool.false_eq_true, if_false]
  refine wpAny_bind (m := tryMethod (.ref x) _ b) ?_
  unfold tryMethod
  refine wpAny_bind (PySem.W.special_fn X I hs (beq_iff_eq.mp hf) (wpAny_mono h (fun v s' hv => ?_) fun _ _ e => e))
  cases v <;> first | exact hv.elim | exact wpAny_pure (wpAny_pure (wpAny_pure hv))
def rOwnT (K : PySem.W.Frag) (C : Addr) (sp : Sp) (E : XK) : R2 := fun x y H Q => ∃ a b dx fs xs, x = .ref a ∧ y = .ref b ∧ H a = some (.ins C dx fs) ∧ SqT K H b xs ∧ sp [x, y] H Q E
theorem op_ownT (hc : PySem.W.selfFirst X.K C = true) (hs : Own X.K C (PySem.dunder "rshift") f) (F : FnR X.prog X.w X.K X.mg X.base CX k f sp) (hr : Room k X.A) (hx : Passes CX X E) : OpR X (binaryOp .RShift) (rOwnT X.K C sp E) := by
  intro pins s σ H x y v u Q I rx ry h
  obtain ⟨a, b, dx, fs, xs, rfl, rfl, ha, hb, q⟩ := h
  obtain rfl : v = Value.ref a := rx
  obtain rfl : u = Value.ref b := ry
  obtain ⟨ox, od, J⟩ := inst_at I ha
  obtain ⟨its, _, ⟨o, ho, hcl, _⟩, _⟩ := I.tuple hb
  obtain ⟨m, Fr⟩ := I.fr
  have hT : PySem.W.Looks (model X.prog X.w) s.heap (typeOf (.ref b)) (.type "tuple") := by
    intro A' Q' E' s' k' q'
    exact wpAny_typeOf_ref (k' _ _ ho) (by rw [hcl]; exact q')
  refine binop_KT Fr I.mod.kin J hT hc hs.at_ hs.fn ?_
  refine thn (wpAny_call (run_fnR F hr hx I (vals2 (x := V.ref a) (y := V.ref b) rfl rfl) q)) fun r s1 hq => ?_
  obtain ⟨z, H', I', rz, qz⟩ := hq
  exact cmpBack (rel_not rz) ⟨z, H', I', rz, qz⟩
/-- x in a, a of the class C -/
def rOwnIn (C : Addr) (sp : Sp) (E : XK) (neg : Bool) : R2 := fun x y H Q => ∃ a dx fs, y = .ref a ∧ H a = some (.ins C dx fs) ∧ sp [y, x] H (fun v H' => ∃ b, v = .bl b ∧ Q (.bl (if neg then !b else b)) H') E
theorem op_inO (hs : Own X.K C "__contains__" f) (F : FnR X.prog X.w X.K X.mg X.base CX k f sp) (hr : Room k X.A) (hx : Passes CX X E) : OpR X (compareOp .In) (rOwnIn C sp E false) := by
  intro pins s σ H x y v u Q I rx ry h
  obtain ⟨a, dx, fs, rfl, ha, q⟩ := h
  obtain rfl : u = Value.ref a := ry
  obtain ⟨ox, od, J⟩ := inst_at I ha
  obtain ⟨m, Fr⟩ := I.fr
  refine PySem.W.in_K Fr I.mod.kin J hs.at_ hs.fn ?_
  refine thn (wpAny_call (run_fnR F hr hx I (vals2 (x := V.ref a) rfl rx) q)) fun r s1 hq => ?_
  obtain ⟨z, H', I', rz, b, rfl, qz⟩ := hq
  cases rz
  exact wpAny_truthy_bool ⟨.bl b, H', I', rfl, qz⟩
theorem op_notInO (hs : Own X.K C "__contains__" f) (F : FnR X.prog X.w X.K X.mg X.base CX k f sp) (hr : Room k X.A) (hx : Passes CX X E) : OpR X (compareOp .NotIn) (rOwnIn C sp E true) := by
  intro pins s σ H x y v u Q I rx ry h
  obtain ⟨a, dx, fs, rfl, ha, q⟩ := h
  obtain rfl : u = Value.ref a := ry
  obtain ⟨ox, od, J⟩ := inst_at I ha
  obtain ⟨m, Fr⟩ := I.fr
  refine PySem.W.notIn_K Fr I.mod.kin J hs.at_ hs.fn ?_
  refine thn (wpAny_call (run_fnR F hr hx I (vals2 (x := V.ref a) rfl rx) q)) fun r s1 hq => ?_
  obtain ⟨z, H', I', rz, b, rfl, qz⟩ := hq
  cases rz
  exact wpAny_truthy_bool ⟨.bl (!b), H', I', rfl, qz⟩
/-- len(a) -/
def rOwnLen (C : Addr) (sp : Sp) (E : XK) : List V → Hp → VK → Prop := fun xs H Q => ∃ a dx fs, xs = [.ref a] ∧ H a = some (.ins C dx fs) ∧ sp [.ref a] H (fun v H' => ∃ n, v = .int n ∧ 0 ≤ n ∧ n < 2 ^ 63 ∧ Q (.int n) H') E
end
/-- the same context one level down -/
theorem in1_run {X : Cx} {CX : CXT} {k : Nat} {f : Addr} {sp : Sp} {E : XK} {pins : List (Addr × Obj)} {σ : L2.St} {H : Hp} {s : Shared} {Q : VK} {us : List Value} {vs : List V} (F : FnR X.prog X.w X.K X.mg X.base CX k f sp) (hr : Room (k + 1) X.A) (hx : Passes CX X E) (I : Inv X pins σ H s) (r : Vals vs us) (h : sp vs H Q E) :
    codeAny (model X.prog X.w) X.A.in1 (.call (.ref f) ⟨us, []⟩) (fun r s' => match r with | .ok (.ret v) => EP X pins σ Q v s' | .ok _ => False | .error e => X.xe e s') s := by
  refine codeAny_mono (F X.A.in1 X.stack s H us vs Q E hr.in1 I.env0.in1 r h) fun r s' hq => ?_
  cases r with
  | error e => exact hx pins σ H s e s' I hq
  | ok fl =>
    cases fl with
    | ret u => exact I.after hq
    | next => exact False.elim hq
    | brk => exact False.elim hq
    | cont => exact False.elim hq
section
variable {X : Cx} {CX : CXT} {k : Nat} {C f : Addr} {sp : Sp} {E : XK} {x m : Str} {e o : Expr} {es : List Expr} {te ta : TE} {t : TA} {p pos apos : Pos}
theorem call_lenO (hs : Own X.K C "__len__" f) (F : FnR X.prog X.w X.K X.mg X.base CX k f sp) (hr : Room (k + 1) X.A) (hx : Passes CX X E) : CallR X (.builtin "len") (rOwnLen C sp E) := by
  intro pins s σ H xs us Q I r h
  obtain ⟨a, dx, fs, rfl, ha, q⟩ := h
  obtain ⟨u, rfl, ru⟩ := vals1 r
  obtain rfl : u = Value.ref a := ru
  obtain ⟨ox, od, J⟩ := inst_at I ha
  obtain ⟨m, Fr⟩ := I.fr
  refine PySem.W.len_K Fr I.mod.kin J hs.at_ hs.fn ?_
  refine thn (wpAny_call (in1_run F hr hx I (vals1' (x := V.ref a) rfl) q)) fun r s1 hq => ?_
  obtain ⟨z, H', I', rz, n, rfl, h0, h1, qz⟩ := hq
  obtain ⟨t, rfl⟩ := rz
  exact ⟨⟨h0, h1⟩, ⟨.int n, H', I'.tok _, ⟨_, rfl⟩, qz⟩⟩
/-- a == y, a of the class C, y of another class or of C itself -/
def TyE (K : PySem.W.Frag) (H : Hp) (y : V) (t : Value) : Prop := TyX K H y t ∨ ∃ b D dy gs, y = .ref b ∧ H b = some (.ins D dy gs) ∧ t = .ref D
theorem ty_looks {pins : List (Addr × Obj)} {σ : L2.St} {H : Hp} {s : Shared} {y : V} {u t : Value} (I : Inv X pins σ H s) (ry : RelV y u) (h : TyE X.K H y t) : PySem.W.Looks (model X.prog X.w) s.heap (typeOf u) t := by
  rcases h with h | ⟨b, D, dy, gs, rfl, hb, rfl⟩
  · obtain ⟨P, kx, hP, _⟩ := kit_of I ry h
    exact kx.ty _ _ I.kIn hP
  · obtain rfl : u = Value.ref b := ry
    obtain ⟨ox, od, J⟩ := inst_at I hb
    exact J.type
def rOwnEq (K : PySem.W.Frag) (C : Addr) (sp : Sp) (E : XK) : R2 := fun x y H Q => ∃ a dx fs t, x = .ref a ∧ H a = some (.ins C dx fs) ∧ TyE K H y t ∧ PySem.W.notFirst K C t = true ∧ sp [x, y] H Q E
theorem op_eqO (hs : Own X.K C "__eq__" f) (F : FnR X.prog X.w X.K X.mg X.base CX k f sp) (hr : Room k X.A) (hx : Passes CX X E) : OpR X (compareOp .Eq) (rOwnEq X.K C sp E) := by
  intro pins s σ H x y v u Q I rx ry h
  obtain ⟨a, dx, fs, t, rfl, ha, hy, hn, q⟩ := h
  obtain rfl : v = Value.ref a := rx
  obtain ⟨ox, od, J⟩ := inst_at I ha
  obtain ⟨m, Fr⟩ := I.fr
  refine PySem.W.cmp_K (op := .Eq) hr.units0 Fr I.mod.kin J (ty_looks I ry hy) hn hs.at_ hs.fn ?_
  refine thn (wpAny_call (run_fnR F hr hx I (vals2 (x := V.ref a) rfl ry) q)) fun r s1 hq => ?_
  obtain ⟨z, H', I', rz, qz⟩ := hq
  exact cmpBack (rel_not rz) ⟨z, H', I', rz, qz⟩
/-- C.m(..), a static method -/
structure Stat (K : PySem.W.Frag) (C : Addr) (m : Str) (p g : Addr) : Prop where
  rd : PySem.W.readsIn K C (.type "type") = true
  ga : PySem.W.specialIn K (.ref C) "__getattribute__" = some (some (.builtin "type.__getattribute__"))
  at_ : PySem.W.findCls K (.ref C) (.type "type") m = some (.get (.builtin "staticmethod.__get__") (.ref p) .none (.ref C))
  rc : ∃ rest, PySem.W.recIn K p "staticmethod" = some (.ref g :: rest)
  kp : PySem.W.keepIn K (.ref g) = true
def tStat (C : Addr) (sp : Sp) (E : XK) (ta : TE) (t : TA) : TE := fun σ H Q => ta σ H fun x H1 => x = .ref C ∧ t σ H1 fun vs H2 => sp vs H2 Q E
theorem getst_ok {p g : Addr} {pins : List (Addr × Obj)} {σ : L2.St} {H : Hp} {s : Shared} {A : Around} {E : Value → Shared → Prop} {b : Bool} {Q : Value → Shared → Prop} (I : Inv X pins σ H s) (k : Stat X.K C m p g) (h : ∀ s', Inv X pins σ H s' → Q (.ref g) s') :
    wpAny (model X.prog X.w) A (getAttr (.ref C) m b) Q E s := by
  obtain ⟨rest, hp⟩ := k.rc
  refine PySem.W.cls_bind I.kIn k.rd k.at_ ?_
  exact wpAny_call (PySem.W.sm_get (s := { s with toks := s.toks + 1 }) I.kIn hp (PySem.W.handed_on rfl (h _ (I.tok _))))
theorem pe_static {p g : Addr} {pl : Sem Bool} (he : PE X o ta) (c : Stat X.K C m p g) (F : FnR X.prog X.w X.K X.mg X.base CX k g sp) (hr : Room k X.A) (hx : Passes CX X E) (ha : PA X (e :: es) t)
    (hst : starEach (e :: es) X.env = (false, eval e X.env) :: starEach es X.env := by rfl) (hpl : (backTo pos (starEach es X.env)).any (·.1) = false := by rfl)
    (ht : eval (.Call (.Attribute o m apos) (e :: es) [] pos) X.env = (do
      let ov ← eval o X.env
      standAt apos.atName
      let (f, first) ← holding [ov] (getMethod ov m pl)
      callWith pos f first (backTo pos (starEach (e :: es) X.env)) (backToKw pos (keywordEach [] X.env))) := by rfl) :
    PE X (.Call (.Attribute o m apos) (e :: es) [] pos) (tStat C sp E ta t) := by
  refine ⟨fun pins s σ H Q I h => ?_⟩
  refine PySem.W.methodCall_KW (pl := pl) (thn (he.run pins s σ H _ I h) fun u s1 ⟨x, H1, I1, rx, ex, q⟩ => ?_) ht
  subst ex
  obtain rfl : u = Value.ref C := rx
  refine PySem.W.method_cls I1.kIn c.ga (getst_ok I1 c fun s2 I2 => ?_)
  refine PySem.W.callWith_K (h₀ := X.base) (first := []) I2.ok.mod.kin c.kp (thn (ha.run pos pins s2 σ H1 _ I2 q) fun us s3 ⟨vs, H2, I3, r, q2⟩ => ⟨I3.kIn, ?_⟩) hst hpl
  exact wpAny_call (run_fnR F hr hx I3 r q2)
/-- o.m(..), o of the class C -/
def tMt (C : Addr) (m : Str) (sp : Sp) (E : XK) (ta : TE) (t : TA) : TE := fun σ H Q => ta σ H fun x H1 => ∃ a dx fs, x = .ref a ∧ H1 a = some (.ins C dx fs) ∧ fs.lookup m = none ∧ t σ H1 fun vs H2 => sp (x :: vs) H2 Q E
theorem pe_mt {pl : Sem Bool} (he : PE X o ta) (c : Cls X.K C) (hm : Meth X.K C m f) (F : FnR X.prog X.w X.K X.mg X.base CX k f sp) (hr : Room k X.A) (hx : Passes CX X E) (ha : PA X (e :: es) t)
    (hst : starEach (e :: es) X.env = (false, eval e X.env) :: starEach es X.env := by rfl) (hpl : (backTo pos (starEach es X.env)).any (·.1) = false := by rfl)
    (ht : eval (.Call (.Attribute o m apos) (e :: es) [] pos) X.env = (do
      let ov ← eval o X.env
      standAt apos.atName
      let (f, first) ← holding [ov] (getMethod ov m pl)
      callWith pos f first (backTo pos (starEach (e :: es) X.env)) (backToKw pos (keywordEach [] X.env))) := by rfl) :
    PE X (.Call (.Attribute o m apos) (e :: es) [] pos) (tMt C m sp E ta t) := by
  refine ⟨fun pins s σ H Q I h => ?_⟩
  refine PySem.W.methodCall_KW (pl := pl) (thn (he.run pins s σ H _ I h) fun u s1 ⟨x, H1, I1, rx, a, dx, fs, ex, ea, l, q⟩ => ?_) ht
  subst ex
  obtain rfl : u = Value.ref a := rx
  refine getmeth_ok I1 ea c hm l ?_
  refine PySem.W.callWith_K (h₀ := X.base) (first := [.ref a]) I1.ok.mod.kin hm.kp (thn (ha.run pos pins s1 σ H1 _ I1 q) fun us s3 ⟨vs, H2, I3, r, q2⟩ => ⟨I3.kIn, ?_⟩) hst hpl
  exact wpAny_call (run_fnR (us := .ref a :: us) (vs := .ref a :: vs) F hr hx I3 (.cons rfl r) q2)
/-- name = {..} on one line, the name a local -/
theorem sw_trueD {kx vx : Expr} {gs : List Comprehension} {scope : Scope} {pos py : Pos} {y : Str} {l : Nat} {env : Env} (hk : env.scope.kind = .function) (hy : env.scope.names.lookup y = some .local) (hl : (py.line == pos.line) = true)
    (ha : (scope.names.any fun (n, k) => n == y && (k == .local || k == .cell)) = false) : swapsWith (.DictComp kx vx gs scope pos) (some (.Name y py)) l env = pure true := by
  have ky : env.kindOf y = some .local := hy
  have hb : env.blockKind = .function := by unfold Env.blockKind; rw [hk]; rfl
  unfold swapsWith
  simp only [hb, ky, ha, Expr.pos, hl]
  rfl
end
end Fm

/-! ## Further rules, the head's facts, a def by its promise -/
namespace Fm
open PySem PySem.Spec PyProof.Rows L2
open PySem.W (Datum Tup T3 T4)
theorem units65 {k : Nat} {A : Around} (hr : Room k A) : A.units + 65 < cLine := by have := hr.un; omega
section
variable {X : Cx}
theorem call_allA (hc : X.calm = true) : CallR X (.builtin "all") (rAllA X.K) := cr_all hc
def rModA : R2 := rI (fun _ j => 0 < j) fun i j => .int (i % j)
theorem op_modA : OpR X (binaryOp .Mod) rModA := op_mod
def rPowA : R2 := rI CPow fun i j => .int (i ^ j.toNat)
theorem op_powA : OpR X (binaryOp .Pow) rPowA := op_pow
def rNegA : V → Hp → VK → Prop := rU fun i => .int (-i)
theorem un_negA : UnR X (unaryOp .USub) rNegA := un_neg
theorem pe_const_str {x z : Str} {pos : Pos} (h : ∃ t, X.mg x = some (.str z t)) (hg : Gl X x) (hd : (x == ("__debug__" : Str)) = false := by decide) : PE X (.Name x pos) (tC (.str z)) := by
  obtain ⟨t, e⟩ := h
  exact pe_glob hg e ⟨t, rfl⟩ hd
/-- name = {..} on one line, the name a local -/
theorem ps_setDc {i : Nat} {y : Str} {py : Pos} {kx vx tg iter : Expr} {ifs : List Expr} {scope : Scope} {own : List (Str × Nat)} {pos spos : Pos} {wi : TI} {g : TG} {tt : TT} {tk tv : TE} (hc : X.calm = true) (hN : X.N.Nodup) (hy : X.N[i]? = some y) (hyl : X.env.scope.names.lookup y = some .local)
    (hsw : swapsWith (.DictComp kx vx [⟨tg, iter, ifs, 0⟩] scope pos) (some (.Name y py)) spos.line X.env = pure true) (hi : PI X tg iter wi) (ok : BlkOk X.N X.env.scope scope own)
    (hg : ∀ (s : Shared) (H : Hp) (C : Addr) (cl : List (Str × Addr)) (fp : List Addr), PG (X.blk s H scope (compEnvC scope cl C X.env) fp) tg g) (ht : ∀ (s : Shared) (H : Hp) (C : Addr) (cl : List (Str × Addr)) (fp : List Addr), PTs (X.blk s H scope (compEnvC scope cl C X.env) fp) ifs tt)
    (hk : ∀ (s : Shared) (H : Hp) (C : Addr) (cl : List (Str × Addr)) (fp : List Addr), PE (X.blk s H scope (compEnvC scope cl C X.env) fp) kx tk)
    (he : ∀ (s : Shared) (H : Hp) (C : Addr) (cl : List (Str × Addr)) (fp : List Addr), PE (X.blk s H scope (compEnvC scope cl C X.env) fp) vx tv) (hs : ∀ x, foldedSetIterable iter X.env x = pure x := by intro _; rfl) :
    PS X (.Assign [.Name y py] (.DictComp kx vx [⟨tg, iter, ifs, 0⟩] scope pos) spos) (tAsg (tDc wi g tt tk tv (own.map (·.2))) (gName i)) := by
  refine ⟨fun pins s σ H D I h => ?_⟩
  rw [exec_Assign_Name_used _ _ _ _ hsw]
  refine wpAny_bind (wpAny_standAt (wpAny_bind ?_))
  show wpAny _ X.A (do let _ ← comprehension (.DictComp kx vx [⟨tg, iter, ifs, 0⟩] scope pos) scope X.env (firstIterPos [⟨tg, iter, ifs, 0⟩] pos) newDict false (eval iter X.env) (some (assign (.Name y py) X.env))) _ _ s
  have h : tDc wi g tt tk tv (own.map (·.2)) σ H (fun x H1 => gName i x σ H1 D.nx) := h
  refine wpAny_bind (thn (dc_core (Qf := fun _ s' => SP X pins D .next s') hc hN I hi ok hg ht hk he hs h fun L C s' m H' I' q hn f => ?_) fun _ s' hq => wpAny_pure (wpAny_pure hq))
  show wpAny _ _ (assign (.Name y py) X.env (.ref L)) _ _ _
  refine wpAny_assign_Name (store_ok2 (v := V.ref L) I' hN hy (.inl hyl) rfl (fun s2 I2 ⟨a, sb, ha⟩ => ?_) (.inr hyl))
  obtain ⟨f0, f1, f2, f3, f4, f5⟩ := f
  have haC : C ≠ a := by
    rcases ha with z | z
    · rw [z]; exact f1
    · exact fun e => f4 y a z e.symm
  refine ⟨m, hn.sameBut sb haC, fun h3 sb3 => ?_⟩
  exact ⟨_, H', I2.turned (t' := s2.toks) (fun b o hb e => (sb3.2 b hb).trans e) f0 f1 f3 f4 f5, q⟩
end

/-! ### facts of the text, read by the head -/
def obsB (fa : List (PySem.W.Frag → Bool)) (fn : List He5.DefA) (K : PySem.W.Frag) : He.AlD := ((fa.all fun f => f K) && fn.all fun d => d.ok K, fn.map fun d => He5.fnA K (d.at_ K))
def obsBG (n : Nat) (fa : List (PySem.W.Frag → Bool)) (fn : List He5.DefA) (g : Addr → Option Obj) : He.AlD := obsB fa fn (He.frG g (He5.asA g n))
def hookB (n : Nat) (fa : List (PySem.W.Frag → Bool)) (fn : List He5.DefA) : PySem.W.Hook where
  α := He.AlD
  obs := fun s => obsBG n fa fn s.heap.get?
  val := fun _ => He5.valA fn
  says := fun _ h => ∃ K : PySem.W.Frag, K.In h ∧ obsB fa fn K = He5.valA fn
  of := fun _ _ e => ⟨_, He.frG_in, e⟩
  keeps := fun _ _ _ ⟨K, hK, c⟩ k => ⟨K, PySem.W.Frag.In.keeps hK k, c⟩
theorem obsBG_eq {n : Nat} {fa : List (PySem.W.Frag → Bool)} {fn : List He5.DefA} {g : Addr → Option Obj} {s : Shared} (h : ∀ a, g a = s.heap.get? a) : obsBG n fa fn g = (hookB n fa fn).obs s := by
  have e : g = s.heap.get? := funext h
  rw [e] <;> rfl
section
variable {fa : List (PySem.W.Frag → Bool)} {fn : List He5.DefA} {K : PySem.W.Frag}
theorem factB (c : obsB fa fn K = He5.valA fn) (i : Nat) {f : PySem.W.Frag → Bool} (h : fa[i]? = some f := by rfl) : f K = true := by
  have c1 := (He.ba (show ((fa.all fun f => f K) && fn.all fun d => d.ok K) = true from congrArg (fun z : He.AlD => z.1) c)).1
  exact List.all_eq_true.mp c1 f (List.mem_of_getElem? h)
theorem defB (c : obsB fa fn K = He5.valA fn) (i : Nat) {d : He5.DefA} (h : fn[i]? = some d := by rfl) : ∃ fd, L2.FunD K d.name d.qual d.params d.body d.scope (d.dvs K) (d.kws K) (d.at_ K) fd := by
  have c2 := (He.ba (show ((fa.all fun f => f K) && fn.all fun d => d.ok K) = true from congrArg (fun z : He.AlD => z.1) c)).2
  have e : fn.map (fun d => He5.fnA K (d.at_ K)) = fn.map He5.DefA.val := congrArg (fun z : He.AlD => z.2) c
  have e2 : (fn.map fun d => He5.fnA K (d.at_ K))[i]? = (fn.map He5.DefA.val)[i]? := by rw [e]
  rw [List.getElem?_map, List.getElem?_map, h] at e2
  exact He5.DefA.funD (Option.some.inj e2) (List.all_eq_true.mp c2 d (List.mem_of_getElem? h))
end
section
variable {fa : List (PySem.W.Frag → Bool)} {fn : List He5.DefA} {K : PySem.W.Frag} {x qual : Str} {st : Stmt}
theorem defF (at_ : PySem.W.Frag → Addr) (c : obsB fa fn K = He5.valA fn) (i : Nat) (h : fn[i]? = some ⟨at_, x, qual, defArgs st, defBody st, defScope st, [], []⟩ := by rfl) : ∃ fd, Fun K x qual st (at_ K) fd := by
  obtain ⟨fd, F⟩ := defB c i h
  exact ⟨fd, He5.fun_of F⟩
theorem defK (at_ : PySem.W.Frag → Addr) (st : Stmt) (x qual : Str) (c : obsB fa fn K = He5.valA fn) (i : Nat) (h : fn[i]? = some ⟨at_, x, qual, defArgs st, defBody st, defScope st, [], []⟩ := by rfl) : PySem.W.keepIn K (.ref (at_ K)) = true := by
  obtain ⟨fd, F⟩ := defB c i h
  exact F.kp
end
def statB (K : PySem.W.Frag) (C : Addr) (m : Str) : Bool := PySem.W.readsIn K C (.type "type") && (He.eqO (PySem.W.specialIn K (.ref C) "__getattribute__") (some (some (.builtin "type.__getattribute__"))) && (He5.wrapB K C "staticmethod" "staticmethod.__get__" m && PySem.W.keepIn K (.ref (He5.wf K C "staticmethod" m))))
theorem statB_ok {K : PySem.W.Frag} {C : Addr} {m : Str} (h : statB K C m = true) : Stat K C m (He.ma K C m) (He5.wf K C "staticmethod" m) := by
  obtain ⟨h1, h⟩ := He.ba h
  obtain ⟨h2, h⟩ := He.ba h
  obtain ⟨h3, h4⟩ := He.ba h
  obtain ⟨h5, h6⟩ := He5.wrapB_ok h3
  exact ⟨h1, He.eqO_ok h2, h5, h6, h4⟩
/-- what isinstance asks of an own class -/
structure ClsX (K : PySem.W.Frag) (C : Addr) : Prop where
  ha : PySem.W.findIn K (.ref C) "__class__" = some (some (.builtin "object.__class__"))
  hn : PySem.W.specialIn K (.builtin "object.__class__") "__get__" = some (some (.builtin "getset_descriptor.__get__"))
  ht : PySem.W.takesIn K (.builtin "object.__class__") = some true
  hm : PySem.W.mroIn K C (.type "object") = some true
def clsXB (K : PySem.W.Frag) (C : Addr) : Bool := He.eqO (PySem.W.findIn K (.ref C) "__class__") (some (some (.builtin "object.__class__"))) && (He.eqO (PySem.W.specialIn K (.builtin "object.__class__") "__get__") (some (some (.builtin "getset_descriptor.__get__"))) && (decide (PySem.W.takesIn K (.builtin "object.__class__") = some true) && decide (PySem.W.mroIn K C (.type "object") = some true)))
theorem clsXB_ok {K : PySem.W.Frag} {C : Addr} (h : clsXB K C = true) : ClsX K C := by
  obtain ⟨h1, h⟩ := He.ba h
  obtain ⟨h2, h⟩ := He.ba h
  obtain ⟨h3, h4⟩ := He.ba h
  exact ⟨He.eqO_ok h1, He.eqO_ok h2, of_decide_eq_true h3, of_decide_eq_true h4⟩
theorem own_of {K : PySem.W.Frag} {C f : Addr} {m : Str} (h : Meth K C m f) : Own K C m f := ⟨h.at_, h.fn⟩

/-! ### a def by its promise -/
section
variable {P : Program} {w : World} {K : PySem.W.Frag} {mg : Str → Option Value} {base : Heap} {k : Nat} {f : Addr} {sp : Sp} {x qual : Str} {st : Stmt} {N ps : List Str}
theorem fnR_def (F : ∃ fd, Fun K x qual st f fd) (S : FnScope N ps (defScope st)) (len : ∀ vs H Q E, sp vs H Q E → vs.length = ps.length)
    (hb : ∀ (kV doc pm : Value) (an : Option Addr) (cdv ct : Value) (us : List Value), us.length = ps.length → bindArgs (PySem.W.fnOf x qual (defArgs st) (defBody st) (defScope st) .none kV doc pm an cdv ct) ⟨us, []⟩ = pure (ps.zip us))
    (t : TS) (hw : ∀ (cdv : Value) (A : Around) (outer : List Env) (s : Shared) (H : Hp) (E : XK), Room k (A.deeper (envOfC qual (defScope st) s.heap.objs.size f cdv)) → PSs (cxOf CX0 P w K mg base N qual (defScope st) f cdv A outer s H E).nox (defBody st) t)
    (hq : ∀ H vs Q E, sp vs H Q E → t { nx := fun _ H' => Q .non H', rt := Q } (start N vs) H) : FnR P w K mg base CX0 (k + 1) f sp := by
  obtain ⟨fd, F⟩ := F
  exact fnR_of (F.ok S len fun cdv A outer s H vs Q E hr h => ⟨t, hw cdv A outer s H E hr, hq H vs Q E h⟩) (F.binds hb)
end
end Fm

/-! ## The pool of draws; instances made -/
namespace Fm
open PySem PySem.Spec PyProof.Rows L2
open PySem.W (Datum Tup T3 T4)
/-- the pool: [greats, what is drawn from, seed, count] -/
def PoolAt (H : Hp) (p g : Addr) : Prop := ∃ (gs : List Int) (c sd n : Int), H p = some (.lst [.ref g, .int c, .int sd, .int n]) ∧ H g = some (.lst (gs.map V.int)) ∧ 0 ≤ sd ∧ sd < 2147483648
theorem PoolAt.ne {H : Hp} {p g : Addr} (h : PoolAt H p g) : p ≠ g := by
  obtain ⟨gs, c, sd, n, h1, h2, _⟩ := h
  intro e
  rw [e, h2] at h1
  cases gs with
  | nil => cases h1
  | cons a r => cases h1
theorem PoolAt.keep {H H' : Hp} {p g : Addr} (h : PoolAt H p g) (e1 : H' p = H p) (e2 : H' g = H g) : PoolAt H' p g := by
  obtain ⟨gs, c, sd, n, h1, h2, h3⟩ := h
  exact ⟨gs, c, sd, n, e1.trans h1, e2.trans h2, h3⟩
theorem PoolAt.some {H : Hp} {p g : Addr} (h : PoolAt H p g) : H p ≠ none ∧ H g ≠ none := by
  obtain ⟨gs, c, sd, n, h1, h2, h3⟩ := h
  rw [h1, h2]
  exact ⟨by simp, by simp⟩
def PWd (p : Addr) (T H : Hp) : Prop := Same T H ∧ ∃ g, T p = none ∧ T g = none ∧ PoolAt H p g
def PW (p : Addr) : Wld where
  W := PWd p
  sub := fun h => h.1
  new := fun {T H a o} ⟨s, g, h1, h2, h3⟩ na => by
    have e1 : p ≠ a := fun e => h3.some.1 (by rw [e]; exact na)
    have e2 : g ≠ a := fun e => h3.some.2 (by rw [e]; exact na)
    exact ⟨same_both s, g, by rw [upd_ne e1]; exact h1, by rw [upd_ne e2]; exact h2, h3.keep (upd_ne e1) (upd_ne e2)⟩
  tmp := fun {T H a o} ⟨s, g, h1, h2, h3⟩ na => by
    have e1 : p ≠ a := fun e => h3.some.1 (by rw [e]; exact na)
    have e2 : g ≠ a := fun e => h3.some.2 (by rw [e]; exact na)
    exact ⟨s.trans (same_new na), g, h1, h2, h3.keep (upd_ne e1) (upd_ne e2)⟩
  set := fun {T H a o o'} ⟨s, g, h1, h2, h3⟩ ha => by
    have e1 : p ≠ a := fun e => by rw [e, ha] at h1; cases h1
    have e2 : g ≠ a := fun e => by rw [e, ha] at h2; cases h2
    exact ⟨same_both s, g, by rw [upd_ne e1]; exact h1, by rw [upd_ne e2]; exact h2, h3.keep (upd_ne e1) (upd_ne e2)⟩
  lift := fun {S S' T H H'} ⟨s, g, h1, h2, h3⟩ e st => by
    obtain ⟨a, b⟩ := liftT_step s e st
    have k : ∀ x, H x ≠ none → liftT T H S' x = T x := fun x hx => by
      unfold liftT
      cases z : H x with
      | none => exact absurd z hx
      | some o => rfl
    refine ⟨_, a, b, g, by rw [k p h3.some.1]; exact h1, by rw [k g h3.some.2]; exact h2, ?_⟩
    obtain ⟨gs, c, sd, n, q1, q2, q3⟩ := h3
    exact ⟨gs, c, sd, n, st.tt _ _ q1, st.tt _ _ q2, q3⟩
section
variable {δ : Type}
/-- a def that draws: its first argument is the pool -/
def SpW (pre : δ → Hp → List V → Prop) (post : δ → Hp → V → Prop) : Sp := fun vs H Q _ => ∃ d p rest S T, vs = .ref p :: rest ∧ (PW p).W T H ∧ Same S T ∧ pre d S rest ∧ ∀ S' T' H' v, Step S T S' T' → (PW p).W T' H' → post d S' v → Q v H'
theorem ev_callW {p : Addr} {σ : L2.St} {S : Hp} {pre : δ → Hp → List V → Prop} {post : δ → Hp → V → Prop} {E : XK} {t : TA} {i : Nat} (d : δ) (hp : σ[i]? = some (some (.ref p))) (ha : EvA (PW p) t σ S (pre d)) : Ev (PW p) (tCl (SpW pre post) E (tCons (tVar i) t)) σ S (post d) := fun T H w s Q q =>
  ⟨.ref p, hp, ha T H w s _ fun S1 T1 H1 vs st1 w1 p1 => ⟨d, p, vs, S1, T1, rfl, w1, st1.st, p1, fun S' T' H' v stp w' po => q S' T' H' v (st1.trans stp) w' po⟩⟩
theorem ev_cl {M : Wld} {σ : L2.St} {S : Hp} {pre : δ → Hp → List V → Prop} {post : δ → Hp → V → Prop} {E : XK} {t : TA} (d : δ) (ha : EvA M t σ S (pre d)) : Ev M (tCl (SpP pre post) E t) σ S (post d) := fun T H w s Q q =>
  ha T H w s _ fun S1 T1 H1 vs st1 w1 p1 => ⟨d, S1, st1.st.trans (M.sub w1), p1, fun S' H' v stp po => by
    obtain ⟨T', st', w'⟩ := M.lift w1 st1.st stp
    exact q S' T' H' v (st1.trans st') w' po⟩
/-- an operation that is a def's promise -/
theorem rv_sp {M : Wld} {S : Hp} {pre : δ → Hp → List V → Prop} {post : δ → Hp → V → Prop} {E : XK} {vs : List V} (d : δ) (h : pre d S vs) : Rv M (fun H Q => SpP pre post vs H Q E) S (post d) := fun T H w s Q q =>
  ⟨d, S, s.trans (M.sub w), h, fun S' H' v stp po => by
    obtain ⟨T', st', w'⟩ := M.lift w s stp
    exact q S' T' H' v st' w' po⟩
/-- __init__ of a class whose instances stay as they are made -/
def SpI (C : Addr) (pre : δ → Hp → List V → Prop) (post : δ → Hp → List (Str × V) → Prop) : Sp := fun vs H Q _ => ∃ d x dx rest S, vs = .ref x :: rest ∧ H x = some (.ins C dx []) ∧ S x = none ∧ Same S H ∧ pre d S rest ∧
  ∀ S' H' fs, Same S S' → Same S' H' → (∀ a o, a ≠ x → H a = some o → H' a = some o) → (∀ a, H a ≠ none → S a = none → S' a = none) → post d S' fs → H' x = some (.ins C dx fs) → Q .non H'
/-- an instance of C with these fields -/
def Ob (C : Addr) (P : Hp → List (Str × V) → Prop) : Hp → V → Prop := fun S v => ∃ a dx fs, v = .ref a ∧ S a = some (.ins C dx fs) ∧ P S fs
theorem ev_mk {M : Wld} {σ : L2.St} {S : Hp} {C : Addr} {pre : δ → Hp → List V → Prop} {post : δ → Hp → List (Str × V) → Prop} {E : XK} {t : TA} (d : δ) (hm : ∀ S S' fs, Same S S' → post d S fs → post d S' fs) (ha : EvA M t σ S (pre d)) : Ev M (StX.tMakeR C (SpI C pre post) E t) σ S (Ob C (post d)) := fun T H w s Q q =>
  ha T H w s _ fun S1 T1 H1 vs st1 w1 p1 x dx nx ndx hne => by
    have sH : Same S1 H1 := st1.st.trans (M.sub w1)
    have nS : S1 x = none := sH.free nx
    refine ⟨d, x, dx, vs, S1, rfl, upd_same, nS, ?_, p1, fun S' H' fs h1 h2 h3 h4 h5 h6 => ⟨rfl, ?_⟩⟩
    · exact same_upd (sH.trans (same_new ndx)) nS
    · have k : ∀ a o, H1 a = some o → (upd (upd H1 dx (.own x)) x (.ins C dx [])) a = some o := fun a o e => by
        rw [upd_ne (ne_of_none e nx), upd_ne (ne_of_none e ndx)]
        exact e
      have nS' : S' x = none := h4 x (by rw [upd_same]; simp) nS
      have st : Step S1 H1 (upd S' x (.ins C dx fs)) H' := by
        refine ⟨h1.trans (same_new nS'), fun b o e => ?_, fun b o e => h3 b o (ne_of_none e nx) (k b o e), fun a ha hs => ?_⟩
        · by_cases hb : b = x
          · subst hb; rw [upd_same] at e; rw [h6]; exact e
          · rw [upd_ne hb] at e; exact h2 b o e
        · have hax : a ≠ x := fun z => ha (by rw [z]; exact nx)
          rw [upd_ne hax]
          refine h4 a (fun z => ha ?_) hs
          cases e : H1 a with
          | none => rfl
          | some o => rw [k a o e] at z; cases z
      obtain ⟨T', st', w'⟩ := M.lift w1 st1.st st
      exact q _ T' H' _ (st1.trans st') w' ⟨x, dx, fs, rfl, upd_same, hm _ _ _ (same_new nS') h5⟩
end
end Fm

/-! ## Steps of statements -/
namespace Fm
open PySem PySem.Spec PyProof.Rows L2
open PySem.W (Datum Tup T3 T4)
section
variable {M : Wld} {K : PySem.W.Frag} {σ : L2.St} {S T H : Hp} {P : Hp → V → Prop} {te ta tb : TE} {tt : TT} {D : Ends} {t u : TS} {i : Nat} {b : Bool}
/-- an item of a list that stands so -/
theorem ev_at {p : Addr} {vs : List V} {j n : Nat} {z : Int} {v : V} (h0 : σ[j]? = some (some (.ref p))) (h : S p = some (.lst vs)) (hz : z = (n : Int)) (hv : vs[n]? = some v) (hP : P S v) : Ev M (tOp (rIx K) (tVar j) (tC (.int z))) σ S P := fun T H w s Q q =>
  ⟨.ref p, h0, .inl ⟨p, vs, z, v, rfl, rfl, SqL.of ((s.trans (M.sub w)) _ _ h), by rw [hz]; exact atI_nat hv, q S T H v (Step.refl s) w hP⟩⟩
theorem q_set (h : Ev M te σ S P) (w : M.W T H) (s : Same S T) (q : ∀ S' T' H' v, Step S T S' T' → M.W T' H' → P S' v → D.nx (σ.set i (some v)) H') : tAsg te (gName i) D σ H := h T H w s _ q
theorem q_ret (h : Ev M te σ S P) (w : M.W T H) (s : Same S T) (q : ∀ S' T' H' v, Step S T S' T' → M.W T' H' → P S' v → D.rt v H') : tRet te D σ H := h T H w s _ q
theorem q_if (h : EvT M tt σ S b) (w : M.W T H) (s : Same S T) (h1 : ∀ S' T' H', Step S T S' T' → M.W T' H' → b = true → t D σ H') (h2 : ∀ S' T' H', Step S T S' T' → M.W T' H' → b = false → u D σ H') : tIfS tt t u D σ H := h T H w s _ fun S' T' H' st w' => by
  cases b with
  | true => exact iteT (h1 S' T' H' st w' rfl)
  | false => exact iteF (h2 S' T' H' st w' rfl)
theorem ev_mod {a b : Int} (ha : Ev M ta σ S (Is K a)) (hb : Ev M tb σ S (Is K b)) (h : 0 < b) : Ev M (tOp rModA ta tb) σ S (Is K (a % b)) := ev_I ha hb h fun _ => is_int
theorem ev_div {a b : Int} (ha : Ev M ta σ S (Is K a)) (hb : Ev M tb σ S (Is K b)) (h : CDivW a b) : Ev M (tOp rDivA ta tb) σ S (Is K (a / b)) := ev_I ha hb h fun _ => is_int
theorem ev_mul {a b : Int} (ha : Ev M ta σ S (Is K a)) (hb : Ev M tb σ S (Is K b)) (h : CMul a b) : Ev M (tOp rMulA ta tb) σ S (Is K (a * b)) := ev_I ha hb h fun _ => is_int
theorem ev_pow {a b : Int} (ha : Ev M ta σ S (Is K a)) (hb : Ev M tb σ S (Is K b)) (h : CPow a b) : Ev M (tOp rPowA ta tb) σ S (Is K (a ^ b.toNat)) := ev_I ha hb h fun _ => is_int
theorem ev_iv {j : Nat} {z : Int} (h : σ[j]? = some (some (.int z))) : Ev M (tVar j) σ S (Is K z) := ev_var h is_int
theorem ev_ic {z : Int} : Ev M (tC (.int z)) σ S (Is K z) := ev_c is_int
theorem ev_sc {z : Str} : Ev M (tC (.str z)) σ S (Is K z) := ev_c is_str
end
end Fm

/-! ## More of what expressions come to -/
namespace Fm
open PySem PySem.Spec PyProof.Rows L2
open PySem.W (Datum Tup T3 T4)
section
variable {M : Wld} {K : PySem.W.Frag} {σ : L2.St} {S : Hp} {P P1 P2 : Hp → V → Prop} {ta tb te tc td tl : TE} {v x y : V} {α β γ δ : Type} [DecidableEq α] [Datum α] [DecidableEq β] [Datum β] [DecidableEq γ] [Datum γ] [DecidableEq δ] [Datum δ]
theorem ev_chain {a b c : Int} (ha : Ev M ta σ S (Is K a)) (hb : Ev M tb σ S (Is K b)) (hc : Ev M tc σ S (Is K c)) : Ev M (tChain rLeA rLeA ta tb tc) σ S (Is K (decide (a ≤ b) && decide (b ≤ c))) := fun T H w s Q q =>
  ha T H w s _ fun S1 T1 H1 x st1 w1 p1 => (hb.mono is_mono st1.ss) T1 H1 w1 st1.st _ fun S2 T2 H2 y st2 w2 p2 => ⟨a, b, p1.int, p2.int, decide (a ≤ b), rfl, by
    cases e : decide (a ≤ b) with
    | false => exact iteF (q S2 T2 H2 _ (st1.trans st2) w2 (isb (by rw [e]; rfl)))
    | true => exact iteT ((hc.mono is_mono (st1.ss.trans st2.ss)) T2 H2 w2 st2.st _ fun S3 T3 H3 z st3 w3 p3 => ⟨b, c, p2.int, p3.int, q S3 T3 H3 _ ((st1.trans st2).trans st3) w3 (isb (by rw [e]; rfl))⟩)⟩
/-- isinstance -/
theorem ev_isi {c : V} {t u : Value} {b : Bool} (hP : Mono P1) (ha : Ev M ta σ S P1) (hc : ClsV c u) (ht : ∀ S' H v, Same S' H → P1 S' v → TyX K H v t) (hk : PySem.W.kitOne K t u = some b) : Ev M (tCB (rIsi K) (tCons ta (tCons (tC c) tNil))) σ S (Is K b) := fun T H w s Q q =>
  ha T H w s _ fun S1 T1 H1 x st1 w1 p1 => ⟨x, c, t, u, b, rfl, hc, ht S1 H1 x (st1.st.trans (M.sub w1)) p1, hk, q S1 T1 H1 _ st1 w1 is_bl⟩
theorem ty_str {H : Hp} {z : Str} : TyX K H (.str z) (.type "str") := .base (.str z)
theorem ty_tup {H : Hp} {a : Addr} {xs : List V} (h : SqT K H a xs) : TyX K H (.ref a) (.type "tuple") := by
  rcases h with (h | ⟨o, h⟩) | ⟨o, its, n, h, hc, _⟩
  · exact .base (.tup h)
  · exact .fTuple h
  · exact .kTuple h hc
theorem ty_ins {H : Hp} {a C dx : Addr} {fs : List (Str × V)} (c : Cls K C) (x : ClsX K C) (h : H a = some (.ins C dx fs)) : TyX K H (.ref a) (.ref C) := .base (.ins h c x.ha x.hn x.ht x.hm)
theorem ev_isiS {z : Str} (ha : Ev M ta σ S (Is K z)) : Ev M (tCB (rIsi K) (tCons ta (tCons (tC (.ty "str")) tNil))) σ S (Is K true) :=
  ev_isi is_mono ha (.ty _) (fun S' H v _ p => by rw [p.str]; exact ty_str) (kit_ty (by decide +kernel))
theorem ev_isiT {xs : List α} (ha : Ev M ta σ S (Is K (Tup.mk xs))) : Ev M (tCB (rIsi K) (tCons ta (tCons (tC (.ty "tuple")) tNil))) σ S (Is K true) :=
  ev_isi is_mono ha (.ty _) (fun S' H v e p => by obtain ⟨a, vs, rfl, h, _⟩ := p.tup; exact ty_tup (Same.tup e h)) (kit_ty (by decide +kernel))
/-! displays with stars -/
theorem eva_nilL : EvA M tNil σ S (IsAll K ([] : List α)) := ev_nil .nil
theorem eva_consL {a : α} {xs : List α} {t : TA} (ha : Ev M ta σ S (Is K a)) (hr : EvA M t σ S (IsAll K xs)) : EvA M (tCons ta t) σ S (IsAll K (a :: xs)) :=
  ev_cons is_mono ha (fun S1 e => hr.mono (fun S S' v e h => h.mono e) e) fun S2 x xs' _ h1 h2 => .cons h1 h2
theorem eva_starG {xs ys : List α} {t : TA} (ha : Ev M ta σ S (fun S v => Is K xs S v ∨ Is K (Tup.mk xs) S v)) (hr : EvA M t σ S (IsAll K ys)) : EvA M (StX.tStar K ta t) σ S (IsAll K (xs ++ ys)) := fun T H w s Q q =>
  ha T H w s _ fun S1 T1 H1 x st1 w1 p1 => by
    have go : ∀ a ws, (SqT K H1 a ws ∨ SqL K H1 a ws) → IsAll K xs S1 ws → x = .ref a → ∃ a xs, x = V.ref a ∧ (SqT K H1 a xs ∨ SqL K H1 a xs) ∧ t σ H1 fun vs H2 => Q (xs ++ vs) H2 := fun a ws h1 h2 e =>
      ⟨a, ws, e, h1, (hr.mono (fun S S' v e h => h.mono e) st1.ss) T1 H1 w1 st1.st _ fun S2 T2 H2 vs st2 w2 p2 => q S2 T2 H2 _ (st1.trans st2) w2 ((h2.mono st2.ss).app p2)⟩
    rcases p1 with p1 | p1
    · obtain ⟨a, ws, e, h1, h2⟩ := p1.lst
      exact go a ws (.inr (.inl (Same.rd (st1.st.trans (M.sub w1)) h1))) h2 e
    · obtain ⟨a, ws, e, h1, h2⟩ := p1.tup
      exact go a ws (.inl (Same.tup (st1.st.trans (M.sub w1)) h1)) h2 e
theorem eva_star {xs ys : List α} {t : TA} (ha : Ev M ta σ S (Is K xs)) (hr : EvA M t σ S (IsAll K ys)) : EvA M (StX.tStar K ta t) σ S (IsAll K (xs ++ ys)) := eva_starG (ha.imp fun _ _ _ h => .inl h) hr
theorem eva_starT {xs ys : List α} {t : TA} (ha : Ev M ta σ S (Is K (Tup.mk xs))) (hr : EvA M t σ S (IsAll K ys)) : EvA M (StX.tStar K ta t) σ S (IsAll K (xs ++ ys)) := eva_starG (ha.imp fun _ _ _ h => .inr h) hr
theorem ev_dispL {xs : List α} {t : TA} (ha : EvA M t σ S (IsAll K xs)) (hz : xs.length ≤ sizeLine) : Ev M (tLst t) σ S (Is K xs) :=
  ev_disp ha (fun _ vs h => by rw [h.len]; exact hz) fun S2 vs p h np => is_lst (.inl upd_same) (h.mono (same_new np))
/-! fields -/
theorem ev_fld {C : Addr} {f : Str} (hC : Cls K C) (hn : NoAttr K C f) (ha : Ev M ta σ S P1) (hf : ∀ S' v, P1 S' v → ∃ a dx fs u, v = .ref a ∧ S' a = some (.ins C dx fs) ∧ fs.lookup f = some u ∧ P S' u) : Ev M (tFld K ta f) σ S P := fun T H w s Q q =>
  ha T H w s _ fun S1 T1 H1 x st1 w1 p1 => by
    obtain ⟨a, dx, fs, u, rfl, h1, h2, h3⟩ := hf S1 x p1
    exact ⟨a, C, dx, fs, u, rfl, (st1.st.trans (M.sub w1)) _ _ h1, hC, hn, h2, q S1 T1 H1 u st1 w1 h3⟩
/-! own operators -/
def IsO (C : Addr) (P : Hp → V → Prop) : Prop := ∀ S v, P S v → ∃ a dx fs, v = .ref a ∧ S a = some (.ins C dx fs)
theorem ev_own {δ' : Type} {C : Addr} {E : XK} {pre : δ' → Hp → List V → Prop} {post : δ' → Hp → V → Prop} (d : δ') (m1 : Mono P1) (m2 : Mono P2) (o1 : IsO C P1) (o2 : IsO C P2) (hp : ∀ S x y, P1 S x → P2 S y → pre d S [x, y]) (ha : Ev M ta σ S P1) (hb : Ev M tb σ S P2) : Ev M (tOp (rOwn C (SpP pre post) E) ta tb) σ S (post d) :=
  ev_op m1 ha (fun S1 e => hb.mono m2 e) fun S2 x y _ hx hy => fun T H w s Q q => by
    obtain ⟨a, dx, fs, rfl, h1⟩ := o1 S2 x hx
    obtain ⟨b, dy, gs, rfl, h2⟩ := o2 S2 y hy
    exact ⟨a, b, dx, dy, fs, gs, rfl, rfl, (s.trans (M.sub w)) _ _ h1, (s.trans (M.sub w)) _ _ h2, rv_sp (M := M) d (hp S2 _ _ hx hy) T H w s Q q⟩
theorem ev_ownT {δ' : Type} {C : Addr} {E : XK} {pre : δ' → Hp → List V → Prop} {post : δ' → Hp → V → Prop} (d : δ') (m1 : Mono P1) (m2 : Mono P2) (o1 : IsO C P1) (o2 : ∀ S v, P2 S v → ∃ a xs, v = .ref a ∧ SqT K S a xs) (hp : ∀ S x y, P1 S x → P2 S y → pre d S [x, y]) (ha : Ev M ta σ S P1) (hb : Ev M tb σ S P2) : Ev M (tOp (rOwnT K C (SpP pre post) E) ta tb) σ S (post d) :=
  ev_op m1 ha (fun S1 e => hb.mono m2 e) fun S2 x y _ hx hy => fun T H w s Q q => by
    obtain ⟨a, dx, fs, rfl, h1⟩ := o1 S2 x hx
    obtain ⟨b, xs, rfl, h2⟩ := o2 S2 y hy
    exact ⟨a, b, dx, fs, xs, rfl, rfl, (s.trans (M.sub w)) _ _ h1, Same.tup (s.trans (M.sub w)) h2, rv_sp (M := M) d (hp S2 _ _ hx hy) T H w s Q q⟩
theorem ev_ownEq {δ' : Type} {C : Addr} {E : XK} {pre : δ' → Hp → List V → Prop} {post : δ' → Hp → V → Prop} (d : δ') (hn : PySem.W.notFirst K C (.ref C) = true) (m1 : Mono P1) (m2 : Mono P2) (o1 : IsO C P1) (o2 : IsO C P2) (hp : ∀ S x y, P1 S x → P2 S y → pre d S [x, y]) (ha : Ev M ta σ S P1) (hb : Ev M tb σ S P2) : Ev M (tOp (rOwnEq K C (SpP pre post) E) ta tb) σ S (post d) :=
  ev_op m1 ha (fun S1 e => hb.mono m2 e) fun S2 x y _ hx hy => fun T H w s Q q => by
    obtain ⟨a, dx, fs, rfl, h1⟩ := o1 S2 x hx
    obtain ⟨b, dy, gs, rfl, h2⟩ := o2 S2 y hy
    exact ⟨a, dx, fs, _, rfl, (s.trans (M.sub w)) _ _ h1, .inr ⟨b, C, dy, gs, rfl, (s.trans (M.sub w)) _ _ h2, rfl⟩, hn, rv_sp (M := M) d (hp S2 _ _ hx hy) T H w s Q q⟩
theorem ev_ownIn {δ' : Type} {C : Addr} {E : XK} {neg b : Bool} {pre : δ' → Hp → List V → Prop} {post : δ' → Hp → V → Prop} (d : δ') (m1 : Mono P1) (m2 : Mono P2) (o2 : IsO C P2) (hp : ∀ S x y, P1 S x → P2 S y → pre d S [y, x]) (hq : ∀ S v, post d S v → v = .bl b) (ha : Ev M ta σ S P1) (hb : Ev M tb σ S P2) : Ev M (tOp (rOwnIn C (SpP pre post) E neg) ta tb) σ S (Is K (if neg then !b else b)) :=
  ev_op m1 ha (fun S1 e => hb.mono m2 e) fun S2 x y _ hx hy => fun T H w s Q q => by
    obtain ⟨a, dx, fs, rfl, h1⟩ := o2 S2 y hy
    exact ⟨a, dx, fs, rfl, (s.trans (M.sub w)) _ _ h1, rv_sp (M := M) (pre := pre) (post := post) d (hp S2 _ _ hx hy) T H w s _ fun S' T' H' v st w' po => ⟨b, hq S' v po, q S' T' H' _ st w' is_bl⟩⟩
theorem ev_ownLen {δ' : Type} {C : Addr} {E : XK} {n : Int} {pre : δ' → Hp → List V → Prop} {post : δ' → Hp → V → Prop} (d : δ') (m1 : Mono P1) (o1 : IsO C P1) (hp : ∀ S x, P1 S x → pre d S [x]) (hq : ∀ S v, post d S v → v = .int n) (h0 : 0 ≤ n) (hn : n < 2 ^ 63) (ha : Ev M ta σ S P1) : Ev M (tCB (rOwnLen C (SpP pre post) E) (tCons ta tNil)) σ S (Is K n) := fun T H w s Q q =>
  ha T H w s _ fun S1 T1 H1 x st1 w1 p1 => by
    obtain ⟨a, dx, fs, rfl, h1⟩ := o1 S1 x p1
    exact ⟨a, dx, fs, rfl, (st1.st.trans (M.sub w1)) _ _ h1, rv_sp (M := M) (pre := pre) (post := post) d (hp S1 _ p1) T1 H1 w1 st1.st _ fun S' T' H' v st w' po => ⟨n, hq S' v po, h0, hn, q S' T' H' _ (st1.trans st) w' is_int⟩⟩
theorem ev_stat {δ' : Type} {C : Addr} {E : XK} {pre : δ' → Hp → List V → Prop} {post : δ' → Hp → V → Prop} {t : TA} (d : δ') (ha : EvA M t σ S (pre d)) : Ev M (tStat C (SpP pre post) E (tC (.ref C)) t) σ S (post d) := fun T H w s Q q =>
  ⟨rfl, ha T H w s _ fun S1 T1 H1 vs st1 w1 p1 => rv_sp (M := M) (pre := pre) (post := post) d p1 T1 H1 w1 st1.st Q fun S' T' H' v st w' po => q S' T' H' v (st1.trans st) w' po⟩
/-! an item of a list of values -/
theorem ev_ixO {ι : Type} {E : ι → Hp → V → Prop} {xs : List ι} {i : Nat} {a : ι} {j : Int} (hE : ∀ i, Mono (E i)) (ha : Ev M ta σ S (LstOf E xs)) (hb : Ev M tb σ S (Is K j)) (hj : j = (i : Int)) (h : xs[i]? = some a) : Ev M (tOp (rIx K) ta tb) σ S (E a) :=
  ev_op (LstOf.mono hE) ha (fun S1 e => hb.mono is_mono e) fun S2 x y _ hx hy => by
    obtain ⟨p, ws, rfl, h1, h2⟩ := hx
    have g : ∀ {xs : List ι} {ws : List V} {i : Nat}, Paired (fun i w => E i S2 w) xs ws → xs[i]? = some a → ∃ w, ws[i]? = some w ∧ E a S2 w := by
      intro xs ws i hp
      induction hp generalizing i with
      | nil => intro e; simp at e
      | cons hh t ih =>
        intro e
        cases i with
        | zero => simp at e; subst e; exact ⟨_, rfl, hh⟩
        | succ i => obtain ⟨w, q1, q2⟩ := ih (i := i) (by simpa using e); exact ⟨w, by simpa using q1, q2⟩
    obtain ⟨v, h3, h4⟩ := g h2 h
    exact rv_now (fun H s Q q => .inl ⟨p, ws, j, v, rfl, hy.int, .inl (Same.rd s h1), by rw [hj]; exact atI_nat h3, q⟩) h4
/-! comprehensions over triples -/
theorem wipe3 {i j k : Nat} {x y z : V} (hij : i ≠ j) (hik : i ≠ k) (hjk : j ≠ k) : wipe ((((wipe σ [i, j, k]).set i (some x)).set j (some y)).set k (some z)) [i, j, k] = wipe σ [i, j, k] := by
  show ((((((((σ.set k none).set j none).set i none).set i (some x)).set j (some y)).set k (some z)).set k none).set j none).set i none = ((σ.set k none).set j none).set i none
  apply List.ext_getElem?
  intro n
  simp only [List.getElem?_set]
  by_cases h1 : i = n <;> by_cases h2 : j = n <;> by_cases h3 : k = n <;> simp_all
theorem ev_comp3 {tt : TT} {te : TE} {i j k : Nat} {xs : List (T3 α β γ)} {p : T3 α β γ → Bool} {f : T3 α β γ → δ} (hij : i ≠ j) (hik : i ≠ k) (hjk : j ≠ k) (hl : EvI M (iSeq K tl) σ S xs.length (Itm K xs)) (hz : xs.length ≤ sizeLine)
    (hb : ∀ S1 a b c x, x ∈ xs → Same S S1 → Is K x.a S1 a → Is K x.b S1 b → Is K x.c S1 c → EvT M tt ((((wipe σ [i, j, k]).set i (some a)).set j (some b)).set k (some c)) S1 (p x) ∧ (p x = true → Ev M te ((((wipe σ [i, j, k]).set i (some a)).set j (some b)).set k (some c)) S1 (Is K (f x)))) :
    Ev M (tLc (iSeq K tl) (gTup K 3 (gCons (gName i) (gCons (gName j) (gCons (gName k) gNil)))) tt te [i, j, k]) σ S (Is K ((xs.filter p).map f)) := by
  cases xs with
  | nil =>
    refine (ev_lc (E := fun _ _ _ => False) (p := fun _ => false) hl itm_mono (fun i S S' v _ h => h) hz (fun i S1 v hi => absurd hi (Nat.not_lt_zero _))).imp fun S' v e h => ?_
    obtain ⟨a, ws, rfl, h1, h2⟩ := h
    cases h2
    exact is_lst h1 .nil
  | cons d r =>
    generalize hxs : d :: r = xs at *
    refine (ev_lc (E := fun i => Is K (f (xs.getD i d))) (p := fun i => p (xs.getD i d)) hl itm_mono (fun i => is_mono) hz fun n S1 v hi e ⟨x, h1, h2⟩ => ?_).imp fun S' v e h => ?_
    · have ex : xs.getD n d = x := by rw [List.getD_eq_getElem?_getD, h1]; rfl
      obtain ⟨q, a, b, c, rfl, h3, ha, hb', hc⟩ := h2.t3
      obtain ⟨r1, r2⟩ := hb S1 a b c x (List.mem_of_getElem? h1) e ha hb' hc
      exact ⟨_, fun H s Q q' => ⟨q, _, rfl, Same.tup s h3, rfl, a, _, rfl, b, _, rfl, c, _, rfl, rfl, q'⟩, wipe3 hij hik hjk, by rw [ex]; exact r1, by rw [ex]; exact r2⟩
    · obtain ⟨a, ws, rfl, h1, h2⟩ := h
      have := paired_is (xs := xs.map f) h2
      have e2 : ((List.range xs.length).filter fun i => p (xs.getD i d)).map (fun i => f (xs.getD i d)) = (xs.filter p).map f := range_filter_map d
      rw [← e2]
      exact is_lst h1 this
/-- [f(c) for c in text if p(c)] -/
theorem ev_compS {tt : TT} {te : TE} {i0 : Nat} {z : Str} {p : Nat → Bool} {f : Nat → β} (hl : Ev M tl σ S (Is K z)) (hz : z.length ≤ sizeLine)
    (hb : ∀ S1 c, c ∈ z.cps.toList → Same S S1 → EvT M tt ((σ.set i0 none).set i0 (some (.str ⟨#[c]⟩))) S1 (p c) ∧ (p c = true → Ev M te ((σ.set i0 none).set i0 (some (.str ⟨#[c]⟩))) S1 (Is K (f c)))) :
    Ev M (tLc (iSeq K tl) (gName i0) tt te [i0]) σ S (Is K ((z.cps.toList.filter p).map f)) := by
  have hlen : z.cps.toList.length = z.cps.size := by simp
  refine (ev_lc (E := fun i => Is K (f (z.cps.toList.getD i 0))) (p := fun i => p (z.cps.toList.getD i 0)) (evi_str hl) (fun S S' i v _ h => h) (fun i => is_mono) hz fun n S1 v hi e ⟨c, h1, h2⟩ => ?_).imp fun S' v e h => ?_
  · have h1' : z.cps.toList[n]? = some c := by simpa using h1
    have ex : z.cps.toList.getD n 0 = c := by rw [List.getD_eq_getElem?_getD, h1']; rfl
    obtain ⟨r1, r2⟩ := hb S1 c (List.mem_of_getElem? h1') e
    subst h2
    exact ⟨_, fun H s Q q => q, wipe1, by rw [ex]; exact r1, by rw [ex]; exact r2⟩
  · obtain ⟨a, ws, rfl, h1, h2⟩ := h
    have := paired_is (xs := z.cps.toList.map f) h2
    have e2 : ((List.range z.cps.size).filter fun i => p (z.cps.toList.getD i 0)).map (fun i => f (z.cps.toList.getD i 0)) = (z.cps.toList.filter p).map f := by
      rw [← hlen]
      have e : z.cps.toList = (List.range z.cps.toList.length).map fun i => z.cps.toList.getD i 0 := by
        apply List.ext_getElem
        · simp
        · intro i h1 h2
          simp only [List.getElem_map, List.getElem_range, List.getD_eq_getElem?_getD, List.getElem?_eq_getElem h1]; rfl
      conv => rhs; rw [e, List.filter_map, List.map_map]
      rfl
    rw [← e2]
    exact is_lst h1 this
theorem Ev.eq {a b : α} (h : Ev M te σ S (Is K a)) (e : a = b) : Ev M te σ S (Is K b) := e ▸ h
theorem evT_yes : EvT M tYes σ S true := fun T H w s Q q => q S T H (Step.refl s) w
end
end Fm

/-! ## Dicts; lists that grow -/
namespace Fm
open PySem PySem.Spec PyProof.Rows L2
open PySem.W (Datum Tup T3 T4)
inductive Orel {α β : Type} (F : α → β → Prop) : Option α → Option β → Prop
  | no : Orel F none none
  | yes {a : α} {b : β} : F a b → Orel F (some a) (some b)
section
variable {ι : Type} {E : ι → Hp → V → Prop} {key : ι → Key} {xs : List ι} {x : ι} {S S' : Hp} {kvs : List (Key × V)} {w : V} {k : Key}
/-- the last item of this key -/
def dlast (key : ι → Key) (xs : List ι) (k : Key) : Option ι := xs.reverse.find? fun x => decide (key x = k)
theorem dlast_snoc : dlast key (xs ++ [x]) k = if k = key x then some x else dlast key xs k := by
  unfold dlast
  rw [List.reverse_append]
  show List.find? _ (x :: xs.reverse) = _
  rw [List.find?_cons]
  by_cases h : k = key x
  · simp [h]
  · have h' : ¬ key x = k := fun e => h e.symm
    simp [h, h']
def DAll (E : ι → Hp → V → Prop) (key : ι → Key) (xs : List ι) (S : Hp) (kvs : List (Key × V)) : Prop := ∀ k, Orel (fun i w => E i S w) (dlast key xs k) (valV kvs k)
theorem DAll.nil : DAll E key [] S [] := fun k => .no
theorem DAll.put (h : DAll E key xs S kvs) (e : E x S w) : DAll E key (xs ++ [x]) S (putK kvs (key x) w) := fun k => by
  rw [dlast_snoc, valV_put]
  by_cases q : k = key x
  · rw [if_pos q, if_pos q]; exact .yes e
  · rw [if_neg q, if_neg q]; exact h k
theorem DAll.mono (hE : ∀ i, Mono (E i)) (h : DAll E key xs S kvs) (e : Same S S') : DAll E key xs S' kvs := fun k => by
  have := h k
  generalize dlast key xs k = a at this ⊢
  generalize valV kvs k = b at this ⊢
  cases this with
  | no => exact .no
  | yes q => exact .yes (hE _ _ _ _ e q)
/-- a dict of these items, by their keys -/
def DctOf (E : ι → Hp → V → Prop) (key : ι → Key) (xs : List ι) : Hp → V → Prop := fun S v => ∃ a kvs, v = .ref a ∧ Rd S a (.dK kvs) ∧ kvs.length ≤ xs.length ∧ DAll E key xs S kvs
theorem DctOf.mono (hE : ∀ i, Mono (E i)) : Mono (DctOf E key xs) := fun S S' v e ⟨a, kvs, h1, h2, h3, h4⟩ => ⟨a, kvs, h1, Same.rd e h2, h3, h4.mono hE e⟩
end
section
variable {M : Wld} {K : PySem.W.Frag} {σ : L2.St} {S T H : Hp} {P P1 P2 : Hp → V → Prop} {ta tb te tc td tk tv tl ty tx : TE} {v x y : V} {α β γ δ : Type} [DecidableEq α] [Datum α] [DecidableEq β] [Datum β] [DecidableEq γ] [Datum γ] [DecidableEq δ] [Datum δ]
theorem ev_dc {wi : TI} {g : TG} {tt : TT} {vs : List Nat} {n : Nat} {I : Hp → Nat → V → Prop} {p : Nat → Bool} {E : Nat → Hp → V → Prop} {key : Nat → Key} (hi : EvI M wi σ S n I) (hI : MonoI I) (hE : ∀ i, Mono (E i)) (hz : n ≤ sizeLine)
    (hb : ∀ i S1 v, i < n → Same S S1 → I S1 i v → ∃ σ', (∀ H, Same S1 H → ∀ Q : L2.St → Hp → Prop, Q σ' H → g v (wipe σ vs) H Q) ∧ wipe σ' vs = wipe σ vs ∧ EvT M tt σ' S1 (p i) ∧ (p i = true → Ev M tk σ' S1 (fun _ v => v = kV (key i)) ∧ Ev M tv σ' S1 (E i))) :
    Ev M (tDc wi g tt tk tv vs) σ S (DctOf E key ((List.range n).filter p)) := fun T H w s Q q => hi T H w s _ fun S1 T1 H1 J st1 w1 wk D nD => by
  have nT : T1 D = none := (M.sub w1).free nD
  have nS : S1 D = none := st1.st.free nT
  refine ⟨fun i m H => m = n - i ∧ i ≤ n ∧ ∃ S2 T2 ws, Step S1 T1 S2 T2 ∧ M.W T2 H ∧ T2 D = some (.dK ws) ∧ S2 D = none ∧ ws.length ≤ ((List.range i).filter p).length ∧ DAll E key ((List.range i).filter p) S2 ws, ⟨n, by omega, by omega, S1, _, [], Step.tmp st1.st nT, M.new w1 nD, upd_same, nS, by simp, by simpa using DAll.nil⟩, ?_⟩
  rintro i m H2 ⟨rfl, hin, S2, T2, ws, st2, w2, hD, hS, hl, hp⟩
  have sH : Same S1 H2 := (st2.ss.trans st2.st).trans (M.sub w2)
  by_cases hlt : i < n
  · refine .inr ⟨wk.go i H2 sH hlt, fun H' => ∃ S2 T2 ws, Step S1 T1 S2 T2 ∧ M.W T2 H' ∧ T2 D = some (.dK ws) ∧ S2 D = none ∧ ws.length ≤ ((List.range (i + 1)).filter p).length ∧ DAll E key ((List.range (i + 1)).filter p) S2 ws, fun H' h => ⟨n - (i + 1), by omega, rfl, hlt, h⟩, fun x H' y => ?_⟩
    obtain ⟨e, hx⟩ := wk.yl i H2 x H' sH hlt y
    subst e
    obtain ⟨σ', hg, hw, ht, he⟩ := hb i S2 x hlt (st1.ss.trans st2.ss) (hI _ _ _ _ st2.ss hx)
    refine hg _ (st2.st.trans (M.sub w2)) _ ⟨hw, ht T2 _ w2 st2.st _ fun S3 T3 H3 st3 w3 => ?_⟩
    have er : List.range (i + 1) = List.range i ++ [i] := List.range_succ
    cases hpi : p i with
    | false =>
      have e2 : List.filter p [i] = [] := by simp [hpi]
      refine iteF ⟨S3, T3, ws, st2.trans st3, w3, st3.tt _ _ hD, st3.nw D (by rw [hD]; simp) hS, ?_, ?_⟩
      · rw [er, List.filter_append, e2, List.append_nil]; exact hl
      · rw [er, List.filter_append, e2, List.append_nil]; exact hp.mono hE st3.ss
    | true =>
      have e2 : List.filter p [i] = [i] := by simp [hpi]
      refine iteT (((he hpi).1.mono (fun _ _ _ _ h => h) st3.ss) T3 H3 w3 st3.st _ fun S4 T4 H4 y st4 w4 pe => ((he hpi).2.mono (hE i) (st3.ss.trans st4.ss)) T4 H4 w4 st4.st _ fun S5 T5 H5 z st5 w5 pz => ?_)
      have h34 := (st3.trans st4).trans st5
      have hD4 : T5 D = some (.dK ws) := h34.tt _ _ hD
      have hS4 : S5 D = none := h34.nw D (by rw [hD]; simp) hS
      have hl2 : ws.length ≤ i := Nat.le_trans hl (Nat.le_trans (List.length_filter_le _ _) (by simp))
      refine ⟨ws, key i, pe, (M.sub w5) _ _ hD4, by omega, S5, _, putK ws (key i) z, (st2.trans h34).set nT hS4, M.set w5 hD4, upd_same, hS4, ?_, ?_⟩
      · rw [er, List.filter_append, e2, List.length_append]
        have := length_putK ws (key i) z
        show _ ≤ _ + 1
        omega
      · rw [er, List.filter_append, e2]
        exact (hp.mono hE h34.ss).put pz
  · have e : i = n := by omega
    subst e
    refine .inl ⟨wk.st i H2 sH (Nat.le_refl _), q _ T2 H2 (.ref D) (st1.trans (st2.freeze nT hD)) w2 ⟨D, ws, rfl, .inl upd_same, hl, hp.mono hE (same_new hS)⟩⟩
theorem dlast_map {ι κ : Type} {key : κ → Key} {f : ι → κ} {xs : List ι} {k : Key} : dlast key (xs.map f) k = (dlast (fun i => key (f i)) xs k).map f := by
  unfold dlast
  rw [← List.map_reverse, List.find?_map]
  rfl
theorem DctOf.of {ι κ : Type} {E : κ → Hp → V → Prop} {key : κ → Key} {f : ι → κ} {xs : List ι} (h : DctOf (fun i => E (f i)) (fun i => key (f i)) xs S v) : DctOf E key (xs.map f) S v := by
  obtain ⟨a, kvs, h1, h2, h3, h4⟩ := h
  refine ⟨a, kvs, h1, h2, by rw [List.length_map]; exact h3, fun k => ?_⟩
  rw [dlast_map]
  have := h4 k
  cases e1 : dlast (fun i => key (f i)) xs k with
  | none =>
    rw [e1] at this
    generalize valV kvs k = o at this
    cases this
    exact .no
  | some j =>
    rw [e1] at this
    generalize valV kvs k = o at this
    cases this with
    | yes q => exact .yes q
/-- {key(x): f(x) for a, b, c in xs} -/
theorem ev_dc3 {tt : TT} {i j k : Nat} {xs : List (T3 α β γ)} {p : T3 α β γ → Bool} {E : T3 α β γ → Hp → V → Prop} {key : T3 α β γ → Key} (hE : ∀ x, Mono (E x)) (hij : i ≠ j) (hik : i ≠ k) (hjk : j ≠ k) (hl : EvI M (iSeq K tl) σ S xs.length (Itm K xs)) (hz : xs.length ≤ sizeLine)
    (hb : ∀ S1 a b c x, x ∈ xs → Same S S1 → Is K x.a S1 a → Is K x.b S1 b → Is K x.c S1 c → EvT M tt ((((wipe σ [i, j, k]).set i (some a)).set j (some b)).set k (some c)) S1 (p x) ∧ (p x = true → Ev M tk ((((wipe σ [i, j, k]).set i (some a)).set j (some b)).set k (some c)) S1 (fun _ v => v = kV (key x)) ∧ Ev M tv ((((wipe σ [i, j, k]).set i (some a)).set j (some b)).set k (some c)) S1 (E x))) :
    Ev M (tDc (iSeq K tl) (gTup K 3 (gCons (gName i) (gCons (gName j) (gCons (gName k) gNil)))) tt tk tv [i, j, k]) σ S (DctOf E key (xs.filter p)) := by
  cases xs with
  | nil =>
    refine (ev_dc (E := fun _ _ _ => False) (key := fun _ => .inl 0) (p := fun _ => false) hl itm_mono (fun i S S' v _ h => h) hz (fun i S1 v hi => absurd hi (Nat.not_lt_zero _))).imp fun S' v e h => ?_
    obtain ⟨a, kvs, h1, h2, h3, h4⟩ := h
    have e0 : kvs = [] := List.length_eq_zero_iff.mp (Nat.le_zero.mp h3)
    subst e0
    exact ⟨a, [], h1, h2, by simp, DAll.nil⟩
  | cons d r =>
    generalize hxs : d :: r = xs at *
    refine (ev_dc (E := fun n => E (xs.getD n d)) (key := fun n => key (xs.getD n d)) (p := fun i => p (xs.getD i d)) hl itm_mono (fun i => hE _) hz fun n S1 v hi e ⟨x, h1, h2⟩ => ?_).imp fun S' v e h => ?_
    · have ex : xs.getD n d = x := by rw [List.getD_eq_getElem?_getD, h1]; rfl
      obtain ⟨q, a, b, c, rfl, h3, ha, hb', hc⟩ := h2.t3
      obtain ⟨r1, r2⟩ := hb S1 a b c x (List.mem_of_getElem? h1) e ha hb' hc
      exact ⟨_, fun H s Q q' => ⟨q, _, rfl, Same.tup s h3, rfl, a, _, rfl, b, _, rfl, c, _, rfl, rfl, q'⟩, wipe3 hij hik hjk, by rw [ex]; exact r1, by rw [ex]; exact r2⟩
    · have := DctOf.of (E := E) (key := key) (f := fun n => xs.getD n d) h
      have e2 : ((List.range xs.length).filter fun i => p (xs.getD i d)).map (fun i => xs.getD i d) = xs.filter p := by
        have := range_filter_map (xs := xs) (p := p) (f := fun x => x) d
        simpa using this
      rw [← e2]
      exact this
/-- d.get(k, z) -/
theorem ev_dget2 {ι : Type} {E : ι → Hp → V → Prop} {key : ι → Key} {xs : List ι} {k : Key} (hE : ∀ i, Mono (E i)) (hP : Mono P) (hd : Ev M td σ S (DctOf E key xs)) (hy : Ev M ty σ S (fun _ v => v = kV k)) (hx : Ev M tx σ S P) : Ev M (tDGet2 td ty tx) σ S (match dlast key xs k with | some i => E i | none => P) := fun T H w s Q q =>
  hd T H w s _ fun S1 T1 H1 v st1 w1 ⟨a, kvs, e1, h2, h3, h4⟩ => ⟨a, e1, .inl ⟨kvs, Same.rd (st1.st.trans (M.sub w1)) h2⟩, (hy.mono (fun _ _ _ _ h => h) st1.ss) T1 H1 w1 st1.st _ fun S2 T2 H2 y st2 w2 ey => (hx.mono hP (st1.ss.trans st2.ss)) T2 H2 w2 st2.st _ fun S3 T3 H3 z st3 w3 pz => by
    have st := (st1.trans st2).trans st3
    refine ⟨_, .inl ⟨kvs, k, Same.rd ((st2.ss.trans st3.ss).trans (st3.st.trans (M.sub w3))) h2, ey, rfl⟩, q S3 T3 H3 _ st w3 ?_⟩
    have h5 := (h4.mono hE (st2.ss.trans st3.ss)) k
    cases e : dlast key xs k with
    | none =>
      rw [e] at h5
      generalize valV kvs k = o at h5
      cases h5
      exact pz
    | some j =>
      rw [e] at h5
      generalize valV kvs k = o at h5
      cases h5 with
      | yes q => exact q⟩
/-- d[k] -/
theorem ev_dget {ι : Type} {E : ι → Hp → V → Prop} {key : ι → Key} {xs : List ι} {k : Key} {i : ι} (hE : ∀ i, Mono (E i)) (hi : dlast key xs k = some i) (hd : Ev M td σ S (DctOf E key xs)) (hy : Ev M ty σ S (fun _ v => v = kV k)) : Ev M (tDGet td ty) σ S (E i) := fun T H w s Q q =>
  hd T H w s _ fun S1 T1 H1 v st1 w1 ⟨a, kvs, e1, h2, h3, h4⟩ => (hy.mono (fun _ _ _ _ h => h) st1.ss) T1 H1 w1 st1.st _ fun S2 T2 H2 y st2 w2 ey => by
    have h5 := (h4.mono hE st2.ss) k
    rw [hi] at h5
    cases hv : valV kvs k with
    | none => rw [hv] at h5; cases h5
    | some u =>
      rw [hv] at h5
      cases h5 with
      | yes z => exact ⟨a, u, e1, .inl ⟨kvs, k, Same.rd (st2.ss.trans (st2.st.trans (M.sub w2))) h2, ey, hv.symm⟩, q S2 T2 H2 u (st1.trans st2) w2 z⟩
/-! what is settled is what is known: for one expression -/
theorem Step.keep {S T S' T' : Hp} (s : Same S T) (h : Step T T S' T') : Step S T S T' := ⟨Same.refl _, s.trans h.tt, h.tt, fun _ _ h => h⟩
section
variable {δ' : Type} {P3 : Hp → V → Prop} {pre : δ' → Hp → List V → Prop} {post : δ' → Hp → V → Prop} {X : XK}
theorem ev_cl1 (d : δ') (m1 : Mono P1) (ha : Ev M ta σ S P1) (hp : ∀ S a, P1 S a → pre d S [a]) : Ev M (tCl (SpP pre post) X (tCons ta tNil)) σ S (post d) :=
  ev_cl d fun T H w s Q q => (eva_1 m1 ha) T H w s Q fun S' T' H' vs st w' ⟨a, e, h1⟩ => q S' T' H' vs st w' (by rw [e]; exact hp _ _ h1)
theorem ev_cl2 (d : δ') (m1 : Mono P1) (m2 : Mono P2) (ha : Ev M ta σ S P1) (hb : Ev M tb σ S P2) (hp : ∀ S a b, P1 S a → P2 S b → pre d S [a, b]) : Ev M (tCl (SpP pre post) X (tCons ta (tCons tb tNil))) σ S (post d) :=
  ev_cl d fun T H w s Q q => (eva_2 m1 m2 ha hb) T H w s Q fun S' T' H' vs st w' ⟨a, b, e, h1, h2⟩ => q S' T' H' vs st w' (by rw [e]; exact hp _ _ _ h1 h2)
theorem ev_cl3 (d : δ') (m1 : Mono P1) (m2 : Mono P2) (m3 : Mono P3) (ha : Ev M ta σ S P1) (hb : Ev M tb σ S P2) (hc : Ev M tc σ S P3) (hp : ∀ S a b c, P1 S a → P2 S b → P3 S c → pre d S [a, b, c]) : Ev M (tCl (SpP pre post) X (tCons ta (tCons tb (tCons tc tNil)))) σ S (post d) :=
  ev_cl d fun T H w s Q q => (eva_3 m1 m2 m3 ha hb hc) T H w s Q fun S' T' H' vs st w' ⟨a, b, c, e, h1, h2, h3⟩ => q S' T' H' vs st w' (by rw [e]; exact hp _ _ _ _ h1 h2 h3)
theorem ev_stat3 {C : Addr} (d : δ') (m1 : Mono P1) (m2 : Mono P2) (m3 : Mono P3) (ha : Ev M ta σ S P1) (hb : Ev M tb σ S P2) (hc : Ev M tc σ S P3) (hp : ∀ S a b c, P1 S a → P2 S b → P3 S c → pre d S [a, b, c]) : Ev M (tStat C (SpP pre post) X (tC (.ref C)) (tCons ta (tCons tb (tCons tc tNil)))) σ S (post d) :=
  ev_stat d fun T H w s Q q => (eva_3 m1 m2 m3 ha hb hc) T H w s Q fun S' T' H' vs st w' ⟨a, b, c, e, h1, h2, h3⟩ => q S' T' H' vs st w' (by rw [e]; exact hp _ _ _ _ h1 h2 h3)
theorem ev_clW1 {p : Addr} {i : Nat} (d : δ') (m1 : Mono P1) (hi : σ[i]? = some (some (.ref p))) (ha : Ev (PW p) ta σ S P1) (hp : ∀ S a, P1 S a → pre d S [a]) : Ev (PW p) (tCl (SpW pre post) X (tCons (tVar i) (tCons ta tNil))) σ S (post d) :=
  ev_callW d hi fun T H w s Q q => (eva_1 m1 ha) T H w s Q fun S' T' H' vs st w' ⟨a, e, h1⟩ => q S' T' H' vs st w' (by rw [e]; exact hp _ _ h1)
theorem ev_clW2 {p : Addr} {i : Nat} (d : δ') (m1 : Mono P1) (m2 : Mono P2) (hi : σ[i]? = some (some (.ref p))) (ha : Ev (PW p) ta σ S P1) (hb : Ev (PW p) tb σ S P2) (hp : ∀ S a b, P1 S a → P2 S b → pre d S [a, b]) : Ev (PW p) (tCl (SpW pre post) X (tCons (tVar i) (tCons ta (tCons tb tNil)))) σ S (post d) :=
  ev_callW d hi fun T H w s Q q => (eva_2 m1 m2 ha hb) T H w s Q fun S' T' H' vs st w' ⟨a, b, e, h1, h2⟩ => q S' T' H' vs st w' (by rw [e]; exact hp _ _ _ h1 h2)
end
/-- a sign -/
theorem ev_kS {z : Str} (h : Ev M te σ S (Is K z)) : Ev M te σ S (fun _ v => v = kV (.inr z)) := h.imp fun _ _ _ h => h.str
theorem ev_kI {z : Int} (h : Ev M te σ S (Is K z)) : Ev M te σ S (fun _ v => v = kV (.inl z)) := h.imp fun _ _ _ h => h.int
/-- x[-1] -/
theorem ev_lastT {xs : List α} {a : α} (ha : Ev M ta σ S (Is K (Tup.mk xs))) (h : xs.getLast? = some a) : Ev M (tOp (rIx K) ta (tUn rNegA (tC (.int 1)))) σ S (Is K a) := fun T H w s Q q =>
  ha T H w s _ fun S1 T1 H1 v st w1 pp => by
    obtain ⟨p, vs, rfl, h1, h2⟩ := pp.tup
    have hl := h2.len
    have hl : vs.length = xs.length := hl
    have hne : xs.length ≠ 0 := fun e => by rw [List.length_eq_zero_iff.mp e] at h; cases h
    have h3 : xs[xs.length - 1]? = some a := by rw [← List.getLast?_eq_getElem?]; exact h
    obtain ⟨u, h4, h5⟩ := h2.at_ h3
    refine ⟨1, rfl, .inr (.inl ⟨p, vs, -1, u, rfl, rfl, Same.tup (st.st.trans (M.sub w1)) h1, ?_, q S1 T1 H1 _ st w1 h5⟩)⟩
    unfold atI
    have e1 : ixN vs.length (-1) = some (xs.length - 1) := by
      unfold ixN
      rw [if_neg (by decide), if_pos (by omega), hl]
      congr 1
      omega
    rw [e1]
    exact h4
end
end Fm

/-! ## Loops that gather; draws -/
namespace Fm
open PySem PySem.Spec PyProof.Rows L2
open PySem.W (Datum Tup T3 T4)
section
variable {M : Wld} {K : PySem.W.Frag} {σ : L2.St} {S T H S0 T0 : Hp} {P P1 P2 : Hp → V → Prop} {ta tb te tc td tk tv tl ty tx : TE} {v x y : V} {α β γ δ : Type} [DecidableEq α] [Datum α] [DecidableEq β] [Datum β] [DecidableEq γ] [Datum γ] [DecidableEq δ] [Datum δ]
/-- a loop; what it gathers may have been made since S0, T0 -/
theorem for_accX {wi : TI} {g : TG} {tb : TS} {D : Ends} {B : Nat → Prop} {I : Hp → Nat → V → Prop} (hi : ∀ R : It → Hp → Prop, (∀ S1 T1 H1 n J, Step S T S1 T1 → M.W T1 H1 → B n → Walks J S1 n (I S1) → R J H1) → wi σ H R) (hI : MonoI I) (s0 : Step S0 T0 S T) (J : Nat → L2.St → Hp → Hp → Prop)
    (h0 : ∀ S1 T1, Step S T S1 T1 → J 0 σ S1 T1)
    (hs : ∀ n i v σ2 S2 T2 H2, B n → i < n → Step S0 T0 S2 T2 → Same S S2 → M.W T2 H2 → J i σ2 S2 T2 → I S2 i v →
      g v σ2 H2 fun σ3 H3 => tb { D with nx := fun σ' H' => ∃ S' T', Step S0 T0 S' T' ∧ M.W T' H' ∧ Same S2 S' ∧ J (i + 1) σ' S' T', ct := fun σ' H' => ∃ S' T', Step S0 T0 S' T' ∧ M.W T' H' ∧ Same S2 S' ∧ J (i + 1) σ' S' T', bk := D.nx } σ3 H3)
    (hd : ∀ n σ2 S2 T2 H2, B n → Step S0 T0 S2 T2 → Same S S2 → M.W T2 H2 → J n σ2 S2 T2 → D.nx σ2 H2) : tFor wi g tb D σ H := hi _ fun S1 T1 H1 n J1 st1 w1 hB wk => by
  refine ⟨fun i m σ H => m = n - i ∧ i ≤ n ∧ ∃ S2 T2, Step S0 T0 S2 T2 ∧ Same S1 S2 ∧ M.W T2 H ∧ J i σ S2 T2, ⟨n, by omega, by omega, S1, T1, s0.trans st1, Same.refl _, w1, h0 S1 T1 st1⟩, ?_⟩
  rintro i m σ2 H2 ⟨rfl, hin, S2, T2, st2, e2, w2, hJ⟩
  have sH : Same S1 H2 := (e2.trans st2.st).trans (M.sub w2)
  by_cases hlt : i < n
  · refine .inr ⟨wk.go i H2 sH hlt, fun σ' H' => ∃ S' T', Step S0 T0 S' T' ∧ M.W T' H' ∧ Same S2 S' ∧ J (i + 1) σ' S' T', fun σ' H' ⟨S', T', a, b, c, d⟩ => ⟨n - (i + 1), by omega, rfl, hlt, S', T', a, e2.trans c, b, d⟩, fun x H' y => ?_⟩
    obtain ⟨e, hx⟩ := wk.yl i H2 x H' sH hlt y
    subst e
    exact hs n i x σ2 S2 T2 _ hB hlt st2 (st1.ss.trans e2) w2 hJ (hI _ _ _ _ e2 hx)
  · have e : i = n := by omega
    subst e
    exact .inl ⟨wk.st i H2 sH (Nat.le_refl _), hd i σ2 S2 T2 H2 hB st2 (st1.ss.trans e2) w2 hJ⟩
theorem for_acc {wi : TI} {g : TG} {tb : TS} {D : Ends} {n : Nat} {I : Hp → Nat → V → Prop} (hi : EvI M wi σ S n I) (hI : MonoI I) (w : M.W T H) (s0 : Step S0 T0 S T) (J : Nat → L2.St → Hp → Hp → Prop)
    (h0 : ∀ S1 T1, Step S T S1 T1 → J 0 σ S1 T1)
    (hs : ∀ i v σ2 S2 T2 H2, i < n → Step S0 T0 S2 T2 → Same S S2 → M.W T2 H2 → J i σ2 S2 T2 → I S2 i v →
      g v σ2 H2 fun σ3 H3 => tb { D with nx := fun σ' H' => ∃ S' T', Step S0 T0 S' T' ∧ M.W T' H' ∧ Same S2 S' ∧ J (i + 1) σ' S' T', ct := fun σ' H' => ∃ S' T', Step S0 T0 S' T' ∧ M.W T' H' ∧ Same S2 S' ∧ J (i + 1) σ' S' T', bk := D.nx } σ3 H3)
    (hd : ∀ σ2 S2 T2 H2, Step S0 T0 S2 T2 → Same S S2 → M.W T2 H2 → J n σ2 S2 T2 → D.nx σ2 H2) : tFor wi g tb D σ H :=
  for_accX (B := (· = n)) (I := I) (fun R q => hi T H w s0.st R fun S1 T1 H1 J st w1 wk => q S1 T1 H1 n J st w1 rfl wk) hI s0 J h0 (fun m i v σ2 S2 T2 H2 e hlt => hs i v σ2 S2 T2 H2 (e ▸ hlt)) (fun m σ2 S2 T2 H2 e st ss w hJ => hd σ2 S2 T2 H2 st ss w (e ▸ hJ))
/-- the items of a list, each known to be some datum -/
theorem lstOf_ex {ι : Type} {E : ι → Hp → V → Prop} {R : ι → α → Prop} {xs : List ι} (h : LstOf E xs S v) (hE : ∀ i ∈ xs, ∀ w, E i S w → ∃ y, R i y ∧ Is K y S w) : ∃ ys : List α, Is K ys S v ∧ Paired R xs ys := by
  obtain ⟨a, ws, rfl, h1, h2⟩ := h
  have g : ∀ {xs : List ι} {ws : List V}, Paired (fun i w => E i S w) xs ws → (∀ i ∈ xs, ∀ w, E i S w → ∃ y, R i y ∧ Is K y S w) → ∃ ys : List α, IsAll K ys S ws ∧ Paired R xs ys := by
    intro xs ws hp
    induction hp with
    | nil => intro _; exact ⟨[], .nil, .nil⟩
    | cons hh t ih =>
      intro hE
      obtain ⟨ys, q1, q2⟩ := ih fun i hi => hE i (List.mem_cons_of_mem _ hi)
      obtain ⟨y, r1, r2⟩ := hE _ (List.mem_cons_self ..) _ hh
      exact ⟨y :: ys, .cons r2 q1, .cons r1 q2⟩
  obtain ⟨ys, q1, q2⟩ := g h2 hE
  exact ⟨ys, is_lst h1 q1, q2⟩
theorem rv_of {r : R2} (h : Ev M (tOp r (tC x) (tC y)) [] S P) : Rv M (r x y) S P := h
/-- a number from 0 on, less than n -/
def Dr (n : Int) : Hp → V → Prop := fun _ v => ∃ r, v = .int r ∧ 0 ≤ r ∧ r < n
theorem dr_mono {n : Int} : Mono (Dr n) := fun _ _ _ _ h => h
/-- l.append(x), x worked out while all that is known is settled -/
theorem ev_app {l : Addr} {j : Nat} {vs : List V} {Q : VK} (hj : σ[j]? = some (some (.ref l))) (w : M.W T H) (s : Same S T) (hl : T l = some (.lst vs)) (hz : vs.length < sizeLine) (he : Ev M te σ T P) (q : ∀ S' T' H' v, Step T T S' T' → M.W T' H' → P S' v → M.W (upd T' l (.lst (vs ++ [v]))) (upd H' l (.lst (vs ++ [v]))) → Q .non (upd H' l (.lst (vs ++ [v])))) : tBM K "list" rAppend (tVar j) (tCons te tNil) σ H Q :=
  ⟨.ref l, hj, .inl ⟨rfl, vs, .inl (.inl ((M.sub w) _ _ hl))⟩, he T H w (Same.refl _) _ fun S' T' H' v st w' p => ⟨l, vs, v, rfl, rfl, (M.sub w') _ _ (st.tt _ _ hl), hz, q S' T' H' v st w' p (M.set w' (st.tt _ _ hl))⟩⟩
/-- l.append(x), x among what is settled -/
theorem ev_app' {l : Addr} {j : Nat} {vs : List V} {Q : VK} (hj : σ[j]? = some (some (.ref l))) (w : M.W T H) (s : Same S T) (hl : T l = some (.lst vs)) (hz : vs.length < sizeLine) (he : Ev M te σ S P) (q : ∀ S' T' H' v, Step S T S' T' → M.W T' H' → P S' v → M.W (upd T' l (.lst (vs ++ [v]))) (upd H' l (.lst (vs ++ [v]))) → Q .non (upd H' l (.lst (vs ++ [v])))) : tBM K "list" rAppend (tVar j) (tCons te tNil) σ H Q :=
  ⟨.ref l, hj, .inl ⟨rfl, vs, .inl (.inl ((M.sub w) _ _ hl))⟩, he T H w s _ fun S' T' H' v st w' p => ⟨l, vs, v, rfl, rfl, (M.sub w') _ _ (st.tt _ _ hl), hz, q S' T' H' v st w' p (M.set w' (st.tt _ _ hl))⟩⟩
theorem ev_keep {s : Same S T} {Q : VK} (w : M.W T H) (he : Ev M te σ T P) (q : ∀ S' T' H' v, Step T T S' T' → Step S T S T' → M.W T' H' → P S' v → Q v H') : te σ H Q := he T H w (Same.refl _) Q fun S' T' H' v st w' p => q S' T' H' v st (Step.keep s st) w' p
/-- x = [] -/
theorem q_nil {D : Ends} {i : Nat} (w : M.W T H) (s : Step S0 T0 S T) (q : ∀ l, T l = none → Step S0 T0 S (upd T l (.lst [])) → S l = none → M.W (upd T l (.lst [])) (upd H l (.lst [])) → D.nx (σ.set i (some (.ref l))) (upd H l (.lst []))) : tAsg (tLst tNil) (gName i) D σ H :=
  ⟨small_size (by simp), fun p np => by
    have nt := (M.sub w).free np
    exact q p nt (s.trans (Step.tmp s.st nt)) (s.st.free nt) (M.new w np)⟩
/-- x = {} -/
theorem q_dct {D : Ends} {i : Nat} (w : M.W T H) (s : Step S0 T0 S T) (q : ∀ l, T l = none → Step S0 T0 S (upd T l (.dK [])) → S l = none → M.W (upd T l (.dK [])) (upd H l (.dK [])) → D.nx (σ.set i (some (.ref l))) (upd H l (.dK []))) : tAsg tDNewK (gName i) D σ H :=
  fun p np => by
    have nt := (M.sub w).free np
    exact q p nt (s.trans (Step.tmp s.st nt)) (s.st.free nt) (M.new w np)
theorem Paired.len {ι κ : Type} {R : ι → κ → Prop} {xs : List ι} {ys : List κ} (h : Paired R xs ys) : ys.length = xs.length := (Paired.length h).symm
theorem Paired.all {ι κ : Type} {R : ι → κ → Prop} {F : κ → Prop} {xs : List ι} {ys : List κ} (h : Paired R xs ys) (hF : ∀ i y, R i y → F y) : ∀ y ∈ ys, F y := by
  induction h with
  | nil => intro y hy; exact nomatch hy
  | cons hh t ih =>
    intro y hy
    rcases List.mem_cons.mp hy with e | hy
    · rw [e]; exact hF _ _ hh
    · exact ih y hy
/-- more that are different do not fit into fewer -/
theorem nodup_le {α : Type} [DecidableEq α] : ∀ {xs ys : List α}, xs.Nodup → (∀ x ∈ xs, x ∈ ys) → xs.length ≤ ys.length
  | [], _, _, _ => Nat.zero_le _
  | x :: xs, ys, hn, h => by
    have hx := h x (List.mem_cons_self ..)
    have hn' := List.nodup_cons.mp hn
    have := nodup_le (xs := xs) (ys := ys.erase x) hn'.2 fun z hz => (List.mem_erase_of_ne (fun e => hn'.1 (by rw [← e]; exact hz))).mpr (h z (List.mem_cons_of_mem _ hz))
    rw [List.length_erase_of_mem hx] at this
    have : 0 < ys.length := List.length_pos_of_mem hx
    rw [List.length_cons]
    omega
theorem evi_rangeP {te : TE} {n : Int} (h : Ev M te σ S (Dr n)) (hn : n < 2 ^ 62) {R : It → Hp → Prop} (w : M.W T H) (s : Same S T) (q : ∀ S' T' H' (k : Nat) J, Step S T S' T' → M.W T' H' → (k : Int) < n → Walks J S' k (fun i v => v = .int i) → R J H') : iRng1 (tCons te tNil) σ H R := h T H w s _ fun S1 T1 H1 v st w1 ⟨r, e, h0, h1⟩ =>
  ⟨r, by rw [e], by omega, by omega, q S1 T1 H1 r.toNat _ st w1 (by omega) (walks_range.imp fun i x _ e => by rw [e]; simp)⟩
/-- a test whose answer is not known -/
theorem q_ifX {D : Ends} {t u : TS} (h : Ev M te σ S (fun _ v => ∃ b, v = .bl b)) (w : M.W T H) (s : Same S T) (h1 : ∀ S' T' H', Step S T S' T' → M.W T' H' → t D σ H') (h2 : ∀ S' T' H', Step S T S' T' → M.W T' H' → u D σ H') : tIfS (tTest te) t u D σ H := h T H w s _ fun S' T' H' v st w' ⟨b, e⟩ => ⟨b, e, by
  cases b with
  | true => exact iteT (h1 S' T' H' st w')
  | false => exact iteF (h2 S' T' H' st w')⟩
theorem dr_eq {n c : Int} (ha : Ev M ta σ S (Dr n)) : Ev M (tOp (rEqP K) ta (tC (.int c))) σ S (fun _ v => ∃ b, v = .bl b) :=
  ev_op dr_mono ha (fun _ _ => ev_ic (K := K) (z := c)) fun S2 x y _ ⟨r, e, h0, h1⟩ hy => rv_of ((ev_eq (K := K) (a := r) (ev_c (by rw [e]; exact is_int)) (ev_c hy)).imp fun _ v _ h => ⟨_, h.bl⟩)
theorem dr_gt (K : PySem.W.Frag) {n c : Int} (ha : Ev M ta σ S (Dr n)) : Ev M (tOp rGtA ta (tC (.int c))) σ S (fun _ v => ∃ b, v = .bl b) :=
  ev_op dr_mono ha (fun _ _ => ev_ic (K := K) (z := c)) fun S2 x y _ ⟨r, e, h0, h1⟩ hy => rv_of ((ev_gt (K := K) (i := r) (ev_c (by rw [e]; exact is_int)) (ev_c hy)).imp fun _ v _ h => ⟨_, h.bl⟩)
/-- c + a draw -/
theorem dr_add (K : PySem.W.Frag) {n c : Int} (ha : Ev M ta σ S (Dr n)) : Ev M (tOp rAddA (tC (.int c)) ta) σ S (fun _ v => ∃ r, v = .int r ∧ c ≤ r ∧ r < c + n) :=
  ev_op (P1 := Is K c) is_mono ev_ic (fun S2 e => ha.mono dr_mono e) fun S2 x y _ hx ⟨r, e, h0, h1⟩ => rv_of ((ev_add (K := K) (i := c) (j := r) (ev_c hx) (ev_c (by rw [e]; exact is_int))).imp fun _ v _ hv => ⟨_, hv.int, by omega, by omega⟩)
/-- an item at a place that is not known -/
theorem ev_ixE {xs : List α} {lo hi : Int} (ha : Ev M ta σ S (Is K xs)) (hb : Ev M tb σ S (fun _ v => ∃ r, v = .int r ∧ lo ≤ r ∧ r < hi)) (h0 : 0 ≤ lo) (h1 : hi ≤ xs.length) : Ev M (tOp (rIx K) ta tb) σ S (fun S v => ∃ x, x ∈ xs ∧ Is K x S v) :=
  ev_op is_mono ha (fun S2 e => hb.mono (fun _ _ _ _ h => h) e) fun S2 x y _ hx ⟨r, e, h2, h3⟩ => by
    have hlt : r.toNat < xs.length := by omega
    exact rv_of ((ev_ix (K := K) (i := r.toNat) (j := r) (ev_c hx) (ev_c (by rw [e]; exact is_int)) (by omega) (List.getElem?_eq_getElem hlt)).imp fun _ v _ hv => ⟨_, List.getElem_mem hlt, hv⟩)
/-- the first place of what is in a list -/
theorem first_at {α : Type} [DecidableEq α] {z : α} : ∀ {xs : List α}, z ∈ xs → ∃ j : Nat, xs[j]? = some z ∧ ∀ (m : Nat) (y : α), m < j → xs[m]? = some y → y ≠ z
  | [], h => nomatch h
  | x :: xs, h => by
    by_cases e : x = z
    · exact ⟨0, by rw [e]; rfl, fun m y hm => absurd hm (Nat.not_lt_zero _)⟩
    · obtain ⟨j, h1, h2⟩ := first_at (xs := xs) (by
        rcases List.mem_cons.mp h with q | q
        · exact absurd q.symm e
        · exact q)
      refine ⟨j + 1, by simpa using h1, fun m y hm hy => ?_⟩
      cases m with
      | zero =>
        have : x = y := by simpa using hy
        rw [← this]; exact e
      | succ m => exact h2 m y (by omega) (by simpa using hy)
theorem ev_index {ws : List Str} {z : Str} (ha : Ev M ta σ S (Is K ws)) (hb : Ev M tb σ S (Is K z)) (hz : z ∈ ws) : Ev M (tBM K "list" (rIndex K) ta (tCons tb tNil)) σ S (fun _ v => ∃ j : Nat, v = .int j) := fun T H w s Q q =>
  ha T H w s _ fun S1 T1 H1 x st1 w1 p1 => by
    obtain ⟨a, vs, rfl, h1, h2⟩ := p1.lst
    have e := h2.strs
    subst e
    refine ⟨.inl ⟨rfl, _, .inl (Same.rd (st1.st.trans (M.sub w1)) h1)⟩, (hb.mono is_mono st1.ss) T1 H1 w1 st1.st _ fun S2 T2 H2 y st2 w2 p2 => ?_⟩
    obtain ⟨j, hj, hm⟩ := first_at hz
    rw [p2.str]
    refine ⟨a, ws.map V.str, .str z, j, .str z, rfl, rfl, .inl (Same.rd ((st2.ss.trans st2.st).trans (M.sub w2)) h1), rfl, ?_, by rw [List.getElem?_map, hj]; rfl, by show (z == z) = true; simp, fun m z' hlt hz' => ?_, q S2 T2 H2 _ (st1.trans st2) w2 ⟨j, rfl⟩⟩
    · rw [List.all_map, List.all_eq_true]
      intro _ _; rfl
    · rw [List.getElem?_map] at hz'
      cases hy : ws[m]? with
      | none => rw [hy] at hz'; cases hz'
      | some u =>
        rw [hy] at hz'
        cases hz'
        show (u == z) = false
        simpa using hm m u hlt hy
/-- [e(x) for x in xs], objects -/
theorem ev_compO {tt : TT} {i0 : Nat} {xs : List α} {p : α → Bool} {E : α → Hp → V → Prop} (hE : ∀ x, Mono (E x)) (hl : EvI M (iSeq K tl) σ S xs.length (Itm K xs)) (hz : xs.length ≤ sizeLine)
    (hb : ∀ S1 v x, x ∈ xs → Same S S1 → Is K x S1 v → EvT M tt ((σ.set i0 none).set i0 (some v)) S1 (p x) ∧ (p x = true → Ev M te ((σ.set i0 none).set i0 (some v)) S1 (E x))) :
    Ev M (tLc (iSeq K tl) (gName i0) tt te [i0]) σ S (LstOf E (xs.filter p)) := by
  cases xs with
  | nil =>
    refine (ev_lc (E := fun _ _ _ => False) (p := fun _ => false) hl itm_mono (fun i S S' v _ h => h) hz (fun i S1 v hi => absurd hi (Nat.not_lt_zero _))).imp fun S' v e h => ?_
    obtain ⟨a, ws, rfl, h1, h2⟩ := h
    cases h2
    exact ⟨a, [], rfl, h1, .nil⟩
  | cons d r =>
    generalize hxs : d :: r = xs at *
    refine (ev_lc (E := fun i => E (xs.getD i d)) (p := fun i => p (xs.getD i d)) hl itm_mono (fun i => hE _) hz fun i S1 v hi e ⟨x, h1, h2⟩ => ?_).imp fun S' v e h => ?_
    · have ex : xs.getD i d = x := by rw [List.getD_eq_getElem?_getD, h1]; rfl
      obtain ⟨a, b⟩ := hb S1 v x (List.mem_of_getElem? h1) e h2
      exact ⟨_, fun H s Q q => q, wipe1, by rw [ex]; exact a, by rw [ex]; exact b⟩
    · obtain ⟨a, ws, rfl, h1, h2⟩ := h
      have g : ∀ {is : List Nat} {ws : List V}, Paired (fun i w => E (xs.getD i d) S' w) is ws → Paired (fun x w => E x S' w) (is.map fun i => xs.getD i d) ws := by
        intro is ws hp
        induction hp with
        | nil => exact .nil
        | cons hh t ih => exact .cons hh ih
      have e2 : ((List.range xs.length).filter fun i => p (xs.getD i d)).map (fun i => xs.getD i d) = xs.filter p := by
        have := range_filter_map (xs := xs) (p := p) (f := fun x => x) d
        simpa using this
      rw [← e2]
      exact ⟨a, ws, rfl, h1, g h2⟩
theorem Same.sql {S S' : Hp} {a : Addr} {vs : List V} (e : Same S S') (h : SqL K S a vs) : SqL K S' a vs := by
  rcases h with h | h
  · exact .inl (Same.rd e h)
  · exact .inr h
/-- a slice of a list, wherever it stands -/
theorem ev_cutQ {j : Nat} {a : Addr} {vs : List V} {tl th : TO} {lo hi : Option Int} {xs : List α} (hj : σ[j]? = some (some (.ref a))) (h1 : SqL K S a vs) (h2 : IsAll K xs S vs) (hl : EvO M tl σ S lo) (hh : EvO M th σ S hi) : Ev M (tSl (rSlA K) (tVar j) tl th) σ S (Is K (cutL xs lo hi)) := fun T H w s Q q =>
  ⟨.ref a, hj, hl T H w s _ fun S2 T2 H2 st2 w2 => (hh.mono st2.ss) T2 H2 w2 st2.st _ fun S3 T3 H3 st3 w3 => by
    refine .inl ⟨a, vs, rfl, Same.sql ((st2.ss.trans st3.ss).trans (st3.st.trans (M.sub w3))) h1, fun l nl => ?_⟩
    have nt := (M.sub w3).free nl
    exact q _ _ _ _ ((st2.trans st3).trans (Step.new st3.st nt)) (M.new w3 nl) (is_lst (.inl upd_same) ((IsAll.cut (h2.mono (st2.ss.trans st3.ss))).mono (same_new (st3.st.free nt))))⟩
theorem fun_bindsTo {x qual : Str} {st : Stmt} {f : Addr} {fd : FuncData} {ps : List Str} (F : Fun K x qual st f fd)
    (h : ∀ (kV doc pm : Value) (an : Option Addr) (cdv ct : Value) (us : List Value), us.length = ps.length → bindArgs (PySem.W.fnOf x qual (defArgs st) (defBody st) (defScope st) .none kV doc pm an cdv ct) ⟨us, []⟩ = pure (ps.zip us)) (s : Shared) (us : List Value) (hl : us.length = ps.length) : BindsTo s fd ⟨us, []⟩ (ps.zip us) := by
  obtain ⟨oc, od, kV, doc, pm, an, cdv, ct, osl, rfl, lk, hcd⟩ := F.ex
  exact .of_eq (h kV doc pm an cdv ct us hl)
end
end Fm

/-! ## a != y where the class has == alone -/
namespace Fm
open PySem PySem.Spec PyProof.Rows L2
open PySem.W (Datum Tup T3 T4)
section
variable {prog : Program} {w : World} {K : PySem.W.Frag} {x C L f : Addr} {h₀ : Heap} {m : Str → Option Value} {ox : Obj} {od : Option Obj} {s : Shared} {A : Around} {E : Value → Shared → Prop} {b tb : Value}
theorem on_bind (self : Value) : bindSpecial (.builtin "object.__ne__") self = pure (.builtin "object.__ne__", [self]) := PySem.F.cmp_object.ne.bind self
theorem ifBound_ne {M : Model} {args : List Value} {Q : Option Value → Shared → Prop} (X : K.In s.heap) (I : PySem.W.InstAt s.heap x ox C od) (hs : PySem.W.findIn K (.ref C) "__ne__" = some (some (.builtin "object.__ne__")))
    (h : wpAny M A (call (.builtin "object.__ne__") (.ref x :: args)) (fun v => Q (some v)) E s) : wpAny M A (callSpecialIfBound? (.ref x) "__ne__" args) Q E s := by
  simp only [callSpecialIfBound?, bindSpecialIfBound?]
  refine wpAny_holding (wpAny_bind (wpAny_bind (wpAny_bind (I.type.here ((PySem.W.looks_findIn X hs).here ?_)))))
  simp only [on_bind]
  refine wpAny_bind (wpAny_askSetting (wpAny_ite ?_))
  have fin : wpAny M A (call (.builtin "object.__ne__") ([.ref x] ++ args) >>= fun v => pure (some v)) Q E s := wpAny_bind (wpAny_mono h (fun v s' h' => wpAny_pure h') fun _ _ h' => h')
  split
  · exact wpAny_bind (wpAny_pure (wpAny_pure fin))
  · exact wpAny_tryCatch (wpAny_bind (wpAny_pure (wpAny_pure fin)))
theorem ne_entry {Q : Fin → Shared → Prop} (X : K.In s.heap) (I : PySem.W.InstAt s.heap x ox C od) (hu : A.units < cLine) (hs : PySem.W.findIn K (.ref C) "__eq__" = some (some (.ref f))) (hf : PySem.W.isFn K (.ref f) = true)
    (h : wpAny (model prog w) A (call (.ref f) [.ref x, b]) (fun v s' => ∃ k, v = .bool k ∧ Q (.done (.ret (.bool (!k)))) s') E s) : wpAny (model prog w) A (Builtin.«object.__ne__» ⟨[.ref x, b], []⟩) Q E s := by
  unfold Builtin.«object.__ne__»
  repeat (first
    | with_reducible refine wpAny_cRoomFor hu ?_
    | (refine wpAny_bind (m := callSpecialIfBound? (.ref x) (Str.ofString "__eq__") [b])
        (PySem.W.ifBound_K X I hs hf (wpAny_mono h (fun r s' hr => by
          obtain ⟨k, rfl, hq⟩ := hr
          repeat (first | exact hq | exact wpAny_pure hq | exact wpAny_truthy_bool hq | (refine wpAny_bind (m := truthy (.bool _)) (wpAny_truthy_bool ?_)) | wp_step)) fun _ _ e => e)))
    | wp_step)
theorem ne_K {Q : Value → Shared → Prop} (hu : A.units + 1 < cLine) (F : PyProof.Rows.Fr h₀ L s.heap m) (X₀ : K.In h₀) (I : PySem.W.InstAt s.heap x ox C od) (hb : PySem.W.Looks (model prog w) s.heap (typeOf b) tb) (hn : PySem.W.notFirst K C tb = true)
    (hne : PySem.W.findIn K (.ref C) "__ne__" = some (some (.builtin "object.__ne__"))) (hm : PySem.W.mroIn K C (.type "object") = some true)
    (hs : PySem.W.findIn K (.ref C) "__eq__" = some (some (.ref f))) (hf : PySem.W.isFn K (.ref f) = true)
    (h : wpAny (model prog w) A.in1 (call (.ref f) [.ref x, b]) (fun v s' => ∃ k, v = .bool k ∧ Q (.bool (!k)) s') E s) : wpAny (model prog w) A (compareOp .NotEq (.ref x) b) Q E s := by
  have X := X₀.keeps F.keep
  have one : wpAny (model prog w) A (tryCompare (.ref x) "__ne__" b) (fun r s' => ∃ v, r = some v ∧ Q v s') E s := by
    simp only [tryCompare]
    have hi : PySem.W.Looks (model prog w) s.heap (isInstance (.ref x) (.type "object")) true := by
      intro A' Q' E' s' k' q'
      unfold isInstance
      exact wpAny_bind (I.type A' _ E' s' k' ((PySem.W.looks_mroIn X hm) A' Q' E' s' k' q'))
    refine wpAny_bind (ifBound_ne X I hne (wpAny_call (codeAny_call_builtin PySem.F.cmp_object.ne.plain PySem.F.cmpEntry_ne
      (PySem.W.check_slot PySem.F.cmpKind_ne PySem.F.cmpSplit_ne hi (PySem.F.cmpArgs_ne _ _) (ne_entry (A := A.in1) X I hu hs hf (wpAny_mono h (fun v s' hv => ?_) fun _ _ e => e))))))
    obtain ⟨k, rfl, hq⟩ := hv
    first | exact ⟨k, rfl, wpAny_pure ⟨_, rfl, hq⟩⟩ | exact ⟨k, rfl, wpAny_pure (wpAny_pure ⟨_, rfl, hq⟩)⟩
  unfold compareOp richCompare
  simp only [oneThing_ref]
  refine wpAny_holding (wpAny_bind (wpAny_cRoomFor (Nat.lt_of_succ_lt hu) ?_))
  rw [cmpInfo_NotEq]
  dsimp only
  refine wpAny_bind (I.type.here (wpAny_bind (hb.here ?_)))
  split
  · rename_i q
    have e : PySem.W.subIn K tb (.ref C) = some false := by
      rcases Bool.or_eq_true_iff.mp hn with e | e
      · rw [beq_iff_eq.mp e] at q; simp at q
      · exact beq_iff_eq.mp e
    refine wpAny_bind ((PySem.W.looks_subIn X e).here ?_)
    simp only [Bool.false_eq_true, if_false]
    refine wpAny_bind (wpAny_mono one (fun r s' z => ?_) fun _ _ e => e)
    obtain ⟨v, rfl, hq⟩ := z
    exact wpAny_pure hq
  · refine wpAny_bind (wpAny_pure ?_)
    simp only [Bool.false_eq_true, if_false]
    refine wpAny_bind (wpAny_mono one (fun r s' z => ?_) fun _ _ e => e)
    obtain ⟨v, rfl, hq⟩ := z
    exact wpAny_pure hq
end
section
variable {X : Cx} {CX : CXT} {k : Nat} {C f : Addr} {sp : Sp} {E : XK}
def rOwnNe (K : PySem.W.Frag) (C : Addr) (sp : Sp) (E : XK) : R2 := fun x y H Q => ∃ a dx fs t, x = .ref a ∧ H a = some (.ins C dx fs) ∧ TyE K H y t ∧ PySem.W.notFirst K C t = true ∧ sp [x, y] H (fun v H' => ∃ b, v = .bl b ∧ Q (.bl (!b)) H') E
theorem op_neO (hs : Own X.K C "__eq__" f) (hne : PySem.W.findIn X.K (.ref C) "__ne__" = some (some (.builtin "object.__ne__"))) (hm : ClsX X.K C) (F : FnR X.prog X.w X.K X.mg X.base CX k f sp) (hr : Room (k + 1) X.A) (hx : Passes CX X E) : OpR X (compareOp .NotEq) (rOwnNe X.K C sp E) := by
  intro pins s σ H x y v u Q I rx ry h
  obtain ⟨a, dx, fs, t, rfl, ha, hy, hn, q⟩ := h
  obtain rfl : v = Value.ref a := rx
  obtain ⟨ox, od, J⟩ := inst_at I ha
  obtain ⟨m, Fr⟩ := I.fr
  refine ne_K (hr.in1.units0) Fr I.mod.kin J (ty_looks I ry hy) hn hne hm.hm hs.at_ hs.fn ?_
  refine thn (wpAny_call (in1_run F hr hx I (vals2 (x := V.ref a) rfl ry) q)) fun r s1 hq => ?_
  obtain ⟨z, H', I', rz, b, rfl, qz⟩ := hq
  cases rz
  exact ⟨b, rfl, ⟨.bl (!b), H', I', rfl, qz⟩⟩
end
section
variable {M : Wld} {K : PySem.W.Frag} {σ : L2.St} {S : Hp} {P1 P2 : Hp → V → Prop} {ta tb : TE}
/-- a == y, y of any class that is not one below C -/
theorem ev_ownEqX {δ' : Type} {C : Addr} {E : XK} {pre : δ' → Hp → List V → Prop} {post : δ' → Hp → V → Prop} {t : Value} (d : δ') (hn : PySem.W.notFirst K C t = true) (m1 : Mono P1) (m2 : Mono P2) (o1 : IsO C P1) (o2 : ∀ S H y, Same S H → P2 S y → TyE K H y t) (hp : ∀ S x y, P1 S x → P2 S y → pre d S [x, y]) (ha : Ev M ta σ S P1) (hb : Ev M tb σ S P2) : Ev M (tOp (rOwnEq K C (SpP pre post) E) ta tb) σ S (post d) :=
  ev_op m1 ha (fun S1 e => hb.mono m2 e) fun S2 x y _ hx hy => fun T H w s Q q => by
    obtain ⟨a, dx, fs, rfl, h1⟩ := o1 S2 x hx
    exact ⟨a, dx, fs, t, rfl, (s.trans (M.sub w)) _ _ h1, o2 S2 H y (s.trans (M.sub w)) hy, hn, rv_sp (M := M) d (hp S2 _ _ hx hy) T H w s Q q⟩
theorem ev_ownNe {δ' : Type} {C : Addr} {E : XK} {pre : δ' → Hp → List V → Prop} {post : δ' → Hp → V → Prop} {t : Value} {b : Bool} (d : δ') (hn : PySem.W.notFirst K C t = true) (m1 : Mono P1) (m2 : Mono P2) (o1 : IsO C P1) (o2 : ∀ S H y, Same S H → P2 S y → TyE K H y t) (hp : ∀ S x y, P1 S x → P2 S y → pre d S [x, y]) (hq : ∀ S v, post d S v → v = .bl b) (ha : Ev M ta σ S P1) (hb : Ev M tb σ S P2) : Ev M (tOp (rOwnNe K C (SpP pre post) E) ta tb) σ S (Is K (!b)) :=
  ev_op m1 ha (fun S1 e => hb.mono m2 e) fun S2 x y _ hx hy => fun T H w s Q q => by
    obtain ⟨a, dx, fs, rfl, h1⟩ := o1 S2 x hx
    exact ⟨a, dx, fs, t, rfl, (s.trans (M.sub w)) _ _ h1, o2 S2 H y (s.trans (M.sub w)) hy, hn, rv_sp (M := M) (pre := pre) (post := post) d (hp S2 _ _ hx hy) T H w s _ fun S' T' H' v st w' po => ⟨b, hq S' v po, q S' T' H' _ st w' is_bl⟩⟩
end
end Fm

/-! ## A list that still grows, beside what is known -/
namespace Fm
open PySem PySem.Spec PyProof.Rows L2
open PySem.W (Datum Tup T3 T4)
def del (H : Hp) (l : Addr) : Hp := fun a => if a = l then none else H a
theorem del_same {H : Hp} {l : Addr} : del H l l = none := if_pos rfl
theorem del_ne {H : Hp} {l a : Addr} (h : a ≠ l) : del H l a = H a := if_neg h
theorem upd_comm {H : Hp} {a b : Addr} {o u : HO} (h : a ≠ b) : upd (upd H a o) b u = upd (upd H b u) a o := by
  funext c
  by_cases h1 : c = a
  · subst h1; rw [upd_ne h, upd_same, upd_same]
  · by_cases h2 : c = b
    · subst h2; rw [upd_same, upd_ne h1, upd_same]
    · rw [upd_ne h2, upd_ne h1, upd_ne h1, upd_ne h2]
theorem upd_upd {H : Hp} {a : Addr} {o u : HO} : upd (upd H a o) a u = upd H a u := by
  funext c
  by_cases h1 : c = a
  · subst h1; rw [upd_same, upd_same]
  · rw [upd_ne h1, upd_ne h1, upd_ne h1]
theorem upd_del {H : Hp} {l : Addr} {o : HO} (h : H l = some o) : upd (del H l) l o = H := by
  funext c
  by_cases h1 : c = l
  · subst h1; rw [upd_same, h]
  · rw [upd_ne h1, del_ne h1]
theorem Step.hide {S T S' T' : Hp} {l : Addr} {o : HO} (n : T l = none) (s : Same S T) (h : Step S (upd T l o) S' T') : Step S T S' (del T' l) ∧ T' l = some o := by
  have hl : T' l = some o := h.tt _ _ upd_same
  have hS : S' l = none := h.nw l (by rw [upd_same]; simp) (s.free n)
  refine ⟨⟨h.ss, fun b x q => ?_, fun b x q => ?_, fun a ha hs => ?_⟩, hl⟩
  · have hb : b ≠ l := ne_of_none q hS
    rw [del_ne hb]; exact h.st b x q
  · have hb : b ≠ l := ne_of_none q n
    rw [del_ne hb]; exact h.tt b x (by rw [upd_ne hb]; exact q)
  · have hb : a ≠ l := fun e => ha (by rw [e]; exact n)
    exact h.nw a (by rw [upd_ne hb]; exact ha) hs
/-- M, and beside it l, which holds o -/
def WL (M : Wld) (l : Addr) (o : HO) : Wld where
  W := fun T H => T l = none ∧ M.W (upd T l o) H
  sub := fun {T H} ⟨n, w⟩ => (same_new n).trans (M.sub w)
  new := fun {T H a u} ⟨n, w⟩ na => by
    have hl : l ≠ a := ne_of_none ((M.sub w) _ _ upd_same) na
    exact ⟨by rw [upd_ne hl]; exact n, by rw [upd_comm (Ne.symm hl)]; exact M.new w na⟩
  tmp := fun {T H a u} ⟨n, w⟩ na => ⟨n, M.tmp w na⟩
  set := fun {T H a u u'} ⟨n, w⟩ ha => by
    have hl : a ≠ l := ne_of_none ha n
    exact ⟨by rw [upd_ne (Ne.symm hl)]; exact n, by rw [upd_comm hl]; exact M.set w (by rw [upd_ne hl]; exact ha)⟩
  lift := fun {S S' T H H'} ⟨n, w⟩ e st => by
    obtain ⟨T', st', w'⟩ := M.lift w (e.trans (same_new n)) st
    obtain ⟨a, b⟩ := st'.hide n e
    exact ⟨del T' l, a, del_same, by rw [upd_del b]; exact w'⟩
section
variable {M : Wld} {K : PySem.W.Frag} {σ : L2.St} {S T H S0 T0 : Hp} {P P1 P2 : Hp → V → Prop} {te ta tb : TE} {l p : Addr} {o o' : HO} {vs : List V} {D : Ends} {i : Nat}
theorem WL.hp (w : (WL M l o).W T H) : H l = some o := (M.sub w.2) _ _ upd_same
theorem WL.free (w : (WL M l o).W T H) (s : Same S T) : S l = none := s.free w.1
/-- put something else into it -/
theorem WL.put (w : (WL M l o).W T H) : (WL M l o').W T (upd H l o') := ⟨w.1, by rw [← upd_upd (o := o)]; exact M.set w.2 upd_same⟩
theorem WL.open (n : T l = none) (w : M.W (upd T l o) H) : (WL M l o).W T H := ⟨n, w⟩
/-- from now on it stays -/
theorem WL.close (w : (WL M l o).W T H) (s : Step S0 T0 S T) (n0 : T0 l = none) : ∃ S' T', S' = upd S l o ∧ T' = upd T l o ∧ Step S0 T0 S' T' ∧ Step S T S' T' ∧ M.W T' H := by
  refine ⟨_, _, rfl, rfl, s.trans (Step.new s.st w.1), Step.new s.st w.1, w.2⟩
/-- what holds in M with l in sight of what is known -/
theorem WL.back {S' T' H' : Hp} (n : T l = none) (s : Same S T) (st : Step S (upd T l o) S' T') (w : M.W T' H') : ∃ T2, Step S T S' T2 ∧ (WL M l o).W T2 H' := by
  obtain ⟨a, b⟩ := st.hide n s
  exact ⟨del T' l, a, del_same, by rw [upd_del b]; exact w⟩
/-- an expression that M knows -/
theorem Ev.under (h : Ev M te σ S P) : Ev (WL M l o) te σ S P := fun T H w s Q q =>
  h _ H w.2 (s.trans (same_new w.1)) Q fun S' T' H' v st w' p => by
    obtain ⟨T2, st2, w2⟩ := WL.back w.1 s st w'
    exact q S' T2 H' v st2 w2 p
theorem EvT.under {t : TT} {b : Bool} (h : EvT M t σ S b) : EvT (WL M l o) t σ S b := fun T H w s Q q =>
  h _ H w.2 (s.trans (same_new w.1)) Q fun S' T' H' st w' => by
    obtain ⟨T2, st2, w2⟩ := WL.back w.1 s st w'
    exact q S' T2 H' st2 w2
/-- an item of the list -/
theorem ev_wix {j n : Nat} {v : V} {z : Int} (hj : σ[j]? = some (some (.ref l))) (hz : z = (n : Int)) (hv : vs[n]? = some v) (hP : P S v) : Ev (WL M l (.lst vs)) (tOp (rIx K) (tVar j) (tC (.int z))) σ S P := fun T H w s Q q =>
  ⟨.ref l, hj, .inl ⟨l, vs, z, v, rfl, rfl, SqL.of (WL.hp w), by rw [hz]; exact atI_nat hv, q S T H v (Step.refl s) w hP⟩⟩
theorem ev_wlen {j : Nat} (hj : σ[j]? = some (some (.ref l))) : Ev (WL M l (.lst vs)) (tCB (rLenA K) (tCons (tVar j) tNil)) σ S (Is K (vs.length : Int)) := fun T H w s Q q =>
  ⟨.ref l, hj, ⟨_, vs.length, rfl, .inl ⟨vs, SqL.of (WL.hp w), rfl⟩, q S T H _ (Step.refl s) w is_int⟩⟩
/-- l.append(x) -/
theorem q_wapp {j : Nat} (hj : σ[j]? = some (some (.ref l))) (w : (WL M l (.lst vs)).W T H) (s : Same S T) (hz : vs.length < sizeLine) (he : Ev (WL M l (.lst vs)) te σ S P)
    (q : ∀ S' T' H' v, Step S T S' T' → (WL M l (.lst (vs ++ [v]))).W T' H' → P S' v → D.nx σ H') : tDrop (tBM K "list" rAppend (tVar j) (tCons te tNil)) D σ H :=
  ⟨.ref l, hj, .inl ⟨rfl, vs, SqL.of (WL.hp w)⟩, he T H w s _ fun S' T' H' v st w' p => ⟨l, vs, v, rfl, rfl, WL.hp w', hz, q S' T' _ v st (WL.put w') p⟩⟩
/-- x = [a, ..], a list that will grow -/
theorem q_wlst {t : TA} {PA : Hp → List V → Prop} (ha : EvA M t σ S PA) (hz : ∀ S vs, PA S vs → vs.length ≤ sizeLine) (w : M.W T H) (s : Same S T)
    (q : ∀ S' T' H' l vs, Step S T S' T' → T l = none → (WL M l (.lst vs)).W T' H' → PA S' vs → D.nx (σ.set i (some (.ref l))) H') : tAsg (tLst t) (gName i) D σ H :=
  ha T H w s _ fun S1 T1 H1 vs st1 w1 p1 => ⟨hz _ _ p1, fun l nl => by
    have nt := (M.sub w1).free nl
    exact q S1 T1 _ l vs st1 (st1.tt.free nt) ⟨nt, M.new w1 nl⟩ p1⟩
end
end Fm

namespace Lw
open PySem PySem.Spec PyProof.Rows L2 Fm
open PySem.W (Datum Tup T3 T4)
/-! ### the text by places -/
def topS (i : Nat) : Stmt := PySem.Challenge.pw_foundormade_k14_parts_of_patterns.main.body.getD i (.Pass ⟨0, 0, 0, 0⟩)
abbrev s_is_word : Stmt := topS 5
abbrev N_is_word : List Str := ["text", "sign"]
abbrev ps_is_word : List Str := ["text"]
theorem sc_is_word : FnScope N_is_word ps_is_word (defScope s_is_word) := ⟨rfl, rfl, rfl, by decide +kernel, rfl, by decide +kernel, by decide +kernel⟩
abbrev s_clash : Stmt := topS 7
abbrev N_clash : List Str := ["first", "second", "known", "place", "name", "kind", "column"]
abbrev ps_clash : List Str := ["first", "second"]
theorem sc_clash : FnScope N_clash ps_clash (defScope s_clash) := ⟨rfl, rfl, rfl, by decide +kernel, rfl, by decide +kernel, by decide +kernel⟩
abbrev s_kept_ends : Stmt := topS 8
abbrev N_kept_ends : List Str := ["links", "name", "start", "end"]
abbrev ps_kept_ends : List Str := ["links"]
theorem sc_kept_ends : FnScope N_kept_ends ps_kept_ends (defScope s_kept_ends) := ⟨rfl, rfl, rfl, by decide +kernel, rfl, by decide +kernel, by decide +kernel⟩
abbrev s_Pattern_init : Stmt := inClass (topS 9) 0
abbrev N_Pattern_init : List Str := ["self", "places", "links"]
abbrev ps_Pattern_init : List Str := ["self", "places", "links"]
theorem sc_Pattern_init : FnScope N_Pattern_init ps_Pattern_init (defScope s_Pattern_init) := ⟨rfl, rfl, rfl, by decide +kernel, rfl, by decide +kernel, by decide +kernel⟩
abbrev s_Pattern_place : Stmt := inClass (topS 9) 1
abbrev N_Pattern_place : List Str := ["name", "kind", "column"]
abbrev ps_Pattern_place : List Str := ["name", "kind", "column"]
theorem sc_Pattern_place : FnScope N_Pattern_place ps_Pattern_place (defScope s_Pattern_place) := ⟨rfl, rfl, rfl, by decide +kernel, rfl, by decide +kernel, by decide +kernel⟩
abbrev s_Pattern_or : Stmt := inClass (topS 9) 3
abbrev N_Pattern_or : List Str := ["self", "other", "name", "places", "links", "place", "link"]
abbrev ps_Pattern_or : List Str := ["self", "other"]
theorem sc_Pattern_or : FnScope N_Pattern_or ps_Pattern_or (defScope s_Pattern_or) := ⟨rfl, rfl, rfl, by decide +kernel, rfl, by decide +kernel, by decide +kernel⟩
abbrev s_Pattern_and : Stmt := inClass (topS 9) 4
abbrev N_Pattern_and : List Str := ["self", "other", "places", "names", "links", "place", "name", "kind", "column", "link"]
abbrev ps_Pattern_and : List Str := ["self", "other"]
theorem sc_Pattern_and : FnScope N_Pattern_and ps_Pattern_and (defScope s_Pattern_and) := ⟨rfl, rfl, rfl, by decide +kernel, rfl, by decide +kernel, by decide +kernel⟩
abbrev s_Pattern_sub : Stmt := inClass (topS 9) 5
abbrev N_Pattern_sub : List Str := ["self", "other", "links", "ends", "places", "link", "place"]
abbrev ps_Pattern_sub : List Str := ["self", "other"]
theorem sc_Pattern_sub : FnScope N_Pattern_sub ps_Pattern_sub (defScope s_Pattern_sub) := ⟨rfl, rfl, rfl, by decide +kernel, rfl, by decide +kernel, by decide +kernel⟩
abbrev s_Pattern_rshift : Stmt := inClass (topS 9) 6
abbrev N_Pattern_rshift : List Str := ["self", "other", "link", "second", "joined", "tie", "last", "places", "links", "place", "one"]
abbrev ps_Pattern_rshift : List Str := ["self", "other"]
theorem sc_Pattern_rshift : FnScope N_Pattern_rshift ps_Pattern_rshift (defScope s_Pattern_rshift) := ⟨rfl, rfl, rfl, by decide +kernel, rfl, by decide +kernel, by decide +kernel⟩
abbrev s_Pattern_contains : Stmt := inClass (topS 9) 7
abbrev N_Pattern_contains : List Str := ["self", "part", "places", "links", "name", "kind", "column", "place", "link"]
abbrev ps_Pattern_contains : List Str := ["self", "part"]
theorem sc_Pattern_contains : FnScope N_Pattern_contains ps_Pattern_contains (defScope s_Pattern_contains) := ⟨rfl, rfl, rfl, by decide +kernel, rfl, by decide +kernel, by decide +kernel⟩
abbrev s_Pattern_len : Stmt := inClass (topS 9) 8
abbrev N_Pattern_len : List Str := ["self"]
abbrev ps_Pattern_len : List Str := ["self"]
theorem sc_Pattern_len : FnScope N_Pattern_len ps_Pattern_len (defScope s_Pattern_len) := ⟨rfl, rfl, rfl, by decide +kernel, rfl, by decide +kernel, by decide +kernel⟩
abbrev s_Pattern_eq : Stmt := inClass (topS 9) 9
abbrev N_Pattern_eq : List Str := ["self", "other"]
abbrev ps_Pattern_eq : List Str := ["self", "other"]
theorem sc_Pattern_eq : FnScope N_Pattern_eq ps_Pattern_eq (defScope s_Pattern_eq) := ⟨rfl, rfl, rfl, by decide +kernel, rfl, by decide +kernel, by decide +kernel⟩
abbrev s_law_pool : Stmt := topS 11
abbrev N_law_pool : List Str := ["_law_script", "_law_greats", "_law_seed", "_law_cell"]
abbrev ps_law_pool : List Str := ["_law_script"]
theorem sc_law_pool : FnScope N_law_pool ps_law_pool (defScope s_law_pool) := ⟨rfl, rfl, rfl, by decide +kernel, rfl, by decide +kernel, by decide +kernel⟩
abbrev s_law_draw : Stmt := topS 12
abbrev N_law_draw : List Str := ["_law_pool_here", "_law_limit", "_law_digit", "_law_mixed"]
abbrev ps_law_draw : List Str := ["_law_pool_here", "_law_limit"]
theorem sc_law_draw : FnScope N_law_draw ps_law_draw (defScope s_law_draw) := ⟨rfl, rfl, rfl, by decide +kernel, rfl, by decide +kernel, by decide +kernel⟩
abbrev s_law_word : Stmt := topS 13
abbrev N_law_word : List Str := ["_law_pool_here", "_law_used", "_law_letters", "_law_size", "_law_word_here", "_law_k", "_law_letter"]
abbrev ps_law_word : List Str := ["_law_pool_here", "_law_used"]
theorem sc_law_word : FnScope N_law_word ps_law_word (defScope s_law_word) := ⟨rfl, rfl, rfl, by decide +kernel, rfl, by decide +kernel, by decide +kernel⟩
abbrev s_law_words : Stmt := topS 14
abbrev N_law_words : List Str := ["_law_pool_here", "_law_many", "_law_words_here", "_law_k"]
abbrev ps_law_words : List Str := ["_law_pool_here", "_law_many"]
theorem sc_law_words : FnScope N_law_words ps_law_words (defScope s_law_words) := ⟨rfl, rfl, rfl, by decide +kernel, rfl, by decide +kernel, by decide +kernel⟩
abbrev s_law_raw : Stmt := topS 15
abbrev N_law_raw : List Str := ["_law_pool_here", "_law_words_here", "_law_most", "_law_places", "_law_links", "_law_name", "_law_kind", "_law_column", "_law_k", "_law_low", "_law_high", "_law_tie"]
abbrev ps_law_raw : List Str := ["_law_pool_here", "_law_words_here", "_law_most"]
theorem sc_law_raw : FnScope N_law_raw ps_law_raw (defScope s_law_raw) := ⟨rfl, rfl, rfl, by decide +kernel, rfl, by decide +kernel, by decide +kernel⟩
abbrev s_law_pattern : Stmt := topS 16
abbrev N_law_pattern : List Str := ["_law_places", "_law_ties", "_law_pattern_here", "_law_name", "_law_kind", "_law_column", "_law_known", "_law_link", "_law_start", "_law_end"]
abbrev ps_law_pattern : List Str := ["_law_places", "_law_ties"]
theorem sc_law_pattern : FnScope N_law_pattern ps_law_pattern (defScope s_law_pattern) := ⟨rfl, rfl, rfl, by decide +kernel, rfl, by decide +kernel, by decide +kernel⟩
abbrev s_law_told : Stmt := topS 17
abbrev N_law_told : List Str := ["_law_pattern_here", "_law_places", "_law_links"]
abbrev ps_law_told : List Str := ["_law_pattern_here", "_law_places", "_law_links"]
theorem sc_law_told : FnScope N_law_told ps_law_told (defScope s_law_told) := ⟨rfl, rfl, rfl, by decide +kernel, rfl, by decide +kernel, by decide +kernel⟩
abbrev s_law_shuffled : Stmt := topS 18
abbrev N_law_shuffled : List Str := ["_law_pool_here", "_law_row", "_law_rest", "_law_found", "_law_k"]
abbrev ps_law_shuffled : List Str := ["_law_pool_here", "_law_row"]
theorem sc_law_shuffled : FnScope N_law_shuffled ps_law_shuffled (defScope s_law_shuffled) := ⟨rfl, rfl, rfl, by decide +kernel, rfl, by decide +kernel, by decide +kernel⟩
abbrev s_law_within : Stmt := topS 19
abbrev N_law_within : List Str := ["_law_first", "_law_second", "_law_places", "_law_place", "_law_tie"]
abbrev ps_law_within : List Str := ["_law_first", "_law_second"]
theorem sc_law_within : FnScope N_law_within ps_law_within (defScope s_law_within) := ⟨rfl, rfl, rfl, by decide +kernel, rfl, by decide +kernel, by decide +kernel⟩
abbrev s_law : Stmt := topS 20
abbrev N_law : List Str := ["_law_script", "_law_pool_here", "_law_words_here", "_law_raws", "_law_cut", "_law_patterns", "_law_low", "_law_high", "_law_due", "_law_equal", "_law_k", "_law_names", "_law_word_here", "_law_raw_here", "_law_place"]
abbrev ps_law : List Str := ["_law_script"]
theorem sc_law : FnScope N_law ps_law (defScope s_law) := ⟨rfl, rfl, rfl, by decide +kernel, rfl, by decide +kernel, by decide +kernel⟩
/-! ### what the head tells of the text -/
structure Txt (K : PySem.W.Frag) (mg : Str → Option Value) : Prop where
  g_is_word : mg "is_word" = some (.ref (He.ga K "is_word"))
  d_is_word : ∃ fd, Fun K "is_word" "is_word" s_is_word (He.ga K "is_word") fd
  k_is_word : PySem.W.keepIn K (.ref (He.ga K "is_word")) = true
  g_clash : mg "clash" = some (.ref (He.ga K "clash"))
  d_clash : ∃ fd, Fun K "clash" "clash" s_clash (He.ga K "clash") fd
  k_clash : PySem.W.keepIn K (.ref (He.ga K "clash")) = true
  g_kept_ends : mg "kept_ends" = some (.ref (He.ga K "kept_ends"))
  d_kept_ends : ∃ fd, Fun K "kept_ends" "kept_ends" s_kept_ends (He.ga K "kept_ends") fd
  k_kept_ends : PySem.W.keepIn K (.ref (He.ga K "kept_ends")) = true
  d_Pattern_init : ∃ fd, Fun K "__init__" "Pattern.__init__" s_Pattern_init (He.ma K (He.ga K "Pattern") "__init__") fd
  d_Pattern_place : ∃ fd, Fun K "place" "Pattern.place" s_Pattern_place (He5.wf K (He.ga K "Pattern") "staticmethod" "place") fd
  d_Pattern_or : ∃ fd, Fun K "__or__" "Pattern.__or__" s_Pattern_or (He.ma K (He.ga K "Pattern") "__or__") fd
  d_Pattern_and : ∃ fd, Fun K "__and__" "Pattern.__and__" s_Pattern_and (He.ma K (He.ga K "Pattern") "__and__") fd
  d_Pattern_sub : ∃ fd, Fun K "__sub__" "Pattern.__sub__" s_Pattern_sub (He.ma K (He.ga K "Pattern") "__sub__") fd
  d_Pattern_rshift : ∃ fd, Fun K "__rshift__" "Pattern.__rshift__" s_Pattern_rshift (He.ma K (He.ga K "Pattern") "__rshift__") fd
  d_Pattern_contains : ∃ fd, Fun K "__contains__" "Pattern.__contains__" s_Pattern_contains (He.ma K (He.ga K "Pattern") "__contains__") fd
  d_Pattern_len : ∃ fd, Fun K "__len__" "Pattern.__len__" s_Pattern_len (He.ma K (He.ga K "Pattern") "__len__") fd
  d_Pattern_eq : ∃ fd, Fun K "__eq__" "Pattern.__eq__" s_Pattern_eq (He.ma K (He.ga K "Pattern") "__eq__") fd
  g_law_pool : mg "_law_pool" = some (.ref (He.ga K "_law_pool"))
  d_law_pool : ∃ fd, Fun K "_law_pool" "_law_pool" s_law_pool (He.ga K "_law_pool") fd
  k_law_pool : PySem.W.keepIn K (.ref (He.ga K "_law_pool")) = true
  g_law_draw : mg "_law_draw" = some (.ref (He.ga K "_law_draw"))
  d_law_draw : ∃ fd, Fun K "_law_draw" "_law_draw" s_law_draw (He.ga K "_law_draw") fd
  k_law_draw : PySem.W.keepIn K (.ref (He.ga K "_law_draw")) = true
  g_law_word : mg "_law_word" = some (.ref (He.ga K "_law_word"))
  d_law_word : ∃ fd, Fun K "_law_word" "_law_word" s_law_word (He.ga K "_law_word") fd
  k_law_word : PySem.W.keepIn K (.ref (He.ga K "_law_word")) = true
  g_law_words : mg "_law_words" = some (.ref (He.ga K "_law_words"))
  d_law_words : ∃ fd, Fun K "_law_words" "_law_words" s_law_words (He.ga K "_law_words") fd
  k_law_words : PySem.W.keepIn K (.ref (He.ga K "_law_words")) = true
  g_law_raw : mg "_law_raw" = some (.ref (He.ga K "_law_raw"))
  d_law_raw : ∃ fd, Fun K "_law_raw" "_law_raw" s_law_raw (He.ga K "_law_raw") fd
  k_law_raw : PySem.W.keepIn K (.ref (He.ga K "_law_raw")) = true
  g_law_pattern : mg "_law_pattern" = some (.ref (He.ga K "_law_pattern"))
  d_law_pattern : ∃ fd, Fun K "_law_pattern" "_law_pattern" s_law_pattern (He.ga K "_law_pattern") fd
  k_law_pattern : PySem.W.keepIn K (.ref (He.ga K "_law_pattern")) = true
  g_law_told : mg "_law_told" = some (.ref (He.ga K "_law_told"))
  d_law_told : ∃ fd, Fun K "_law_told" "_law_told" s_law_told (He.ga K "_law_told") fd
  k_law_told : PySem.W.keepIn K (.ref (He.ga K "_law_told")) = true
  g_law_shuffled : mg "_law_shuffled" = some (.ref (He.ga K "_law_shuffled"))
  d_law_shuffled : ∃ fd, Fun K "_law_shuffled" "_law_shuffled" s_law_shuffled (He.ga K "_law_shuffled") fd
  k_law_shuffled : PySem.W.keepIn K (.ref (He.ga K "_law_shuffled")) = true
  g_law_within : mg "_law_within" = some (.ref (He.ga K "_law_within"))
  d_law_within : ∃ fd, Fun K "_law_within" "_law_within" s_law_within (He.ga K "_law_within") fd
  k_law_within : PySem.W.keepIn K (.ref (He.ga K "_law_within")) = true
  g_law : mg "law" = some (.ref (He.ga K "law"))
  d_law : ∃ fd, Fun K "law" "law" s_law (He.ga K "law") fd
  k_law : PySem.W.keepIn K (.ref (He.ga K "law")) = true
  g_Pattern : mg "Pattern" = some (.ref (He.ga K "Pattern"))
  c_Pattern : Cls K (He.ga K "Pattern")
  sf_Pattern : PySem.W.selfFirst K (He.ga K "Pattern") = true
  mk_Pattern : Mk K (He.ga K "Pattern") (He.ma K (He.ga K "Pattern") "__init__")
  n_Pattern_places : NoAttr K (He.ga K "Pattern") "places"
  n_Pattern_links : NoAttr K (He.ga K "Pattern") "links"
  s_Pattern_place : Stat K (He.ga K "Pattern") "place" (He.ma K (He.ga K "Pattern") "place") (He5.wf K (He.ga K "Pattern") "staticmethod" "place")
  m_Pattern_or : Meth K (He.ga K "Pattern") "__or__" (He.ma K (He.ga K "Pattern") "__or__")
  o_Pattern_or : Own K (He.ga K "Pattern") "__or__" (He.ma K (He.ga K "Pattern") "__or__")
  m_Pattern_and : Meth K (He.ga K "Pattern") "__and__" (He.ma K (He.ga K "Pattern") "__and__")
  o_Pattern_and : Own K (He.ga K "Pattern") "__and__" (He.ma K (He.ga K "Pattern") "__and__")
  m_Pattern_sub : Meth K (He.ga K "Pattern") "__sub__" (He.ma K (He.ga K "Pattern") "__sub__")
  o_Pattern_sub : Own K (He.ga K "Pattern") "__sub__" (He.ma K (He.ga K "Pattern") "__sub__")
  m_Pattern_rshift : Meth K (He.ga K "Pattern") "__rshift__" (He.ma K (He.ga K "Pattern") "__rshift__")
  o_Pattern_rshift : Own K (He.ga K "Pattern") "__rshift__" (He.ma K (He.ga K "Pattern") "__rshift__")
  m_Pattern_contains : Meth K (He.ga K "Pattern") "__contains__" (He.ma K (He.ga K "Pattern") "__contains__")
  o_Pattern_contains : Own K (He.ga K "Pattern") "__contains__" (He.ma K (He.ga K "Pattern") "__contains__")
  m_Pattern_len : Meth K (He.ga K "Pattern") "__len__" (He.ma K (He.ga K "Pattern") "__len__")
  o_Pattern_len : Own K (He.ga K "Pattern") "__len__" (He.ma K (He.ga K "Pattern") "__len__")
  m_Pattern_eq : Meth K (He.ga K "Pattern") "__eq__" (He.ma K (He.ga K "Pattern") "__eq__")
  o_Pattern_eq : Own K (He.ga K "Pattern") "__eq__" (He.ma K (He.ga K "Pattern") "__eq__")
  z_all : mg "all" = none
  z_int : mg "int" = none
  z_isinstance : mg "isinstance" = none
  z_len : mg "len" = none
  z_list : mg "list" = none
  z_range : mg "range" = none
  z_str : mg "str" = none
  z_tuple : mg "tuple" = none
  v_LETTERS : ∃ t, mg "LETTERS" = some (.str "abcdefghijklmnopqrstuvwxyz" t)
  i_ps : PySem.W.kitOne K (.ref (He.ga K "Pattern")) (.type "str") = some false
  x_Pattern : ClsX K (He.ga K "Pattern")
  iP : PySem.W.kitOne K (.ref (He.ga K "Pattern")) (.ref (He.ga K "Pattern")) = some true
  nf : PySem.W.notFirst K (He.ga K "Pattern") (.ref (He.ga K "Pattern")) = true
  iP_tuple : PySem.W.kitOne K (.type "tuple") (.ref (He.ga K "Pattern")) = some false
  iP_int : PySem.W.kitOne K (.type "int") (.ref (He.ga K "Pattern")) = some false
  iP_str : PySem.W.kitOne K (.type "str") (.ref (He.ga K "Pattern")) = some false
  nf_tuple : PySem.W.notFirst K (He.ga K "Pattern") (.type "tuple") = true
  nf_int : PySem.W.notFirst K (He.ga K "Pattern") (.type "int") = true
  nf_str : PySem.W.notFirst K (He.ga K "Pattern") (.type "str") = true
  ne_Pattern : PySem.W.findIn K (.ref (He.ga K "Pattern")) "__ne__" = some (some (.builtin "object.__ne__"))
end Lw

namespace Lw
open PySem PySem.Spec PyProof.Rows L2 Fm
open PySem.W (Datum Tup T3 T4)
/-! ### the mathematics' words -/
abbrev Place := T3 Str Str Int
abbrev Link := T3 Str Str Str
def abc : Str := "abcdefghijklmnopqrstuvwxyz"
def isW (z : Str) : Bool := (decide ((1 : Int) ≤ z.length) && decide ((z.length : Int) ≤ 8)) && (z.cps.toList.map fun c => decide (c ∈ abc.cps.toList)).all id
/-- the place of this name, the last one -/
def kn (ps : List Place) (n : Str) : Option Place := ps.reverse.find? fun p => decide (p.a = n)
def clashOf (ps qs : List Place) : Option Str := (qs.find? fun q => !decide ((kn ps q.a).getD q = q)).map (·.a)
def orP (ps qs : List Place) : List Place := ps ++ qs.filter fun q => !decide (q ∈ ps)
def orL (ls ks : List Link) : List Link := ls ++ ks.filter fun k => !decide (k ∈ ls)
def andP (ps qs : List Place) : List Place := ps.filter fun p => decide (p ∈ qs)
def andL (ps qs : List Place) (ls ks : List Link) : List Link := (ls.filter fun l => decide (l ∈ ks)).filter fun l => decide (l.b ∈ (andP ps qs).map (·.a)) && decide (l.c ∈ (andP ps qs).map (·.a))
def subL (ls ks : List Link) : List Link := ls.filter fun l => !decide (l ∈ ks)
def endsOf (ls : List Link) : List Str := ls.map (·.b) ++ ls.map (·.c)
def subP (ps qs : List Place) (ls ks : List Link) : List Place := ps.filter fun p => !decide (p ∈ qs) || decide (p.a ∈ endsOf (subL ls ks))
def inPat (ps : List Place) (ls : List Link) (qs : List Place) (ks : List Link) : Bool := decide ((ps.filter fun p => !decide (p ∈ qs)) = []) && decide ((ls.filter fun l => !decide (l ∈ ks)) = [])
structure Good (ps : List Place) (ls : List Link) : Prop where
  nd : (ps.map (·.a)).Nodup
  wd : ∀ p ∈ ps, isW p.a = true ∧ isW p.b = true ∧ 0 ≤ p.c ∧ p.c ≤ 3
  ln : ls.Nodup
  lw : ∀ l ∈ ls, isW l.a = true ∧ l.b ∈ ps.map (·.a) ∧ l.c ∈ ps.map (·.a)
  sp : ps.length ≤ 20
  sl : ls.length ≤ 20
/-- a pattern -/
def PatF (K : PySem.W.Frag) (ps : List Place) (ls : List Link) : Hp → List (Str × V) → Prop := fun S fs => ∃ vp vl, fs = [(("places" : Str), vp), (("links" : Str), vl)] ∧ Is K (Tup.mk ps) S vp ∧ Is K (Tup.mk ls) S vl
def Pat (K : PySem.W.Frag) (ps : List Place) (ls : List Link) : Hp → V → Prop := Ob (He.ga K "Pattern") (PatF K ps ls)
abbrev PL := List Place × List Link
/-! ### the promises -/
def sp_is_word (K : PySem.W.Frag) : Sp := SpP (δ := Str) (fun z S vs => ∃ v, vs = [v] ∧ Is K z S v ∧ z.length ≤ 1000) (fun z S v => Is K (isW z) S v)
def sp_clash (K : PySem.W.Frag) : Sp := SpP (δ := PL × PL) (fun d S vs => ∃ a b, vs = [a, b] ∧ Pat K d.1.1 d.1.2 S a ∧ Pat K d.2.1 d.2.2 S b ∧ d.1.1.length ≤ 1000 ∧ clashOf d.1.1 d.2.1 = none) (fun d S v => v = .non)
def sp_kept_ends (K : PySem.W.Frag) : Sp := SpP (δ := List Link) (fun d S vs => ∃ a, vs = [a] ∧ Is K d S a ∧ d.length ≤ 1000) (fun d S v => Is K (endsOf d) S v)
def sp_Pattern_init (K : PySem.W.Frag) : Sp := SpI (δ := PL) (He.ga K "Pattern") (fun d S vs => ∃ a b, vs = [a, b] ∧ Is K d.1 S a ∧ Is K d.2 S b) (fun d => PatF K d.1 d.2)
def sp_Pattern_place (K : PySem.W.Frag) : Sp := SpP (δ := Place) (fun d S vs => vs = [.str d.a, .str d.b, .int d.c] ∧ isW d.a = true ∧ isW d.b = true ∧ 0 ≤ d.c ∧ d.c ≤ 3) (fun d => Pat K [d] [])
def sp_Pattern_or (K : PySem.W.Frag) : Sp := SpP (δ := PL × PL) (fun d S vs => ∃ a b, vs = [a, b] ∧ Pat K d.1.1 d.1.2 S a ∧ Pat K d.2.1 d.2.2 S b ∧ (d.1.1.length ≤ 1000 ∧ d.1.2.length ≤ 1000 ∧ d.2.1.length ≤ 1000 ∧ d.2.2.length ≤ 1000) ∧ clashOf d.1.1 d.2.1 = none) (fun d => Pat K (orP d.1.1 d.2.1) (orL d.1.2 d.2.2))
def sp_Pattern_and (K : PySem.W.Frag) : Sp := SpP (δ := PL × PL) (fun d S vs => ∃ a b, vs = [a, b] ∧ Pat K d.1.1 d.1.2 S a ∧ Pat K d.2.1 d.2.2 S b ∧ (d.1.1.length ≤ 1000 ∧ d.1.2.length ≤ 1000)) (fun d => Pat K (andP d.1.1 d.2.1) (andL d.1.1 d.2.1 d.1.2 d.2.2))
def sp_Pattern_sub (K : PySem.W.Frag) : Sp := SpP (δ := PL × PL) (fun d S vs => ∃ a b, vs = [a, b] ∧ Pat K d.1.1 d.1.2 S a ∧ Pat K d.2.1 d.2.2 S b ∧ (d.1.1.length ≤ 1000 ∧ d.1.2.length ≤ 1000)) (fun d => Pat K (subP d.1.1 d.2.1 d.1.2 d.2.2) (subL d.1.2 d.2.2))
def rsP (ps qs : List Place) : List Place := match qs.getLast? with
  | some z => ((orP ps qs).filter fun p => !decide (p = z)) ++ [z]
  | none => []
def rsL (ps qs : List Place) (ls ks : List Link) (l : Str) : List Link := match ps.getLast?, qs.head? with
  | some p, some q => if (⟨l, p.a, q.a⟩ : Link) ∈ orL ls ks then orL ls ks else orL ls ks ++ [⟨l, p.a, q.a⟩]
  | _, _ => []
def sp_Pattern_rshift (K : PySem.W.Frag) : Sp := SpP (δ := PL × Str × PL) (fun d S vs => ∃ a b c, vs = [a, .ref b] ∧ Pat K d.1.1 d.1.2 S a ∧ S b = some (.tup [.str d.2.1, c]) ∧ Pat K d.2.2.1 d.2.2.2 S c ∧
  (d.1.1.length ≤ 1000 ∧ d.1.2.length ≤ 1000 ∧ d.2.2.1.length ≤ 1000 ∧ d.2.2.2.length ≤ 1000) ∧ isW d.2.1 = true ∧ d.1.1 ≠ [] ∧ d.2.2.1 ≠ [] ∧ clashOf d.1.1 d.2.2.1 = none) (fun d => Pat K (rsP d.1.1 d.2.2.1) (rsL d.1.1 d.2.2.1 d.1.2 d.2.2.2 d.2.1))
def sp_Pattern_contains (K : PySem.W.Frag) : Sp := SpP (δ := PL × (Str ⊕ PL)) (fun d S vs => ∃ a b, vs = [a, b] ∧ Pat K d.1.1 d.1.2 S a ∧ d.1.1.length ≤ 1000 ∧ match d.2 with
  | .inl z => Is K z S b
  | .inr q => Pat K q.1 q.2 S b ∧ q.1.length ≤ 1000 ∧ q.2.length ≤ 1000) (fun d S v => match d.2 with
  | .inl z => Is K (decide (z ∈ d.1.1.map (·.a))) S v
  | .inr q => Is K (inPat q.1 q.2 d.1.1 d.1.2) S v)
def sp_Pattern_len (K : PySem.W.Frag) : Sp := SpP (δ := PL) (fun d S vs => ∃ a, vs = [a] ∧ Pat K d.1 d.2 S a) (fun d S v => Is K (d.1.length : Int) S v)
/-- something that is no pattern -/
def Oth (K : PySem.W.Frag) (S : Hp) (b : V) : Prop := ∃ t, (∀ H, Same S H → TyX K H b t) ∧ PySem.W.kitOne K t (.ref (He.ga K "Pattern")) = some false
def sp_Pattern_eq (K : PySem.W.Frag) : Sp := SpP (δ := PL × Option PL) (fun d S vs => ∃ a b, vs = [a, b] ∧ Pat K d.1.1 d.1.2 S a ∧ (d.1.1.length ≤ 1000 ∧ d.1.2.length ≤ 1000) ∧ match d.2 with
  | some q => Pat K q.1 q.2 S b ∧ q.1.length ≤ 1000 ∧ q.2.length ≤ 1000
  | none => Oth K S b) (fun d S v => match d.2 with
  | some q => Is K (inPat d.1.1 d.1.2 q.1 q.2 && inPat q.1 q.2 d.1.1 d.1.2) S v
  | none => Is K false S v)
def sp_law_draw (K : PySem.W.Frag) : Sp := SpW (δ := Int) (fun n S vs => vs = [.int n] ∧ 0 < n ∧ n.natAbs.log2 < 9000) (fun n S v => ∃ r, v = .int r ∧ 0 ≤ r ∧ r < n)
def sp_law_pool (K : PySem.W.Frag) : Sp := fun vs H Q _ => ∃ (a : Addr) (ns : List Int), vs = [.ref a] ∧ SqL K H a (ns.map V.int) ∧ ns.length ≤ 63 ∧ ∀ p H', (PW p).W H H' → Q (.ref p) H'
def sp_law_word (K : PySem.W.Frag) : Sp := SpW (δ := List Str) (fun us S vs => ∃ a, vs = [a] ∧ Is K us S a ∧ us.length < 26) (fun us S v => ∃ z, v = .str z ∧ isW z = true ∧ z ∉ us)
structure Words (n : Nat) (ws : List Str) : Prop where
  len : ws.length = n
  nd : ws.Nodup
  wd : ∀ w ∈ ws, isW w = true
def sp_law_words (K : PySem.W.Frag) : Sp := SpW (δ := Nat) (fun n S vs => vs = [.int n] ∧ n ≤ 25) (fun n S v => ∃ ws, Is K ws S v ∧ Words n ws)
def sp_law_raw (K : PySem.W.Frag) : Sp := SpW (δ := List Str × Nat) (fun d S vs => ∃ a, vs = [a, .int d.2] ∧ Is K d.1 S a ∧ Words 9 d.1 ∧ d.2 ≤ 8) (fun d S v => ∃ r : PL, Is K r S v ∧ Good r.1 r.2)
def sp_law_pattern (K : PySem.W.Frag) : Sp := SpP (δ := PL) (fun d S vs => ∃ a b, vs = [a, b] ∧ Is K d.1 S a ∧ Is K d.2 S b ∧ Good d.1 d.2) (fun d => Pat K d.1 d.2)
def sp_law_told (K : PySem.W.Frag) : Sp := SpP (δ := PL × PL) (fun d S vs => ∃ x a b, vs = [x, a, b] ∧ Pat K d.1.1 d.1.2 S x ∧ Is K d.2.1 S a ∧ Is K d.2.2 S b ∧ d.1.1.length ≤ 1000 ∧ d.1 = d.2) (fun d S v => Is K true S v)

def sp_law_shuffled (K : PySem.W.Frag) : Sp := SpW (δ := List Place ⊕ List Link) (fun d S vs => ∃ a, vs = [a] ∧ match d with
  | .inl xs => Is K xs S a ∧ xs.length ≤ 1000
  | .inr xs => Is K xs S a ∧ xs.length ≤ 1000) (fun d S v => match d with
  | .inl xs => ∃ ys : List Place, Is K ys S v ∧ ys.Perm xs
  | .inr xs => ∃ ys : List Link, Is K ys S v ∧ ys.Perm xs)
def sp_law_within (K : PySem.W.Frag) : Sp := SpP (δ := PL × PL) (fun d S vs => ∃ a b, vs = [a, b] ∧ Is K d.1 S a ∧ Is K d.2 S b ∧ d.1.1.length ≤ 1000 ∧ d.1.2.length ≤ 1000) (fun d S v => Is K (inPat d.1.1 d.1.2 d.2.1 d.2.2) S v)
def sp_law (K : PySem.W.Frag) : Sp := fun vs H Q _ => ∃ (a : Addr) (ns : List Int), vs = [.ref a] ∧ SqL K H a (ns.map V.int) ∧ ns.length ≤ 63 ∧ ∀ H', Q (.bl true) H'

def t_is_word (K : PySem.W.Frag) : TS :=
  (tRet (tAndV (tCB (rIsi K) (tCons (tVar 0) (tCons (tC (.ty "str")) tNil))) (tAndV (tChain rLeA rLeA (tC (.int 1)) (tCB (rLenA K) (tCons (tVar 0) tNil)) (tC (.int 8))) (tCB (rAllA K) (tCons (tLc (iSeq K (tVar 0)) (gName 1) tYes (tOp (rInP K false) (tVar 1) (tC (.str "abcdefghijklmnopqrstuvwxyz"))) [1]) tNil)))))
theorem wk_is_word {P : Program} {w : World} {K : PySem.W.Frag} {mg : Str → Option Value} {base : Heap} (T : Txt K mg) (cdv : Value) (A : Around) (outer : List Env) (s : Shared) (H : Hp) (E : XK) (hr : Room 0 (A.deeper (envOfC "is_word" (defScope s_is_word) s.heap.objs.size (He.ga K "is_word") cdv))) :
    PSs (cxOf CX0 P w K mg base N_is_word "is_word" (defScope s_is_word) (He.ga K "is_word") cdv A outer s H E).nox (defBody s_is_word) (t_is_word K) := by
  unfold t_is_word
  exact (pss_one (ps_ret (pe_and (pe_callB call_isi (by rfl) T.z_isinstance (by decide +kernel) (pa_cons (pv 0) (pa_cons (pe_bltn (v := .ty "str") (by rfl) T.z_str (by decide +kernel) rfl) pa_nil))) (pe_and (pe_chain op_leA op_leA pe_int (pe_callB call_lenA (by rfl) T.z_len (by decide +kernel) (pa_cons (pv 0) pa_nil)) pe_int) (pe_one (pe_callB (call_allA rfl) (by rfl) T.z_all (by decide +kernel) (pa_cons (pe_lc (own := [("sign", 1)]) rfl sc_is_word.nd (pi_seq (pv 0)) (blkOk_by (own := [("sign", 1)]) (N := N_is_word) (sc := defScope s_is_word) (by decide +kernel)) (fun _ _ _ _ _ => (pg_name (i := 1) sc_is_word.nd rfl (.inl rfl))) (fun _ _ _ _ _ => pts_nil) (fun _ _ _ _ _ => (pe_cmpR (op_inP (units65 hr)) (pv 1) (pe_const_str T.v_LETTERS (by rfl)) rfl))) pa_nil)))))))
def t_clash (K : PySem.W.Frag) : TS :=
  (tSeq (tAsg (tDc (iSeq K (tFld K (tVar 0) "places")) (gTup K 3 (gCons (gName 4) (gCons (gName 5) (gCons (gName 6) gNil)))) tYes (tVar 4) (tTup (tCons (tVar 4) (tCons (tVar 5) (tCons (tVar 6) tNil)))) [4, 5, 6]) (gName 2))
    (tSeq (tFor (iSeq K (tFld K (tVar 1) "places")) (gName 3) (tIfS (tTest (tOp (rNeP K) (tDGet2 (tVar 2) (tOp (rIx K) (tVar 3) (tC (.int 0))) (tVar 3)) (tVar 3))) (tRet (tOp (rIx K) (tVar 3) (tC (.int 0)))) tNext))
    (tRet (tC .non))))
theorem wk_clash {P : Program} {w : World} {K : PySem.W.Frag} {mg : Str → Option Value} {base : Heap} (T : Txt K mg) (cdv : Value) (A : Around) (outer : List Env) (s : Shared) (H : Hp) (E : XK) (hr : Room 0 (A.deeper (envOfC "clash" (defScope s_clash) s.heap.objs.size (He.ga K "clash") cdv))) :
    PSs (cxOf CX0 P w K mg base N_clash "clash" (defScope s_clash) (He.ga K "clash") cdv A outer s H E).nox (defBody s_clash) (t_clash K) := by
  unfold t_clash
  exact (pss_cons (ps_setDc (i := 2) (own := [("name", 4), ("kind", 5), ("column", 6)]) rfl sc_clash.nd rfl rfl (sw_trueD rfl rfl rfl (by decide +kernel)) (pi_seq (pe_fld (pv 0) rfl)) (blkOk_by (own := [("name", 4), ("kind", 5), ("column", 6)]) (N := N_clash) (sc := defScope s_clash) (by decide +kernel)) (fun _ _ _ _ _ => (pg_tup rfl (pgs_cons (pg_name (i := 4) sc_clash.nd rfl (.inl rfl)) (pgs_cons (pg_name (i := 5) sc_clash.nd rfl (.inl rfl)) (pgs_cons (pg_name (i := 6) sc_clash.nd rfl (.inl rfl)) pgs_nil))))) (fun _ _ _ _ _ => pts_nil) (fun _ _ _ _ _ => (pv 4)) (fun _ _ _ _ _ => (pe_tup (pa_cons (pv 4) (pa_cons (pv 5) (pa_cons (pv 6) pa_nil))))))
      (pss_cons (ps_for PassesOwn.never rfl (pi_seq (pe_fld (pv 1) rfl)) (pg_name (i := 3) sc_clash.nd rfl (.inl rfl)) (pss_one (ps_if (pt_cmpR (op_neP hr.units) (pe_dget2 (hu_of hr) (pv 2) (pe_ix ix_seq (pv 3) pe_int (fun _ _ => rfl)) (pv 3) ⟨rfl, rfl, rfl, rfl⟩) (pv 3) (nomark _)) (pss_one (ps_ret (pe_ix ix_seq (pv 3) pe_int (fun _ _ => rfl)))) pss_nil)))
      (pss_one (ps_ret pe_non))))
def t_kept_ends (K : PySem.W.Frag) : TS :=
  (tRet (tOp rAddA (tLc (iSeq K (tVar 0)) (gTup K 3 (gCons (gName 1) (gCons (gName 2) (gCons (gName 3) gNil)))) tYes (tVar 2) [1, 2, 3]) (tLc (iSeq K (tVar 0)) (gTup K 3 (gCons (gName 1) (gCons (gName 2) (gCons (gName 3) gNil)))) tYes (tVar 3) [1, 2, 3])))
theorem wk_kept_ends {P : Program} {w : World} {K : PySem.W.Frag} {mg : Str → Option Value} {base : Heap} (T : Txt K mg) (cdv : Value) (A : Around) (outer : List Env) (s : Shared) (H : Hp) (E : XK) (hr : Room 0 (A.deeper (envOfC "kept_ends" (defScope s_kept_ends) s.heap.objs.size (He.ga K "kept_ends") cdv))) :
    PSs (cxOf CX0 P w K mg base N_kept_ends "kept_ends" (defScope s_kept_ends) (He.ga K "kept_ends") cdv A outer s H E).nox (defBody s_kept_ends) (t_kept_ends K) := by
  unfold t_kept_ends
  exact (pss_one (ps_ret (pe_op op_addA (pe_lc (own := [("name", 1), ("start", 2), ("end", 3)]) rfl sc_kept_ends.nd (pi_seq (pv 0)) (blkOk_by (own := [("name", 1), ("start", 2), ("end", 3)]) (N := N_kept_ends) (sc := defScope s_kept_ends) (by decide +kernel)) (fun _ _ _ _ _ => (pg_tup rfl (pgs_cons (pg_name (i := 1) sc_kept_ends.nd rfl (.inl rfl)) (pgs_cons (pg_name (i := 2) sc_kept_ends.nd rfl (.inl rfl)) (pgs_cons (pg_name (i := 3) sc_kept_ends.nd rfl (.inl rfl)) pgs_nil))))) (fun _ _ _ _ _ => pts_nil) (fun _ _ _ _ _ => (pv 2))) (pe_lc (own := [("name", 1), ("start", 2), ("end", 3)]) rfl sc_kept_ends.nd (pi_seq (pv 0)) (blkOk_by (own := [("name", 1), ("start", 2), ("end", 3)]) (N := N_kept_ends) (sc := defScope s_kept_ends) (by decide +kernel)) (fun _ _ _ _ _ => (pg_tup rfl (pgs_cons (pg_name (i := 1) sc_kept_ends.nd rfl (.inl rfl)) (pgs_cons (pg_name (i := 2) sc_kept_ends.nd rfl (.inl rfl)) (pgs_cons (pg_name (i := 3) sc_kept_ends.nd rfl (.inl rfl)) pgs_nil))))) (fun _ _ _ _ _ => pts_nil) (fun _ _ _ _ _ => (pv 3))))))
def t_Pattern_init (K : PySem.W.Frag) : TS :=
  (tSeq (sFld K (tVar 0) (tCB (rTupOf K) (tCons (tVar 1) tNil)) "places")
    (sFld K (tVar 0) (tCB (rTupOf K) (tCons (tVar 2) tNil)) "links"))
theorem wk_Pattern_init {P : Program} {w : World} {K : PySem.W.Frag} {mg : Str → Option Value} {base : Heap} (T : Txt K mg) (cdv : Value) (A : Around) (outer : List Env) (s : Shared) (H : Hp) (E : XK) (hr : Room 0 (A.deeper (envOfC "Pattern.__init__" (defScope s_Pattern_init) s.heap.objs.size (He.ma K (He.ga K "Pattern") "__init__") cdv))) :
    PSs (cxOf CX0 P w K mg base N_Pattern_init "Pattern.__init__" (defScope s_Pattern_init) (He.ma K (He.ga K "Pattern") "__init__") cdv A outer s H E).nox (defBody s_Pattern_init) (t_Pattern_init K) := by
  unfold t_Pattern_init
  exact (pss_cons (ps_fld (pv 0) (pe_callTy call_tupA (by rfl) T.z_tuple (by decide +kernel) (pa_cons (pv 1) pa_nil)) rfl)
      (pss_one (ps_fld (pv 0) (pe_callTy call_tupA (by rfl) T.z_tuple (by decide +kernel) (pa_cons (pv 2) pa_nil)) rfl)))
def t_Pattern_place (K : PySem.W.Frag) : TS :=
  (tSeq (tIfS (tOr (tNot (tB (tCl (sp_is_word K) E0 (tCons (tVar 0) tNil)))) (tOr (tNot (tB (tCl (sp_is_word K) E0 (tCons (tVar 1) tNil)))) (tNot (tTest (tChain rLeA rLeA (tC (.int 0)) (tVar 2) (tC (.int 3))))))) tNever tNext)
    (tRet (StX.tMakeR (He.ga K "Pattern") (sp_Pattern_init K) E0 (tCons (tLst (tCons (tTup (tCons (tVar 0) (tCons (tVar 1) (tCons (tVar 2) tNil)))) tNil)) (tCons (tLst tNil) tNil)))))
theorem wk_Pattern_place {P : Program} {w : World} {K : PySem.W.Frag} {mg : Str → Option Value} {base : Heap} (T : Txt K mg) (G_Pattern_init : FnR P w K mg base CX0 1 (He.ma K (He.ga K "Pattern") "__init__") (sp_Pattern_init K)) (G_is_word : FnR P w K mg base CX0 1 (He.ga K "is_word") (sp_is_word K)) (cdv : Value) (A : Around) (outer : List Env) (s : Shared) (H : Hp) (E : XK) (hr : Room 2 (A.deeper (envOfC "Pattern.place" (defScope s_Pattern_place) s.heap.objs.size (He5.wf K (He.ga K "Pattern") "staticmethod" "place") cdv))) :
    PSs (cxOf CX0 P w K mg base N_Pattern_place "Pattern.place" (defScope s_Pattern_place) (He5.wf K (He.ga K "Pattern") "staticmethod" "place") cdv A outer s H E).nox (defBody s_Pattern_place) (t_Pattern_place K) := by
  unfold t_Pattern_place
  exact (pss_cons (ps_if (PW.pt (pw_or (pt_not (pt_val (pe_cl G_is_word (hr.mono (by decide)) (by rfl) T.g_is_word T.k_is_word pass0 (pa_cons (pv 0) pa_nil)))) (pw_or (pt_not (pt_val (pe_cl G_is_word (hr.mono (by decide)) (by rfl) T.g_is_word T.k_is_word pass0 (pa_cons (pv 1) pa_nil)))) (pw_or1 (pt_not (pt_chain op_leA op_leA pe_int (pv 2) pe_int)))))) (pss_one ps_never) pss_nil)
      (pss_one (ps_ret (pe_mk T.mk_Pattern G_Pattern_init (hr.mono (by decide)) (by rfl) T.g_Pattern pass0 (pa_cons (pe_lst (pa_cons (pe_tup (pa_cons (pv 0) (pa_cons (pv 1) (pa_cons (pv 2) pa_nil)))) pa_nil)) (pa_cons (pe_lst pa_nil) pa_nil))))))
def t_Pattern_or (K : PySem.W.Frag) : TS :=
  (tSeq (tAsg (tCl (sp_clash K) E0 (tCons (tVar 0) (tCons (tVar 1) tNil))) (gName 2))
    (tSeq (tIfS (tTest (tOp rNotNA (tVar 2) (tC .non))) tNever tNext)
    (tSeq (tAsg (tLc (iSeq K (tFld K (tVar 1) "places")) (gName 5) (tTest (tOp (rInP K true) (tVar 5) (tFld K (tVar 0) "places"))) (tVar 5) [5]) (gName 3))
    (tSeq (tAsg (tLc (iSeq K (tFld K (tVar 1) "links")) (gName 6) (tTest (tOp (rInP K true) (tVar 6) (tFld K (tVar 0) "links"))) (tVar 6) [6]) (gName 4))
    (tRet (StX.tMakeR (He.ga K "Pattern") (sp_Pattern_init K) E0 (tCons (tLst (StX.tStar K (tFld K (tVar 0) "places") (StX.tStar K (tVar 3) tNil))) (tCons (tLst (StX.tStar K (tFld K (tVar 0) "links") (StX.tStar K (tVar 4) tNil))) tNil))))))))
theorem wk_Pattern_or {P : Program} {w : World} {K : PySem.W.Frag} {mg : Str → Option Value} {base : Heap} (T : Txt K mg) (G_Pattern_init : FnR P w K mg base CX0 1 (He.ma K (He.ga K "Pattern") "__init__") (sp_Pattern_init K)) (G_clash : FnR P w K mg base CX0 1 (He.ga K "clash") (sp_clash K)) (cdv : Value) (A : Around) (outer : List Env) (s : Shared) (H : Hp) (E : XK) (hr : Room 2 (A.deeper (envOfC "Pattern.__or__" (defScope s_Pattern_or) s.heap.objs.size (He.ma K (He.ga K "Pattern") "__or__") cdv))) :
    PSs (cxOf CX0 P w K mg base N_Pattern_or "Pattern.__or__" (defScope s_Pattern_or) (He.ma K (He.ga K "Pattern") "__or__") cdv A outer s H E).nox (defBody s_Pattern_or) (t_Pattern_or K) := by
  unfold t_Pattern_or
  exact (pss_cons (ps_set (i := 2) sc_Pattern_or.nd rfl (.inl rfl) (pe_cl G_clash (hr.mono (by decide)) (by rfl) T.g_clash T.k_clash pass0 (pa_cons (pv 0) (pa_cons (pv 1) pa_nil))))
      (pss_cons (ps_if (pt_cmpR op_notNA (pv 2) pe_non (nomark _)) (pss_one ps_never) pss_nil)
      (pss_cons (ps_setLc (i := 3) (own := [("place", 5)]) rfl sc_Pattern_or.nd rfl rfl (sw_true rfl rfl rfl (by decide +kernel)) (pi_seq (pe_fld (pv 1) rfl)) (blkOk_by (own := [("place", 5)]) (N := N_Pattern_or) (sc := defScope s_Pattern_or) (by decide +kernel)) (fun _ _ _ _ _ => (pg_name (i := 5) sc_Pattern_or.nd rfl (.inl rfl))) (fun _ _ _ _ _ => (pts_one (pt_cmpR (op_notInP (units65 hr)) (pv 5) (pe_fld (pv 0) rfl) rfl))) (fun _ _ _ _ _ => (pv 5)))
      (pss_cons (ps_setLc (i := 4) (own := [("link", 6)]) rfl sc_Pattern_or.nd rfl rfl (sw_true rfl rfl rfl (by decide +kernel)) (pi_seq (pe_fld (pv 1) rfl)) (blkOk_by (own := [("link", 6)]) (N := N_Pattern_or) (sc := defScope s_Pattern_or) (by decide +kernel)) (fun _ _ _ _ _ => (pg_name (i := 6) sc_Pattern_or.nd rfl (.inl rfl))) (fun _ _ _ _ _ => (pts_one (pt_cmpR (op_notInP (units65 hr)) (pv 6) (pe_fld (pv 0) rfl) rfl))) (fun _ _ _ _ _ => (pv 6)))
      (pss_one (ps_ret (pe_mk T.mk_Pattern G_Pattern_init (hr.mono (by decide)) (by rfl) T.g_Pattern pass0 (pa_cons (pe_lst (StX.pa_star (pe_fld (pv 0) rfl) (StX.pa_star (pv 3) pa_nil))) (pa_cons (pe_lst (StX.pa_star (pe_fld (pv 0) rfl) (StX.pa_star (pv 4) pa_nil))) pa_nil)))))))))
def t_Pattern_and (K : PySem.W.Frag) : TS :=
  (tSeq (tAsg (tLc (iSeq K (tFld K (tVar 0) "places")) (gName 5) (tTest (tOp (rInP K false) (tVar 5) (tFld K (tVar 1) "places"))) (tVar 5) [5]) (gName 2))
    (tSeq (tAsg (tLc (iSeq K (tVar 2)) (gTup K 3 (gCons (gName 6) (gCons (gName 7) (gCons (gName 8) gNil)))) tYes (tVar 6) [6, 7, 8]) (gName 3))
    (tSeq (tAsg (tLc (iSeq K (tFld K (tVar 0) "links")) (gName 9) (tTest (tOp (rInP K false) (tVar 9) (tFld K (tVar 1) "links"))) (tVar 9) [9]) (gName 4))
    (tRet (StX.tMakeR (He.ga K "Pattern") (sp_Pattern_init K) E0 (tCons (tVar 2) (tCons (tLc (iSeq K (tVar 4)) (gName 9) (tAnd (tTest (tOp (rInP K false) (tOp (rIx K) (tVar 9) (tC (.int 1))) (tVar 3))) (tTest (tOp (rInP K false) (tOp (rIx K) (tVar 9) (tC (.int 2))) (tVar 3)))) (tVar 9) [9]) tNil)))))))
theorem wk_Pattern_and {P : Program} {w : World} {K : PySem.W.Frag} {mg : Str → Option Value} {base : Heap} (T : Txt K mg) (G_Pattern_init : FnR P w K mg base CX0 1 (He.ma K (He.ga K "Pattern") "__init__") (sp_Pattern_init K)) (cdv : Value) (A : Around) (outer : List Env) (s : Shared) (H : Hp) (E : XK) (hr : Room 2 (A.deeper (envOfC "Pattern.__and__" (defScope s_Pattern_and) s.heap.objs.size (He.ma K (He.ga K "Pattern") "__and__") cdv))) :
    PSs (cxOf CX0 P w K mg base N_Pattern_and "Pattern.__and__" (defScope s_Pattern_and) (He.ma K (He.ga K "Pattern") "__and__") cdv A outer s H E).nox (defBody s_Pattern_and) (t_Pattern_and K) := by
  unfold t_Pattern_and
  exact (pss_cons (ps_setLc (i := 2) (own := [("place", 5)]) rfl sc_Pattern_and.nd rfl rfl (sw_true rfl rfl rfl (by decide +kernel)) (pi_seq (pe_fld (pv 0) rfl)) (blkOk_by (own := [("place", 5)]) (N := N_Pattern_and) (sc := defScope s_Pattern_and) (by decide +kernel)) (fun _ _ _ _ _ => (pg_name (i := 5) sc_Pattern_and.nd rfl (.inl rfl))) (fun _ _ _ _ _ => (pts_one (pt_cmpR (op_inP (units65 hr)) (pv 5) (pe_fld (pv 1) rfl) rfl))) (fun _ _ _ _ _ => (pv 5)))
      (pss_cons (ps_set (i := 3) sc_Pattern_and.nd rfl (.inr rfl) (pe_lc (own := [("name", 6), ("kind", 7), ("column", 8)]) rfl sc_Pattern_and.nd (pi_seq (pv 2)) (blkOk_by (own := [("name", 6), ("kind", 7), ("column", 8)]) (N := N_Pattern_and) (sc := defScope s_Pattern_and) (by decide +kernel)) (fun _ _ _ _ _ => (pg_tup rfl (pgs_cons (pg_name (i := 6) sc_Pattern_and.nd rfl (.inl rfl)) (pgs_cons (pg_name (i := 7) sc_Pattern_and.nd rfl (.inl rfl)) (pgs_cons (pg_name (i := 8) sc_Pattern_and.nd rfl (.inl rfl)) pgs_nil))))) (fun _ _ _ _ _ => pts_nil) (fun _ _ _ _ _ => (pv 6))))
      (pss_cons (ps_setLc (i := 4) (own := [("link", 9)]) rfl sc_Pattern_and.nd rfl rfl (sw_true rfl rfl rfl (by decide +kernel)) (pi_seq (pe_fld (pv 0) rfl)) (blkOk_by (own := [("link", 9)]) (N := N_Pattern_and) (sc := defScope s_Pattern_and) (by decide +kernel)) (fun _ _ _ _ _ => (pg_name (i := 9) sc_Pattern_and.nd rfl (.inl rfl))) (fun _ _ _ _ _ => (pts_one (pt_cmpR (op_inP (units65 hr)) (pv 9) (pe_fld (pv 1) rfl) rfl))) (fun _ _ _ _ _ => (pv 9)))
      (pss_one (ps_ret (pe_mk T.mk_Pattern G_Pattern_init (hr.mono (by decide)) (by rfl) T.g_Pattern pass0 (pa_cons (pv 2) (pa_cons (pe_lc (own := [("link", 9)]) rfl sc_Pattern_and.nd (pi_seq (pv 4)) (blkOk_by (own := [("link", 9)]) (N := N_Pattern_and) (sc := defScope s_Pattern_and) (by decide +kernel)) (fun _ _ _ _ _ => (pg_name (i := 9) sc_Pattern_and.nd rfl (.inl rfl))) (fun _ _ _ _ _ => (pts_one (PW.pt (pw_and (pt_cmpR (op_inP (units65 hr)) (pe_ix ix_seq (pv 9) pe_int (fun _ _ => rfl)) (pv 3) rfl) (pw_and1 (pt_cmpR (op_inP (units65 hr)) (pe_ix ix_seq (pv 9) pe_int (fun _ _ => rfl)) (pv 3) rfl)))))) (fun _ _ _ _ _ => (pv 9))) pa_nil))))))))
def t_Pattern_sub (K : PySem.W.Frag) : TS :=
  (tSeq (tAsg (tLc (iSeq K (tFld K (tVar 0) "links")) (gName 5) (tTest (tOp (rInP K true) (tVar 5) (tFld K (tVar 1) "links"))) (tVar 5) [5]) (gName 2))
    (tSeq (tAsg (tCl (sp_kept_ends K) E0 (tCons (tVar 2) tNil)) (gName 3))
    (tSeq (tAsg (tLc (iSeq K (tFld K (tVar 0) "places")) (gName 6) (tOr (tTest (tOp (rInP K true) (tVar 6) (tFld K (tVar 1) "places"))) (tTest (tOp (rInP K false) (tOp (rIx K) (tVar 6) (tC (.int 0))) (tVar 3)))) (tVar 6) [6]) (gName 4))
    (tRet (StX.tMakeR (He.ga K "Pattern") (sp_Pattern_init K) E0 (tCons (tVar 4) (tCons (tVar 2) tNil)))))))
theorem wk_Pattern_sub {P : Program} {w : World} {K : PySem.W.Frag} {mg : Str → Option Value} {base : Heap} (T : Txt K mg) (G_Pattern_init : FnR P w K mg base CX0 1 (He.ma K (He.ga K "Pattern") "__init__") (sp_Pattern_init K)) (G_kept_ends : FnR P w K mg base CX0 1 (He.ga K "kept_ends") (sp_kept_ends K)) (cdv : Value) (A : Around) (outer : List Env) (s : Shared) (H : Hp) (E : XK) (hr : Room 2 (A.deeper (envOfC "Pattern.__sub__" (defScope s_Pattern_sub) s.heap.objs.size (He.ma K (He.ga K "Pattern") "__sub__") cdv))) :
    PSs (cxOf CX0 P w K mg base N_Pattern_sub "Pattern.__sub__" (defScope s_Pattern_sub) (He.ma K (He.ga K "Pattern") "__sub__") cdv A outer s H E).nox (defBody s_Pattern_sub) (t_Pattern_sub K) := by
  unfold t_Pattern_sub
  exact (pss_cons (ps_setLc (i := 2) (own := [("link", 5)]) rfl sc_Pattern_sub.nd rfl rfl (sw_true rfl rfl rfl (by decide +kernel)) (pi_seq (pe_fld (pv 0) rfl)) (blkOk_by (own := [("link", 5)]) (N := N_Pattern_sub) (sc := defScope s_Pattern_sub) (by decide +kernel)) (fun _ _ _ _ _ => (pg_name (i := 5) sc_Pattern_sub.nd rfl (.inl rfl))) (fun _ _ _ _ _ => (pts_one (pt_cmpR (op_notInP (units65 hr)) (pv 5) (pe_fld (pv 1) rfl) rfl))) (fun _ _ _ _ _ => (pv 5)))
      (pss_cons (ps_set (i := 3) sc_Pattern_sub.nd rfl (.inr rfl) (pe_cl G_kept_ends (hr.mono (by decide)) (by rfl) T.g_kept_ends T.k_kept_ends pass0 (pa_cons (pv 2) pa_nil)))
      (pss_cons (ps_setLc (i := 4) (own := [("place", 6)]) rfl sc_Pattern_sub.nd rfl rfl (sw_true rfl rfl rfl (by decide +kernel)) (pi_seq (pe_fld (pv 0) rfl)) (blkOk_by (own := [("place", 6)]) (N := N_Pattern_sub) (sc := defScope s_Pattern_sub) (by decide +kernel)) (fun _ _ _ _ _ => (pg_name (i := 6) sc_Pattern_sub.nd rfl (.inl rfl))) (fun _ _ _ _ _ => (pts_one (PW.pt (pw_or (pt_cmpR (op_notInP (units65 hr)) (pv 6) (pe_fld (pv 1) rfl) rfl) (pw_or1 (pt_cmpR (op_inP (units65 hr)) (pe_ix ix_seq (pv 6) pe_int (fun _ _ => rfl)) (pv 3) rfl)))))) (fun _ _ _ _ _ => (pv 6)))
      (pss_one (ps_ret (pe_mk T.mk_Pattern G_Pattern_init (hr.mono (by decide)) (by rfl) T.g_Pattern pass0 (pa_cons (pv 4) (pa_cons (pv 2) pa_nil))))))))
def t_Pattern_rshift (K : PySem.W.Frag) : TS :=
  (tSeq (tAsg (tVar 1) (gTup K 2 (gCons (gName 2) (gCons (gName 3) gNil))))
    (tSeq (tIfS (tOr (tNot (tB (tCl (sp_is_word K) E0 (tCons (tVar 2) tNil)))) (tOr (tTest (tOp (rEqP K) (tFld K (tVar 0) "places") (tTup tNil))) (tTest (tOp (rEqP K) (tFld K (tVar 3) "places") (tTup tNil))))) tNever tNext)
    (tSeq (tAsg (tOp (rOwn (He.ga K "Pattern") (sp_Pattern_or K) E0) (tVar 0) (tVar 3)) (gName 4))
    (tSeq (tAsg (tTup (tCons (tVar 2) (tCons (tOp (rIx K) (tOp (rIx K) (tFld K (tVar 0) "places") (tUn rNegA (tC (.int 1)))) (tC (.int 0))) (tCons (tOp (rIx K) (tOp (rIx K) (tFld K (tVar 3) "places") (tC (.int 0))) (tC (.int 0))) tNil)))) (gName 5))
    (tSeq (tAsg (tOp (rIx K) (tFld K (tVar 3) "places") (tUn rNegA (tC (.int 1)))) (gName 6))
    (tSeq (tAsg (tLc (iSeq K (tFld K (tVar 4) "places")) (gName 9) (tTest (tOp (rNeP K) (tVar 9) (tVar 6))) (tVar 9) [9]) (gName 7))
    (tSeq (tAsg (tLc (iSeq K (tFld K (tVar 4) "links")) (gName 10) tYes (tVar 10) [10]) (gName 8))
    (tSeq (tIfS (tTest (tOp (rInP K true) (tVar 5) (tVar 8))) (tAsg (tOp rAddA (tVar 8) (tLst (tCons (tVar 5) tNil))) (gName 8)) tNext)
    (tRet (StX.tMakeR (He.ga K "Pattern") (sp_Pattern_init K) E0 (tCons (tLst (StX.tStar K (tVar 7) (tCons (tVar 6) tNil))) (tCons (tVar 8) tNil))))))))))))
theorem wk_Pattern_rshift {P : Program} {w : World} {K : PySem.W.Frag} {mg : Str → Option Value} {base : Heap} (T : Txt K mg) (G_Pattern_init : FnR P w K mg base CX0 1 (He.ma K (He.ga K "Pattern") "__init__") (sp_Pattern_init K)) (G_Pattern_or : FnR P w K mg base CX0 3 (He.ma K (He.ga K "Pattern") "__or__") (sp_Pattern_or K)) (G_is_word : FnR P w K mg base CX0 1 (He.ga K "is_word") (sp_is_word K)) (cdv : Value) (A : Around) (outer : List Env) (s : Shared) (H : Hp) (E : XK) (hr : Room 3 (A.deeper (envOfC "Pattern.__rshift__" (defScope s_Pattern_rshift) s.heap.objs.size (He.ma K (He.ga K "Pattern") "__rshift__") cdv))) :
    PSs (cxOf CX0 P w K mg base N_Pattern_rshift "Pattern.__rshift__" (defScope s_Pattern_rshift) (He.ma K (He.ga K "Pattern") "__rshift__") cdv A outer s H E).nox (defBody s_Pattern_rshift) (t_Pattern_rshift K) := by
  unfold t_Pattern_rshift
  exact (pss_cons (ps_asg (pv 1) (pg_tup rfl (pgs_cons (pg_name (i := 2) sc_Pattern_rshift.nd rfl (.inl rfl)) (pgs_cons (pg_name (i := 3) sc_Pattern_rshift.nd rfl (.inl rfl)) pgs_nil))))
      (pss_cons (ps_if (PW.pt (pw_or (pt_not (pt_val (pe_cl G_is_word (hr.mono (by decide)) (by rfl) T.g_is_word T.k_is_word pass0 (pa_cons (pv 2) pa_nil)))) (pw_or (pt_cmpR (op_eqP hr.units) (pe_fld (pv 0) rfl) (pe_tup pa_nil) (nomark _)) (pw_or1 (pt_cmpR (op_eqP hr.units) (pe_fld (pv 3) rfl) (pe_tup pa_nil) (nomark _)))))) (pss_one ps_never) pss_nil)
      (pss_cons (ps_set (i := 4) sc_Pattern_rshift.nd rfl (.inl rfl) (pe_op (op_own T.sf_Pattern T.o_Pattern_or G_Pattern_or (hr.mono (by decide)) pass0) (pv 0) (pv 3)))
      (pss_cons (ps_set (i := 5) sc_Pattern_rshift.nd rfl (.inl rfl) (pe_tup (pa_cons (pv 2) (pa_cons (pe_ix ix_seq (pe_ix ix_seq (pe_fld (pv 0) rfl) (pe_un un_negA pe_int) (fun _ _ => rfl)) pe_int (fun _ _ => rfl)) (pa_cons (pe_ix ix_seq (pe_ix ix_seq (pe_fld (pv 3) rfl) pe_int (fun _ _ => rfl)) pe_int (fun _ _ => rfl)) pa_nil)))))
      (pss_cons (ps_set (i := 6) sc_Pattern_rshift.nd rfl (.inr rfl) (pe_ix ix_seq (pe_fld (pv 3) rfl) (pe_un un_negA pe_int) (fun _ _ => rfl)))
      (pss_cons (ps_setLc (i := 7) (own := [("place", 9)]) rfl sc_Pattern_rshift.nd rfl rfl (sw_true rfl rfl rfl (by decide +kernel)) (pi_seq (pe_fld (pv 4) rfl)) (blkOk_by (own := [("place", 9)]) (N := N_Pattern_rshift) (sc := defScope s_Pattern_rshift) (by decide +kernel)) (fun _ _ _ _ _ => (pg_name (i := 9) sc_Pattern_rshift.nd rfl (.inl rfl))) (fun _ _ _ _ _ => (pts_one (pt_cmpR (op_neP hr.units) (pv 9) (pv 6) (nomark _)))) (fun _ _ _ _ _ => (pv 9)))
      (pss_cons (ps_setLc (i := 8) (own := [("one", 10)]) rfl sc_Pattern_rshift.nd rfl rfl (sw_true rfl rfl rfl (by decide +kernel)) (pi_seq (pe_fld (pv 4) rfl)) (blkOk_by (own := [("one", 10)]) (N := N_Pattern_rshift) (sc := defScope s_Pattern_rshift) (by decide +kernel)) (fun _ _ _ _ _ => (pg_name (i := 10) sc_Pattern_rshift.nd rfl (.inl rfl))) (fun _ _ _ _ _ => pts_nil) (fun _ _ _ _ _ => (pv 10)))
      (pss_cons (ps_if (pt_cmpR (op_notInP (units65 hr)) (pv 5) (pv 8) rfl) (pss_one (ps_set (i := 8) sc_Pattern_rshift.nd rfl (.inl rfl) (pe_op op_addA (pv 8) (pe_lst (pa_cons (pv 5) pa_nil))))) pss_nil)
      (pss_one (ps_ret (pe_mk T.mk_Pattern G_Pattern_init (hr.mono (by decide)) (by rfl) T.g_Pattern pass0 (pa_cons (pe_lst (StX.pa_star (pv 7) (pa_cons (pv 6) pa_nil))) (pa_cons (pv 8) pa_nil)))))))))))))
def t_Pattern_contains (K : PySem.W.Frag) : TS :=
  (tSeq (tIfS (tB (tCB (rIsi K) (tCons (tVar 1) (tCons (tC (.ty "str")) tNil)))) (tRet (tOp (rInP K false) (tVar 1) (tLc (iSeq K (tFld K (tVar 0) "places")) (gTup K 3 (gCons (gName 4) (gCons (gName 5) (gCons (gName 6) gNil)))) tYes (tVar 4) [4, 5, 6]))) tNext)
    (tSeq (tAsg (tLc (iSeq K (tFld K (tVar 1) "places")) (gName 7) (tTest (tOp (rInP K true) (tVar 7) (tFld K (tVar 0) "places"))) (tVar 7) [7]) (gName 2))
    (tSeq (tAsg (tLc (iSeq K (tFld K (tVar 1) "links")) (gName 8) (tTest (tOp (rInP K true) (tVar 8) (tFld K (tVar 0) "links"))) (tVar 8) [8]) (gName 3))
    (tRet (tAndV (tOp (rEqP K) (tVar 2) (tLst tNil)) (tOp (rEqP K) (tVar 3) (tLst tNil)))))))
theorem wk_Pattern_contains {P : Program} {w : World} {K : PySem.W.Frag} {mg : Str → Option Value} {base : Heap} (T : Txt K mg) (cdv : Value) (A : Around) (outer : List Env) (s : Shared) (H : Hp) (E : XK) (hr : Room 0 (A.deeper (envOfC "Pattern.__contains__" (defScope s_Pattern_contains) s.heap.objs.size (He.ma K (He.ga K "Pattern") "__contains__") cdv))) :
    PSs (cxOf CX0 P w K mg base N_Pattern_contains "Pattern.__contains__" (defScope s_Pattern_contains) (He.ma K (He.ga K "Pattern") "__contains__") cdv A outer s H E).nox (defBody s_Pattern_contains) (t_Pattern_contains K) := by
  unfold t_Pattern_contains
  exact (pss_cons (ps_if (pt_val (pe_callB call_isi (by rfl) T.z_isinstance (by decide +kernel) (pa_cons (pv 1) (pa_cons (pe_bltn (v := .ty "str") (by rfl) T.z_str (by decide +kernel) rfl) pa_nil)))) (pss_one (ps_ret (pe_cmpR (op_inP (units65 hr)) (pv 1) (pe_lc (own := [("name", 4), ("kind", 5), ("column", 6)]) rfl sc_Pattern_contains.nd (pi_seq (pe_fld (pv 0) rfl)) (blkOk_by (own := [("name", 4), ("kind", 5), ("column", 6)]) (N := N_Pattern_contains) (sc := defScope s_Pattern_contains) (by decide +kernel)) (fun _ _ _ _ _ => (pg_tup rfl (pgs_cons (pg_name (i := 4) sc_Pattern_contains.nd rfl (.inl rfl)) (pgs_cons (pg_name (i := 5) sc_Pattern_contains.nd rfl (.inl rfl)) (pgs_cons (pg_name (i := 6) sc_Pattern_contains.nd rfl (.inl rfl)) pgs_nil))))) (fun _ _ _ _ _ => pts_nil) (fun _ _ _ _ _ => (pv 4))) rfl))) pss_nil)
      (pss_cons (ps_setLc (i := 2) (own := [("place", 7)]) rfl sc_Pattern_contains.nd rfl rfl (sw_true rfl rfl rfl (by decide +kernel)) (pi_seq (pe_fld (pv 1) rfl)) (blkOk_by (own := [("place", 7)]) (N := N_Pattern_contains) (sc := defScope s_Pattern_contains) (by decide +kernel)) (fun _ _ _ _ _ => (pg_name (i := 7) sc_Pattern_contains.nd rfl (.inl rfl))) (fun _ _ _ _ _ => (pts_one (pt_cmpR (op_notInP (units65 hr)) (pv 7) (pe_fld (pv 0) rfl) rfl))) (fun _ _ _ _ _ => (pv 7)))
      (pss_cons (ps_setLc (i := 3) (own := [("link", 8)]) rfl sc_Pattern_contains.nd rfl rfl (sw_true rfl rfl rfl (by decide +kernel)) (pi_seq (pe_fld (pv 1) rfl)) (blkOk_by (own := [("link", 8)]) (N := N_Pattern_contains) (sc := defScope s_Pattern_contains) (by decide +kernel)) (fun _ _ _ _ _ => (pg_name (i := 8) sc_Pattern_contains.nd rfl (.inl rfl))) (fun _ _ _ _ _ => (pts_one (pt_cmpR (op_notInP (units65 hr)) (pv 8) (pe_fld (pv 0) rfl) rfl))) (fun _ _ _ _ _ => (pv 8)))
      (pss_one (ps_ret (pe_and (pe_cmpR (op_eqP hr.units) (pv 2) (pe_lst pa_nil) (nomark _)) (pe_one (pe_cmpR (op_eqP hr.units) (pv 3) (pe_lst pa_nil) (nomark _)))))))))
def t_Pattern_len (K : PySem.W.Frag) : TS :=
  (tRet (tCB (rLenA K) (tCons (tFld K (tVar 0) "places") tNil)))
theorem wk_Pattern_len {P : Program} {w : World} {K : PySem.W.Frag} {mg : Str → Option Value} {base : Heap} (T : Txt K mg) (cdv : Value) (A : Around) (outer : List Env) (s : Shared) (H : Hp) (E : XK) (hr : Room 0 (A.deeper (envOfC "Pattern.__len__" (defScope s_Pattern_len) s.heap.objs.size (He.ma K (He.ga K "Pattern") "__len__") cdv))) :
    PSs (cxOf CX0 P w K mg base N_Pattern_len "Pattern.__len__" (defScope s_Pattern_len) (He.ma K (He.ga K "Pattern") "__len__") cdv A outer s H E).nox (defBody s_Pattern_len) (t_Pattern_len K) := by
  unfold t_Pattern_len
  exact (pss_one (ps_ret (pe_callB call_lenA (by rfl) T.z_len (by decide +kernel) (pa_cons (pe_fld (pv 0) rfl) pa_nil))))
def t_Pattern_eq (K : PySem.W.Frag) : TS :=
  (tRet (tAndV (tCB (rIsi K) (tCons (tVar 1) (tCons (tC (.ref (He.ga K "Pattern"))) tNil))) (tAndV (tOp (rOwnIn (He.ga K "Pattern") (sp_Pattern_contains K) E0 false) (tVar 0) (tVar 1)) (tOp (rOwnIn (He.ga K "Pattern") (sp_Pattern_contains K) E0 false) (tVar 1) (tVar 0)))))
theorem wk_Pattern_eq {P : Program} {w : World} {K : PySem.W.Frag} {mg : Str → Option Value} {base : Heap} (T : Txt K mg) (G_Pattern_contains : FnR P w K mg base CX0 1 (He.ma K (He.ga K "Pattern") "__contains__") (sp_Pattern_contains K)) (cdv : Value) (A : Around) (outer : List Env) (s : Shared) (H : Hp) (E : XK) (hr : Room 1 (A.deeper (envOfC "Pattern.__eq__" (defScope s_Pattern_eq) s.heap.objs.size (He.ma K (He.ga K "Pattern") "__eq__") cdv))) :
    PSs (cxOf CX0 P w K mg base N_Pattern_eq "Pattern.__eq__" (defScope s_Pattern_eq) (He.ma K (He.ga K "Pattern") "__eq__") cdv A outer s H E).nox (defBody s_Pattern_eq) (t_Pattern_eq K) := by
  unfold t_Pattern_eq
  exact (pss_one (ps_ret (pe_and (pe_callB call_isi (by rfl) T.z_isinstance (by decide +kernel) (pa_cons (pv 1) (pa_cons (pe_glob (v := .ref (He.ga K "Pattern")) (by rfl) T.g_Pattern rfl) pa_nil))) (pe_and (pe_cmpR (op_inO T.o_Pattern_contains G_Pattern_contains (hr.mono (by decide)) pass0) (pv 0) (pv 1) rfl) (pe_one (pe_cmpR (op_inO T.o_Pattern_contains G_Pattern_contains (hr.mono (by decide)) pass0) (pv 1) (pv 0) rfl))))))
def t_law_pool (K : PySem.W.Frag) : TS :=
  (tSeq (tAsg (tLc (iSeq K (tSl (rSlA K) (tVar 0) tNoPart (tPart (tC (.int 63))))) (gName 3) (tTest (tOp rGeA (tVar 3) (tOp rPowA (tC (.int 10)) (tC (.int 18))))) (tCB rInt1 (tCons (tVar 3) tNil)) [3]) (gName 1))
    (tSeq (tAsg (tC (.int 7)) (gName 2))
    (tSeq (tFor (iSeq K (tSl (rSlA K) (tVar 0) tNoPart (tPart (tC (.int 63))))) (gName 3) (tAsg (tOp rModA (tCB rInt1 (tCons (tOp rAddA (tOp rAddA (tOp rMulA (tVar 2) (tC (.int 31))) (tOp rModA (tCB rInt1 (tCons (tVar 3) tNil)) (tC (.int 1000003)))) (tC (.int 1))) tNil)) (tC (.int 2147483629))) (gName 2)))
    (tRet (tLst (tCons (tVar 1) (tCons (tC (.int 0)) (tCons (tVar 2) (tCons (tC (.int 0)) tNil)))))))))
theorem wk_law_pool {P : Program} {w : World} {K : PySem.W.Frag} {mg : Str → Option Value} {base : Heap} (T : Txt K mg) (cdv : Value) (A : Around) (outer : List Env) (s : Shared) (H : Hp) (E : XK) (hr : Room 0 (A.deeper (envOfC "_law_pool" (defScope s_law_pool) s.heap.objs.size (He.ga K "_law_pool") cdv))) :
    PSs (cxOf CX0 P w K mg base N_law_pool "_law_pool" (defScope s_law_pool) (He.ga K "_law_pool") cdv A outer s H E).nox (defBody s_law_pool) (t_law_pool K) := by
  unfold t_law_pool
  exact (pss_cons (ps_setLc (i := 1) (own := [("_law_cell", 3)]) rfl sc_law_pool.nd rfl rfl (sw_true rfl rfl rfl (by decide +kernel)) (pi_seq (pe_slice sl_any (pv 0) po_none (po_some pe_int))) (blkOk_by (own := [("_law_cell", 3)]) (N := N_law_pool) (sc := defScope s_law_pool) (by decide +kernel)) (fun _ _ _ _ _ => (pg_name (i := 3) sc_law_pool.nd rfl (.inl rfl))) (fun _ _ _ _ _ => (pts_one (pt_cmpR op_geA (pv 3) (pe_op op_powA pe_int pe_int) (nomark _)))) (fun _ _ _ _ _ => (pe_callTy call_intA (by rfl) T.z_int (by decide +kernel) (pa_cons (pv 3) pa_nil))))
      (pss_cons (ps_set (i := 2) sc_law_pool.nd rfl (.inl rfl) pe_int)
      (pss_cons (ps_for PassesOwn.never rfl (pi_seq (pe_slice sl_any (pv 0) po_none (po_some pe_int))) (pg_name (i := 3) sc_law_pool.nd rfl (.inl rfl)) (pss_one (ps_set (i := 2) sc_law_pool.nd rfl (.inl rfl) (pe_op op_modA (pe_callTy call_intA (by rfl) T.z_int (by decide +kernel) (pa_cons (pe_op op_addA (pe_op op_addA (pe_op op_mulA (pv 2) pe_int) (pe_op op_modA (pe_callTy call_intA (by rfl) T.z_int (by decide +kernel) (pa_cons (pv 3) pa_nil)) pe_int)) pe_int) pa_nil)) pe_int))))
      (pss_one (ps_ret (pe_lst (pa_cons (pv 1) (pa_cons pe_int (pa_cons (pv 2) (pa_cons pe_int pa_nil))))))))))
def t_law_draw (K : PySem.W.Frag) : TS :=
  (tSeq (tAugS (tVar 0) (tC (.int 3)) (tC (.int 1)) rGetL (ipI (· + ·)) rSetL)
    (tSeq (tIfS (tAnd (tTest (tOp (rEqP K) (tOp (rIx K) (tVar 0) (tC (.int 1))) (tC (.int 0)))) (tTest (tOp (rNeP K) (tOp (rIx K) (tVar 0) (tC (.int 0))) (tLst tNil)))) (tSeq (tAsg (tOp (rIx K) (tOp (rIx K) (tVar 0) (tC (.int 0))) (tC (.int 0))) (gSub (tVar 0) (tC (.int 1)) rSetL))
    (tAsg (tSl (rSlA K) (tOp (rIx K) (tVar 0) (tC (.int 0))) (tPart (tC (.int 1))) tNoPart) (gSub (tVar 0) (tC (.int 0)) rSetL))) tNext)
    (tSeq (tIfS (tTest (tOp rGtA (tOp (rIx K) (tVar 0) (tC (.int 1))) (tC (.int 0)))) (tSeq (tAsg (tOp rModA (tCB rInt1 (tCons (tOp (rIx K) (tVar 0) (tC (.int 1))) tNil)) (tVar 1)) (gName 2))
    (tSeq (tAsg (tOp rDivA (tOp (rIx K) (tVar 0) (tC (.int 1))) (tVar 1)) (gSub (tVar 0) (tC (.int 1)) rSetL))
    (tRet (tVar 2)))) tNext)
    (tSeq (tAsg (tOp rModA (tCB rInt1 (tCons (tOp rAddA (tOp rMulA (tOp (rIx K) (tVar 0) (tC (.int 2))) (tC (.int 48271))) (tOp rMulA (tOp (rIx K) (tVar 0) (tC (.int 3))) (tC (.int 69621)))) tNil)) (tC (.int 2147483647))) (gName 3))
    (tSeq (tAsg (tOp rModA (tCB rInt1 (tCons (tOp rAddA (tOp rMulA (tVar 3) (tOp rAddA (tOp rDivA (tVar 3) (tC (.int 7))) (tC (.int 40692)))) (tOp rMulA (tOp (rIx K) (tVar 0) (tC (.int 3))) (tC (.int 16807)))) tNil)) (tC (.int 2147483399))) (gName 3))
    (tRet (tOp rModA (tOp rDivA (tVar 3) (tC (.int 5))) (tVar 1))))))))
theorem wk_law_draw {P : Program} {w : World} {K : PySem.W.Frag} {mg : Str → Option Value} {base : Heap} (T : Txt K mg) (cdv : Value) (A : Around) (outer : List Env) (s : Shared) (H : Hp) (E : XK) (hr : Room 0 (A.deeper (envOfC "_law_draw" (defScope s_law_draw) s.heap.objs.size (He.ga K "_law_draw") cdv))) :
    PSs (cxOf CX0 P w K mg base N_law_draw "_law_draw" (defScope s_law_draw) (He.ga K "_law_draw") cdv A outer s H E).nox (defBody s_law_draw) (t_law_draw K) := by
  unfold t_law_draw
  exact (pss_cons (ps_augS (pv 0) pe_int get_list pe_int ip_add set_list)
      (pss_cons (ps_if (PW.pt (pw_and (pt_cmpR (op_eqP hr.units) (pe_ix ix_seq (pv 0) pe_int (fun _ _ => rfl)) pe_int (nomark _)) (pw_and1 (pt_cmpR (op_neP hr.units) (pe_ix ix_seq (pv 0) pe_int (fun _ _ => rfl)) (pe_lst pa_nil) (nomark _))))) (pss_cons (ps_asg (pe_ix ix_seq (pe_ix ix_seq (pv 0) pe_int (fun _ _ => rfl)) pe_int (fun _ _ => rfl)) (pg_sub (pv 0) pe_int set_list))
      (pss_one (ps_asg (pe_slice sl_any (pe_ix ix_seq (pv 0) pe_int (fun _ _ => rfl)) (po_some pe_int) po_none) (pg_sub (pv 0) pe_int set_list)))) pss_nil)
      (pss_cons (ps_if (pt_cmpR op_gtA (pe_ix ix_seq (pv 0) pe_int (fun _ _ => rfl)) pe_int (nomark _)) (pss_cons (ps_set (i := 2) sc_law_draw.nd rfl (.inl rfl) (pe_op op_modA (pe_callTy call_intA (by rfl) T.z_int (by decide +kernel) (pa_cons (pe_ix ix_seq (pv 0) pe_int (fun _ _ => rfl)) pa_nil)) (pv 1)))
      (pss_cons (ps_asg (pe_op op_divA (pe_ix ix_seq (pv 0) pe_int (fun _ _ => rfl)) (pv 1)) (pg_sub (pv 0) pe_int set_list))
      (pss_one (ps_ret (pv 2))))) pss_nil)
      (pss_cons (ps_set (i := 3) sc_law_draw.nd rfl (.inl rfl) (pe_op op_modA (pe_callTy call_intA (by rfl) T.z_int (by decide +kernel) (pa_cons (pe_op op_addA (pe_op op_mulA (pe_ix ix_seq (pv 0) pe_int (fun _ _ => rfl)) pe_int) (pe_op op_mulA (pe_ix ix_seq (pv 0) pe_int (fun _ _ => rfl)) pe_int)) pa_nil)) pe_int))
      (pss_cons (ps_set (i := 3) sc_law_draw.nd rfl (.inl rfl) (pe_op op_modA (pe_callTy call_intA (by rfl) T.z_int (by decide +kernel) (pa_cons (pe_op op_addA (pe_op op_mulA (pv 3) (pe_op op_addA (pe_op op_divA (pv 3) pe_int) pe_int)) (pe_op op_mulA (pe_ix ix_seq (pv 0) pe_int (fun _ _ => rfl)) pe_int)) pa_nil)) pe_int))
      (pss_one (ps_ret (pe_op op_modA (pe_op op_divA (pv 3) pe_int) (pv 1)))))))))
def t_law_word (K : PySem.W.Frag) : TS :=
  (tSeq (tAsg (tC (.str "abcdefghijklmnopqrstuvwxyz")) (gName 2))
    (tSeq (tAsg (tOp rAddA (tC (.int 1)) (tCl (sp_law_draw K) E0 (tCons (tVar 0) (tCons (tC (.int 8)) tNil)))) (gName 3))
    (tSeq (tAsg (tM1 (rJoinA K) (tC (.str "")) (tLc (iRng1 (tCons (tVar 3) tNil)) (gName 5) tYes (tOp (rIx K) (tVar 2) (tCl (sp_law_draw K) E0 (tCons (tVar 0) (tCons (tC (.int 26)) tNil)))) [5])) (gName 4))
    (tSeq (tIfS (tTest (tOp (rInP K false) (tVar 4) (tVar 1))) (tAsg (tOp (rIx K) (tLc (iSeq K (tVar 2)) (gName 6) (tTest (tOp (rInP K true) (tOp rAddA (tSl (rSlA K) (tVar 4) tNoPart (tPart (tC (.int 7)))) (tVar 6)) (tVar 1))) (tOp rAddA (tSl (rSlA K) (tVar 4) tNoPart (tPart (tC (.int 7)))) (tVar 6)) [6]) (tC (.int 0))) (gName 4)) tNext)
    (tRet (tVar 4))))))
theorem wk_law_word {P : Program} {w : World} {K : PySem.W.Frag} {mg : Str → Option Value} {base : Heap} (T : Txt K mg) (G_law_draw : FnR P w K mg base CX0 1 (He.ga K "_law_draw") (sp_law_draw K)) (cdv : Value) (A : Around) (outer : List Env) (s : Shared) (H : Hp) (E : XK) (hr : Room 1 (A.deeper (envOfC "_law_word" (defScope s_law_word) s.heap.objs.size (He.ga K "_law_word") cdv))) :
    PSs (cxOf CX0 P w K mg base N_law_word "_law_word" (defScope s_law_word) (He.ga K "_law_word") cdv A outer s H E).nox (defBody s_law_word) (t_law_word K) := by
  unfold t_law_word
  exact (pss_cons (ps_set (i := 2) sc_law_word.nd rfl (.inr rfl) pe_str)
      (pss_cons (ps_set (i := 3) sc_law_word.nd rfl (.inl rfl) (pe_op op_addA pe_int (pe_cl G_law_draw (hr.mono (by decide)) (by rfl) T.g_law_draw T.k_law_draw pass0 (pa_cons (pv 0) (pa_cons pe_int pa_nil)))))
      (pss_cons (ps_set (i := 4) sc_law_word.nd rfl (.inr rfl) (pe_joinA pe_str (pe_lc (own := [("_law_k", 5)]) rfl sc_law_word.nd (pi_range1 (by rfl) T.z_range (pa_cons (pv 3) pa_nil)) (blkOk_by (own := [("_law_k", 5)]) (N := N_law_word) (sc := defScope s_law_word) (by decide +kernel)) (fun _ _ _ _ _ => (pg_name (i := 5) sc_law_word.nd rfl (.inl rfl))) (fun _ _ _ _ _ => pts_nil) (fun _ _ _ _ _ => (pe_ix ix_seq (pv 2) (pe_cl G_law_draw (hr.mono (by decide)) (by rfl) T.g_law_draw T.k_law_draw pass0 (pa_cons (pv 0) (pa_cons pe_int pa_nil))) (fun _ _ => rfl))))))
      (pss_cons (ps_if (pt_cmpR (op_inP (units65 hr)) (pv 4) (pv 1) rfl) (pss_one (ps_set (i := 4) sc_law_word.nd rfl (.inr rfl) (pe_ix ix_seq (pe_lc (own := [("_law_letter", 6)]) rfl sc_law_word.nd (pi_seq (pv 2)) (blkOk_by (own := [("_law_letter", 6)]) (N := N_law_word) (sc := defScope s_law_word) (by decide +kernel)) (fun _ _ _ _ _ => (pg_name (i := 6) sc_law_word.nd rfl (.inl rfl))) (fun _ _ _ _ _ => (pts_one (pt_cmpR (op_notInP (units65 hr)) (pe_op op_addA (pe_slice sl_any (pv 4) po_none (po_some pe_int)) (pv 6)) (pv 1) rfl))) (fun _ _ _ _ _ => (pe_op op_addA (pe_slice sl_any (pv 4) po_none (po_some pe_int)) (pv 6)))) pe_int (fun _ _ => rfl)))) pss_nil)
      (pss_one (ps_ret (pv 4)))))))
def t_law_words (K : PySem.W.Frag) : TS :=
  (tSeq (tAsg (tLst tNil) (gName 2))
    (tSeq (tFor (iRng1 (tCons (tVar 1) tNil)) (gName 3) (tDrop (tBM K "list" rAppend (tVar 2) (tCons (tCl (sp_law_word K) E0 (tCons (tVar 0) (tCons (tVar 2) tNil))) tNil))))
    (tRet (tVar 2))))
theorem wk_law_words {P : Program} {w : World} {K : PySem.W.Frag} {mg : Str → Option Value} {base : Heap} (T : Txt K mg) (G_law_word : FnR P w K mg base CX0 2 (He.ga K "_law_word") (sp_law_word K)) (cdv : Value) (A : Around) (outer : List Env) (s : Shared) (H : Hp) (E : XK) (hr : Room 2 (A.deeper (envOfC "_law_words" (defScope s_law_words) s.heap.objs.size (He.ga K "_law_words") cdv))) :
    PSs (cxOf CX0 P w K mg base N_law_words "_law_words" (defScope s_law_words) (He.ga K "_law_words") cdv A outer s H E).nox (defBody s_law_words) (t_law_words K) := by
  unfold t_law_words
  exact (pss_cons (ps_set (i := 2) sc_law_words.nd rfl (.inl rfl) (pe_lst pa_nil))
      (pss_cons (ps_for PassesOwn.never rfl (pi_range1 (by rfl) T.z_range (pa_cons (pv 1) pa_nil)) (pg_name (i := 3) sc_law_words.nd rfl (.inl rfl)) (pss_one (ps_expr (pe_bm PySem.F.plainAttrs_list PySem.F.slot_list_append PySem.F.type_list_append mt_append (pv 2) (pa_cons (pe_cl G_law_word (hr.mono (by decide)) (by rfl) T.g_law_word T.k_law_word pass0 (pa_cons (pv 0) (pa_cons (pv 2) pa_nil))) pa_nil)))))
      (pss_one (ps_ret (pv 2)))))
def t_law_raw (K : PySem.W.Frag) : TS :=
  (tSeq (tAsg (tLst tNil) (gName 3))
    (tSeq (tAsg (tLst tNil) (gName 4))
    (tSeq (tFor (iSeq K (tSl (rSlA K) (tVar 1) tNoPart (tPart (tC (.int 5))))) (gName 5) (tIfS (tTest (tOp (rEqP K) (tCl (sp_law_draw K) E0 (tCons (tVar 0) (tCons (tC (.int 2)) tNil))) (tC (.int 1)))) (tSeq (tAsg (tOp (rIx K) (tVar 1) (tOp rAddA (tC (.int 5)) (tCl (sp_law_draw K) E0 (tCons (tVar 0) (tCons (tC (.int 2)) tNil))))) (gName 6))
    (tSeq (tAsg (tCl (sp_law_draw K) E0 (tCons (tVar 0) (tCons (tC (.int 4)) tNil))) (gName 7))
    (tSeq (tIfS (tTest (tOp rGtA (tCl (sp_law_draw K) E0 (tCons (tVar 0) (tCons (tC (.int 3)) tNil))) (tC (.int 0)))) (tSeq (tAsg (tOp (rIx K) (tVar 1) (tC (.int 5))) (gName 6))
    (tAsg (tOp rModA (tBM K "list" (rIndex K) (tVar 1) (tCons (tVar 5) tNil)) (tC (.int 4))) (gName 7))) tNext)
    (tDrop (tBM K "list" rAppend (tVar 3) (tCons (tTup (tCons (tVar 5) (tCons (tVar 6) (tCons (tVar 7) tNil)))) tNil)))))) tNext))
    (tSeq (tIfS (tTest (tOp (rEqP K) (tCl (sp_law_draw K) E0 (tCons (tVar 0) (tCons (tC (.int 2)) tNil))) (tC (.int 1)))) (tAsg (tRevL K (tVar 3)) (gName 3)) tNext)
    (tSeq (tFor (iRng1 (tCons (tIf (tTest (tOp (rNeP K) (tVar 3) (tLst tNil))) (tCl (sp_law_draw K) E0 (tCons (tVar 0) (tCons (tOp rAddA (tVar 2) (tC (.int 1))) tNil))) (tC (.int 0))) tNil)) (gName 8) (tSeq (tAsg (tOp (rIx K) (tOp (rIx K) (tVar 3) (tCl (sp_law_draw K) E0 (tCons (tVar 0) (tCons (tCB (rLenA K) (tCons (tVar 3) tNil)) tNil)))) (tC (.int 0))) (gName 9))
    (tSeq (tAsg (tOp (rIx K) (tOp (rIx K) (tVar 3) (tCl (sp_law_draw K) E0 (tCons (tVar 0) (tCons (tCB (rLenA K) (tCons (tVar 3) tNil)) tNil)))) (tC (.int 0))) (gName 10))
    (tSeq (tAsg (tTup (tCons (tOp (rIx K) (tVar 1) (tOp rAddA (tC (.int 7)) (tCl (sp_law_draw K) E0 (tCons (tVar 0) (tCons (tC (.int 2)) tNil))))) (tCons (tVar 9) (tCons (tVar 10) tNil)))) (gName 11))
    (tIfS (tTest (tOp (rInP K true) (tVar 11) (tVar 4))) (tDrop (tBM K "list" rAppend (tVar 4) (tCons (tVar 11) tNil))) tNext)))))
    (tRet (tTup (tCons (tVar 3) (tCons (tVar 4) tNil)))))))))
theorem wk_law_raw {P : Program} {w : World} {K : PySem.W.Frag} {mg : Str → Option Value} {base : Heap} (T : Txt K mg) (G_law_draw : FnR P w K mg base CX0 1 (He.ga K "_law_draw") (sp_law_draw K)) (cdv : Value) (A : Around) (outer : List Env) (s : Shared) (H : Hp) (E : XK) (hr : Room 1 (A.deeper (envOfC "_law_raw" (defScope s_law_raw) s.heap.objs.size (He.ga K "_law_raw") cdv))) :
    PSs (cxOf CX0 P w K mg base N_law_raw "_law_raw" (defScope s_law_raw) (He.ga K "_law_raw") cdv A outer s H E).nox (defBody s_law_raw) (t_law_raw K) := by
  unfold t_law_raw
  exact (pss_cons (ps_set (i := 3) sc_law_raw.nd rfl (.inl rfl) (pe_lst pa_nil))
      (pss_cons (ps_set (i := 4) sc_law_raw.nd rfl (.inl rfl) (pe_lst pa_nil))
      (pss_cons (ps_for PassesOwn.never rfl (pi_seq (pe_slice sl_any (pv 1) po_none (po_some pe_int))) (pg_name (i := 5) sc_law_raw.nd rfl (.inl rfl)) (pss_one (ps_if (pt_cmpR (op_eqP hr.units) (pe_cl G_law_draw (hr.mono (by decide)) (by rfl) T.g_law_draw T.k_law_draw pass0 (pa_cons (pv 0) (pa_cons pe_int pa_nil))) pe_int (nomark _)) (pss_cons (ps_set (i := 6) sc_law_raw.nd rfl (.inl rfl) (pe_ix ix_seq (pv 1) (pe_op op_addA pe_int (pe_cl G_law_draw (hr.mono (by decide)) (by rfl) T.g_law_draw T.k_law_draw pass0 (pa_cons (pv 0) (pa_cons pe_int pa_nil)))) (fun _ _ => rfl)))
      (pss_cons (ps_set (i := 7) sc_law_raw.nd rfl (.inl rfl) (pe_cl G_law_draw (hr.mono (by decide)) (by rfl) T.g_law_draw T.k_law_draw pass0 (pa_cons (pv 0) (pa_cons pe_int pa_nil))))
      (pss_cons (ps_if (pt_cmpR op_gtA (pe_cl G_law_draw (hr.mono (by decide)) (by rfl) T.g_law_draw T.k_law_draw pass0 (pa_cons (pv 0) (pa_cons pe_int pa_nil))) pe_int (nomark _)) (pss_cons (ps_set (i := 6) sc_law_raw.nd rfl (.inl rfl) (pe_ix ix_seq (pv 1) pe_int (fun _ _ => rfl)))
      (pss_one (ps_set (i := 7) sc_law_raw.nd rfl (.inl rfl) (pe_op op_modA (pe_bm PySem.F.plainAttrs_list PySem.F.slot_list_index PySem.F.type_list_index mt_index (pv 1) (pa_cons (pv 5) pa_nil)) pe_int)))) pss_nil)
      (pss_one (ps_expr (pe_bm PySem.F.plainAttrs_list PySem.F.slot_list_append PySem.F.type_list_append mt_append (pv 3) (pa_cons (pe_tup (pa_cons (pv 5) (pa_cons (pv 6) (pa_cons (pv 7) pa_nil)))) pa_nil))))))) pss_nil)))
      (pss_cons (ps_if (pt_cmpR (op_eqP hr.units) (pe_cl G_law_draw (hr.mono (by decide)) (by rfl) T.g_law_draw T.k_law_draw pass0 (pa_cons (pv 0) (pa_cons pe_int pa_nil))) pe_int (nomark _)) (pss_one (ps_set (i := 3) sc_law_raw.nd rfl (.inl rfl) (pe_revL (pv 3)))) pss_nil)
      (pss_cons (ps_for PassesOwn.never rfl (pi_range1 (by rfl) T.z_range (pa_cons (pe_ifExp (pt_cmpR (op_neP hr.units) (pv 3) (pe_lst pa_nil) (nomark _)) (pe_cl G_law_draw (hr.mono (by decide)) (by rfl) T.g_law_draw T.k_law_draw pass0 (pa_cons (pv 0) (pa_cons (pe_op op_addA (pv 2) pe_int) pa_nil))) pe_int) pa_nil)) (pg_name (i := 8) sc_law_raw.nd rfl (.inl rfl)) (pss_cons (ps_set (i := 9) sc_law_raw.nd rfl (.inl rfl) (pe_ix ix_seq (pe_ix ix_seq (pv 3) (pe_cl G_law_draw (hr.mono (by decide)) (by rfl) T.g_law_draw T.k_law_draw pass0 (pa_cons (pv 0) (pa_cons (pe_callB call_lenA (by rfl) T.z_len (by decide +kernel) (pa_cons (pv 3) pa_nil)) pa_nil))) (fun _ _ => rfl)) pe_int (fun _ _ => rfl)))
      (pss_cons (ps_set (i := 10) sc_law_raw.nd rfl (.inl rfl) (pe_ix ix_seq (pe_ix ix_seq (pv 3) (pe_cl G_law_draw (hr.mono (by decide)) (by rfl) T.g_law_draw T.k_law_draw pass0 (pa_cons (pv 0) (pa_cons (pe_callB call_lenA (by rfl) T.z_len (by decide +kernel) (pa_cons (pv 3) pa_nil)) pa_nil))) (fun _ _ => rfl)) pe_int (fun _ _ => rfl)))
      (pss_cons (ps_set (i := 11) sc_law_raw.nd rfl (.inl rfl) (pe_tup (pa_cons (pe_ix ix_seq (pv 1) (pe_op op_addA pe_int (pe_cl G_law_draw (hr.mono (by decide)) (by rfl) T.g_law_draw T.k_law_draw pass0 (pa_cons (pv 0) (pa_cons pe_int pa_nil)))) (fun _ _ => rfl)) (pa_cons (pv 9) (pa_cons (pv 10) pa_nil)))))
      (pss_one (ps_if (pt_cmpR (op_notInP (units65 hr)) (pv 11) (pv 4) rfl) (pss_one (ps_expr (pe_bm PySem.F.plainAttrs_list PySem.F.slot_list_append PySem.F.type_list_append mt_append (pv 4) (pa_cons (pv 11) pa_nil)))) pss_nil))))))
      (pss_one (ps_ret (pe_tup (pa_cons (pv 3) (pa_cons (pv 4) pa_nil))))))))))
def t_law_pattern (K : PySem.W.Frag) : TS :=
  (tSeq (tIfS (tTest (tOp (rEqP K) (tVar 0) (tLst tNil))) (tRet (tOp (rOwn (He.ga K "Pattern") (sp_Pattern_sub K) E0) (tStat (He.ga K "Pattern") (sp_Pattern_place K) E0 (tC (.ref (He.ga K "Pattern"))) (tCons (tC (.str "a")) (tCons (tC (.str "b")) (tCons (tC (.int 0)) tNil)))) (tStat (He.ga K "Pattern") (sp_Pattern_place K) E0 (tC (.ref (He.ga K "Pattern"))) (tCons (tC (.str "a")) (tCons (tC (.str "b")) (tCons (tC (.int 0)) tNil)))))) tNext)
    (tSeq (tAsg (tStat (He.ga K "Pattern") (sp_Pattern_place K) E0 (tC (.ref (He.ga K "Pattern"))) (tCons (tOp (rIx K) (tOp (rIx K) (tVar 0) (tC (.int 0))) (tC (.int 0))) (tCons (tOp (rIx K) (tOp (rIx K) (tVar 0) (tC (.int 0))) (tC (.int 1))) (tCons (tOp (rIx K) (tOp (rIx K) (tVar 0) (tC (.int 0))) (tC (.int 2))) tNil)))) (gName 2))
    (tSeq (tFor (iSeq K (tVar 0)) (gTup K 3 (gCons (gName 3) (gCons (gName 4) (gCons (gName 5) gNil)))) (tAsg (tOp (rOwn (He.ga K "Pattern") (sp_Pattern_or K) E0) (tVar 2) (tStat (He.ga K "Pattern") (sp_Pattern_place K) E0 (tC (.ref (He.ga K "Pattern"))) (tCons (tVar 3) (tCons (tVar 4) (tCons (tVar 5) tNil))))) (gName 2)))
    (tSeq (tAsg tDNewK (gName 6))
    (tSeq (tFor (iSeq K (tVar 0)) (gTup K 3 (gCons (gName 3) (gCons (gName 4) (gCons (gName 5) gNil)))) (sDPut (tVar 6) (tVar 3) (tStat (He.ga K "Pattern") (sp_Pattern_place K) E0 (tC (.ref (He.ga K "Pattern"))) (tCons (tVar 3) (tCons (tVar 4) (tCons (tVar 5) tNil))))))
    (tSeq (tFor (iSeq K (tVar 1)) (gTup K 3 (gCons (gName 7) (gCons (gName 8) (gCons (gName 9) gNil)))) (tAsg (tOp (rOwn (He.ga K "Pattern") (sp_Pattern_or K) E0) (tVar 2) (tOp (rOwnT K (He.ga K "Pattern") (sp_Pattern_rshift K) E0) (tDGet (tVar 6) (tVar 8)) (tTup (tCons (tVar 7) (tCons (tDGet (tVar 6) (tVar 9)) tNil))))) (gName 2)))
    (tRet (tVar 2))))))))
theorem wk_law_pattern {P : Program} {w : World} {K : PySem.W.Frag} {mg : Str → Option Value} {base : Heap} (T : Txt K mg) (G_Pattern_or : FnR P w K mg base CX0 3 (He.ma K (He.ga K "Pattern") "__or__") (sp_Pattern_or K)) (G_Pattern_place : FnR P w K mg base CX0 3 (He5.wf K (He.ga K "Pattern") "staticmethod" "place") (sp_Pattern_place K)) (G_Pattern_rshift : FnR P w K mg base CX0 4 (He.ma K (He.ga K "Pattern") "__rshift__") (sp_Pattern_rshift K)) (G_Pattern_sub : FnR P w K mg base CX0 3 (He.ma K (He.ga K "Pattern") "__sub__") (sp_Pattern_sub K)) (cdv : Value) (A : Around) (outer : List Env) (s : Shared) (H : Hp) (E : XK) (hr : Room 4 (A.deeper (envOfC "_law_pattern" (defScope s_law_pattern) s.heap.objs.size (He.ga K "_law_pattern") cdv))) :
    PSs (cxOf CX0 P w K mg base N_law_pattern "_law_pattern" (defScope s_law_pattern) (He.ga K "_law_pattern") cdv A outer s H E).nox (defBody s_law_pattern) (t_law_pattern K) := by
  unfold t_law_pattern
  exact (pss_cons (ps_if (pt_cmpR (op_eqP hr.units) (pv 0) (pe_lst pa_nil) (nomark _)) (pss_one (ps_ret (pe_op (op_own T.sf_Pattern T.o_Pattern_sub G_Pattern_sub (hr.mono (by decide)) pass0) (pe_static (pe_glob (v := .ref (He.ga K "Pattern")) (by rfl) T.g_Pattern rfl) T.s_Pattern_place G_Pattern_place (hr.mono (by decide)) pass0 (pa_cons pe_str (pa_cons pe_str (pa_cons pe_int pa_nil)))) (pe_static (pe_glob (v := .ref (He.ga K "Pattern")) (by rfl) T.g_Pattern rfl) T.s_Pattern_place G_Pattern_place (hr.mono (by decide)) pass0 (pa_cons pe_str (pa_cons pe_str (pa_cons pe_int pa_nil))))))) pss_nil)
      (pss_cons (ps_set (i := 2) sc_law_pattern.nd rfl (.inl rfl) (pe_static (pe_glob (v := .ref (He.ga K "Pattern")) (by rfl) T.g_Pattern rfl) T.s_Pattern_place G_Pattern_place (hr.mono (by decide)) pass0 (pa_cons (pe_ix ix_seq (pe_ix ix_seq (pv 0) pe_int (fun _ _ => rfl)) pe_int (fun _ _ => rfl)) (pa_cons (pe_ix ix_seq (pe_ix ix_seq (pv 0) pe_int (fun _ _ => rfl)) pe_int (fun _ _ => rfl)) (pa_cons (pe_ix ix_seq (pe_ix ix_seq (pv 0) pe_int (fun _ _ => rfl)) pe_int (fun _ _ => rfl)) pa_nil)))))
      (pss_cons (ps_for PassesOwn.never rfl (pi_seq (pv 0)) (pg_tup rfl (pgs_cons (pg_name (i := 3) sc_law_pattern.nd rfl (.inl rfl)) (pgs_cons (pg_name (i := 4) sc_law_pattern.nd rfl (.inl rfl)) (pgs_cons (pg_name (i := 5) sc_law_pattern.nd rfl (.inl rfl)) pgs_nil)))) (pss_one (ps_set (i := 2) sc_law_pattern.nd rfl (.inl rfl) (pe_op (op_own T.sf_Pattern T.o_Pattern_or G_Pattern_or (hr.mono (by decide)) pass0) (pv 2) (pe_static (pe_glob (v := .ref (He.ga K "Pattern")) (by rfl) T.g_Pattern rfl) T.s_Pattern_place G_Pattern_place (hr.mono (by decide)) pass0 (pa_cons (pv 3) (pa_cons (pv 4) (pa_cons (pv 5) pa_nil))))))))
      (pss_cons (ps_set (i := 6) sc_law_pattern.nd rfl (.inl rfl) pe_dnewK)
      (pss_cons (ps_for PassesOwn.never rfl (pi_seq (pv 0)) (pg_tup rfl (pgs_cons (pg_name (i := 3) sc_law_pattern.nd rfl (.inl rfl)) (pgs_cons (pg_name (i := 4) sc_law_pattern.nd rfl (.inl rfl)) (pgs_cons (pg_name (i := 5) sc_law_pattern.nd rfl (.inl rfl)) pgs_nil)))) (pss_one (ps_dput (hu_of hr) (pv 6) (pv 3) (pe_static (pe_glob (v := .ref (He.ga K "Pattern")) (by rfl) T.g_Pattern rfl) T.s_Pattern_place G_Pattern_place (hr.mono (by decide)) pass0 (pa_cons (pv 3) (pa_cons (pv 4) (pa_cons (pv 5) pa_nil)))) rfl)))
      (pss_cons (ps_for PassesOwn.never rfl (pi_seq (pv 1)) (pg_tup rfl (pgs_cons (pg_name (i := 7) sc_law_pattern.nd rfl (.inl rfl)) (pgs_cons (pg_name (i := 8) sc_law_pattern.nd rfl (.inl rfl)) (pgs_cons (pg_name (i := 9) sc_law_pattern.nd rfl (.inl rfl)) pgs_nil)))) (pss_one (ps_set (i := 2) sc_law_pattern.nd rfl (.inl rfl) (pe_op (op_own T.sf_Pattern T.o_Pattern_or G_Pattern_or (hr.mono (by decide)) pass0) (pv 2) (pe_op (op_ownT T.sf_Pattern T.o_Pattern_rshift G_Pattern_rshift (hr.mono (by decide)) pass0) (pe_dget (hu_of hr) (pv 6) (pv 8) (fun _ _ => rfl)) (pe_tup (pa_cons (pv 7) (pa_cons (pe_dget (hu_of hr) (pv 6) (pv 9) (fun _ _ => rfl)) pa_nil))))))))
      (pss_one (ps_ret (pv 2)))))))))
def t_law_told (K : PySem.W.Frag) : TS :=
  (tSeq (tIfS (tOr (tNot (tB (tCB (rIsi K) (tCons (tFld K (tVar 0) "places") (tCons (tC (.ty "tuple")) tNil))))) (tNot (tB (tCB (rIsi K) (tCons (tFld K (tVar 0) "links") (tCons (tC (.ty "tuple")) tNil)))))) (tRet (tC (.bl false))) tNext)
    (tRet (tAndV (tOp (rEqP K) (tFld K (tVar 0) "places") (tCB (rTupOf K) (tCons (tVar 1) tNil))) (tAndV (tOp (rEqP K) (tFld K (tVar 0) "links") (tCB (rTupOf K) (tCons (tVar 2) tNil))) (tOp (rEqP K) (tCB (rOwnLen (He.ga K "Pattern") (sp_Pattern_len K) E0) (tCons (tVar 0) tNil)) (tCB (rLenA K) (tCons (tVar 1) tNil)))))))
theorem wk_law_told {P : Program} {w : World} {K : PySem.W.Frag} {mg : Str → Option Value} {base : Heap} (T : Txt K mg) (G_Pattern_len : FnR P w K mg base CX0 1 (He.ma K (He.ga K "Pattern") "__len__") (sp_Pattern_len K)) (cdv : Value) (A : Around) (outer : List Env) (s : Shared) (H : Hp) (E : XK) (hr : Room 2 (A.deeper (envOfC "_law_told" (defScope s_law_told) s.heap.objs.size (He.ga K "_law_told") cdv))) :
    PSs (cxOf CX0 P w K mg base N_law_told "_law_told" (defScope s_law_told) (He.ga K "_law_told") cdv A outer s H E).nox (defBody s_law_told) (t_law_told K) := by
  unfold t_law_told
  exact (pss_cons (ps_if (PW.pt (pw_or (pt_not (pt_val (pe_callB call_isi (by rfl) T.z_isinstance (by decide +kernel) (pa_cons (pe_fld (pv 0) rfl) (pa_cons (pe_bltn (v := .ty "tuple") (by rfl) T.z_tuple (by decide +kernel) rfl) pa_nil))))) (pw_or1 (pt_not (pt_val (pe_callB call_isi (by rfl) T.z_isinstance (by decide +kernel) (pa_cons (pe_fld (pv 0) rfl) (pa_cons (pe_bltn (v := .ty "tuple") (by rfl) T.z_tuple (by decide +kernel) rfl) pa_nil)))))))) (pss_one (ps_ret pe_bl)) pss_nil)
      (pss_one (ps_ret (pe_and (pe_cmpR (op_eqP hr.units) (pe_fld (pv 0) rfl) (pe_callTy call_tupA (by rfl) T.z_tuple (by decide +kernel) (pa_cons (pv 1) pa_nil)) (nomark _)) (pe_and (pe_cmpR (op_eqP hr.units) (pe_fld (pv 0) rfl) (pe_callTy call_tupA (by rfl) T.z_tuple (by decide +kernel) (pa_cons (pv 2) pa_nil)) (nomark _)) (pe_one (pe_cmpR (op_eqP hr.units) (pe_callB (call_lenO T.o_Pattern_len G_Pattern_len (hr.mono (by decide)) pass0) (by rfl) T.z_len PySem.boot_len (pa_cons (pv 0) pa_nil)) (pe_callB call_lenA (by rfl) T.z_len (by decide +kernel) (pa_cons (pv 1) pa_nil)) (nomark _))))))))
def t_law_shuffled (K : PySem.W.Frag) : TS :=
  (tSeq (tAsg (tCB (rListOf K) (tCons (tVar 1) tNil)) (gName 2))
    (tSeq (tAsg (tLst tNil) (gName 3))
    (tSeq (tFor (iRng1 (tCons (tCB (rLenA K) (tCons (tVar 1) tNil)) tNil)) (gName 4) (tDrop (tBM K "list" rAppend (tVar 3) (tCons (tBM K "list" rPopAt (tVar 2) (tCons (tCl (sp_law_draw K) E0 (tCons (tVar 0) (tCons (tCB (rLenA K) (tCons (tVar 2) tNil)) tNil))) tNil)) tNil))))
    (tRet (tVar 3)))))
theorem wk_law_shuffled {P : Program} {w : World} {K : PySem.W.Frag} {mg : Str → Option Value} {base : Heap} (T : Txt K mg) (G_law_draw : FnR P w K mg base CX0 1 (He.ga K "_law_draw") (sp_law_draw K)) (cdv : Value) (A : Around) (outer : List Env) (s : Shared) (H : Hp) (E : XK) (hr : Room 1 (A.deeper (envOfC "_law_shuffled" (defScope s_law_shuffled) s.heap.objs.size (He.ga K "_law_shuffled") cdv))) :
    PSs (cxOf CX0 P w K mg base N_law_shuffled "_law_shuffled" (defScope s_law_shuffled) (He.ga K "_law_shuffled") cdv A outer s H E).nox (defBody s_law_shuffled) (t_law_shuffled K) := by
  unfold t_law_shuffled
  exact (pss_cons (ps_set (i := 2) sc_law_shuffled.nd rfl (.inl rfl) (pe_callTy call_listA (by rfl) T.z_list (by decide +kernel) (pa_cons (pv 1) pa_nil)))
      (pss_cons (ps_set (i := 3) sc_law_shuffled.nd rfl (.inl rfl) (pe_lst pa_nil))
      (pss_cons (ps_for PassesOwn.never rfl (pi_range1 (by rfl) T.z_range (pa_cons (pe_callB call_lenA (by rfl) T.z_len (by decide +kernel) (pa_cons (pv 1) pa_nil)) pa_nil)) (pg_name (i := 4) sc_law_shuffled.nd rfl (.inl rfl)) (pss_one (ps_expr (pe_bm PySem.F.plainAttrs_list PySem.F.slot_list_append PySem.F.type_list_append mt_append (pv 3) (pa_cons (pe_bm PySem.F.plainAttrs_list PySem.F.slot_list_pop PySem.F.type_list_pop mt_popAt (pv 2) (pa_cons (pe_cl G_law_draw (hr.mono (by decide)) (by rfl) T.g_law_draw T.k_law_draw pass0 (pa_cons (pv 0) (pa_cons (pe_callB call_lenA (by rfl) T.z_len (by decide +kernel) (pa_cons (pv 2) pa_nil)) pa_nil))) pa_nil)) pa_nil)))))
      (pss_one (ps_ret (pv 3))))))
def t_law_within (K : PySem.W.Frag) : TS :=
  (tSeq (tAsg (tLc (iSeq K (tOp (rIx K) (tVar 0) (tC (.int 0)))) (gName 3) (tTest (tOp (rInP K true) (tVar 3) (tOp (rIx K) (tVar 1) (tC (.int 0))))) (tVar 3) [3]) (gName 2))
    (tRet (tAndV (tOp (rEqP K) (tVar 2) (tLst tNil)) (tOp (rEqP K) (tLc (iSeq K (tOp (rIx K) (tVar 0) (tC (.int 1)))) (gName 4) (tTest (tOp (rInP K true) (tVar 4) (tOp (rIx K) (tVar 1) (tC (.int 1))))) (tVar 4) [4]) (tLst tNil)))))
theorem wk_law_within {P : Program} {w : World} {K : PySem.W.Frag} {mg : Str → Option Value} {base : Heap} (T : Txt K mg) (cdv : Value) (A : Around) (outer : List Env) (s : Shared) (H : Hp) (E : XK) (hr : Room 0 (A.deeper (envOfC "_law_within" (defScope s_law_within) s.heap.objs.size (He.ga K "_law_within") cdv))) :
    PSs (cxOf CX0 P w K mg base N_law_within "_law_within" (defScope s_law_within) (He.ga K "_law_within") cdv A outer s H E).nox (defBody s_law_within) (t_law_within K) := by
  unfold t_law_within
  exact (pss_cons (ps_setLc (i := 2) (own := [("_law_place", 3)]) rfl sc_law_within.nd rfl rfl (sw_true rfl rfl rfl (by decide +kernel)) (pi_seq (pe_ix ix_seq (pv 0) pe_int (fun _ _ => rfl))) (blkOk_by (own := [("_law_place", 3)]) (N := N_law_within) (sc := defScope s_law_within) (by decide +kernel)) (fun _ _ _ _ _ => (pg_name (i := 3) sc_law_within.nd rfl (.inl rfl))) (fun _ _ _ _ _ => (pts_one (pt_cmpR (op_notInP (units65 hr)) (pv 3) (pe_ix ix_seq (pv 1) pe_int (fun _ _ => rfl)) rfl))) (fun _ _ _ _ _ => (pv 3)))
      (pss_one (ps_ret (pe_and (pe_cmpR (op_eqP hr.units) (pv 2) (pe_lst pa_nil) (nomark _)) (pe_one (pe_cmpR (op_eqP hr.units) (pe_lc (own := [("_law_tie", 4)]) rfl sc_law_within.nd (pi_seq (pe_ix ix_seq (pv 0) pe_int (fun _ _ => rfl))) (blkOk_by (own := [("_law_tie", 4)]) (N := N_law_within) (sc := defScope s_law_within) (by decide +kernel)) (fun _ _ _ _ _ => (pg_name (i := 4) sc_law_within.nd rfl (.inl rfl))) (fun _ _ _ _ _ => (pts_one (pt_cmpR (op_notInP (units65 hr)) (pv 4) (pe_ix ix_seq (pv 1) pe_int (fun _ _ => rfl)) rfl))) (fun _ _ _ _ _ => (pv 4))) (pe_lst pa_nil) (nomark _)))))))
def t_law (K : PySem.W.Frag) : TS :=
  (tSeq (tAsg (tCl (sp_law_pool K) E0 (tCons (tVar 0) tNil)) (gName 1))
    (tSeq (tAsg (tCl (sp_law_words K) E0 (tCons (tVar 1) (tCons (tC (.int 9)) tNil))) (gName 2))
    (tSeq (tAsg (tLst (tCons (tCl (sp_law_raw K) E0 (tCons (tVar 1) (tCons (tVar 2) (tCons (tC (.int 5)) tNil)))) (tCons (tCl (sp_law_raw K) E0 (tCons (tVar 1) (tCons (tVar 2) (tCons (tC (.int 5)) tNil)))) tNil))) (gName 3))
    (tSeq (tDrop (tBM K "list" rAppend (tVar 3) (tCons (tTup (tCons (tCl (sp_law_shuffled K) E0 (tCons (tVar 1) (tCons (tOp (rIx K) (tOp (rIx K) (tVar 3) (tC (.int 0))) (tC (.int 0))) tNil))) (tCons (tCl (sp_law_shuffled K) E0 (tCons (tVar 1) (tCons (tOp (rIx K) (tOp (rIx K) (tVar 3) (tC (.int 0))) (tC (.int 1))) tNil))) tNil))) tNil)))
    (tSeq (tAsg (tCl (sp_law_draw K) E0 (tCons (tVar 1) (tCons (tOp rAddA (tCB (rLenA K) (tCons (tOp (rIx K) (tOp (rIx K) (tVar 3) (tC (.int 0))) (tC (.int 1))) tNil)) (tC (.int 1))) tNil))) (gName 4))
    (tSeq (tDrop (tBM K "list" rAppend (tVar 3) (tCons (tTup (tCons (tOp (rIx K) (tOp (rIx K) (tVar 3) (tC (.int 0))) (tC (.int 0))) (tCons (tSl (rSlA K) (tOp (rIx K) (tOp (rIx K) (tVar 3) (tC (.int 0))) (tC (.int 1))) tNoPart (tPart (tVar 4))) tNil))) tNil)))
    (tSeq (tAsg (tLc (iSeq K (tVar 3)) (gName 13) tYes (tCl (sp_law_pattern K) E0 (tCons (tOp (rIx K) (tVar 13) (tC (.int 0))) (tCons (tOp (rIx K) (tVar 13) (tC (.int 1))) tNil))) [13]) (gName 5))
    (tSeq (tFor (iRng1 (tCons (tC (.int 4)) tNil)) (gName 6) (tFor (iRng1 (tCons (tC (.int 4)) tNil)) (gName 7) (tSeq (tAsg (tCl (sp_law_within K) E0 (tCons (tOp (rIx K) (tVar 3) (tVar 6)) (tCons (tOp (rIx K) (tVar 3) (tVar 7)) tNil))) (gName 8))
    (tSeq (tAsg (tAndV (tVar 8) (tCl (sp_law_within K) E0 (tCons (tOp (rIx K) (tVar 3) (tVar 7)) (tCons (tOp (rIx K) (tVar 3) (tVar 6)) tNil)))) (gName 9))
    (tSeq (tIfS (tOr (tTest (tOp (rNeP K) (tOp (rOwnIn (He.ga K "Pattern") (sp_Pattern_contains K) E0 false) (tOp (rIx K) (tVar 5) (tVar 6)) (tOp (rIx K) (tVar 5) (tVar 7))) (tVar 8))) (tTest (tOp (rNeP K) (tOp (rOwnEq K (He.ga K "Pattern") (sp_Pattern_eq K) E0) (tOp (rIx K) (tVar 5) (tVar 6)) (tOp (rIx K) (tVar 5) (tVar 7))) (tVar 9)))) (tRet (tC (.bl false))) tNext)
    (tIfS (tTest (tOp (rEqP K) (tOp (rOwnNe K (He.ga K "Pattern") (sp_Pattern_eq K) E0) (tOp (rIx K) (tVar 5) (tVar 6)) (tOp (rIx K) (tVar 5) (tVar 7))) (tVar 9))) (tRet (tC (.bl false))) tNext))))))
    (tSeq (tFor (iRng1 (tCons (tC (.int 4)) tNil)) (gName 10) (tSeq (tAsg (tLc (iSeq K (tOp (rIx K) (tOp (rIx K) (tVar 3) (tVar 10)) (tC (.int 0)))) (gName 14) tYes (tOp (rIx K) (tVar 14) (tC (.int 0))) [14]) (gName 11))
    (tSeq (tFor (iSeq K (tOp rAddA (tVar 2) (tLst (tCons (tC (.str "")) (tCons (tM1 (rJoinA K) (tC (.str "")) (tVar 2)) tNil))))) (gName 12) (tIfS (tTest (tOp (rNeP K) (tOp (rOwnIn (He.ga K "Pattern") (sp_Pattern_contains K) E0 false) (tVar 12) (tOp (rIx K) (tVar 5) (tVar 10))) (tOp (rInP K false) (tVar 12) (tVar 11)))) (tRet (tC (.bl false))) tNext))
    (tIfS (tOr (tNot (tB (tCl (sp_law_told K) E0 (tCons (tOp (rIx K) (tVar 5) (tVar 10)) (tCons (tOp (rIx K) (tOp (rIx K) (tVar 3) (tVar 10)) (tC (.int 0))) (tCons (tOp (rIx K) (tOp (rIx K) (tVar 3) (tVar 10)) (tC (.int 1))) tNil)))))) (tTest (tOp (rOwnEq K (He.ga K "Pattern") (sp_Pattern_eq K) E0) (tOp (rIx K) (tVar 5) (tVar 10)) (tFld K (tOp (rIx K) (tVar 5) (tVar 10)) "places")))) (tRet (tC (.bl false))) tNext))))
    (tRet (tAndV (tOp (rOwnIn (He.ga K "Pattern") (sp_Pattern_contains K) E0 false) (tOp (rIx K) (tVar 5) (tC (.int 0))) (tOp (rOwn (He.ga K "Pattern") (sp_Pattern_or K) E0) (tOp (rIx K) (tVar 5) (tC (.int 0))) (tOp (rIx K) (tVar 5) (tC (.int 2))))) (tAndV (tNotV (tOp (rOwnEq K (He.ga K "Pattern") (sp_Pattern_eq K) E0) (tOp (rIx K) (tVar 5) (tC (.int 0))) (tC (.int 0)))) (tNotV (tOp (rOwnEq K (He.ga K "Pattern") (sp_Pattern_eq K) E0) (tOp (rIx K) (tVar 5) (tC (.int 0))) (tOp (rIx K) (tVar 2) (tC (.int 0)))))))))))))))))
theorem wk_law {P : Program} {w : World} {K : PySem.W.Frag} {mg : Str → Option Value} {base : Heap} (T : Txt K mg) (G_Pattern_contains : FnR P w K mg base CX0 1 (He.ma K (He.ga K "Pattern") "__contains__") (sp_Pattern_contains K)) (G_Pattern_eq : FnR P w K mg base CX0 2 (He.ma K (He.ga K "Pattern") "__eq__") (sp_Pattern_eq K)) (G_Pattern_or : FnR P w K mg base CX0 3 (He.ma K (He.ga K "Pattern") "__or__") (sp_Pattern_or K)) (G_law_draw : FnR P w K mg base CX0 1 (He.ga K "_law_draw") (sp_law_draw K)) (G_law_pattern : FnR P w K mg base CX0 5 (He.ga K "_law_pattern") (sp_law_pattern K)) (G_law_pool : FnR P w K mg base CX0 1 (He.ga K "_law_pool") (sp_law_pool K)) (G_law_raw : FnR P w K mg base CX0 2 (He.ga K "_law_raw") (sp_law_raw K)) (G_law_shuffled : FnR P w K mg base CX0 2 (He.ga K "_law_shuffled") (sp_law_shuffled K)) (G_law_told : FnR P w K mg base CX0 3 (He.ga K "_law_told") (sp_law_told K)) (G_law_within : FnR P w K mg base CX0 1 (He.ga K "_law_within") (sp_law_within K)) (G_law_words : FnR P w K mg base CX0 3 (He.ga K "_law_words") (sp_law_words K)) (cdv : Value) (A : Around) (outer : List Env) (s : Shared) (H : Hp) (E : XK) (hr : Room 5 (A.deeper (envOfC "law" (defScope s_law) s.heap.objs.size (He.ga K "law") cdv))) :
    PSs (cxOf CX0 P w K mg base N_law "law" (defScope s_law) (He.ga K "law") cdv A outer s H E).nox (defBody s_law) (t_law K) := by
  unfold t_law
  exact (pss_cons (ps_set (i := 1) sc_law.nd rfl (.inl rfl) (pe_cl G_law_pool (hr.mono (by decide)) (by rfl) T.g_law_pool T.k_law_pool pass0 (pa_cons (pv 0) pa_nil)))
      (pss_cons (ps_set (i := 2) sc_law.nd rfl (.inl rfl) (pe_cl G_law_words (hr.mono (by decide)) (by rfl) T.g_law_words T.k_law_words pass0 (pa_cons (pv 1) (pa_cons pe_int pa_nil))))
      (pss_cons (ps_set (i := 3) sc_law.nd rfl (.inl rfl) (pe_lst (pa_cons (pe_cl G_law_raw (hr.mono (by decide)) (by rfl) T.g_law_raw T.k_law_raw pass0 (pa_cons (pv 1) (pa_cons (pv 2) (pa_cons pe_int pa_nil)))) (pa_cons (pe_cl G_law_raw (hr.mono (by decide)) (by rfl) T.g_law_raw T.k_law_raw pass0 (pa_cons (pv 1) (pa_cons (pv 2) (pa_cons pe_int pa_nil)))) pa_nil))))
      (pss_cons (ps_expr (pe_bm PySem.F.plainAttrs_list PySem.F.slot_list_append PySem.F.type_list_append mt_append (pv 3) (pa_cons (pe_tup (pa_cons (pe_cl G_law_shuffled (hr.mono (by decide)) (by rfl) T.g_law_shuffled T.k_law_shuffled pass0 (pa_cons (pv 1) (pa_cons (pe_ix ix_seq (pe_ix ix_seq (pv 3) pe_int (fun _ _ => rfl)) pe_int (fun _ _ => rfl)) pa_nil))) (pa_cons (pe_cl G_law_shuffled (hr.mono (by decide)) (by rfl) T.g_law_shuffled T.k_law_shuffled pass0 (pa_cons (pv 1) (pa_cons (pe_ix ix_seq (pe_ix ix_seq (pv 3) pe_int (fun _ _ => rfl)) pe_int (fun _ _ => rfl)) pa_nil))) pa_nil))) pa_nil)))
      (pss_cons (ps_set (i := 4) sc_law.nd rfl (.inl rfl) (pe_cl G_law_draw (hr.mono (by decide)) (by rfl) T.g_law_draw T.k_law_draw pass0 (pa_cons (pv 1) (pa_cons (pe_op op_addA (pe_callB call_lenA (by rfl) T.z_len (by decide +kernel) (pa_cons (pe_ix ix_seq (pe_ix ix_seq (pv 3) pe_int (fun _ _ => rfl)) pe_int (fun _ _ => rfl)) pa_nil)) pe_int) pa_nil))))
      (pss_cons (ps_expr (pe_bm PySem.F.plainAttrs_list PySem.F.slot_list_append PySem.F.type_list_append mt_append (pv 3) (pa_cons (pe_tup (pa_cons (pe_ix ix_seq (pe_ix ix_seq (pv 3) pe_int (fun _ _ => rfl)) pe_int (fun _ _ => rfl)) (pa_cons (pe_slice sl_any (pe_ix ix_seq (pe_ix ix_seq (pv 3) pe_int (fun _ _ => rfl)) pe_int (fun _ _ => rfl)) po_none (po_some (pv 4))) pa_nil))) pa_nil)))
      (pss_cons (ps_setLc (i := 5) (own := [("_law_raw_here", 13)]) rfl sc_law.nd rfl rfl (sw_true rfl rfl rfl (by decide +kernel)) (pi_seq (pv 3)) (blkOk_by (own := [("_law_raw_here", 13)]) (N := N_law) (sc := defScope s_law) (by decide +kernel)) (fun _ _ _ _ _ => (pg_name (i := 13) sc_law.nd rfl (.inl rfl))) (fun _ _ _ _ _ => pts_nil) (fun _ _ _ _ _ => (pe_cl G_law_pattern (hr.mono (by decide)) (by rfl) T.g_law_pattern T.k_law_pattern pass0 (pa_cons (pe_ix ix_seq (pv 13) pe_int (fun _ _ => rfl)) (pa_cons (pe_ix ix_seq (pv 13) pe_int (fun _ _ => rfl)) pa_nil)))))
      (pss_cons (ps_for PassesOwn.never rfl (pi_range1 (by rfl) T.z_range (pa_cons pe_int pa_nil)) (pg_name (i := 6) sc_law.nd rfl (.inl rfl)) (pss_one (ps_for PassesOwn.never rfl (pi_range1 (by rfl) T.z_range (pa_cons pe_int pa_nil)) (pg_name (i := 7) sc_law.nd rfl (.inl rfl)) (pss_cons (ps_set (i := 8) sc_law.nd rfl (.inl rfl) (pe_cl G_law_within (hr.mono (by decide)) (by rfl) T.g_law_within T.k_law_within pass0 (pa_cons (pe_ix ix_seq (pv 3) (pv 6) (fun _ _ => rfl)) (pa_cons (pe_ix ix_seq (pv 3) (pv 7) (fun _ _ => rfl)) pa_nil))))
      (pss_cons (ps_set (i := 9) sc_law.nd rfl (.inl rfl) (pe_and (pv 8) (pe_one (pe_cl G_law_within (hr.mono (by decide)) (by rfl) T.g_law_within T.k_law_within pass0 (pa_cons (pe_ix ix_seq (pv 3) (pv 7) (fun _ _ => rfl)) (pa_cons (pe_ix ix_seq (pv 3) (pv 6) (fun _ _ => rfl)) pa_nil))))))
      (pss_cons (ps_if (PW.pt (pw_or (pt_cmpR (op_neP hr.units) (pe_cmpR (op_inO T.o_Pattern_contains G_Pattern_contains (hr.mono (by decide)) pass0) (pe_ix ix_seq (pv 5) (pv 6) (fun _ _ => rfl)) (pe_ix ix_seq (pv 5) (pv 7) (fun _ _ => rfl)) rfl) (pv 8) (nomark _)) (pw_or1 (pt_cmpR (op_neP hr.units) (pe_cmpR (op_eqO T.o_Pattern_eq G_Pattern_eq (hr.mono (by decide)) pass0) (pe_ix ix_seq (pv 5) (pv 6) (fun _ _ => rfl)) (pe_ix ix_seq (pv 5) (pv 7) (fun _ _ => rfl)) (nomark _)) (pv 9) (nomark _))))) (pss_one (ps_ret pe_bl)) pss_nil)
      (pss_one (ps_if (pt_cmpR (op_eqP hr.units) (pe_cmpR (op_neO T.o_Pattern_eq T.ne_Pattern T.x_Pattern G_Pattern_eq (hr.mono (by decide)) pass0) (pe_ix ix_seq (pv 5) (pv 6) (fun _ _ => rfl)) (pe_ix ix_seq (pv 5) (pv 7) (fun _ _ => rfl)) (nomark _)) (pv 9) (nomark _)) (pss_one (ps_ret pe_bl)) pss_nil))))))))
      (pss_cons (ps_for PassesOwn.never rfl (pi_range1 (by rfl) T.z_range (pa_cons pe_int pa_nil)) (pg_name (i := 10) sc_law.nd rfl (.inl rfl)) (pss_cons (ps_setLc (i := 11) (own := [("_law_place", 14)]) rfl sc_law.nd rfl rfl (sw_true rfl rfl rfl (by decide +kernel)) (pi_seq (pe_ix ix_seq (pe_ix ix_seq (pv 3) (pv 10) (fun _ _ => rfl)) pe_int (fun _ _ => rfl))) (blkOk_by (own := [("_law_place", 14)]) (N := N_law) (sc := defScope s_law) (by decide +kernel)) (fun _ _ _ _ _ => (pg_name (i := 14) sc_law.nd rfl (.inl rfl))) (fun _ _ _ _ _ => pts_nil) (fun _ _ _ _ _ => (pe_ix ix_seq (pv 14) pe_int (fun _ _ => rfl))))
      (pss_cons (ps_for PassesOwn.never rfl (pi_seq (pe_op op_addA (pv 2) (pe_lst (pa_cons pe_str (pa_cons (pe_joinA pe_str (pv 2)) pa_nil))))) (pg_name (i := 12) sc_law.nd rfl (.inl rfl)) (pss_one (ps_if (pt_cmpR (op_neP hr.units) (pe_cmpR (op_inO T.o_Pattern_contains G_Pattern_contains (hr.mono (by decide)) pass0) (pv 12) (pe_ix ix_seq (pv 5) (pv 10) (fun _ _ => rfl)) rfl) (pe_cmpR (op_inP (units65 hr)) (pv 12) (pv 11) rfl) (nomark _)) (pss_one (ps_ret pe_bl)) pss_nil)))
      (pss_one (ps_if (PW.pt (pw_or (pt_not (pt_val (pe_cl G_law_told (hr.mono (by decide)) (by rfl) T.g_law_told T.k_law_told pass0 (pa_cons (pe_ix ix_seq (pv 5) (pv 10) (fun _ _ => rfl)) (pa_cons (pe_ix ix_seq (pe_ix ix_seq (pv 3) (pv 10) (fun _ _ => rfl)) pe_int (fun _ _ => rfl)) (pa_cons (pe_ix ix_seq (pe_ix ix_seq (pv 3) (pv 10) (fun _ _ => rfl)) pe_int (fun _ _ => rfl)) pa_nil)))))) (pw_or1 (pt_cmpR (op_eqO T.o_Pattern_eq G_Pattern_eq (hr.mono (by decide)) pass0) (pe_ix ix_seq (pv 5) (pv 10) (fun _ _ => rfl)) (pe_fld (pe_ix ix_seq (pv 5) (pv 10) (fun _ _ => rfl)) rfl) (nomark _))))) (pss_one (ps_ret pe_bl)) pss_nil)))))
      (pss_one (ps_ret (pe_and (pe_cmpR (op_inO T.o_Pattern_contains G_Pattern_contains (hr.mono (by decide)) pass0) (pe_ix ix_seq (pv 5) pe_int (fun _ _ => rfl)) (pe_op (op_own T.sf_Pattern T.o_Pattern_or G_Pattern_or (hr.mono (by decide)) pass0) (pe_ix ix_seq (pv 5) pe_int (fun _ _ => rfl)) (pe_ix ix_seq (pv 5) pe_int (fun _ _ => rfl))) rfl) (pe_and (pe_not (pe_cmpR (op_eqO T.o_Pattern_eq G_Pattern_eq (hr.mono (by decide)) pass0) (pe_ix ix_seq (pv 5) pe_int (fun _ _ => rfl)) pe_int (nomark _))) (pe_one (pe_not (pe_cmpR (op_eqO T.o_Pattern_eq G_Pattern_eq (hr.mono (by decide)) pass0) (pe_ix ix_seq (pv 5) pe_int (fun _ _ => rfl)) (pe_ix ix_seq (pv 2) pe_int (fun _ _ => rfl)) (nomark _)))))))))))))))))
end Lw

namespace Lw
open PySem PySem.Spec PyProof.Rows L2 Fm
open PySem.W (Datum Tup T3 T4)
/-! ### law_draw -/
structure PD (T H : Hp) (p g : Addr) (gs : List Int) (c sd n : Int) : Prop where
  st : Same T H
  tp : T p = none
  tg : T g = none
  hp : H p = some (.lst [.ref g, .int c, .int sd, .int n])
  hg : H g = some (.lst (gs.map V.int))
  lo : 0 ≤ sd
  hi : sd < 2147483648
theorem PD.ne {T H : Hp} {p g : Addr} {gs : List Int} {c sd n : Int} (h : PD T H p g gs c sd n) : g ≠ p := fun e => by
  have h1 := h.hp
  rw [← e, h.hg] at h1
  cases gs with
  | nil => cases h1
  | cons a r => cases h1
theorem PD.keep {T H H' : Hp} {p g : Addr} {gs : List Int} {c sd n : Int} (h : PD T H p g gs c sd n) (e : Same H H') : PD T H' p g gs c sd n := ⟨h.st.trans e, h.tp, h.tg, e _ _ h.hp, e _ _ h.hg, h.lo, h.hi⟩
theorem PD.put {T H : Hp} {p g : Addr} {gs : List Int} {c sd n c' n' : Int} (h : PD T H p g gs c sd n) : PD T (upd H p (.lst [.ref g, .int c', .int sd, .int n'])) p g gs c' sd n' :=
  ⟨same_upd h.st h.tp, h.tp, h.tg, upd_same, by rw [upd_ne h.ne]; exact h.hg, h.lo, h.hi⟩
theorem PD.w {T H : Hp} {p g : Addr} {gs : List Int} {c sd n : Int} (h : PD T H p g gs c sd n) : (PW p).W T H := ⟨h.st, g, h.tp, h.tg, gs, c, sd, n, h.hp, h.hg, h.lo, h.hi⟩
theorem mod_small {a m : Int} (h : 0 < m) : 0 ≤ a % m ∧ a % m < m := ⟨Int.emod_nonneg _ (by omega), Int.emod_lt_of_pos _ h⟩
theorem pure_law_draw (K : PySem.W.Frag) (H : Hp) (vs : List V) (Q : VK) (E : XK) (h : sp_law_draw K vs H Q E) : t_law_draw K { nx := fun _ H' => Q .non H', rt := Q } (start N_law_draw vs) H := by
  obtain ⟨n, p, rest, S, T, rfl, ⟨sTH, g, nTp, nTg, gs, c, sd, m, hp, hg, h0, h1⟩, sST, ⟨rfl, hn, hl⟩, q⟩ := h
  have d0 : PD T H p g gs c sd m := ⟨sTH, nTp, nTg, hp, hg, h0, h1⟩
  have fin : ∀ H' g gs c m r, PD T H' p g gs c sd m → 0 ≤ r → r < n → Q (.int r) H' := fun H' g gs c m r d a b => q S T H' _ (Step.refl sST) d.w ⟨r, rfl, a, b⟩
  clear q sTH nTp nTg hg
  -- pool[3] += 1
  refine ⟨_, rfl, ⟨p, _, 3, .int m, rfl, rfl, by decide, hp, rfl, ⟨m, 1, rfl, rfl, ⟨p, _, 3, 3, rfl, rfl, hp, rfl, ?_⟩⟩⟩⟩
  have d1 := d0.put (c' := c) (n' := m + 1)
  show tSeq _ _ _ _ (upd H p (.lst [.ref g, .int c, .int sd, .int (m + 1)]))
  generalize upd H p (.lst [.ref g, .int c, .int sd, .int (m + 1)]) = H1 at d1
  clear d0 hp
  -- what is behind the first if
  have tail : ∀ H1 g gs c, PD T H1 p g gs c sd (m + 1) → (tSeq (tIfS (tTest (tOp rGtA (tOp (rIx K) (tVar 0) (tC (.int 1))) (tC (.int 0)))) (tSeq (tAsg (tOp rModA (tCB rInt1 (tCons (tOp (rIx K) (tVar 0) (tC (.int 1))) tNil)) (tVar 1)) (gName 2))
    (tSeq (tAsg (tOp rDivA (tOp (rIx K) (tVar 0) (tC (.int 1))) (tVar 1)) (gSub (tVar 0) (tC (.int 1)) rSetL))
    (tRet (tVar 2)))) tNext)
    (tSeq (tAsg (tOp rModA (tCB rInt1 (tCons (tOp rAddA (tOp rMulA (tOp (rIx K) (tVar 0) (tC (.int 2))) (tC (.int 48271))) (tOp rMulA (tOp (rIx K) (tVar 0) (tC (.int 3))) (tC (.int 69621)))) tNil)) (tC (.int 2147483647))) (gName 3))
    (tSeq (tAsg (tOp rModA (tCB rInt1 (tCons (tOp rAddA (tOp rMulA (tVar 3) (tOp rAddA (tOp rDivA (tVar 3) (tC (.int 7))) (tC (.int 40692)))) (tOp rMulA (tOp (rIx K) (tVar 0) (tC (.int 3))) (tC (.int 16807)))) tNil)) (tC (.int 2147483399))) (gName 3))
    (tRet (tOp rModA (tOp rDivA (tVar 3) (tC (.int 5))) (tVar 1)))))) { nx := fun _ H' => Q .non H', rt := Q } [some (.ref p), some (.int n), none, none] H1 := by
    intro H1 g gs c d
    refine q_if (M := W0) (S := H1) (T := H1) (b := decide (0 < c)) (ev_test (K := K) (ev_gt (ev_at rfl d.hp rfl rfl is_int) ev_ic)) (Same.refl _) (Same.refl _) (fun S2 T2 H2 st w2 hb => ?_) (fun S2 T2 H2 st w2 hb => ?_)
    · have d2 := d.keep (st.tt.trans w2)
      refine q_set (M := W0) (S := H2) (T := H2) (P := Is K (c % n)) (ev_mod (ev_int (ev_at rfl d2.hp rfl rfl is_int)) (ev_iv rfl) hn) (Same.refl _) (Same.refl _) fun S3 T3 H3 v st3 w3 hv => ?_
      have d3 := d2.keep (st3.tt.trans w3)
      rw [hv.int]
      refine (ev_div (M := W0) (K := K) (S := H3) (a := c) (b := n) (ev_at rfl d3.hp rfl rfl is_int) (ev_iv rfl) ⟨hn, hl⟩) H3 H3 (Same.refl _) (Same.refl _) _ fun S4 T4 H4 v st4 w4 hv => ?_
      have d4 := d3.keep (st4.tt.trans w4)
      rw [hv.int]
      refine ⟨_, rfl, ⟨p, _, 1, 1, rfl, rfl, d4.hp, rfl, ?_⟩⟩
      have d5 := d4.put (c' := c / n) (n' := m + 1)
      exact ⟨_, rfl, fin _ _ _ _ _ _ d5 (mod_small hn).1 (mod_small hn).2⟩
    · have d2 := d.keep (st.tt.trans w2)
      refine q_set (M := W0) (S := H2) (T := H2) (ev_mod (K := K) (ev_int (ev_add (ev_mul (ev_at rfl d2.hp rfl rfl is_int) ev_ic (.inr ⟨by decide, by decide⟩)) (ev_mul (ev_at rfl d2.hp rfl rfl is_int) ev_ic (.inr ⟨by decide, by decide⟩)))) ev_ic (by decide)) (Same.refl _) (Same.refl _) fun S3 T3 H3 v st3 w3 hv => ?_
      have d3 := d2.keep (st3.tt.trans w3)
      have hv' := hv.int
      obtain ⟨b1, b2⟩ := mod_small (a := sd * 48271 + (m + 1) * 69621) (m := 2147483647) (by decide)
      generalize (sd * 48271 + (m + 1) * 69621) % 2147483647 = x at hv' b1 b2
      subst hv'
      refine q_set (M := W0) (S := H3) (T := H3) (ev_mod (K := K) (ev_int (ev_add (ev_mul (ev_iv rfl) (ev_add (ev_div (ev_iv rfl) ev_ic ⟨by decide, by decide⟩) ev_ic) (.inl ⟨by omega, by omega⟩)) (ev_mul (ev_at rfl d3.hp rfl rfl is_int) ev_ic (.inr ⟨by decide, by decide⟩)))) ev_ic (by decide)) (Same.refl _) (Same.refl _) fun S4 T4 H4 v st4 w4 hv => ?_
      have d4 := d3.keep (st4.tt.trans w4)
      have hv' := hv.int
      subst hv'
      refine q_ret (M := W0) (S := H4) (T := H4) (ev_mod (K := K) (ev_div (ev_iv rfl) ev_ic ⟨by decide, by decide⟩) (ev_iv rfl) hn) (Same.refl _) (Same.refl _) fun S5 T5 H5 v st5 w5 hv => ?_
      have d5 := d4.keep (st5.tt.trans w5)
      rw [hv.int]
      exact fin _ _ _ _ _ _ d5 (mod_small hn).1 (mod_small hn).2
  -- if pool[1] == 0 and pool[0] != []
  have e0 : Is K gs H1 (.ref g) := is_lst (.inl d1.hg) isAll_ints
  refine q_if (M := W0) (S := H1) (T := H1) (b := decide (c = 0) && !decide (gs = [])) (ev_and (ev_test (K := K) (ev_eq (ev_at rfl d1.hp rfl rfl is_int) ev_ic)) (fun _ => ev_test (K := K) (ev_ne (a := gs) (b := []) (ev_at rfl d1.hp rfl rfl e0) ev_l0))) (Same.refl _) (Same.refl _) (fun S2 T2 H2 st w2 hb => ?_) (fun S2 T2 H2 st w2 hb => ?_)
  · have d2 := d1.keep (st.tt.trans w2)
    have hg : gs ≠ [] := fun z => by rw [z] at hb; simp at hb
    obtain ⟨g0, gr, rfl⟩ : ∃ g0 gr, gs = g0 :: gr := by
      cases gs with
      | nil => exact absurd rfl hg
      | cons a r => exact ⟨a, r, rfl⟩
    have e2 : Is K (g0 :: gr) H2 (.ref g) := is_lst (.inl d2.hg) isAll_ints
    refine (ev_ix (M := W0) (K := K) (S := H2) (xs := g0 :: gr) (i := 0) (a := g0) (ev_at rfl d2.hp rfl rfl e2) ev_ic rfl rfl) H2 H2 (Same.refl _) (Same.refl _) _ fun S3 T3 H3 v st3 w3 hv => ?_
    have d3 := d2.keep (st3.tt.trans w3)
    rw [hv.int]
    refine ⟨_, rfl, ⟨p, _, 1, 1, rfl, rfl, d3.hp, rfl, ?_⟩⟩
    have d4 : PD T (upd H3 p (HO.lst ([V.ref g, V.int c, V.int sd, V.int (m + 1)].set 1 (V.int g0)))) p g (g0 :: gr) g0 sd (m + 1) := d3.put (c' := g0) (n' := m + 1)
    dsimp only
    generalize upd H3 p (HO.lst ([V.ref g, V.int c, V.int sd, V.int (m + 1)].set 1 (V.int g0))) = H4 at d4 ⊢
    have e4 : Is K (g0 :: gr) H4 (.ref g) := is_lst (.inl d4.hg) isAll_ints
    refine ⟨.ref p, rfl, .inl ⟨p, _, 0, .ref g, rfl, rfl, SqL.of d4.hp, rfl, 1, rfl, .inl ⟨g, (g0 :: gr).map V.int, rfl, SqL.of d4.hg, fun l nl => ?_⟩⟩⟩
    have hlp : p ≠ l := ne_of_none d4.hp nl
    refine ⟨_, rfl, ⟨p, _, 0, 0, rfl, rfl, by rw [upd_ne hlp]; exact d4.hp, rfl, ?_⟩⟩
    refine tail _ l gr g0 ⟨same_upd (d4.st.trans (same_new nl)) d4.tp, d4.tp, d4.st.free nl, upd_same, ?_, d4.lo, d4.hi⟩
    rw [upd_ne (Ne.symm hlp), upd_same]
    show some (HO.lst (cutV (V.int g0 :: gr.map V.int) (some 1) none)) = _
    have e : cutV (V.int g0 :: gr.map V.int) (some 1) none = gr.map V.int := by
      unfold cutV
      rw [show HT.sIx (V.int g0 :: gr.map V.int).length 0 (some 1) = min 1 (V.int g0 :: gr.map V.int).length from HT.sIx_nat _ 0 1, HT.sIx_none]
      rw [show min 1 (V.int g0 :: gr.map V.int).length = 1 by rw [List.length_cons]; omega]
      show List.take ((V.int g0 :: gr.map V.int).length - 1) (gr.map V.int) = gr.map V.int
      rw [List.length_cons, Nat.add_sub_cancel]
      exact List.take_length
    rw [e]
  · exact tail H2 g gs c (d1.keep (st.tt.trans w2))
end Lw

namespace Lw
open PySem PySem.Spec PyProof.Rows L2 Fm
open PySem.W (Datum Tup T3 T4)
section
variable {K : PySem.W.Frag} {mg : Str → Option Value} {M : Wld} {σ : L2.St} {S : Hp} {ta : TE} {ps qs : List Place} {ls ks : List Link}
theorem patF_mono {S S' : Hp} {fs : List (Str × V)} (e : Same S S') (h : PatF K ps ls S fs) : PatF K ps ls S' fs := by
  obtain ⟨vp, vl, h1, h2, h3⟩ := h
  exact ⟨vp, vl, h1, h2.mono e, h3.mono e⟩
theorem pat_mono : Mono (Pat K ps ls) := fun S S' v e ⟨a, dx, fs, h1, h2, h3⟩ => ⟨a, dx, fs, h1, e _ _ h2, patF_mono e h3⟩
theorem pat_isO : IsO (He.ga K "Pattern") (Pat K ps ls) := fun S v ⟨a, dx, fs, h1, h2, _⟩ => ⟨a, dx, fs, h1, h2⟩
theorem ev_pl (T : Txt K mg) (ha : Ev M ta σ S (Pat K ps ls)) : Ev M (tFld K ta "places") σ S (Is K (Tup.mk ps)) := ev_fld T.c_Pattern T.n_Pattern_places ha fun S' v ⟨a, dx, fs, h1, h2, vp, vl, h3, h4, h5⟩ => ⟨a, dx, fs, vp, h1, h2, by rw [h3]; rfl, h4⟩
theorem ev_li (T : Txt K mg) (ha : Ev M ta σ S (Pat K ps ls)) : Ev M (tFld K ta "links") σ S (Is K (Tup.mk ls)) := ev_fld T.c_Pattern T.n_Pattern_links ha fun S' v ⟨a, dx, fs, h1, h2, vp, vl, h3, h4, h5⟩ => ⟨a, dx, fs, vl, h1, h2, by rw [h3]; rfl, h5⟩
theorem filter_yes {α : Type} (xs : List α) : xs.filter (fun _ => true) = xs := by simp
theorem sz1 {n : Nat} (h : n ≤ 1000) : n ≤ sizeLine := small_size h
/-! ### is_word -/
theorem pure_is_word (H : Hp) (vs : List V) (Q : VK) (E : XK) (h : sp_is_word K vs H Q E) : t_is_word K { nx := fun _ H' => Q .non H', rt := Q } (start N_is_word vs) H := by
  obtain ⟨z, S, s, ⟨v, rfl, hv, hl⟩, q⟩ := h
  refine q_ret (M := W0) (S := S) (T := H) (P := Is K (isW z)) ?_ (Same.refl _) s fun S' T' H' v st w p => q S' H' v (st.out w) p
  refine (ev_andV (ev_isiS (ev_var rfl hv)) fun _ => ev_andV (ev_chain ev_ic (ev_lenS (ev_var rfl hv) (sz1 hl)) ev_ic) fun _ => ev_all (ev_compS (p := fun _ => true) (f := fun c => decide (c ∈ abc.cps.toList)) (ev_var rfl hv) (sz1 hl) fun S1 c hc e => ⟨evT_yes, fun _ => ev_sign (z := abc) (ev_var rfl is_str) ev_sc⟩)).eq ?_
  rw [filter_yes]
  rfl
/-! ### kept_ends -/
theorem pure_kept_ends (H : Hp) (vs : List V) (Q : VK) (E : XK) (h : sp_kept_ends K vs H Q E) : t_kept_ends K { nx := fun _ H' => Q .non H', rt := Q } (start N_kept_ends vs) H := by
  obtain ⟨d, S, s, ⟨a, rfl, ha, hl⟩, q⟩ := h
  refine q_ret (M := W0) (S := S) (T := H) (P := Is K (endsOf d)) ?_ (Same.refl _) s fun S' T' H' v st w p => q S' H' v (st.out w) p
  have h1 : Ev W0 (tLc (iSeq K (tVar 0)) (gTup K 3 (gCons (gName 1) (gCons (gName 2) (gCons (gName 3) gNil)))) tYes (tVar 2) [1, 2, 3]) (start N_kept_ends [a]) S (Is K (d.map (·.b))) :=
    (ev_comp3 (p := fun _ => true) (f := fun x => x.b) (by decide) (by decide) (by decide) (evi_list (ev_var rfl ha)) (sz1 hl) fun S1 a b c x _ _ ha hb hc => ⟨evT_yes, fun _ => ev_var rfl hb⟩).eq (by rw [filter_yes])
  have h2 : Ev W0 (tLc (iSeq K (tVar 0)) (gTup K 3 (gCons (gName 1) (gCons (gName 2) (gCons (gName 3) gNil)))) tYes (tVar 3) [1, 2, 3]) (start N_kept_ends [a]) S (Is K (d.map (·.c))) :=
    (ev_comp3 (p := fun _ => true) (f := fun x => x.c) (by decide) (by decide) (by decide) (evi_list (ev_var rfl ha)) (sz1 hl) fun S1 a b c x _ _ ha hb hc => ⟨evT_yes, fun _ => ev_var rfl hc⟩).eq (by rw [filter_yes])
  exact ev_addL h1 h2 (by rw [List.length_map, List.length_map]; exact Nat.le_trans (by omega : d.length + d.length ≤ 2000) (by decide))
/-! ### Pattern.__init__ -/
theorem pure_Pattern_init (T : Txt K mg) (H : Hp) (vs : List V) (Q : VK) (E : XK) (h : sp_Pattern_init K vs H Q E) : t_Pattern_init K { nx := fun _ H' => Q .non H', rt := Q } (start N_Pattern_init vs) H := by
  obtain ⟨d, x, dx, rest, S, rfl, hx, nS, s, ⟨a, b, rfl, ha, hb⟩, q⟩ := h
  -- self.places = tuple(places)
  refine (ev_tup (M := W0) (K := K) (S := S) (xs := d.1) (ev_var rfl ha)) H H (Same.refl _) s _ fun S1 T1 H1 vp st1 w1 hp => ?_
  have sH : Same H H1 := st1.tt.trans w1
  have nS1 : S1 x = none := st1.nw x (by rw [hx]; simp) nS
  refine ⟨_, rfl, x, _, dx, [], rfl, sH _ _ hx, T.c_Pattern, T.n_Pattern_places, by decide, ?_⟩
  have s2 : Same S1 (upd H1 x (.ins (He.ga K "Pattern") dx (putF "places" vp []))) := same_upd (st1.st.trans w1) nS1
  -- self.links = tuple(links)
  refine (ev_tup (M := W0) (K := K) (S := S1) (xs := d.2) (ev_var rfl (hb.mono st1.ss))) _ _ (Same.refl _) s2 _ fun S2 T2 H2 vl st2 w2 hl => ?_
  have sH2 : Same (upd H1 x (.ins (He.ga K "Pattern") dx (putF "places" vp []))) H2 := st2.tt.trans w2
  have nS2 : S2 x = none := st2.nw x (by rw [upd_same]; simp) nS1
  refine ⟨_, rfl, x, _, dx, _, rfl, sH2 _ _ upd_same, T.c_Pattern, T.n_Pattern_links, by show 1 < 1000; decide, ?_⟩
  refine q S2 _ _ (st1.ss.trans st2.ss) (same_upd (st2.st.trans w2) nS2) (fun c o hc e => ?_) (fun c hc hs => ?_) ⟨vp, vl, rfl, hp.mono st2.ss, hl⟩ upd_same
  · rw [upd_ne hc]
    exact sH2 _ _ (by rw [upd_ne hc]; exact sH _ _ e)
  · have h1 := st1.nw c hc hs
    refine st2.nw c (fun z => ?_) h1
    by_cases hcx : c = x
    · subst hcx; rw [upd_same] at z; cases z
    · rw [upd_ne hcx] at z; exact hc (sH.free z)
theorem ev_pat {E : XK} {t : TA} (d : PL) (ha : EvA M t σ S (All2 (Is K d.1) (Is K d.2))) : Ev M (StX.tMakeR (He.ga K "Pattern") (sp_Pattern_init K) E t) σ S (Pat K d.1 d.2) :=
  ev_mk d (fun S S' fs e h => patF_mono e h) (fun T H w s Q q => ha T H w s Q fun S' T' H' vs st w' ⟨a, b, e, h1, h2⟩ => q S' T' H' vs st w' ⟨a, b, e, h1, h2⟩)
/-! ### Pattern.place -/
theorem word_len {z : Str} (h : isW z = true) : z.length ≤ 8 ∧ 1 ≤ z.length := by
  unfold isW at h
  simp only [Bool.and_eq_true, decide_eq_true_eq] at h
  omega
theorem ev_word {i : Nat} {z : Str} (hv : σ[i]? = some (some (.str z))) (hz : z.length ≤ 1000) {E : XK} : Ev M (tCl (sp_is_word K) E (tCons (tVar i) tNil)) σ S (Is K (isW z)) :=
  ev_cl z (fun T H w s Q q => (eva_1 (P1 := Is K z) is_mono (ev_var hv is_str)) T H w s Q fun S' T' H' vs st w' ⟨a, e, h⟩ => q S' T' H' vs st w' ⟨a, e, h, hz⟩)
theorem pure_Pattern_place (T : Txt K mg) (H : Hp) (vs : List V) (Q : VK) (E : XK) (h : sp_Pattern_place K vs H Q E) : t_Pattern_place K { nx := fun _ H' => Q .non H', rt := Q } (start N_Pattern_place vs) H := by
  obtain ⟨d, S, s, ⟨rfl, h1, h2, h3, h4⟩, q⟩ := h
  have l1 := (word_len h1).1
  have l2 := (word_len h2).1
  refine q_if (M := W0) (S := S) (T := H) (ev_or (ev_not (ev_tB (ev_word (K := K) (z := d.a) rfl (by omega)))) fun _ => ev_or (ev_not (ev_tB (ev_word (K := K) (z := d.b) rfl (by omega)))) fun _ => ev_not (ev_test (ev_chain (K := K) ev_ic (ev_iv (z := d.c) rfl) ev_ic))) (Same.refl _) s (fun S1 T1 H1 st w hb => ?_) (fun S1 T1 H1 st w hb => ?_)
  · rw [h1, h2, decide_eq_true h3, decide_eq_true h4] at hb
    cases hb
  · refine q_ret (M := W0) (S := S1) (T := T1) (P := Pat K [d] []) (ev_pat ([d], []) (eva_2 is_mono is_mono (ev_l1 (ev_t3 (ev_var rfl is_str) (ev_var rfl is_str) (ev_iv rfl))) ev_l0)) w st.st fun S2 T2 H2 v st2 w2 p => q S2 H2 v ((st.trans st2).out w2) p
/-! ### len, in -/
theorem pure_Pattern_len (T : Txt K mg) (H : Hp) (vs : List V) (Q : VK) (E : XK) (h : sp_Pattern_len K vs H Q E) : t_Pattern_len K { nx := fun _ H' => Q .non H', rt := Q } (start N_Pattern_len vs) H := by
  obtain ⟨d, S, s, ⟨a, rfl, ha⟩, q⟩ := h
  exact q_ret (M := W0) (S := S) (T := H) (ev_lenT (ev_pl T (ev_var rfl ha))) (Same.refl _) s fun S' T' H' v st w p => q S' H' v (st.out w) p
theorem map_id' {α : Type} (xs : List α) : xs.map (fun x => x) = xs := by simp
/-- the items of one that are (not) in another -/
theorem ev_filtIn {α : Type} [DecidableEq α] [Datum α] {neg : Bool} {tl tm : TE} {i : Nat} {xs ys : List α} (hz : xs.length ≤ sizeLine) (hl : EvI M (iSeq K tl) σ S xs.length (Itm K xs)) (hm : ∀ S1 v, Same S S1 → Ev M tm ((σ.set i none).set i (some v)) S1 (fun S v => Is K ys S v ∨ Is K (Tup.mk ys) S v)) (hd : Datum.depth α ≤ 60 := by decide) (hi : ∀ v, ((σ.set i none).set i (some v))[i]? = some (some v)) :
    Ev M (tLc (iSeq K tl) (gName i) (tTest (tOp (rInP K neg) (tVar i) tm)) (tVar i) [i]) σ S (Is K (xs.filter fun x => if neg then !decide (x ∈ ys) else decide (x ∈ ys))) :=
  (ev_comp (f := fun x => x) hl hz fun S1 v x hx e hv => ⟨ev_test (K := K) (ev_op is_mono (ev_var (hi v) hv) (fun S2 e2 => hm S2 v (e.trans e2)) fun S3 x y e3 hx hy => rv_in hd hx hy), fun _ => ev_var (hi v) hv⟩).eq (map_id' _)
theorem pure_Pattern_contains (T : Txt K mg) (H : Hp) (vs : List V) (Q : VK) (E : XK) (h : sp_Pattern_contains K vs H Q E) : t_Pattern_contains K { nx := fun _ H' => Q .non H', rt := Q } (start N_Pattern_contains vs) H := by
  obtain ⟨d, S, s, ⟨a, b, rfl, ha, hl, hb⟩, q⟩ := h
  obtain ⟨⟨ps, ls⟩, d2⟩ := d
  cases d2 with
  | inl z =>
    have hb' : Is K z S b := hb
    refine q_if (M := W0) (S := S) (T := H) (ev_tB (ev_isiS (ev_var rfl hb'))) (Same.refl _) s (fun S1 T1 H1 st w _ => ?_) (fun _ _ _ _ _ h => nomatch h)
    have hc : Ev W0 (tLc (iSeq K (tFld K (tVar 0) "places")) (gTup K 3 (gCons (gName 4) (gCons (gName 5) (gCons (gName 6) gNil)))) tYes (tVar 4) [4, 5, 6]) (start N_Pattern_contains [a, b]) S1 (Is K (ps.map (·.a))) :=
      (ev_comp3 (p := fun _ => true) (f := fun x => x.a) (by decide) (by decide) (by decide) (evi_tup (ev_pl T (ev_var rfl (pat_mono _ _ _ st.ss ha)))) (sz1 hl) fun S1 a b c x _ _ ha hb hc => ⟨evT_yes, fun _ => ev_var rfl ha⟩).eq (by rw [filter_yes])
    exact q_ret (M := W0) (S := S1) (T := T1) (ev_in (ev_var rfl (hb'.mono st.ss)) hc) w st.st fun S' T' H' v st2 w2 p => q S' H' v ((st.trans st2).out w2) p
  | inr qq =>
    obtain ⟨qs, ks⟩ := qq
    obtain ⟨hb', l1, l2⟩ : Pat K qs ks S b ∧ qs.length ≤ 1000 ∧ ks.length ≤ 1000 := hb
    obtain ⟨pb, pdx, pfs, rfl, hpb, hpf⟩ := id hb'
    refine q_if (M := W0) (S := S) (T := H) (b := false) (ev_tB (ev_isi (K := K) (P1 := Pat K qs ks) pat_mono (ev_var rfl hb') (.ty _) (fun S' H v e ⟨a, dx, fs, h1, h2, _⟩ => by rw [h1]; exact ty_ins T.c_Pattern T.x_Pattern (e _ _ h2)) T.i_ps)) (Same.refl _) s (fun _ _ _ _ _ h => nomatch h) (fun S1 T1 H1 st w _ => ?_)
    have ha1 := pat_mono _ _ _ st.ss ha
    have hb1 := pat_mono _ _ _ st.ss hb'
    refine q_set (M := W0) (S := S1) (T := T1) (ev_filtIn (neg := true) (sz1 l1) (evi_tup (ev_pl T (ev_var rfl hb1))) (fun S2 v e => (ev_pl T (ev_var rfl (pat_mono _ _ _ e ha1))).imp fun _ _ _ h => .inr h) (by decide) fun v => rfl) w st.st fun S2 T2 H2 v2 st2 w2 p2 => ?_
    have ha2 := pat_mono _ _ _ st2.ss ha1
    have hb2 := pat_mono _ _ _ st2.ss hb1
    refine q_set (M := W0) (S := S2) (T := T2) (ev_filtIn (neg := true) (sz1 l2) (evi_tup (ev_li T (ev_var rfl hb2))) (fun S2 v e => (ev_li T (ev_var rfl (pat_mono _ _ _ e ha2))).imp fun _ _ _ h => .inr h) (by decide) fun v => rfl) w2 st2.st fun S3 T3 H3 v3 st3 w3 p3 => ?_
    exact q_ret (M := W0) (S := S3) (T := T3) (ev_andV (ev_eq (ev_var rfl (p2.mono st3.ss)) ev_l0) fun _ => ev_eq (ev_var rfl p3) ev_l0) w3 st3.st fun S' T' H' v st4 w4 p => q S' H' v ((((st.trans st2).trans st3).trans st4).out w4) p
end
end Lw

namespace Lw
open PySem PySem.Spec PyProof.Rows L2 Fm
open PySem.W (Datum Tup T3 T4)
section
variable {K : PySem.W.Frag} {mg : Str → Option Value} {M : Wld} {σ : L2.St} {S : Hp} {ta tb : TE} {ps qs : List Place} {ls ks : List Link}
theorem ev_in' {α : Type} [DecidableEq α] [Datum α] {tl tm : TE} {i : Nat} {xs ys : List α} (hz : xs.length ≤ sizeLine) (hl : EvI M (iSeq K tl) σ S xs.length (Itm K xs)) (hm : ∀ S1 v, Same S S1 → Ev M tm ((σ.set i none).set i (some v)) S1 (fun S v => Is K ys S v ∨ Is K (Tup.mk ys) S v)) (hi : ∀ v, ((σ.set i none).set i (some v))[i]? = some (some v)) (hd : Datum.depth α ≤ 60 := by decide) :
    Ev M (tLc (iSeq K tl) (gName i) (tTest (tOp (rInP K false) (tVar i) tm)) (tVar i) [i]) σ S (Is K (xs.filter fun x => decide (x ∈ ys))) := ev_filtIn (neg := false) hz hl hm hd hi
theorem ev_ni' {α : Type} [DecidableEq α] [Datum α] {tl tm : TE} {i : Nat} {xs ys : List α} (hz : xs.length ≤ sizeLine) (hl : EvI M (iSeq K tl) σ S xs.length (Itm K xs)) (hm : ∀ S1 v, Same S S1 → Ev M tm ((σ.set i none).set i (some v)) S1 (fun S v => Is K ys S v ∨ Is K (Tup.mk ys) S v)) (hi : ∀ v, ((σ.set i none).set i (some v))[i]? = some (some v)) (hd : Datum.depth α ≤ 60 := by decide) :
    Ev M (tLc (iSeq K tl) (gName i) (tTest (tOp (rInP K true) (tVar i) tm)) (tVar i) [i]) σ S (Is K (xs.filter fun x => !decide (x ∈ ys))) := ev_filtIn (neg := true) hz hl hm hd hi
theorem ev_two {α : Type} [DecidableEq α] [Datum α] {xs ys : List α} (ha : Ev M ta σ S (Is K (Tup.mk xs))) (hb : Ev M tb σ S (Is K ys)) (hz : xs.length + ys.length ≤ sizeLine) : Ev M (tLst (StX.tStar K ta (StX.tStar K tb tNil))) σ S (Is K (xs ++ ys)) :=
  (ev_dispL (eva_starT ha (eva_star hb eva_nilL)) (by rw [List.append_nil, List.length_append]; exact hz)).eq (by rw [List.append_nil])
theorem sz2 {m n : Nat} (h1 : m ≤ 1000) (h2 : n ≤ 1000) : m + n ≤ sizeLine := Nat.le_trans (by omega : m + n ≤ 2000) (by decide)
/-! ### clash -/
theorem kn_dlast {ps : List Place} {n : Str} : dlast (fun p : Place => (.inr p.a : Key)) ps (.inr n) = kn ps n := by
  unfold dlast kn
  congr 1
  funext p
  simp
theorem clash_none {ps qs : List Place} (h : clashOf ps qs = none) : ∀ q ∈ qs, (kn ps q.a).getD q = q := by
  unfold clashOf at h
  rw [Option.map_eq_none_iff, List.find?_eq_none] at h
  intro q hq
  have := h q hq
  simpa using this
theorem pure_clash (T : Txt K mg) (H : Hp) (vs : List V) (Q : VK) (E : XK) (h : sp_clash K vs H Q E) : t_clash K { nx := fun _ H' => Q .non H', rt := Q } (start N_clash vs) H := by
  obtain ⟨⟨⟨ps, ls⟩, ⟨qs, ks⟩⟩, S, s, ⟨a, b, rfl, ha, hb, hl, hc⟩, q⟩ := h
  have hc := clash_none hc
  refine q_set (M := W0) (S := S) (T := H) (P := DctOf (fun x => Is K x) (fun p : Place => .inr p.a) ps) ((ev_dc3 (p := fun _ => true) (fun _ => is_mono) (by decide) (by decide) (by decide) (evi_tup (ev_pl T (ev_var rfl ha))) (sz1 hl) fun S1 a b c x _ e ha hb hc => ⟨evT_yes, fun _ => ⟨ev_kS (ev_var rfl ha), ev_t3 (ev_var rfl ha) (ev_var rfl hb) (ev_var rfl hc)⟩⟩).imp fun _ _ _ h => by rwa [filter_yes] at h) (Same.refl _) s fun S1 T1 H1 v1 st1 w1 p1 => ?_
  refine for_ev (M := W0) (S := S1) (T := T1) (evi_tup (xs := qs) (ev_pl T (ev_var rfl (pat_mono _ _ _ st1.ss hb)))) itm_mono w1 st1.st (fun i σ S T => ∃ x, σ = [some a, some b, some v1, x, none, none, none]) (fun _ _ _ => ⟨none, rfl⟩) (fun i v σ2 S2 T2 H2 hi st2 w2 hJ ⟨x, hx, hv⟩ => ?_) (fun σ2 S2 T2 H2 st2 w2 hJ => ?_)
  · obtain ⟨u, rfl⟩ := hJ
    have p2 := DctOf.mono (fun _ => is_mono) _ _ _ st2.ss p1
    have hg := ev_dget2 (M := W0) (σ := [some a, some b, some v1, some v, none, none, none]) (S := S2) (td := tVar 2) (ty := tOp (rIx K) (tVar 3) (tC (.int 0))) (tx := tVar 3) (P := Is K x) (fun _ => is_mono) is_mono (ev_var rfl p2) (ev_kS (ev_a (ev_var rfl hv))) (ev_var rfl hv)
    have hg2 : Ev W0 (tDGet2 (tVar 2) (tOp (rIx K) (tVar 3) (tC (.int 0))) (tVar 3)) [some a, some b, some v1, some v, none, none, none] S2 (Is K x) := hg.imp fun S' v' e h => by
      rw [kn_dlast] at h
      have := hc x (List.mem_of_getElem? hx)
      cases e2 : kn ps x.a with
      | none => rw [e2] at h; exact h
      | some y => rw [e2] at h this; rw [← this]; exact h
    refine q_if (M := W0) (S := S2) (T := T2) (b := !decide (x = x)) (ev_test (K := K) (ev_ne hg2 (ev_var rfl hv))) w2 st2.st (fun S3 T3 H3 st3 w3 hb => ?_) (fun S3 T3 H3 st3 w3 hb => ?_)
    · simp at hb
    · exact ⟨S3, T3, st2.trans st3, w3, st3.ss, some v, rfl⟩
  · dsimp only
    exact q_ret (M := W0) (S := S2) (T := T2) (P := fun _ v => v = .non) (ev_c rfl) w2 st2.st fun S' T' H' v st w p => q S' H' v (((st1.trans st2).trans st).out w) p
/-! ### the operators -/
section
variable {X : XK}
theorem cl_clash (hl : ps.length ≤ 1000) (hc : clashOf ps qs = none) (ha : Ev M ta σ S (Pat K ps ls)) (hb : Ev M tb σ S (Pat K qs ks)) : Ev M (tCl (sp_clash K) X (tCons ta (tCons tb tNil))) σ S (fun _ v => v = .non) :=
  ev_cl2 ((ps, ls), (qs, ks)) pat_mono pat_mono ha hb fun S a b h1 h2 => ⟨a, b, rfl, h1, h2, hl, hc⟩
theorem cl_kept_ends (hl : ls.length ≤ 1000) (ha : Ev M ta σ S (Is K ls)) : Ev M (tCl (sp_kept_ends K) X (tCons ta tNil)) σ S (Is K (endsOf ls)) :=
  ev_cl1 ls is_mono ha fun S a h => ⟨a, rfl, h, hl⟩
theorem o_or (l1 : ps.length ≤ 1000) (l2 : ls.length ≤ 1000) (l3 : qs.length ≤ 1000) (l4 : ks.length ≤ 1000) (hc : clashOf ps qs = none) (ha : Ev M ta σ S (Pat K ps ls)) (hb : Ev M tb σ S (Pat K qs ks)) : Ev M (tOp (rOwn (He.ga K "Pattern") (sp_Pattern_or K) X) ta tb) σ S (Pat K (orP ps qs) (orL ls ks)) :=
  ev_own ((ps, ls), (qs, ks)) pat_mono pat_mono pat_isO pat_isO (fun S x y h1 h2 => ⟨x, y, rfl, h1, h2, ⟨l1, l2, l3, l4⟩, hc⟩) ha hb
theorem o_and (l1 : ps.length ≤ 1000) (l2 : ls.length ≤ 1000) (ha : Ev M ta σ S (Pat K ps ls)) (hb : Ev M tb σ S (Pat K qs ks)) : Ev M (tOp (rOwn (He.ga K "Pattern") (sp_Pattern_and K) X) ta tb) σ S (Pat K (andP ps qs) (andL ps qs ls ks)) :=
  ev_own ((ps, ls), (qs, ks)) pat_mono pat_mono pat_isO pat_isO (fun S x y h1 h2 => ⟨x, y, rfl, h1, h2, l1, l2⟩) ha hb
theorem o_sub (l1 : ps.length ≤ 1000) (l2 : ls.length ≤ 1000) (ha : Ev M ta σ S (Pat K ps ls)) (hb : Ev M tb σ S (Pat K qs ks)) : Ev M (tOp (rOwn (He.ga K "Pattern") (sp_Pattern_sub K) X) ta tb) σ S (Pat K (subP ps qs ls ks) (subL ls ks)) :=
  ev_own ((ps, ls), (qs, ks)) pat_mono pat_mono pat_isO pat_isO (fun S x y h1 h2 => ⟨x, y, rfl, h1, h2, l1, l2⟩) ha hb
theorem o_inS {z : Str} (l1 : ps.length ≤ 1000) (ha : Ev M ta σ S (Is K z)) (hb : Ev M tb σ S (Pat K ps ls)) : Ev M (tOp (rOwnIn (He.ga K "Pattern") (sp_Pattern_contains K) X false) ta tb) σ S (Is K (decide (z ∈ ps.map (·.a)))) :=
  ev_ownIn (δ' := PL × (Str ⊕ PL)) (neg := false) ((ps, ls), .inl z) is_mono pat_mono pat_isO (fun S x y h1 h2 => ⟨y, x, rfl, h2, l1, h1⟩) (fun S v h => Is.bl (K := K) (S := S) h) ha hb
theorem o_inP (l1 : ps.length ≤ 1000) (l3 : qs.length ≤ 1000) (l4 : ks.length ≤ 1000) (ha : Ev M ta σ S (Pat K qs ks)) (hb : Ev M tb σ S (Pat K ps ls)) : Ev M (tOp (rOwnIn (He.ga K "Pattern") (sp_Pattern_contains K) X false) ta tb) σ S (Is K (inPat qs ks ps ls)) :=
  ev_ownIn (δ' := PL × (Str ⊕ PL)) (neg := false) ((ps, ls), .inr (qs, ks)) pat_mono pat_mono pat_isO (fun S x y h1 h2 => ⟨y, x, rfl, h2, l1, h1, l3, l4⟩) (fun S v h => Is.bl (K := K) (S := S) h) ha hb
theorem o_len (l1 : ps.length ≤ 1000) (ha : Ev M ta σ S (Pat K ps ls)) : Ev M (tCB (rOwnLen (He.ga K "Pattern") (sp_Pattern_len K) X) (tCons ta tNil)) σ S (Is K (ps.length : Int)) :=
  ev_ownLen (ps, ls) pat_mono pat_isO (fun S x h1 => ⟨x, rfl, h1⟩) (fun S v h => Is.int (K := K) (S := S) h) (by omega) (by omega) ha
theorem o_eq (T : Txt K mg) (l1 : ps.length ≤ 1000) (l2 : ls.length ≤ 1000) (l3 : qs.length ≤ 1000) (l4 : ks.length ≤ 1000) (ha : Ev M ta σ S (Pat K ps ls)) (hb : Ev M tb σ S (Pat K qs ks)) : Ev M (tOp (rOwnEq K (He.ga K "Pattern") (sp_Pattern_eq K) X) ta tb) σ S (Is K (inPat ps ls qs ks && inPat qs ks ps ls)) :=
  ev_ownEq (δ' := PL × Option PL) ((ps, ls), some (qs, ks)) T.nf pat_mono pat_mono pat_isO pat_isO (fun S x y h1 h2 => ⟨x, y, rfl, h1, ⟨l1, l2⟩, h2, l3, l4⟩) ha hb
theorem o_ne (T : Txt K mg) (l1 : ps.length ≤ 1000) (l2 : ls.length ≤ 1000) (l3 : qs.length ≤ 1000) (l4 : ks.length ≤ 1000) (ha : Ev M ta σ S (Pat K ps ls)) (hb : Ev M tb σ S (Pat K qs ks)) : Ev M (tOp (rOwnNe K (He.ga K "Pattern") (sp_Pattern_eq K) X) ta tb) σ S (Is K (!(inPat ps ls qs ks && inPat qs ks ps ls))) :=
  ev_ownNe (δ' := PL × Option PL) ((ps, ls), some (qs, ks)) T.nf pat_mono pat_mono pat_isO (fun S H y e ⟨a, dx, fs, h1, h2, _⟩ => .inr ⟨a, _, dx, fs, h1, e _ _ h2, rfl⟩) (fun S x y h1 h2 => ⟨x, y, rfl, h1, ⟨l1, l2⟩, h2, l3, l4⟩) (fun S v h => Is.bl (K := K) (S := S) h) ha hb
/-- a pattern and something else -/
theorem o_eqX {t : Value} {P2 : Hp → V → Prop} (hn : PySem.W.notFirst K (He.ga K "Pattern") t = true) (hk : PySem.W.kitOne K t (.ref (He.ga K "Pattern")) = some false) (m2 : Mono P2) (ht : ∀ S H y, Same S H → P2 S y → TyX K H y t) (l1 : ps.length ≤ 1000) (l2 : ls.length ≤ 1000) (ha : Ev M ta σ S (Pat K ps ls)) (hb : Ev M tb σ S P2) : Ev M (tOp (rOwnEq K (He.ga K "Pattern") (sp_Pattern_eq K) X) ta tb) σ S (Is K false) :=
  ev_ownEqX (δ' := PL × Option PL) ((ps, ls), none) hn pat_mono m2 pat_isO (fun S H y e h => .inl (ht S H y e h)) (fun S x y h1 h2 => ⟨x, y, rfl, h1, ⟨l1, l2⟩, t, fun H e => ht S H y e h2, hk⟩) ha hb
theorem o_place {tc : TE} {d : Place} (h1 : isW d.a = true) (h2 : isW d.b = true) (h3 : 0 ≤ d.c) (h4 : d.c ≤ 3) (ha : Ev M ta σ S (Is K d.a)) (hb : Ev M tb σ S (Is K d.b)) (hc : Ev M tc σ S (Is K d.c)) : Ev M (tStat (He.ga K "Pattern") (sp_Pattern_place K) X (tC (.ref (He.ga K "Pattern"))) (tCons ta (tCons tb (tCons tc tNil)))) σ S (Pat K [d] []) :=
  ev_stat3 d is_mono is_mono is_mono ha hb hc fun S a b c q1 q2 q3 => ⟨by rw [q1.str, q2.str, q3.int], h1, h2, h3, h4⟩
/-- a label and a pattern, as >> takes them -/
def LP (K : PySem.W.Frag) (l : Str) (ps : List Place) (ls : List Link) : Hp → V → Prop := fun S v => ∃ b c, v = .ref b ∧ S b = some (.tup [.str l, c]) ∧ Pat K ps ls S c
theorem lp_mono {l : Str} : Mono (LP K l ps ls) := fun S S' v e ⟨b, c, h1, h2, h3⟩ => ⟨b, c, h1, e _ _ h2, pat_mono _ _ _ e h3⟩
theorem ev_lp {l : Str} (ha : Ev M ta σ S (Is K l)) (hb : Ev M tb σ S (Pat K ps ls)) : Ev M (tTup (tCons ta (tCons tb tNil))) σ S (LP K l ps ls) :=
  ev_dispT (eva_2 is_mono pat_mono ha hb) (fun _ vs ⟨_, _, e, _⟩ => by subst e; exact small_size (by simp)) fun S2 vs p ⟨x, y, e, h1, h2⟩ np => by
    subst e
    exact ⟨p, y, rfl, by rw [upd_same, h1.str], pat_mono _ _ _ (same_new np) h2⟩
theorem o_shift {l : Str} (l1 : ps.length ≤ 1000) (l2 : ls.length ≤ 1000) (l3 : qs.length ≤ 1000) (l4 : ks.length ≤ 1000) (hw : isW l = true) (hp : ps ≠ []) (hq : qs ≠ []) (hc : clashOf ps qs = none) (ha : Ev M ta σ S (Pat K ps ls)) (hb : Ev M tb σ S (LP K l qs ks)) : Ev M (tOp (rOwnT K (He.ga K "Pattern") (sp_Pattern_rshift K) X) ta tb) σ S (Pat K (rsP ps qs) (rsL ps qs ls ks l)) :=
  ev_ownT (δ' := PL × Str × PL) ((ps, ls), l, (qs, ks)) pat_mono lp_mono pat_isO (fun S v ⟨b, c, h1, h2, _⟩ => ⟨b, _, h1, .inl (.inl h2)⟩) (fun S x y h1 ⟨b, c, e, h2, h3⟩ => ⟨x, b, c, by rw [e], h1, h2, h3, ⟨l1, l2, l3, l4⟩, hw, hp, hq, hc⟩) ha hb
end
theorem pure_Pattern_or (T : Txt K mg) (H : Hp) (vs : List V) (Q : VK) (E : XK) (h : sp_Pattern_or K vs H Q E) : t_Pattern_or K { nx := fun _ H' => Q .non H', rt := Q } (start N_Pattern_or vs) H := by
  obtain ⟨⟨⟨ps, ls⟩, ⟨qs, ks⟩⟩, S, s, ⟨a, b, rfl, ha, hb, ⟨l1, l2, l3, l4⟩, hc⟩, q⟩ := h
  refine q_set (M := W0) (S := S) (T := H) (P := fun _ v => v = .non) (cl_clash l1 hc (ev_var rfl ha) (ev_var rfl hb)) (Same.refl _) s fun S1 T1 H1 v1 st1 w1 p1 => ?_
  subst p1
  refine q_if (M := W0) (S := S1) (T := T1) (ev_test (K := K) (ev_notN (x := .non) (P := fun _ v => v = .non) (fun _ _ h => h) (ev_var rfl rfl))) w1 st1.st (fun _ _ _ _ _ h => by simp at h) (fun S2 T2 H2 st2 w2 _ => ?_)
  have e2 := st1.ss.trans st2.ss
  refine q_set (M := W0) (S := S2) (T := T2) (ev_ni' (xs := qs) (ys := ps) (sz1 l3) (evi_tup (ev_pl T (ev_var rfl (pat_mono _ _ _ e2 hb)))) (fun S3 v e => (ev_pl T (ev_var rfl (pat_mono _ _ _ (e2.trans e) ha))).imp fun _ _ _ h => .inr h) fun v => rfl) w2 st2.st fun S3 T3 H3 v3 st3 w3 p3 => ?_
  have e3 := e2.trans st3.ss
  refine q_set (M := W0) (S := S3) (T := T3) (ev_ni' (xs := ks) (ys := ls) (sz1 l4) (evi_tup (ev_li T (ev_var rfl (pat_mono _ _ _ e3 hb)))) (fun S4 v e => (ev_li T (ev_var rfl (pat_mono _ _ _ (e3.trans e) ha))).imp fun _ _ _ h => .inr h) fun v => rfl) w3 st3.st fun S4 T4 H4 v4 st4 w4 p4 => ?_
  have e4 := e3.trans st4.ss
  have ha4 := pat_mono _ _ _ e4 ha
  exact q_ret (M := W0) (S := S4) (T := T4) (ev_pat (orP ps qs, orL ls ks) (eva_2 is_mono is_mono (ev_two (ev_pl T (ev_var rfl ha4)) (ev_var rfl (p3.mono st4.ss)) (sz2 l1 (Nat.le_trans (List.length_filter_le _ _) l3))) (ev_two (ev_li T (ev_var rfl ha4)) (ev_var rfl p4) (sz2 l2 (Nat.le_trans (List.length_filter_le _ _) l4))))) w4 st4.st fun S' T' H' v st w p => q S' H' v (((((st1.trans st2).trans st3).trans st4).trans st).out w) p
theorem mem_b {α : Type} [DecidableEq α] [Datum α] {tm : TE} {ys : List α} {a : α} (ha : Ev M ta σ S (Is K a)) (hb : Ev M tm σ S (Is K ys)) (hd : Datum.depth α ≤ 60 := by decide) : EvT M (tTest (tOp (rInP K false) ta tm)) σ S (decide (a ∈ ys)) := ev_test (ev_in ha hb hd)
theorem mem_n {α : Type} [DecidableEq α] [Datum α] {tm : TE} {ys : List α} {a : α} (ha : Ev M ta σ S (Is K a)) (hb : Ev M tm σ S (Is K ys)) (hd : Datum.depth α ≤ 60 := by decide) : EvT M (tTest (tOp (rInP K true) ta tm)) σ S (!decide (a ∈ ys)) := ev_test (ev_ni ha hb hd)
theorem mem_nT {α : Type} [DecidableEq α] [Datum α] {tm : TE} {ys : List α} {a : α} (ha : Ev M ta σ S (Is K a)) (hb : Ev M tm σ S (Is K (Tup.mk ys))) (hd : Datum.depth α ≤ 60 := by decide) : EvT M (tTest (tOp (rInP K true) ta tm)) σ S (!decide (a ∈ ys)) := ev_test (ev_niT ha hb hd)
theorem pure_Pattern_and (T : Txt K mg) (H : Hp) (vs : List V) (Q : VK) (E : XK) (h : sp_Pattern_and K vs H Q E) : t_Pattern_and K { nx := fun _ H' => Q .non H', rt := Q } (start N_Pattern_and vs) H := by
  obtain ⟨⟨⟨ps, ls⟩, ⟨qs, ks⟩⟩, S, s, ⟨a, b, rfl, ha, hb, ⟨l1, l2⟩⟩, q⟩ := h
  refine q_set (M := W0) (S := S) (T := H) (P := Is K (andP ps qs)) (ev_in' (xs := ps) (ys := qs) (sz1 l1) (evi_tup (ev_pl T (ev_var rfl ha))) (fun S3 v e => (ev_pl T (ev_var rfl (pat_mono _ _ _ e hb))).imp fun _ _ _ h => .inr h) fun v => rfl) (Same.refl _) s fun S1 T1 H1 v1 st1 w1 p1 => ?_
  have la : (andP ps qs).length ≤ 1000 := Nat.le_trans (List.length_filter_le _ _) l1
  refine q_set (M := W0) (S := S1) (T := T1) (P := Is K ((andP ps qs).map (·.a))) ((ev_comp3 (p := fun _ => true) (f := fun x => x.a) (by decide) (by decide) (by decide) (evi_list (ev_var rfl p1)) (sz1 la) fun S1 a b c x _ _ ha hb hc => ⟨evT_yes, fun _ => ev_var rfl ha⟩).eq (by rw [filter_yes])) w1 st1.st fun S2 T2 H2 v2 st2 w2 p2 => ?_
  have e2 := st1.ss.trans st2.ss
  refine q_set (M := W0) (S := S2) (T := T2) (P := Is K (ls.filter fun l => decide (l ∈ ks))) (ev_in' (xs := ls) (ys := ks) (sz1 l2) (evi_tup (ev_li T (ev_var rfl (pat_mono _ _ _ e2 ha)))) (fun S3 v e => (ev_li T (ev_var rfl (pat_mono _ _ _ (e2.trans e) hb))).imp fun _ _ _ h => .inr h) fun v => rfl) w2 st2.st fun S3 T3 H3 v3 st3 w3 p3 => ?_
  have lb : (ls.filter fun l => decide (l ∈ ks)).length ≤ 1000 := Nat.le_trans (List.length_filter_le _ _) l2
  exact q_ret (M := W0) (S := S3) (T := T3) (ev_pat (andP ps qs, andL ps qs ls ks) (eva_2 is_mono is_mono (ev_var rfl (p1.mono (st2.ss.trans st3.ss))) ((ev_comp (f := fun x => x) (p := fun l : Link => decide (l.b ∈ (andP ps qs).map (·.a)) && decide (l.c ∈ (andP ps qs).map (·.a))) (evi_list (ev_var rfl p3)) (sz1 lb) fun S4 v x _ e hv => ⟨ev_and (mem_b (ev_b (ev_var rfl hv)) (ev_var rfl (p2.mono (st3.ss.trans e)))) fun _ => mem_b (ev_cc (ev_var rfl hv)) (ev_var rfl (p2.mono (st3.ss.trans e))), fun _ => ev_var rfl hv⟩).eq (map_id' _)))) w3 st3.st fun S' T' H' v st w p => q S' H' v ((((st1.trans st2).trans st3).trans st).out w) p
theorem pure_Pattern_sub (T : Txt K mg) (H : Hp) (vs : List V) (Q : VK) (E : XK) (h : sp_Pattern_sub K vs H Q E) : t_Pattern_sub K { nx := fun _ H' => Q .non H', rt := Q } (start N_Pattern_sub vs) H := by
  obtain ⟨⟨⟨ps, ls⟩, ⟨qs, ks⟩⟩, S, s, ⟨a, b, rfl, ha, hb, ⟨l1, l2⟩⟩, q⟩ := h
  refine q_set (M := W0) (S := S) (T := H) (P := Is K (subL ls ks)) (ev_ni' (xs := ls) (ys := ks) (sz1 l2) (evi_tup (ev_li T (ev_var rfl ha))) (fun S3 v e => (ev_li T (ev_var rfl (pat_mono _ _ _ e hb))).imp fun _ _ _ h => .inr h) fun v => rfl) (Same.refl _) s fun S1 T1 H1 v1 st1 w1 p1 => ?_
  have la : (subL ls ks).length ≤ 1000 := Nat.le_trans (List.length_filter_le _ _) l2
  refine q_set (M := W0) (S := S1) (T := T1) (P := Is K (endsOf (subL ls ks))) (cl_kept_ends la (ev_var rfl p1)) w1 st1.st fun S2 T2 H2 v2 st2 w2 p2 => ?_
  have e2 := st1.ss.trans st2.ss
  refine q_set (M := W0) (S := S2) (T := T2) (P := Is K (subP ps qs ls ks)) ((ev_comp (f := fun x => x) (p := fun p : Place => !decide (p ∈ qs) || decide (p.a ∈ endsOf (subL ls ks))) (evi_tup (ev_pl T (ev_var rfl (pat_mono _ _ _ e2 ha)))) (sz1 l1) fun S4 v x _ e hv => ⟨ev_or (mem_nT (ev_var rfl hv) (ev_pl T (ev_var rfl (pat_mono _ _ _ (e2.trans e) hb)))) fun _ => mem_b (ev_a (ev_var rfl hv)) (ev_var rfl (p2.mono e)), fun _ => ev_var rfl hv⟩).eq (map_id' _)) w2 st2.st fun S3 T3 H3 v3 st3 w3 p3 => ?_
  exact q_ret (M := W0) (S := S3) (T := T3) (ev_pat (subP ps qs ls ks, subL ls ks) (eva_2 is_mono is_mono (ev_var rfl p3) (ev_var rfl (p1.mono (st2.ss.trans st3.ss))))) w3 st3.st fun S' T' H' v st w p => q S' H' v ((((st1.trans st2).trans st3).trans st).out w) p
end
end Lw

namespace Lw
open PySem PySem.Spec PyProof.Rows L2 Fm
open PySem.W (Datum Tup T3 T4)
section
variable {K : PySem.W.Frag} {mg : Str → Option Value} {M : Wld} {σ : L2.St} {S : Hp} {ta tb : TE} {ps qs : List Place} {ls ks : List Link}
/-! ### >> -/
theorem last_some {α : Type} {xs : List α} (h : xs ≠ []) : ∃ a, xs.getLast? = some a := ⟨_, List.getLast?_eq_getLast h⟩
theorem head_some {α : Type} {xs : List α} (h : xs ≠ []) : ∃ a, xs.head? = some a ∧ xs[0]? = some a := by
  cases xs with
  | nil => exact absurd rfl h
  | cons a r => exact ⟨a, rfl, rfl⟩
theorem orP_len (l1 : ps.length ≤ 1000) (l3 : qs.length ≤ 1000) : (orP ps qs).length ≤ 2000 := by
  unfold orP
  rw [List.length_append]
  have := List.length_filter_le (fun q => !decide (q ∈ ps)) qs
  omega
theorem orL_len (l1 : ls.length ≤ 1000) (l3 : ks.length ≤ 1000) : (orL ls ks).length ≤ 2000 := by
  unfold orL
  rw [List.length_append]
  have := List.length_filter_le (fun q => !decide (q ∈ ls)) ks
  omega
theorem sz20 {n : Nat} (h : n ≤ 2000) : n ≤ sizeLine := Nat.le_trans h (by decide)
theorem pure_Pattern_rshift (T : Txt K mg) (H : Hp) (vs : List V) (Q : VK) (E : XK) (h : sp_Pattern_rshift K vs H Q E) : t_Pattern_rshift K { nx := fun _ H' => Q .non H', rt := Q } (start N_Pattern_rshift vs) H := by
  obtain ⟨⟨⟨ps, ls⟩, l, ⟨qs, ks⟩⟩, S, s, ⟨a, b, c, rfl, ha, hb, hc, ⟨l1, l2, l3, l4⟩, hw, hp, hq, hcl⟩, q⟩ := h
  refine ⟨.ref b, rfl, b, _, rfl, .inl (.inl (s _ _ hb)), rfl, _, _, rfl, _, _, rfl, rfl, ?_⟩
  have hwl := (word_len hw).1
  dsimp only at hw hp hq hcl l1 l2 l3 l4 hwl
  obtain ⟨pz, hpz⟩ := last_some hp
  obtain ⟨qz, hqz⟩ := last_some hq
  obtain ⟨q0, hq0, hq0'⟩ := head_some hq
  refine q_if (M := W0) (S := S) (T := H) (ev_or (ev_not (ev_tB (ev_word (K := K) (z := l) rfl (by omega)))) fun _ => ev_or (ev_test (K := K) (ev_eq (ev_pl T (ev_var rfl ha)) ev_u0)) fun _ => ev_test (K := K) (ev_eq (ev_pl T (ev_var rfl hc)) ev_u0)) (Same.refl _) s (fun S1 T1 H1 st w hb => ?_) (fun S1 T1 H1 st1 w1 _ => ?_)
  · rw [hw] at hb
    have e1 : ¬ ((Tup.mk ps : Tup Place) = Tup.mk []) := fun e => hp (by cases e; rfl)
    have e2 : ¬ ((Tup.mk qs : Tup Place) = Tup.mk []) := fun e => hq (by cases e; rfl)
    simp [e1, e2] at hb
  refine q_set (M := W0) (S := S1) (T := T1) (o_or l1 l2 l3 l4 hcl (ev_var rfl (pat_mono _ _ _ st1.ss ha)) (ev_var rfl (pat_mono _ _ _ st1.ss hc))) w1 st1.st fun S2 T2 H2 v2 st2 w2 p2 => ?_
  have e2 := st1.ss.trans st2.ss
  refine q_set (M := W0) (S := S2) (T := T2) (P := Is K (⟨l, pz.a, q0.a⟩ : Link)) (ev_t3 (ev_var rfl is_str) (ev_a (ev_lastT (ev_pl T (ev_var rfl (pat_mono _ _ _ e2 ha))) hpz)) (ev_a (ev_ixT (i := 0) (ev_pl T (ev_var rfl (pat_mono _ _ _ e2 hc))) ev_ic rfl hq0'))) w2 st2.st fun S3 T3 H3 v3 st3 w3 p3 => ?_
  have e3 := e2.trans st3.ss
  refine q_set (M := W0) (S := S3) (T := T3) (P := Is K qz) (ev_lastT (ev_pl T (ev_var rfl (pat_mono _ _ _ e3 hc))) hqz) w3 st3.st fun S4 T4 H4 v4 st4 w4 p4 => ?_
  have p2' := pat_mono _ _ _ (st3.ss.trans st4.ss) p2
  refine q_set (M := W0) (S := S4) (T := T4) (P := Is K ((orP ps qs).filter fun p => !decide (p = qz))) ((ev_comp (f := fun x => x) (p := fun p : Place => !decide (p = qz)) (evi_tup (ev_pl T (ev_var rfl p2'))) (sz20 (orP_len l1 l3)) fun S5 v x _ e hv => ⟨ev_test (K := K) (ev_ne (ev_var rfl hv) (ev_var rfl (p4.mono e))), fun _ => ev_var rfl hv⟩).eq (map_id' _)) w4 st4.st fun S5 T5 H5 v5 st5 w5 p5 => ?_
  refine q_set (M := W0) (S := S5) (T := T5) (P := Is K (orL ls ks)) ((ev_comp (f := fun x => x) (p := fun _ => true) (evi_tup (ev_li T (ev_var rfl (pat_mono _ _ _ st5.ss p2')))) (sz20 (orL_len l2 l4)) fun S5 v x _ e hv => ⟨evT_yes, fun _ => ev_var rfl hv⟩).eq (by rw [map_id', filter_yes])) w5 st5.st fun S6 T6 H6 v6 st6 w6 p6 => ?_
  have e6 := (st4.ss.trans st5.ss).trans st6.ss
  have st06 := ((((st1.trans st2).trans st3).trans st4).trans st5).trans st6
  have p3' := p3.mono e6
  have fin : ∀ S7 T7 H7 v8, Same S6 S7 → Step S H S7 T7 → Same T7 H7 → Is K (rsL ps qs ls ks l) S7 v8 → tRet (StX.tMakeR (He.ga K "Pattern") (sp_Pattern_init K) E0 (tCons (tLst (StX.tStar K (tVar 7) (tCons (tVar 6) tNil))) (tCons (tVar 8) tNil))) { nx := fun _ H' => Q .non H', rt := Q } [some a, some (.ref b), some (.str l), some c, some v2, some v3, some v4, some v5, some v8, none, none] H7 := fun S7 T7 H7 v8 e7 st7 w7 p8 => by
    refine q_ret (M := W0) (S := S7) (T := T7) (ev_pat (rsP ps qs, rsL ps qs ls ks l) (eva_2 is_mono is_mono ((ev_dispL (eva_star (ev_var rfl (p5.mono (st6.ss.trans e7))) (eva_consL (ev_var rfl (p4.mono ((st5.ss.trans st6.ss).trans e7))) eva_nilL)) ?_).eq ?_) (ev_var rfl p8))) w7 st7.st fun S' T' H' v st w p => q S' H' v ((st7.trans st).out w) p
    · rw [List.length_append]
      have := List.length_filter_le (fun p => !decide (p = qz)) (orP ps qs)
      have := orP_len l1 l3
      exact Nat.le_trans (by show _ + 1 ≤ 2001; omega : _ ≤ 2001) (by decide)
    · unfold rsP
      rw [hqz]
  refine q_if (M := W0) (S := S6) (T := T6) (ev_test (K := K) (ev_ni (ev_var rfl p3') (ev_var rfl p6))) w6 st6.st (fun S7 T7 H7 st7 w7 hb => ?_) (fun S7 T7 H7 st7 w7 hb => ?_)
  · refine q_set (M := W0) (S := S7) (T := T7) (ev_addL (ev_var rfl (p6.mono st7.ss)) (ev_l1 (ev_var rfl (p3'.mono st7.ss))) ?_) w7 st7.st fun S8 T8 H8 v8 st8 w8 p8 => ?_
    · have := orL_len l2 l4
      exact Nat.le_trans (by show _ + 1 ≤ 2001; omega : _ ≤ 2001) (by decide)
    · refine fin S8 T8 H8 v8 (st7.ss.trans st8.ss) ((st06.trans st7).trans st8) w8 ?_
      unfold rsL
      rw [hpz, hq0]
      dsimp only
      rw [if_neg (by simpa using hb)]
      exact p8
  · refine fin S7 T7 H7 v6 st7.ss (st06.trans st7) w7 ?_
    unfold rsL
    rw [hpz, hq0]
    dsimp only
    rw [if_pos (by simpa using hb)]
    exact p6.mono st7.ss
/-! ### == -/
theorem pure_Pattern_eq (T : Txt K mg) (H : Hp) (vs : List V) (Q : VK) (E : XK) (h : sp_Pattern_eq K vs H Q E) : t_Pattern_eq K { nx := fun _ H' => Q .non H', rt := Q } (start N_Pattern_eq vs) H := by
  obtain ⟨⟨⟨ps, ls⟩, o⟩, S, s, ⟨a, b, rfl, ha, ⟨l1, l2⟩, hb⟩, q⟩ := h
  cases o with
  | some qq =>
    obtain ⟨qs, ks⟩ := qq
    obtain ⟨hb, l3, l4⟩ : Pat K qs ks S b ∧ qs.length ≤ 1000 ∧ ks.length ≤ 1000 := hb
    refine q_ret (M := W0) (S := S) (T := H) (P := Is K (inPat ps ls qs ks && inPat qs ks ps ls)) ?_ (Same.refl _) s fun S' T' H' v st w p => q S' H' v (st.out w) p
    exact (ev_andV (ev_isi (K := K) (b := true) (P1 := Pat K qs ks) pat_mono (ev_var rfl hb) (.own _) (fun S' H v e ⟨a, dx, fs, h1, h2, _⟩ => by rw [h1]; exact ty_ins T.c_Pattern T.x_Pattern (e _ _ h2)) T.iP) fun _ => ev_andV (o_inP l3 l1 l2 (ev_var rfl ha) (ev_var rfl hb)) fun _ => o_inP l1 l3 l4 (ev_var rfl hb) (ev_var rfl ha)).eq (by simp)
  | none =>
    obtain ⟨t, ht, hk⟩ : Oth K S b := hb
    refine q_ret (M := W0) (S := S) (T := H) (P := Is K false) ?_ (Same.refl _) s fun S' T' H' v st w p => q S' H' v (st.out w) p
    exact (ev_andV (b := false) (ev_isi (K := K) (b := false) (P1 := fun S' v => v = b ∧ Same S S') (fun _ _ _ e h => ⟨h.1, h.2.trans e⟩) (ev_var rfl ⟨rfl, Same.refl _⟩) (.own _) (fun S' H v e h => by rw [h.1]; exact ht H (h.2.trans e)) hk) fun h => nomatch h).eq rfl
/-! ### what the law tells -/
theorem pure_law_told (T : Txt K mg) (H : Hp) (vs : List V) (Q : VK) (E : XK) (h : sp_law_told K vs H Q E) : t_law_told K { nx := fun _ H' => Q .non H', rt := Q } (start N_law_told vs) H := by
  obtain ⟨⟨⟨ps, ls⟩, ⟨qs, ks⟩⟩, S, s, ⟨x, a, b, rfl, hx, ha, hb, l1, he⟩, q⟩ := h
  cases he
  refine q_if (M := W0) (S := S) (T := H) (ev_or (ev_not (ev_tB (ev_isiT (ev_pl T (ev_var rfl hx))))) fun _ => ev_not (ev_tB (ev_isiT (ev_li T (ev_var rfl hx))))) (Same.refl _) s (fun _ _ _ _ _ h => by simp at h) (fun S1 T1 H1 st1 w1 _ => ?_)
  have hx1 := pat_mono _ _ _ st1.ss hx
  refine q_ret (M := W0) (S := S1) (T := T1) (P := Is K true) ((ev_andV (ev_eq (ev_pl T (ev_var rfl hx1)) (ev_tup (ev_var rfl (ha.mono st1.ss)))) fun _ => ev_andV (ev_eq (ev_li T (ev_var rfl hx1)) (ev_tup (ev_var rfl (hb.mono st1.ss)))) fun _ => ev_eq (o_len l1 (ev_var rfl hx1)) (ev_len (ev_var rfl (ha.mono st1.ss)))).eq (by simp)) w1 st1.st fun S' T' H' v st w p => q S' H' v ((st1.trans st).out w) p
end
end Lw

namespace Lw
open PySem PySem.Spec PyProof.Rows L2 Fm
open PySem.W (Datum Tup T3 T4)
open TL (tl tl_append tl_join joinL join_eq)
section
variable {K : PySem.W.Frag} {mg : Str → Option Value} {M : Wld} {σ : L2.St} {S : Hp} {ta tb : TE} {p : Addr}
/-! ### the pool -/
theorem pure_law_pool (H : Hp) (vs : List V) (Q : VK) (E : XK) (h : sp_law_pool K vs H Q E) : t_law_pool K { nx := fun _ H' => Q .non H', rt := Q } (start N_law_pool vs) H := by
  obtain ⟨a, ns, rfl, hr, hl, q⟩ := h
  have hcut : ∀ {σ : L2.St} {S : Hp}, Same H S → σ[0]? = some (some (.ref a)) → EvI W0 (iSeq K (tSl (rSlA K) (tVar 0) tNoPart (tPart (tC (.int 63))))) σ S (cutL ns none (some 63)).length (Itm K (cutL ns none (some 63))) := fun e h0 => evi_list (ev_cutQ h0 (Same.sql e hr) isAll_ints evo_none (evo_some (K := K) ev_ic))
  have hcl : (cutL ns none (some 63)).length ≤ 1000 := by
    rw [show (63 : Int) = ((63 : Nat) : Int) from rfl, cutL_to]
    have := List.length_take_le 63 ns
    omega
  have hg : Ev W0 (tLc (iSeq K (tSl (rSlA K) (tVar 0) tNoPart (tPart (tC (.int 63))))) (gName 3) (tTest (tOp rGeA (tVar 3) (tOp rPowA (tC (.int 10)) (tC (.int 18))))) (tCB rInt1 (tCons (tVar 3) tNil)) [3]) (start N_law_pool [.ref a]) H (fun S' v => ∃ (g : Addr) (gs : List Int), v = .ref g ∧ H g = none ∧ S' g = some (.lst (gs.map V.int))) := by
    generalize hxs : cutL ns none (some 63) = xs at *
    refine (ev_lcN (p := fun i => decide (10 ^ 18 ≤ xs.getD i 0)) (E := fun i => Is K (xs.getD i 0)) (hcut (Same.refl _) rfl) itm_mono (fun i => is_mono) (sz1 hcl) fun i S1 v hi e ⟨x, h1, h2⟩ => ?_).imp fun S' v e ⟨g, ws, h1, h2, h3, h4⟩ => ?_
    · have ex : xs.getD i 0 = x := by rw [List.getD_eq_getElem?_getD, h1]; rfl
      rw [ex]
      exact ⟨_, fun H s Q q => q, wipe1, ev_test (K := K) (ev_ge (ev_var rfl h2) (ev_pow (a := 10) (b := 18) ev_ic ev_ic ⟨by decide, by decide, by decide⟩)), fun _ => ev_int (ev_var rfl h2)⟩
    · have := paired_is (K := K) (xs := ([] : List Int)) h4
      have e2 := this.ints
      exact ⟨g, _, h1, h2, by rw [h3, e2]⟩
  refine q_set (M := W0) (S := H) (T := H) hg (Same.refl _) (Same.refl _) fun S1 T1 H1 v1 st1 w1 p1 => ?_
  obtain ⟨g, gs, rfl, ng, hg1⟩ := p1
  dsimp only
  refine q_set (M := W0) (S := S1) (T := T1) (P := Is K (7 : Int)) ev_ic w1 st1.st fun S2 T2 H2 v2 st2 w2 p2 => ?_
  rw [p2.int]
  have e2 := st1.ss.trans st2.ss
  refine for_ev (M := W0) (S := S2) (T := T2) (hcut e2 rfl) itm_mono w2 st2.st (fun i σ S T => ∃ sd x, σ = [some (.ref a), some (.ref g), some (.int sd), x] ∧ 0 ≤ sd ∧ sd < 2147483648) (fun _ _ _ => ⟨7, none, rfl, by decide, by decide⟩) (fun i v σ2 S3 T3 H3 hi st3 w3 hJ ⟨x, hx, hv⟩ => ?_) (fun σ2 S3 T3 H3 st3 w3 hJ => ?_)
  · obtain ⟨sd, x0, rfl, h0, h1⟩ := hJ
    refine q_set (M := W0) (S := S3) (T := T3) (ev_mod (K := K) (ev_int (ev_add (ev_add (ev_mul (ev_iv (z := sd) rfl) ev_ic (.inr ⟨by decide, by decide⟩)) (ev_mod (ev_int (ev_var rfl hv)) ev_ic (by decide))) ev_ic)) ev_ic (by decide)) w3 st3.st fun S4 T4 H4 v4 st4 w4 p4 => ?_
    refine ⟨S4, T4, st3.trans st4, w4, st4.ss, _, some v, by rw [p4.int]; rfl, (mod_small (by decide)).1, ?_⟩
    have := (mod_small (a := sd * 31 + x % 1000003 + 1) (m := 2147483629) (by decide)).2
    omega
  · obtain ⟨sd, x0, rfl, h0, h1⟩ := hJ
    refine ⟨.ref g, rfl, .int sd, rfl, small_size (by simp), fun p np => ?_⟩
    have sH : Same H H3 := (st1.tt.trans (st2.tt.trans st3.tt)).trans w3
    have hg3 : H3 g = some (.lst (gs.map V.int)) := w3 _ _ (st3.st _ _ (st3.ss _ _ (st2.ss _ _ hg1)))
    have hpg : g ≠ p := ne_of_none hg3 np
    exact q p _ ⟨sH.trans (same_new np), g, sH.free np, ng, gs, 0, sd, 0, upd_same, by rw [upd_ne hpg]; exact hg3, h0, h1⟩
/-! ### draws -/
theorem cl_draw {X : XK} {i : Nat} {n : Int} (hn : 0 < n) (hb : n.natAbs.log2 < 9000) (hi : σ[i]? = some (some (.ref p))) (ha : Ev (PW p) ta σ S (Is K n)) : Ev (PW p) (tCl (sp_law_draw K) X (tCons (tVar i) (tCons ta tNil))) σ S (Dr n) :=
  ev_clW1 n is_mono hi ha fun S a h => ⟨by rw [h.int], hn, hb⟩
theorem cl_drawC {X : XK} {i : Nat} {n : Int} (hi : σ[i]? = some (some (.ref p))) (hn : 0 < n := by decide) (hb : n.natAbs.log2 < 9000 := by decide) : Ev (PW p) (tCl (sp_law_draw K) X (tCons (tVar i) (tCons (tC (.int n)) tNil))) σ S (Dr n) := cl_draw (K := K) hn hb hi ev_ic
/-! ### words -/
theorem isW_of {z : Str} (h1 : 1 ≤ (tl z).length) (h2 : (tl z).length ≤ 8) (h : ∀ c ∈ tl z, c ∈ abc.cps.toList) : isW z = true := by
  have e : (z.length : Int) = (tl z).length := by
    show ((z.cps.size : Nat) : Int) = ((z.cps.toList.length : Nat) : Int)
    simp
  unfold isW
  rw [e]
  simp only [Bool.and_eq_true, decide_eq_true_eq, List.all_eq_true, List.mem_map]
  refine ⟨⟨by omega, by omega⟩, ?_⟩
  rintro b ⟨c, hc, rfl⟩
  exact decide_eq_true (h c hc)
theorem tl_len (z : Str) : (tl z).length = z.length := by
  show z.cps.toList.length = z.cps.size
  simp
theorem word_all {z : Str} (h : isW z = true) : ∀ c ∈ tl z, c ∈ abc.cps.toList := by
  unfold isW at h
  simp only [Bool.and_eq_true, List.all_eq_true, List.mem_map] at h
  intro c hc
  have := h.2 _ ⟨c, hc, rfl⟩
  simpa using this
def Sign (y : Str) : Prop := ∃ c, y = ⟨#[c]⟩ ∧ c ∈ abc.cps.toList
theorem join_ok : ∀ {ys : List Str}, (∀ y ∈ ys, Sign y) → (joinL [] (ys.map tl)).length = ys.length ∧ ∀ c ∈ joinL [] (ys.map tl), c ∈ abc.cps.toList
  | [], _ => ⟨rfl, fun c h => nomatch h⟩
  | [y], h => by
    obtain ⟨c, rfl, hc⟩ := h y (List.mem_singleton.mpr rfl)
    refine ⟨rfl, fun d hd => ?_⟩
    have : d ∈ [c] := hd
    rw [List.mem_singleton.mp this]
    exact hc
  | y :: z :: r, h => by
    obtain ⟨c, rfl, hc⟩ := h y (List.mem_cons_self ..)
    obtain ⟨q1, q2⟩ := join_ok (ys := z :: r) fun w hw => h w (List.mem_cons_of_mem _ hw)
    have e : joinL [] ((⟨#[c]⟩ :: z :: r : List Str).map tl) = c :: joinL [] ((z :: r).map tl) := rfl
    rw [e]
    refine ⟨by rw [List.length_cons, q1]; rfl, fun d hd => ?_⟩
    rcases List.mem_cons.mp hd with e | hd
    · rw [e]; exact hc
    · exact q2 d hd
theorem sum_ok : ∀ {ys : List Str}, (∀ y ∈ ys, Sign y) → (ys.map (·.length)).sum = ys.length
  | [], _ => rfl
  | y :: r, h => by
    obtain ⟨c, rfl, hc⟩ := h y (List.mem_cons_self ..)
    rw [List.map_cons, List.sum_cons, sum_ok fun w hw => h w (List.mem_cons_of_mem _ hw), List.length_cons]
    show 1 + r.length = r.length + 1
    omega
theorem join_word {ys : List Str} (h : ∀ y ∈ ys, Sign y) (h1 : 1 ≤ ys.length) (h2 : ys.length ≤ 8) : isW (Txt.join "" ys) = true := by
  have e : tl (Txt.join "" ys) = joinL [] (ys.map tl) := by rw [join_eq, tl_join]; rfl
  obtain ⟨q1, q2⟩ := join_ok h
  exact isW_of (by rw [e, q1]; exact h1) (by rw [e, q1]; exact h2) (by rw [e]; exact q2)
theorem cut7 (z : Str) : tl (cutS z none (some 7)) = (tl z).take 7 := by
  show ((z.cps.toList.drop 0).take (HT.sIx z.length z.length (some ((7 : Nat) : Int)) - 0)).toArray.toList = _
  rw [HT.sIx_nat]
  show List.take (min 7 z.length) (tl z) = _
  rw [← tl_len]
  by_cases h : 7 ≤ (tl z).length
  · rw [Nat.min_eq_left h]
  · rw [Nat.min_eq_right (by omega), List.take_length, List.take_of_length_le (by omega)]
def cand (z : Str) (c : Nat) : Str := cutS z none (some 7) ++ ⟨#[c]⟩
theorem tl_cand (z : Str) (c : Nat) : tl (cand z c) = (tl z).take 7 ++ [c] := by
  unfold cand
  rw [tl_append, cut7]
theorem cand_inj {z : Str} {c d : Nat} (h : cand z c = cand z d) : c = d := by
  have := congrArg tl h
  rw [tl_cand, tl_cand] at this
  simpa using this
theorem cand_word {z : Str} {c : Nat} (hz : isW z = true) (hc : c ∈ abc.cps.toList) : isW (cand z c) = true := by
  refine isW_of (by rw [tl_cand, List.length_append]; show 1 ≤ _ + 1; omega) (by rw [tl_cand, List.length_append]; have := List.length_take_le 7 (tl z); show _ + 1 ≤ 8; omega) fun d hd => ?_
  rw [tl_cand] at hd
  rcases List.mem_append.mp hd with h | h
  · exact word_all hz d (List.mem_of_mem_take h)
  · rw [List.mem_singleton.mp h]; exact hc
theorem cand_some {z : Str} {us : List Str} (h : us.length < 26) : ∃ c r, abc.cps.toList.filter (fun c => !decide (cand z c ∈ us)) = c :: r := by
  cases e : abc.cps.toList.filter (fun c => !decide (cand z c ∈ us)) with
  | cons c r => exact ⟨c, r, rfl⟩
  | nil =>
    rw [List.filter_eq_nil_iff] at e
    have hn : (abc.cps.toList.map (cand z)).Nodup := by
      unfold List.Nodup
      rw [List.pairwise_map]
      have : abc.cps.toList.Nodup := by decide +kernel
      exact this.imp fun hab e => hab (cand_inj e)
    have := nodup_le hn (ys := us) fun x hx => by
      obtain ⟨c, hc, rfl⟩ := List.mem_map.mp hx
      simpa using e c hc
    rw [List.length_map, show abc.cps.toList.length = 26 by decide +kernel] at this
    omega
theorem abc_at {r : Int} (h0 : 0 ≤ r) (h1 : r < 26) : ∃ c, abc.cps.toList[r.toNat]? = some c ∧ c ∈ abc.cps.toList := by
  have h : r.toNat < abc.cps.toList.length := by rw [show abc.cps.toList.length = 26 by decide +kernel]; omega
  exact ⟨_, List.getElem?_eq_getElem h, List.getElem_mem h⟩
theorem pure_law_word (H : Hp) (vs : List V) (Q : VK) (E : XK) (h : sp_law_word K vs H Q E) : t_law_word K { nx := fun _ H' => Q .non H', rt := Q } (start N_law_word vs) H := by
  obtain ⟨us, p, rest, S, T, rfl, w, s, ⟨a, rfl, ha, hl⟩, q⟩ := h
  refine q_set (M := PW p) (S := S) (T := T) (P := Is K abc) (ev_c is_str) w s fun S1 T1 H1 v1 st1 w1 p1 => ?_
  have e1 := p1.str
  subst e1
  dsimp only
  refine q_set (M := PW p) (S := S1) (T := T1) (P := fun _ v => ∃ r, v = .int (1 + r) ∧ 0 ≤ r ∧ r < 8) (ev_op (P1 := Is K (1 : Int)) (P2 := Dr 8) is_mono ev_ic (fun S2 _ => cl_drawC (K := K) rfl) fun S2 x y _ hx ⟨r, e, h0, h1⟩ => (rv_of ((ev_add (K := K) (i := 1) (j := r) (ev_c hx) (ev_c (by rw [e]; exact is_int))).imp fun _ v _ hv => ⟨r, hv.int, h0, h1⟩))) w1 st1.st fun S2 T2 H2 v2 st2 w2 p2 => ?_
  obtain ⟨r, rfl, h0, h1⟩ := p2
  dsimp only
  have hjoin : Ev (PW p) (tM1 (rJoinA K) (tC (.str "")) (tLc (iRng1 (tCons (tVar 3) tNil)) (gName 5) tYes (tOp (rIx K) (tVar 2) (tCl (sp_law_draw K) E0 (tCons (tVar 0) (tCons (tC (.int 26)) tNil)))) [5])) [some (.ref p), some a, some (.str abc), some (.int (1 + r)), none, none, none] S2 (fun S v => ∃ z, v = .str z ∧ isW z = true) := fun T H w s Q q => ⟨⟨_, rfl⟩, (ev_lc (E := fun _ _ v => ∃ c, v = .str ⟨#[c]⟩ ∧ c ∈ abc.cps.toList) (p := fun _ => true) (evi_range (K := K) (ev_iv (z := 1 + r) rfl) (by omega) (by omega)) (fun _ _ _ _ _ h => h) (fun _ _ _ _ _ h => h) (sz1 (by omega)) fun i S1 v hi e _ => ⟨_, fun H s Q q => q, wipe1, evT_yes, fun _ => ev_op (P1 := Is K abc) (P2 := Dr 26) is_mono (ev_var rfl is_str) (fun S2 _ => cl_drawC (K := K) rfl) fun S2 x y _ hx ⟨r, e, h0, h1⟩ => by
      obtain ⟨c, hc, hm⟩ := abc_at h0 h1
      exact rv_of ((ev_ixS (K := K) (i := r.toNat) (j := r) (ev_c hx) (ev_c (by rw [e]; exact is_int)) (by omega) (by decide) hc).imp fun _ v _ hv => ⟨c, hv.str, hm⟩)⟩) T H w s _ fun S1 T1 H1 v st w1 p1 => by
      obtain ⟨ys, q1, q2⟩ := lstOf_ex (K := K) (R := fun (_ : Nat) (y : Str) => Sign y) p1 fun i _ w ⟨c, e, hc⟩ => ⟨⟨#[c]⟩, ⟨c, rfl, hc⟩, by rw [e]; exact is_str⟩
      have hs : ∀ y ∈ ys, Sign y := Paired.all q2 fun _ _ h => h
      have hlen : ys.length = (1 + r).toNat := by rw [Paired.len q2, filter_yes, List.length_range]
      exact (((ev_join (M := PW p) (K := K) (σ := []) (ev_c is_str) (ev_c q1) (by rw [sum_ok hs]; show _ + _ * 0 ≤ _; omega)) T1 H1 w1 st.st Q fun S2 T2 H2 v2 st2 w2 p2 => q S2 T2 H2 v2 (st.trans st2) w2 ⟨_, p2.str, join_word hs (by omega) (by omega)⟩)).2⟩
  refine q_set (M := PW p) (S := S2) (T := T2) hjoin w2 st2.st fun S3 T3 H3 v3 st3 w3 p3 => ?_
  obtain ⟨z, rfl, hz⟩ := p3
  have hzl := (word_len hz).1
  have ha3 := ha.mono ((st1.ss.trans st2.ss).trans st3.ss)
  have fin : ∀ S4 T4 H4 z, Step S T S4 T4 → (PW p).W T4 H4 → isW z = true → z ∉ us → Q (.str z) H4 := fun S4 T4 H4 z st w hz hn => q S4 T4 H4 _ st w ⟨z, rfl, hz, hn⟩
  have st03 := (st1.trans st2).trans st3
  dsimp only
  refine q_if (M := PW p) (S := S3) (T := T3) (mem_b (K := K) (ev_var rfl (is_str (x := z))) (ev_var rfl ha3)) w3 st3.st (fun S4 T4 H4 st4 w4 hb => ?_) (fun S4 T4 H4 st4 w4 hb => ?_)
  · obtain ⟨c, cr, hcr⟩ := cand_some (z := z) hl
    have hcs : (cutS z none (some 7)).length ≤ 8 := Nat.le_trans (cutS_length z none (some 7)) hzl
    refine q_set (M := PW p) (S := S4) (T := T4) (P := Is K (cand z c)) (ev_ix (i := 0) (xs := (c :: cr).map (cand z)) ((ev_compS (K := K) (z := abc) (p := fun c => !decide (cand z c ∈ us)) (f := cand z) (ev_var rfl is_str) (by decide) fun S5 d hd e => ?_).eq (by rw [hcr])) ev_ic rfl rfl) w4 st4.st fun S5 T5 H5 v5 st5 w5 p5 => ?_
    · have hadd : Ev (PW p) (tOp rAddA (tSl (rSlA K) (tVar 4) tNoPart (tPart (tC (.int 7)))) (tVar 6)) [some (.ref p), some a, some (.str abc), some (.int (1 + r)), some (.str z), none, some (.str ⟨#[d]⟩)] S5 (Is K (cand z d)) := ev_addS (ev_cutS (ev_var rfl is_str) evo_none (evo_some (K := K) ev_ic) (sz1 (by omega))) (ev_var rfl is_str) (sz1 (by show _ + 1 ≤ 1000; omega))
      exact ⟨mem_n (K := K) hadd (ev_var rfl (ha3.mono (st4.ss.trans e))), fun _ => hadd⟩
    · have e5 := p5.str
      subst e5
      have hc : c ∈ abc.cps.toList.filter (fun c => !decide (cand z c ∈ us)) := by rw [hcr]; exact List.mem_cons_self ..
      rw [List.mem_filter] at hc
      exact ⟨_, rfl, fin S5 T5 H5 _ ((st03.trans st4).trans st5) w5 (cand_word hz hc.1) (by simpa using hc.2)⟩
  · exact ⟨_, rfl, fin S4 T4 H4 z (st03.trans st4) w4 hz (by simpa using hb)⟩
end
end Lw

namespace Lw
open PySem PySem.Spec PyProof.Rows L2 Fm
open PySem.W (Datum Tup T3 T4)
section
variable {K : PySem.W.Frag} {mg : Str → Option Value} {M : Wld} {σ : L2.St} {S : Hp} {ta tb : TE} {p : Addr}
theorem cl_word {X : XK} {i : Nat} {us : List Str} (hl : us.length < 26) (hi : σ[i]? = some (some (.ref p))) (ha : Ev (PW p) ta σ S (Is K us)) : Ev (PW p) (tCl (sp_law_word K) X (tCons (tVar i) (tCons ta tNil))) σ S (fun _ v => ∃ z, v = .str z ∧ isW z = true ∧ z ∉ us) :=
  ev_clW1 us is_mono hi ha fun S a h => ⟨a, rfl, h, hl⟩
theorem pure_law_words (H : Hp) (vs : List V) (Q : VK) (E : XK) (h : sp_law_words K vs H Q E) : t_law_words K { nx := fun _ H' => Q .non H', rt := Q } (start N_law_words vs) H := by
  obtain ⟨n, p, rest, S, T, rfl, w, s, ⟨rfl, hl⟩, q⟩ := h
  refine q_nil (M := PW p) (S := S) (T := T) w (Step.refl s) fun D nT st1 nS w1 => ?_
  dsimp only
  refine for_acc (M := PW p) (S := S) (S0 := S) (T0 := T) (evi_range (K := K) (ev_iv (z := (n : Int)) rfl) (by omega) (by omega)) (fun _ _ _ _ _ h => h) w1 st1 (fun i σ S2 T2 => ∃ ws x, σ = [some (.ref p), some (.int n), some (.ref D), x] ∧ T2 D = some (.lst (ws.map V.str)) ∧ S2 D = none ∧ Words i ws) (fun S1 T1 st => ⟨[], none, rfl, st.tt _ _ upd_same, st.nw D (by rw [upd_same]; simp) nS, rfl, List.nodup_nil, fun _ h => nomatch h⟩) (fun i v σ2 S2 T2 H2 hi st2 e2 w2 hJ hv => ?_) (fun σ2 S2 T2 H2 st2 e2 w2 hJ => ?_)
  · obtain ⟨ws, x, rfl, hD, hS, hw⟩ := hJ
    have hwl := hw.len
    refine ev_app (M := PW p) (S := S2) (T := T2) rfl w2 st2.st hD (by rw [List.length_map]; exact Nat.lt_of_le_of_lt (by omega : ws.length ≤ 1000) (by decide)) (cl_word (K := K) (us := ws) (by omega) rfl (ev_var rfl (is_lst (.inl hD) isAll_strs))) fun S3 T3 H3 v3 st3 w3 ⟨z, e3, hz, hn⟩ w4 => ?_
    subst e3
    have st4 := st2.trans (Step.keep st2.st st3)
    refine ⟨S2, _, Step.set st4 nT hS, w4, Same.refl _, ws ++ [z], some v, rfl, by rw [upd_same, List.map_append]; rfl, hS, by rw [List.length_append, hwl]; rfl, ?_, ?_⟩
    · rw [List.nodup_append]
      refine ⟨hw.nd, by simp, fun a ha b hb => ?_⟩
      rw [List.mem_singleton.mp hb]
      exact fun e => hn (e ▸ ha)
    · intro y hy
      rcases List.mem_append.mp hy with h | h
      · exact hw.wd y h
      · rw [List.mem_singleton.mp h]; exact hz
  · obtain ⟨ws, x, rfl, hD, hS, hw⟩ := hJ
    exact ⟨.ref D, rfl, q _ T2 H2 _ (st2.freeze nT hD) w2 ⟨ws, is_lst (.inl upd_same) isAll_strs, by simpa using hw⟩⟩
/-! ### raw parts -/
/-- the places told so far: names among these -/
structure Pls (ns : List Str) (ps : List Place) : Prop where
  nd : (ps.map (·.a)).Nodup
  nm : ∀ q ∈ ps, q.a ∈ ns
  wd : ∀ q ∈ ps, isW q.a = true ∧ isW q.b = true ∧ 0 ≤ q.c ∧ q.c ≤ 3
structure Lks (ps : List Place) (ls : List Link) : Prop where
  nd : ls.Nodup
  wd : ∀ l ∈ ls, isW l.a = true ∧ l.b ∈ ps.map (·.a) ∧ l.c ∈ ps.map (·.a)
theorem pls_snoc {ws : List Str} {i : Nat} {ps : List Place} {q : Place} (hn : ws.Nodup) (h : Pls (ws.take i) ps) (hi : ws[i]? = some q.a) (hq : isW q.a = true ∧ isW q.b = true ∧ 0 ≤ q.c ∧ q.c ≤ 3) : Pls (ws.take (i + 1)) (ps ++ [q]) := by
  have hlt : i < ws.length := by
    rcases Nat.lt_or_ge i ws.length with h | h
    · exact h
    · rw [List.getElem?_eq_none h] at hi; cases hi
  have ht : ws.take (i + 1) = ws.take i ++ [q.a] := by
    rw [List.take_succ, hi]; rfl
  have hnot : q.a ∉ ws.take i := by
    have e : (ws.take i ++ [q.a]).Nodup := ht ▸ (hn.sublist (List.take_sublist _ _))
    rw [List.nodup_append] at e
    exact fun hm => e.2.2 _ hm _ (List.mem_singleton.mpr rfl) rfl
  refine ⟨?_, fun x hx => ?_, fun x hx => ?_⟩
  · rw [List.map_append, List.nodup_append]
    refine ⟨h.nd, by simp, fun a ha b hb => ?_⟩
    obtain ⟨y, hy, rfl⟩ := List.mem_map.mp ha
    have : b = q.a := by simpa using hb
    rw [this]
    exact fun e => hnot (e ▸ h.nm y hy)
  · rw [ht]
    rcases List.mem_append.mp hx with h' | h'
    · exact List.mem_append.mpr (.inl (h.nm x h'))
    · rw [List.mem_singleton.mp h']; simp
  · rcases List.mem_append.mp hx with h' | h'
    · exact h.wd x h'
    · rw [List.mem_singleton.mp h']; exact hq
theorem pls_keep {ws : List Str} {i : Nat} {ps : List Place} (h : Pls (ws.take i) ps) : Pls (ws.take (i + 1)) ps :=
  ⟨h.nd, fun q hq => (List.take_subset_take_left ws (Nat.le_succ i)) (h.nm q hq), h.wd⟩
theorem pls_rev {ns : List Str} {ps : List Place} (h : Pls ns ps) : Pls ns ps.reverse :=
  ⟨by rw [List.map_reverse]; unfold List.Nodup; rw [List.pairwise_reverse]; exact h.nd.imp fun h e => h e.symm, fun q hq => h.nm q (List.mem_reverse.mp hq), fun q hq => h.wd q (List.mem_reverse.mp hq)⟩
theorem wordOf {ws : List Str} {S : Hp} {v : V} (hw : ∀ w ∈ ws, isW w = true) (h : ∃ x, x ∈ ws ∧ Is K x S v) : ∃ z, v = .str z ∧ isW z = true := by
  obtain ⟨x, h1, h2⟩ := h
  exact ⟨x, h2.str, hw x h1⟩
theorem isAll_snoc {α : Type} [DecidableEq α] [Datum α] {xs : List α} {x : α} {vs : List V} {v : V} (h : IsAll K xs S vs) (hx : Is K x S v) : IsAll K (xs ++ [x]) S (vs ++ [v]) := h.app (.one hx)
theorem pure_law_raw (H : Hp) (vs : List V) (Q : VK) (E : XK) (h : sp_law_raw K vs H Q E) : t_law_raw K { nx := fun _ H' => Q .non H', rt := Q } (start N_law_raw vs) H := by
  obtain ⟨⟨ws, mo⟩, p, rest, S, T, rfl, w, s, ⟨a, rfl, ha, hws, hmo⟩, q⟩ := h
  dsimp only at ha hws hmo
  have hwl := hws.len
  refine q_nil (M := PW p) (S := S) (T := T) w (Step.refl s) fun D3 nT3 st1 nS3 w1 => ?_
  dsimp only
  refine q_nil (M := PW p) (S := S) w1 st1 fun D4 nT4' st2 nS4 w2 => ?_
  have hne : D3 ≠ D4 := fun e => by rw [← e, upd_same] at nT4'; cases nT4'
  have nT4 : T D4 = none := by rwa [upd_ne (Ne.symm hne)] at nT4'
  dsimp only
  -- the second half
  have tail : ∀ S2 T2 H2 v3 x5 x6 x7 ps, Step S T S2 T2 → (PW p).W T2 H2 → Is K ps S2 v3 → Pls (ws.take 5) ps → ps.length ≤ 5 → T2 D4 = some (.lst []) → S2 D4 = none →
      (tSeq (tFor (iRng1 (tCons (tIf (tTest (tOp (rNeP K) (tVar 3) (tLst tNil))) (tCl (sp_law_draw K) E0 (tCons (tVar 0) (tCons (tOp rAddA (tVar 2) (tC (.int 1))) tNil))) (tC (.int 0))) tNil)) (gName 8) (tSeq (tAsg (tOp (rIx K) (tOp (rIx K) (tVar 3) (tCl (sp_law_draw K) E0 (tCons (tVar 0) (tCons (tCB (rLenA K) (tCons (tVar 3) tNil)) tNil)))) (tC (.int 0))) (gName 9))
    (tSeq (tAsg (tOp (rIx K) (tOp (rIx K) (tVar 3) (tCl (sp_law_draw K) E0 (tCons (tVar 0) (tCons (tCB (rLenA K) (tCons (tVar 3) tNil)) tNil)))) (tC (.int 0))) (gName 10))
    (tSeq (tAsg (tTup (tCons (tOp (rIx K) (tVar 1) (tOp rAddA (tC (.int 7)) (tCl (sp_law_draw K) E0 (tCons (tVar 0) (tCons (tC (.int 2)) tNil))))) (tCons (tVar 9) (tCons (tVar 10) tNil)))) (gName 11))
    (tIfS (tTest (tOp (rInP K true) (tVar 11) (tVar 4))) (tDrop (tBM K "list" rAppend (tVar 4) (tCons (tVar 11) tNil))) tNext)))))
    (tRet (tTup (tCons (tVar 3) (tCons (tVar 4) tNil))))) { nx := fun _ H' => Q .non H', rt := Q } [some (.ref p), some a, some (.int mo), some v3, some (.ref D4), x5, x6, x7, none, none, none, none] H2 := by
    intro S2 T2 H2 v3 x5 x6 x7 ps st2 w2 hv3 hps hpl hD4 hS4
    have ha2 := ha.mono st2.ss
    refine for_accX (M := PW p) (S := S2) (T := T2) (S0 := S) (T0 := T) (I := fun _ i v => v = .int i) (B := fun n => n ≤ 8 ∧ (ps = [] → n = 0)) (fun R q => ?_) (fun _ _ _ _ _ h => h) st2 (fun i σ S2 T2 => ∃ ls vs4 x8 x9 x10 x11, σ = [some (.ref p), some a, some (.int mo), some v3, some (.ref D4), x5, x6, x7, x8, x9, x10, x11] ∧ T2 D4 = some (.lst vs4) ∧ S2 D4 = none ∧ IsAll K ls S2 vs4 ∧ Lks ps ls ∧ ls.length ≤ i) (fun S3 T3 st => ⟨[], [], none, none, none, none, rfl, st.tt _ _ hD4, st.nw D4 (by rw [hD4]; simp) hS4, .nil, ⟨List.nodup_nil, fun _ h => nomatch h⟩, by simp⟩) (fun n i v σ3 S3 T3 H3 hB hi st3 e3 w3 hJ hv => ?_) (fun n σ3 S3 T3 H3 hB st3 e3 w3 hJ => ?_)
    · -- how many
      have hn : Ev (PW p) (tIf (tTest (tOp (rNeP K) (tVar 3) (tLst tNil))) (tCl (sp_law_draw K) E0 (tCons (tVar 0) (tCons (tOp rAddA (tVar 2) (tC (.int 1))) tNil))) (tC (.int 0))) [some (.ref p), some a, some (.int mo), some v3, some (.ref D4), x5, x6, x7, none, none, none, none] S2 (fun _ v => ∃ r, v = .int r ∧ 0 ≤ r ∧ r ≤ 8 ∧ (ps = [] → r = 0)) := by
        refine ev_if (fun _ _ _ _ h => h) (ev_test (K := K) (ev_ne (ev_var rfl hv3) ev_l0)) (fun hb => ?_) (fun hb => ?_)
        · have hp : ps ≠ [] := by simpa using hb
          refine (cl_draw (K := K) (n := mo + 1) (by omega) ?_ rfl (ev_add (ev_iv rfl) ev_ic)).imp fun _ v _ ⟨r, e, h0, h1⟩ => ⟨r, e, h0, by omega, fun e => absurd e hp⟩
          have : ((mo : Int) + 1).natAbs ≤ 9 := by omega
          exact Nat.lt_of_le_of_lt (Nat.log2_le_self _) (by omega)
        · exact ev_c ⟨0, rfl, by omega, by omega, fun _ => rfl⟩
      refine hn T2 H2 w2 st2.st _ fun S3 T3 H3 v st3 w3 ⟨r, e, h0, h1, h2⟩ => ⟨r, by rw [e], by omega, by omega, q S3 T3 H3 r.toNat _ st3 w3 ⟨by omega, fun e => by rw [h2 e]; rfl⟩ (walks_range.imp fun i x _ e => by rw [e]; simp)⟩
    · -- one more
      obtain ⟨ls, vs4, x8, x9, x10, x11, rfl, hD, hS, hls, hlk, hll⟩ := hJ
      have hp : ps ≠ [] := fun e => by have := hB.2 e; omega
      have hpos : 0 < ps.length := List.length_pos_iff.mpr hp
      have pick : ∀ {σ : L2.St} {S' : Hp}, Same S2 S' → σ[0]? = some (some (.ref p)) → σ[3]? = some (some v3) → Ev (PW p) (tOp (rIx K) (tOp (rIx K) (tVar 3) (tCl (sp_law_draw K) E0 (tCons (tVar 0) (tCons (tCB (rLenA K) (tCons (tVar 3) tNil)) tNil)))) (tC (.int 0))) σ S' (fun _ v => ∃ z, v = .str z ∧ z ∈ ps.map (·.a)) := fun e h0 h3 =>
        ev_op (P1 := fun S v => ∃ x, x ∈ ps ∧ Is K x S v) (P2 := Is K (0 : Int)) (fun _ _ _ e ⟨x, h1, h2⟩ => ⟨x, h1, h2.mono e⟩) (ev_ixE (lo := 0) (hi := ps.length) (ev_var h3 (hv3.mono e)) (cl_draw (K := K) (n := ps.length) (by omega) (Nat.lt_of_le_of_lt (Nat.log2_le_self _) (by omega)) h0 (ev_len (ev_var h3 (hv3.mono e)))) (Int.le_refl _) (Int.le_refl _)) (fun _ _ => ev_ic) fun S3 x y _ ⟨pl, h1, h2⟩ hy => by
          rw [hy.int]
          exact rv_of ((ev_a (K := K) (ev_c h2)).imp fun _ v _ hv => ⟨pl.a, hv.str, List.mem_map.mpr ⟨pl, h1, rfl⟩⟩)
      refine q_set (M := PW p) (S := S3) (T := T3) (pick e3 rfl rfl) w3 st3.st fun S4 T4 H4 v4 st4 w4 ⟨lo, e4, hlo⟩ => ?_
      subst e4
      dsimp only
      refine q_set (M := PW p) (S := S4) (T := T4) (pick (e3.trans st4.ss) rfl rfl) w4 st4.st fun S5 T5 H5 v5 st5 w5 ⟨hi', e5, hhi⟩ => ?_
      subst e5
      dsimp only
      refine q_set (M := PW p) (S := S5) (T := T5) (P := fun S v => ∃ l : Link, Is K l S v ∧ isW l.a = true ∧ l.b = lo ∧ l.c = hi') (ev_dispT (PA := All3 (fun _ v => ∃ z, v = .str z ∧ isW z = true) (Is K lo) (Is K hi')) (eva_3 (fun _ _ _ _ h => h) is_mono is_mono ((ev_ixE (lo := 7) (hi := 7 + 2) (ev_var rfl (ha.mono (st3.ss.trans (st4.ss.trans st5.ss)))) (dr_add K (cl_drawC (K := K) rfl)) (by omega) (by omega)).imp fun _ v _ h => wordOf hws.wd h) (ev_var rfl is_str) (ev_var rfl is_str)) (fun _ vs ⟨_, _, _, e, _⟩ => by subst e; exact small_size (by simp)) fun S6 vs pp ⟨x, y, z, e, ⟨l, h1, h1'⟩, h2, h3⟩ np => by
        subst e
        subst h1
        exact ⟨⟨l, lo, hi'⟩, Dq.tup (.inl (.inl upd_same)) (.cons (.str _) (.cons (h2.mono (same_new np)) (.cons (h3.mono (same_new np)) .nil))), h1', rfl, rfl⟩) w5 st5.st fun S6 T6 H6 v6 st6 w6 ⟨l, hl6, hla, hlb, hlc⟩ => ?_
      have st36 := (st4.trans st5).trans st6
      have st06 := st3.trans st36
      have hD6 := st36.tt _ _ hD
      have hS6 := st36.nw D4 (by rw [hD]; simp) hS
      have hls6 := hls.mono st36.ss
      refine q_if (M := PW p) (S := T6) (T := T6) (b := !decide (l ∈ ls)) (mem_n (K := K) (ev_var rfl (hl6.mono st6.st)) (ev_var rfl (is_lst (.inl hD6) (hls6.mono st6.st)))) w6 (Same.refl _) (fun S7 T7 H7 st7 w7 hb => ?_) (fun S7 T7 H7 st7 w7 hb => ?_)
      · have st67 := Step.keep st6.st st7
        refine ev_app' (M := PW p) (S := S6) (T := T7) rfl w7 st67.st (st7.tt _ _ hD6) (by rw [hls.len]; exact Nat.lt_of_le_of_lt (by omega : ls.length ≤ 1000) (by decide)) (ev_var (P := Is K l) rfl hl6) fun S8 T8 H8 v8 st8 w8 p8 w9 => ?_
        have st68 := st67.trans st8
        have hS8 := st68.nw D4 (by rw [hD6]; simp) hS6
        refine ⟨S8, _, Step.set (st06.trans st68) nT4 hS8, w9, st36.ss.trans st68.ss, ls ++ [l], _, some v, _, _, _, rfl, upd_same, hS8, isAll_snoc (hls6.mono st68.ss) p8, ?_, by rw [List.length_append]; show _ + 1 ≤ _; omega⟩
        have hnm : l ∉ ls := by simpa using hb
        refine ⟨?_, fun x hx => ?_⟩
        · rw [List.nodup_append]
          refine ⟨hlk.nd, by simp, fun a ha b hb => ?_⟩
          rw [List.mem_singleton.mp hb]
          exact fun e => hnm (e ▸ ha)
        · rcases List.mem_append.mp hx with h | h
          · exact hlk.wd x h
          · rw [List.mem_singleton.mp h, hlb, hlc]; exact ⟨hla, hlo, hhi⟩
      · have st67 := Step.keep st6.st st7
        exact ⟨S6, T7, st06.trans st67, w7, st36.ss, ls, vs4, some v, _, _, _, rfl, st7.tt _ _ hD6, hS6, hls6, hlk, by omega⟩
    · -- the answer
      obtain ⟨ls, vs4, x8, x9, x10, x11, rfl, hD, hS, hls, hlk, hll⟩ := hJ
      have stf := st3.freeze nT4 hD
      dsimp only
      refine q_ret (M := PW p) (T := T3) (P := Is K (ps, ls)) (ev_pair (ev_var rfl (hv3.mono (e3.trans (same_new hS)))) (ev_var rfl (is_lst (.inl upd_same) (hls.mono (same_new hS))))) w3 stf.st fun S4 T4 H4 v4 st4 w4 p4 => ?_
      exact q S4 T4 H4 v4 (stf.trans st4) w4 ⟨(ps, ls), p4, hps.nd, hps.wd, hlk.nd, hlk.wd, by show ps.length ≤ 20; omega, by show ls.length ≤ 20; omega⟩
  -- the places
  have ecut : cutL ws none (some 5) = ws.take 5 := cutL_to ws 5
  refine for_acc (M := PW p) (S := S) (S0 := S) (T0 := T) (I := Itm K (cutL ws none (some 5))) (evi_list (ev_cut (ev_var rfl ha) evo_none (evo_some (K := K) ev_ic))) itm_mono w2 st2 (fun i σ S2 T2 => ∃ ps vs3 x5 x6 x7, σ = [some (.ref p), some a, some (.int mo), some (.ref D3), some (.ref D4), x5, x6, x7, none, none, none, none] ∧ T2 D3 = some (.lst vs3) ∧ S2 D3 = none ∧ T2 D4 = some (.lst []) ∧ S2 D4 = none ∧ IsAll K ps S2 vs3 ∧ Pls (ws.take i) ps ∧ ps.length ≤ i) (fun S1 T1 st => ⟨[], [], none, none, none, rfl, st.tt _ _ (by rw [upd_ne hne, upd_same]), st.nw D3 (by rw [upd_ne hne, upd_same]; simp) nS3, st.tt _ _ upd_same, st.nw D4 (by rw [upd_same]; simp) nS4, .nil, ⟨List.nodup_nil, (fun _ h => nomatch h), (fun _ h => nomatch h)⟩, by simp⟩) (fun i v σ2 S2 T2 H2 hi st2 e2 w2 hJ ⟨nm, hx, hv⟩ => ?_) (fun σ2 S2 T2 H2 st2 e2 w2 hJ => ?_)
  · obtain ⟨ps, vs3, x5, x6, x7, rfl, hD3, hS3, hD4, hS4, hps, hpk, hpl⟩ := hJ
    rw [ecut] at hx hi
    have hi5 : i < 5 := by rw [List.length_take] at hi; omega
    have hxw : ws[i]? = some nm := by rw [List.getElem?_take_of_lt hi5] at hx; exact hx
    have hnm : nm ∈ ws := List.mem_of_getElem? hxw
    have ev := hv.str
    subst ev
    refine q_ifX (M := PW p) (S := S2) (T := T2) (dr_eq (K := K) (cl_drawC (K := K) rfl)) w2 st2.st (fun S3 T3 H3 st3 w3 => ?_) (fun S3 T3 H3 st3 w3 => ?_)
    · refine q_set (M := PW p) (S := S3) (T := T3) ((ev_ixE (lo := 5) (hi := 5 + 2) (ev_var rfl (ha.mono (e2.trans st3.ss))) (dr_add K (cl_drawC (K := K) rfl)) (by omega) (by omega)).imp fun _ v _ h => wordOf hws.wd h) w3 st3.st fun S4 T4 H4 v4 st4 w4 ⟨kd, e4, hkd⟩ => ?_
      subst e4
      dsimp only
      refine q_set (M := PW p) (S := S4) (T := T4) (P := Dr 4) (cl_drawC (K := K) rfl) w4 st4.st fun S5 T5 H5 v5 st5 w5 ⟨co, e5, hc0, hc1⟩ => ?_
      subst e5
      dsimp only
      have app : ∀ (D : Ends) S6 T6 H6 kd co, (∀ σ' S' T' H', Step S T S' T' → (PW p).W T' H' → Same S2 S' → (∃ ps vs3 x5 x6 x7, σ' = [some (.ref p), some a, some (.int mo), some (.ref D3), some (.ref D4), x5, x6, x7, none, none, none, none] ∧ T' D3 = some (.lst vs3) ∧ S' D3 = none ∧ T' D4 = some (.lst []) ∧ S' D4 = none ∧ IsAll K ps S' vs3 ∧ Pls (ws.take (i + 1)) ps ∧ ps.length ≤ i + 1) → D.nx σ' H') → Step S2 T2 S6 T6 → (PW p).W T6 H6 → isW kd = true → 0 ≤ co → co ≤ 3 → (tDrop (tBM K "list" rAppend (tVar 3) (tCons (tTup (tCons (tVar 5) (tCons (tVar 6) (tCons (tVar 7) tNil)))) tNil))) D [some (.ref p), some a, some (.int mo), some (.ref D3), some (.ref D4), some (.str nm), some (.str kd), some (.int co), none, none, none, none] H6 := by
        intro D S6 T6 H6 kd co hD' st26 w6 hkd hc0 hc1
        refine ev_app' (M := PW p) (S := S6) (T := T6) rfl w6 st26.st (st26.tt _ _ hD3) (by rw [hps.len]; exact Nat.lt_of_le_of_lt (by omega : ps.length ≤ 1000) (by decide)) (P := Is K (⟨nm, kd, co⟩ : Place)) (ev_t3 (ev_var rfl is_str) (ev_var rfl is_str) (ev_var rfl is_int)) fun S8 T8 H8 v8 st8 w8 p8 w9 => ?_
        have st28 := st26.trans st8
        have hS8 := st28.nw D3 (by rw [hD3]; simp) hS3
        refine hD' _ S8 _ _ (Step.set (st2.trans st28) nT3 hS8) w9 st28.ss ⟨ps ++ [⟨nm, kd, co⟩], _, _, _, _, rfl, upd_same, hS8, by rw [upd_ne (Ne.symm hne)]; exact st28.tt _ _ hD4, st28.nw D4 (by rw [hD4]; simp) hS4, isAll_snoc (hps.mono st28.ss) p8, pls_snoc hws.nd hpk hxw ⟨hws.wd _ hnm, hkd, hc0, hc1⟩, by rw [List.length_append]; show _ + 1 ≤ _; omega⟩
      have st25 := (st3.trans st4).trans st5
      refine q_ifX (M := PW p) (S := S5) (T := T5) (dr_gt K (cl_drawC (K := K) rfl)) w5 st5.st (fun S6 T6 H6 st6 w6 => ?_) (fun S6 T6 H6 st6 w6 => ?_)
      · have h5 : (5 : Nat) < ws.length := by omega
        refine q_set (M := PW p) (S := S6) (T := T6) (P := Is K ws[5]) (ev_ix (i := 5) (ev_var rfl (ha.mono ((e2.trans st25.ss).trans st6.ss))) ev_ic rfl (List.getElem?_eq_getElem h5)) w6 st6.st fun S7 T7 H7 v7 st7 w7 p7 => ?_
        have e7 := p7.str
        subst e7
        dsimp only
        refine q_set (M := PW p) (S := S7) (T := T7) (P := fun _ v => ∃ r, v = .int r ∧ 0 ≤ r ∧ r ≤ 3) (ev_op (P1 := fun _ v => ∃ j : Nat, v = .int j) (P2 := Is K (4 : Int)) (fun _ _ _ _ h => h) (ev_index (K := K) (z := nm) (ev_var rfl (ha.mono (((e2.trans st25.ss).trans st6.ss).trans st7.ss))) (ev_var rfl is_str) hnm) (fun _ _ => ev_ic) fun S8 x y _ ⟨j, e⟩ hy => rv_of ((ev_mod (K := K) (a := (j : Int)) (b := 4) (ev_c (by rw [e]; exact is_int)) (ev_c hy) (by decide)).imp fun _ v _ hv => ⟨_, hv.int, by omega, by omega⟩)) w7 st7.st fun S8 T8 H8 v8 st8 w8 ⟨co', e8, h80, h81⟩ => ?_
        subst e8
        exact app _ S8 T8 H8 ws[5] co' (fun σ' S' T' H' a b c d => ⟨S', T', a, b, c, d⟩) (((st25.trans st6).trans st7).trans st8) w8 (hws.wd _ (List.getElem_mem h5)) h80 h81
      · exact app _ S6 T6 H6 kd co (fun σ' S' T' H' a b c d => ⟨S', T', a, b, c, d⟩) (st25.trans st6) w6 hkd hc0 (by omega)
    · exact ⟨S3, T3, st2.trans st3, w3, st3.ss, ps, vs3, _, _, _, rfl, st3.tt _ _ hD3, st3.nw D3 (by rw [hD3]; simp) hS3, st3.tt _ _ hD4, st3.nw D4 (by rw [hD4]; simp) hS4, hps.mono st3.ss, pls_keep hpk, by omega⟩
  · obtain ⟨ps, vs3, x5, x6, x7, rfl, hD3, hS3, hD4, hS4, hps, hpk, hpl⟩ := hJ
    have hlt : (cutL ws none (some 5)).length = 5 := by rw [ecut, List.length_take]; omega
    rw [hlt] at hpk hpl
    have stf := st2.freeze nT3 hD3
    have hv3 : Is K ps (upd S2 D3 (.lst vs3)) (.ref D3) := is_lst (.inl upd_same) (hps.mono (same_new hS3))
    dsimp only
    refine q_ifX (M := PW p) (T := T2) (dr_eq (K := K) (cl_drawC (K := K) rfl)) w2 stf.st (fun S3 T3 H3 st3 w3 => ?_) (fun S3 T3 H3 st3 w3 => ?_)
    · refine q_set (M := PW p) (S := S3) (T := T3) (P := Is K ps.reverse) (ev_rev (ev_var rfl (hv3.mono st3.ss))) w3 st3.st fun S4 T4 H4 v4 st4 w4 p4 => ?_
      have st24 := st3.trans st4
      exact tail S4 T4 H4 v4 _ _ _ ps.reverse (stf.trans st24) w4 p4 (pls_rev hpk) (by rw [List.length_reverse]; exact hpl) (st24.tt _ _ hD4) (st24.nw D4 (by rw [hD4]; simp) (by rw [upd_ne (Ne.symm hne)]; exact hS4))
    · exact tail S3 T3 H3 _ _ _ _ ps (stf.trans st3) w3 (hv3.mono st3.ss) hpk hpl (st3.tt _ _ hD4) (st3.nw D4 (by rw [hD4]; simp) (by rw [upd_ne (Ne.symm hne)]; exact hS4))
end
end Lw

namespace Lw
open PySem PySem.Spec PyProof.Rows L2 Fm
open PySem.W (Datum Tup T3 T4)
section
variable {K : PySem.W.Frag} {mg : Str → Option Value} {M : Wld} {σ : L2.St} {S : Hp} {ta tb : TE} {p : Addr} {ps qs : List Place} {ls ks : List Link}
/-! ### one name, one place -/
theorem kn_mem {n : Str} {x : Place} (h : kn ps n = some x) : x ∈ ps ∧ x.a = n := by
  unfold kn at h
  have h1 := List.mem_of_find?_eq_some h
  have h2 := List.find?_some h
  exact ⟨List.mem_reverse.mp h1, by simpa using h2⟩
theorem one_place : ∀ {ps : List Place}, (ps.map (·.a)).Nodup → ∀ {x y : Place}, x ∈ ps → y ∈ ps → x.a = y.a → x = y
  | [], _, _, _, h, _, _ => nomatch h
  | z :: r, hn, x, y, hx, hy, e => by
    rw [List.map_cons, List.nodup_cons] at hn
    rcases List.mem_cons.mp hx with e1 | h1
    · rcases List.mem_cons.mp hy with e2 | h2
      · rw [e1, e2]
      · exact absurd (List.mem_map.mpr ⟨y, h2, by rw [← e, e1]⟩) hn.1
    · rcases List.mem_cons.mp hy with e2 | h2
      · exact absurd (List.mem_map.mpr ⟨x, h1, by rw [e, e2]⟩) hn.1
      · exact one_place hn.2 h1 h2 e
/-- places of one list never clash -/
theorem no_clash {rs : List Place} (hn : (rs.map (·.a)).Nodup) (h1 : ∀ x ∈ ps, x ∈ rs) (h2 : ∀ x ∈ qs, x ∈ rs) : clashOf ps qs = none := by
  unfold clashOf
  rw [Option.map_eq_none_iff, List.find?_eq_none]
  intro q hq
  cases e : kn ps q.a with
  | none => simp
  | some x =>
    obtain ⟨m, ea⟩ := kn_mem e
    have := one_place hn (h1 x m) (h2 q hq) ea
    simp [this]
theorem nd_of (h : (ps.map (·.a)).Nodup) : ps.Nodup := by
  unfold List.Nodup at h ⊢
  rw [List.pairwise_map] at h
  exact h.imp fun h e => h (by rw [e])
theorem dlast_one {x : Place} (hn : (ps.map (·.a)).Nodup) (hx : x ∈ ps) : dlast (fun p : Place => (.inr p.a : Key)) ps (.inr x.a) = some x := by
  rw [kn_dlast]
  cases e : kn ps x.a with
  | none =>
    unfold kn at e
    rw [List.find?_eq_none] at e
    have := e x (List.mem_reverse.mpr hx)
    simp at this
  | some y =>
    obtain ⟨m, ea⟩ := kn_mem e
    rw [one_place hn m hx ea]
theorem Ev.pat {te : TE} {ps' : List Place} {ls' : List Link} (h : Ev M te σ S (Pat K ps ls)) (e1 : ps = ps') (e2 : ls = ls') : Ev M te σ S (Pat K ps' ls') := by subst e1 e2; exact h
/-! ### building -/
def accP (ps : List Place) (i : Nat) : List Place := ps.take (max i 1)
theorem take_snoc {α : Type} {xs : List α} {i : Nat} {x : α} (h : xs[i]? = some x) : xs.take (i + 1) = xs.take i ++ [x] := by rw [List.take_succ, h]; rfl
theorem not_take {α : Type} {xs : List α} (hn : xs.Nodup) {i : Nat} {x : α} (h : xs[i]? = some x) : x ∉ xs.take i := by
  have e : (xs.take i ++ [x]).Nodup := take_snoc h ▸ (hn.sublist (List.take_sublist _ _))
  rw [List.nodup_append] at e
  exact fun hm => e.2.2 _ hm _ (List.mem_singleton.mpr rfl) rfl
theorem accP_step (hn : ps.Nodup) {i : Nat} {x : Place} (h : ps[i]? = some x) : orP (accP ps i) [x] = accP ps (i + 1) := by
  unfold accP orP
  cases i with
  | zero =>
    cases ps with
    | nil => cases h
    | cons y r =>
      have : y = x := by simpa using h
      subst this
      simp
  | succ i =>
    have e1 : max (i + 1) 1 = i + 1 := by omega
    have e2 : max (i + 1 + 1) 1 = i + 1 + 1 := by omega
    rw [e1, e2, take_snoc h]
    have := not_take hn h
    simp [this]
theorem orL_step (hn : ls.Nodup) {i : Nat} {x : Link} (h : ls[i]? = some x) : orL (ls.take i) [x] = ls.take (i + 1) := by
  unfold orL
  rw [take_snoc h]
  have := not_take hn h
  simp [this]
theorem orP_in (h : ∀ x ∈ qs, x ∈ ps) : orP ps qs = ps := by
  unfold orP
  have : qs.filter (fun q => !decide (q ∈ ps)) = [] := by
    rw [List.filter_eq_nil_iff]
    intro x hx
    simp [h x hx]
  rw [this, List.append_nil]
theorem mem_take {α : Type} {xs : List α} {n : Nat} {x : α} (h : x ∈ xs.take n) : x ∈ xs := List.mem_of_mem_take h
theorem rsP_mem {s e x : Place} (h : x ∈ rsP [s] [e]) : x = s ∨ x = e := by
  have e1 : rsP [s] [e] = ((orP [s] [e]).filter fun p => !decide (p = e)) ++ [e] := rfl
  rw [e1] at h
  rcases List.mem_append.mp h with h | h
  · have h := (List.mem_filter.mp h).1
    unfold orP at h
    rcases List.mem_append.mp h with h | h
    · exact .inl (List.mem_singleton.mp h)
    · exact .inr (List.mem_singleton.mp (List.mem_filter.mp h).1)
  · exact .inr (List.mem_singleton.mp h)
theorem rsL_one {s e : Place} {l : Str} : rsL [s] [e] [] [] l = [⟨l, s.a, e.a⟩] := rfl
theorem rsP_len {s e : Place} : (rsP [s] [e]).length ≤ 1000 := by
  have e1 : rsP [s] [e] = ((orP [s] [e]).filter fun p => !decide (p = e)) ++ [e] := rfl
  rw [e1, List.length_append]
  have h1 := List.length_filter_le (fun p => !decide (p = e)) (orP [s] [e])
  have h2 : (orP [s] [e]).length ≤ 2000 := orP_len (by simp) (by simp)
  have h3 : (orP [s] [e]).length ≤ 2 := by
    unfold orP
    rw [List.length_append]
    have := List.length_filter_le (fun q => !decide (q ∈ [s])) [e]
    simp at this ⊢
    omega
  show _ + 1 ≤ 1000
  omega
theorem pure_law_pattern (T : Txt K mg) (H : Hp) (vs : List V) (Q : VK) (E : XK) (h : sp_law_pattern K vs H Q E) : t_law_pattern K { nx := fun _ H' => Q .non H', rt := Q } (start N_law_pattern vs) H := by
  obtain ⟨⟨ps, ls⟩, S, s, ⟨a, b, rfl, ha, hb, hg⟩, q⟩ := h
  dsimp only at ha hb hg
  have hnd := hg.nd
  have hsp := hg.sp
  have hsl := hg.sl
  refine q_if (M := W0) (S := S) (T := H) (ev_test (K := K) (ev_eq (ev_var rfl ha) ev_l0)) (Same.refl _) s (fun S1 T1 H1 st1 w1 he => ?_) (fun S1 T1 H1 st1 w1 he => ?_)
  · have he : ps = [] := by simpa using he
    subst he
    have hl : ls = [] := by
      cases ls with
      | nil => rfl
      | cons l r =>
        have := (hg.lw l (List.mem_cons_self ..)).2.1
        simp at this
    subst hl
    exact q_ret (M := W0) (S := S1) (T := T1) (P := Pat K [] []) (o_sub (ps := [⟨"a", "b", 0⟩]) (ls := []) (qs := [⟨"a", "b", 0⟩]) (ks := []) (by simp) (by simp) (o_place (d := ⟨"a", "b", 0⟩) (by decide +kernel) (by decide +kernel) (by decide) (by decide) ev_sc ev_sc ev_ic) (o_place (d := ⟨"a", "b", 0⟩) (by decide +kernel) (by decide +kernel) (by decide) (by decide) ev_sc ev_sc ev_ic)) w1 st1.st fun S' T' H' v st w p => q S' H' v ((st1.trans st).out w) p
  have he : ps ≠ [] := by simpa using he
  obtain ⟨p0, hp0⟩ : ∃ p0, ps[0]? = some p0 := by
    cases ps with
    | nil => exact absurd rfl he
    | cons x r => exact ⟨x, rfl⟩
  have hm0 := List.mem_of_getElem? hp0
  obtain ⟨g1, g2, g3, g4⟩ := hg.wd p0 hm0
  have ha1 := ha.mono st1.ss
  dsimp only
  have e0 : accP ps 0 = [p0] := by
    cases ps with
    | nil => exact absurd rfl he
    | cons x r =>
      have : x = p0 := by simpa using hp0
      subst this
      rfl
  have hx0 : ∀ {σ : L2.St}, σ[0]? = some (some a) → Ev W0 (tOp (rIx K) (tVar 0) (tC (.int 0))) σ S1 (Is K p0) := fun h => ev_ix (i := 0) (ev_var h ha1) ev_ic rfl hp0
  refine q_set (σ := [some a, some b, none, none, none, none, none, none, none, none]) (M := W0) (S := S1) (T := T1) (P := Pat K (accP ps 0) []) (Ev.pat (o_place (X := E0) g1 g2 g3 g4 (ev_a (hx0 rfl)) (ev_b (hx0 rfl)) (ev_cc (hx0 rfl))) e0.symm rfl) w1 st1.st fun S2 T2 H2 v2 st2 w2 p2 => ?_
  have ha2 := ha1.mono st2.ss
  dsimp only
  have hmem : ∀ {i x}, ps[i]? = some x → x ∈ ps := fun h => List.mem_of_getElem? h
  have htup : ∀ {S : Hp} {x : Place} {v : V} {H : Hp} {i j k : Nat} {σ : L2.St} {Q : L2.St → Hp → Prop}, Is K x S v → Same S H → Q (((σ.set i (some (.str x.a))).set j (some (.str x.b))).set k (some (.int x.c))) H → gTup K 3 (gCons (gName i) (gCons (gName j) (gCons (gName k) gNil))) v σ H Q := fun hx sH hQ => by
    obtain ⟨pp, xa, xb, xc, rfl, h3, h4, h5, h6⟩ := hx.t3
    rw [← h4.str, ← h5.str, ← h6.int] at hQ
    exact ⟨pp, _, rfl, Same.tup sH h3, rfl, _, _, rfl, _, _, rfl, _, _, rfl, rfl, hQ⟩
  refine for_ev (M := W0) (S := S2) (T := T2) (evi_list (ev_var rfl ha2)) itm_mono w2 st2.st (fun i σ S T => ∃ v x3 x4 x5, σ = [some a, some b, some v, x3, x4, x5, none, none, none, none] ∧ Pat K (accP ps i) [] S v) (fun S3 T3 st => ⟨v2, none, none, none, rfl, pat_mono _ _ _ st.ss p2⟩) (fun i v σ3 S3 T3 H3 hi st3 w3 hJ ⟨x, hx, hv⟩ => ?_) (fun σ3 S3 T3 H3 st3 w3 hJ => ?_)
  · obtain ⟨u, x3, x4, x5, rfl, hp⟩ := hJ
    obtain ⟨k1, k2, k3, k4⟩ := hg.wd x (hmem hx)
    refine htup hv (st3.st.trans w3) ?_
    have hal : (accP ps i).length ≤ 1000 := by
      have := List.length_take_le (max i 1) ps
      unfold accP
      omega
    refine q_set (M := W0) (S := S3) (T := T3) (P := Pat K (accP ps (i + 1)) []) (Ev.pat (o_or hal (by simp) (by simp) (by simp) (no_clash hnd (fun y hy => mem_take hy) (fun y hy => by rw [List.mem_singleton.mp hy]; exact hmem hx)) (ev_var rfl hp) (o_place k1 k2 k3 k4 (ev_var rfl is_str) (ev_var rfl is_str) (ev_var rfl is_int))) (accP_step (nd_of hnd) hx) rfl) w3 st3.st fun S4 T4 H4 v4 st4 w4 p4 => ?_
    exact ⟨S4, T4, st3.trans st4, w4, st4.ss, v4, _, _, _, rfl, p4⟩
  obtain ⟨u, x3, x4, x5, rfl, hp⟩ := hJ
  have eall : accP ps ps.length = ps := by
    unfold accP
    have : 0 < ps.length := List.length_pos_iff.mpr he
    rw [List.take_of_length_le (by omega)]
  rw [eall] at hp
  dsimp only
  refine q_dct (M := W0) (S := S3) (T := T3) (S0 := S3) (T0 := T3) w3 (Step.refl st3.st) fun D nT st4 nS w4 => ?_
  dsimp only
  have ha3 := ha2.mono st3.ss
  refine for_acc (M := W0) (S := S3) (S0 := S3) (T0 := T3) (evi_list (ev_var rfl ha3)) itm_mono w4 st4 (fun i σ S T => ∃ x3 x4 x5 kvs, σ = [some a, some b, some u, x3, x4, x5, some (.ref D), none, none, none] ∧ T D = some (.dK kvs) ∧ S D = none ∧ kvs.length ≤ (ps.take i).length ∧ DAll (fun x => Pat K [x] []) (fun p : Place => .inr p.a) (ps.take i) S kvs) (fun S5 T5 st => ⟨_, _, _, [], rfl, st.tt _ _ upd_same, st.nw D (by rw [upd_same]; simp) nS, by simp, DAll.nil⟩) (fun i v σ5 S5 T5 H5 hi st5 e5 w5 hJ ⟨x, hx, hv⟩ => ?_) (fun σ5 S5 T5 H5 st5 e5 w5 hJ => ?_)
  · obtain ⟨x3, x4, x5, kvs, rfl, hD, hS, hkl, hk⟩ := hJ
    obtain ⟨k1, k2, k3, k4⟩ := hg.wd x (hmem hx)
    refine htup hv (st5.st.trans w5) ?_
    refine (o_place (K := K) (M := W0) (S := S5) (σ := [some a, some b, some u, some (.str x.a), some (.str x.b), some (.int x.c), some (.ref D), none, none, none]) k1 k2 k3 k4 (ev_var rfl is_str) (ev_var rfl is_str) (ev_var rfl is_int)) T5 H5 w5 st5.st _ fun S6 T6 H6 v6 st6 w6 p6 => ?_
    have hD6 := st6.tt _ _ hD
    have hS6 := st6.nw D (by rw [hD]; simp) hS
    refine ⟨_, rfl, _, rfl, D, _, rfl, .inl ⟨kvs, .inr x.a, w6 _ _ hD6, rfl, ?_, rfl⟩, S6, _, Step.set (st5.trans st6) nT hS6, W0.set w6 hD6, st6.ss, _, _, _, _, rfl, upd_same, hS6, ?_, ?_⟩
    · have := List.length_take_le i ps
      exact Nat.lt_of_le_of_lt (by omega : kvs.length ≤ 1000) (by decide)
    · rw [take_snoc hx, List.length_append]
      have := length_putK kvs (.inr x.a) v6
      show _ ≤ _ + 1
      omega
    · rw [take_snoc hx]
      exact (hk.mono (fun _ => pat_mono) st6.ss).put p6
  obtain ⟨x3', x4', x5', kvs, rfl, hD, hS, hkl, hk⟩ := hJ
  rw [List.take_length] at hk hkl
  have stf := st5.freeze nT hD
  have hd : DctOf (fun x => Pat K [x] []) (fun p : Place => (.inr p.a : Key)) ps (upd S5 D (.dK kvs)) (.ref D) := ⟨D, kvs, rfl, .inl upd_same, hkl, hk.mono (fun _ => pat_mono) (same_new hS)⟩
  dsimp only
  have hbf := ((hb.mono st1.ss).mono st2.ss).mono (st3.ss.trans stf.ss)
  have hpf := pat_mono _ _ _ stf.ss hp
  refine for_ev (M := W0) (T := T5) (evi_list (ev_var rfl hbf)) itm_mono w5 stf.st (fun i σ S T => ∃ v x7 x8 x9, σ = [some a, some b, some v, x3', x4', x5', some (.ref D), x7, x8, x9] ∧ Pat K ps (ls.take i) S v) (fun S6 T6 st => ⟨u, none, none, none, rfl, pat_mono _ _ _ st.ss hpf⟩) (fun i v σ6 S6 T6 H6 hi st6 w6 hJ ⟨x, hx, hv⟩ => ?_) (fun σ6 S6 T6 H6 st6 w6 hJ => ?_)
  · obtain ⟨v', x7, x8, x9, rfl, hp6⟩ := hJ
    obtain ⟨k1, k2, k3⟩ := hg.lw x (List.mem_of_getElem? hx)
    obtain ⟨ss, hss, ess⟩ := List.mem_map.mp k2
    obtain ⟨se, hse, ese⟩ := List.mem_map.mp k3
    obtain ⟨pp, xa, xb, xc, rfl, h3, h4, h5, h6⟩ := hv.t3
    have f4 := h4.str
    have f5 := h5.str
    have f6 := h6.str
    subst f4 f5 f6
    refine ⟨pp, _, rfl, Same.tup (st6.st.trans w6) h3, rfl, _, _, rfl, _, _, rfl, _, _, rfl, rfl, ?_⟩
    have hd6 := DctOf.mono (fun _ => pat_mono) _ _ _ st6.ss hd
    have hall : ∀ y ∈ rsP [ss] [se], y ∈ ps := fun y hy => by
      rcases rsP_mem hy with e | e
      · rw [e]; exact hss
      · rw [e]; exact hse
    have hlen : (ls.take i).length ≤ 1000 := by
      have := List.length_take_le i ls
      omega
    have etie : (⟨x.a, ss.a, se.a⟩ : Link) = x := by rw [ess, ese]
    have hget : ∀ {σ : L2.St} {i : Nat} {z : Place}, z ∈ ps → σ[6]? = some (some (.ref D)) → σ[i]? = some (some (.str z.a)) → Ev W0 (tDGet (tVar 6) (tVar i)) σ S6 (Pat K [z] []) := fun {σ i z} hz h6 hi =>
      ev_dget (E := fun x => Pat K [x] []) (key := fun p : Place => (.inr p.a : Key)) (xs := ps) (i := z) (fun _ => pat_mono) (dlast_one hnd hz) (ev_var h6 hd6) (ev_var hi rfl)
    have h1 := o_or (K := K) (X := E0) (M := W0) (S := S6) (σ := [some a, some b, some v', x3', x4', x5', some (.ref D), some (.str x.a), some (.str x.b), some (.str x.c)]) (ta := tVar 2) (tb := tOp (rOwnT K (He.ga K "Pattern") (sp_Pattern_rshift K) E0) (tDGet (tVar 6) (tVar 8)) (tTup (tCons (tVar 7) (tCons (tDGet (tVar 6) (tVar 9)) tNil)))) (ps := ps) (ls := ls.take i) (qs := rsP [ss] [se]) (ks := rsL [ss] [se] [] [] x.a) (by omega) hlen rsP_len (by rw [rsL_one]; simp) (no_clash hnd (fun y hy => hy) hall) (ev_var rfl hp6) (o_shift (by simp) (by simp) (by simp) (by simp) k1 (by simp) (by simp) (no_clash hnd (fun y hy => by rw [List.mem_singleton.mp hy]; exact hss) (fun y hy => by rw [List.mem_singleton.mp hy]; exact hse)) (hget (i := 8) hss rfl (by rw [ess]; rfl)) (ev_lp (ev_var rfl is_str) (hget (i := 9) hse rfl (by rw [ese]; rfl))))
    rw [rsL_one, etie, orP_in hall, orL_step hg.ln hx] at h1
    refine q_set (M := W0) (S := S6) (T := T6) h1 w6 st6.st fun S7 T7 H7 v7 st7 w7 p7 => ?_
    exact ⟨S7, T7, st6.trans st7, w7, st7.ss, v7, _, _, _, rfl, p7⟩
  · obtain ⟨v', x7, x8, x9, rfl, hp6⟩ := hJ
    rw [List.take_length] at hp6
    exact ⟨v', rfl, q S6 H6 v' (((((st1.trans st2).trans st3).trans stf).trans st6).out w6) hp6⟩
end
end Lw

namespace Lw
open PySem PySem.Spec PyProof.Rows L2 Fm
open PySem.W (Datum Tup T3 T4)
section
variable {K : PySem.W.Frag} {mg : Str → Option Value} {M : Wld} {σ : L2.St} {S : Hp} {ta tb tc : TE} {p : Addr} {ps qs : List Place} {ls ks : List Link} {X : XK}
/-! ### the mathematics of the cuts -/
theorem closed_and : ∀ l ∈ andL ps qs ls ks, l.b ∈ (andP ps qs).map (·.a) ∧ l.c ∈ (andP ps qs).map (·.a) := fun l hl => by
  unfold andL at hl
  have := (List.mem_filter.mp hl).2
  simpa only [Bool.and_eq_true, decide_eq_true_eq] using this
theorem closed_sub (h : Good ps ls) : ∀ l ∈ subL ls ks, l.b ∈ (subP ps qs ls ks).map (·.a) ∧ l.c ∈ (subP ps qs ls ks).map (·.a) := fun l hl => by
  have hm : l ∈ ls := (List.mem_filter.mp hl).1
  obtain ⟨_, h1, h2⟩ := h.lw l hm
  obtain ⟨x, hx, ex⟩ := List.mem_map.mp h1
  obtain ⟨y, hy, ey⟩ := List.mem_map.mp h2
  have key : ∀ z : Place, z ∈ ps → z.a ∈ endsOf (subL ls ks) → z.a ∈ (subP ps qs ls ks).map (·.a) := fun z hz hze => by
    refine List.mem_map.mpr ⟨z, ?_, rfl⟩
    unfold subP
    rw [List.mem_filter]
    exact ⟨hz, by simp [hze]⟩
  refine ⟨?_, ?_⟩
  · rw [← ex]
    exact key x hx (by rw [ex]; unfold endsOf; exact List.mem_append.mpr (.inl (List.mem_map.mpr ⟨l, hl, rfl⟩)))
  · rw [← ey]
    exact key y hy (by rw [ey]; unfold endsOf; exact List.mem_append.mpr (.inr (List.mem_map.mpr ⟨l, hl, rfl⟩)))
theorem inPat_of (h1 : ∀ x ∈ ps, x ∈ qs) (h2 : ∀ x ∈ ls, x ∈ ks) : inPat ps ls qs ks = true := by
  unfold inPat
  rw [Bool.and_eq_true, decide_eq_true_eq, decide_eq_true_eq, List.filter_eq_nil_iff, List.filter_eq_nil_iff]
  exact ⟨fun x hx => by simp [h1 x hx], fun x hx => by simp [h2 x hx]⟩
theorem mem_orP {x : Place} : x ∈ orP ps qs ↔ x ∈ ps ∨ x ∈ qs := by
  unfold orP
  rw [List.mem_append, List.mem_filter]
  by_cases h : x ∈ ps <;> simp [h]
theorem mem_orL {x : Link} : x ∈ orL ls ks ↔ x ∈ ls ∨ x ∈ ks := by
  unfold orL
  rw [List.mem_append, List.mem_filter]
  by_cases h : x ∈ ls <;> simp [h]
theorem and_sub {x : Place} (h : x ∈ andP ps qs) : x ∈ ps := (List.mem_filter.mp h).1
theorem andL_sub {x : Link} (h : x ∈ andL ps qs ls ks) : x ∈ ls := (List.mem_filter.mp (List.mem_filter.mp h).1).1
theorem sub_sub {x : Place} (h : x ∈ subP ps qs ls ks) : x ∈ ps := (List.mem_filter.mp h).1
theorem subL_sub {x : Link} (h : x ∈ subL ls ks) : x ∈ ls := (List.mem_filter.mp h).1
def lostL (ps qs : List Place) (ls ks : List Link) : List Link := ls.filter fun l => !decide (l ∈ andL ps qs ls ks) && !decide (l ∈ subL ls ks)
theorem whole (h : lostL ps qs ls ks = []) : (inPat (orP (andP ps qs) (subP ps qs ls ks)) (orL (andL ps qs ls ks) (subL ls ks)) ps ls && inPat ps ls (orP (andP ps qs) (subP ps qs ls ks)) (orL (andL ps qs ls ks) (subL ls ks))) = true := by
  unfold lostL at h
  rw [List.filter_eq_nil_iff] at h
  rw [Bool.and_eq_true]
  refine ⟨inPat_of (fun x hx => ?_) (fun x hx => ?_), inPat_of (fun x hx => ?_) (fun x hx => ?_)⟩
  · rcases mem_orP.mp hx with h | h
    · exact and_sub h
    · exact sub_sub h
  · rcases mem_orL.mp hx with h | h
    · exact andL_sub h
    · exact subL_sub h
  · rw [mem_orP]
    by_cases hq : x ∈ qs
    · exact .inl (List.mem_filter.mpr ⟨hx, by simp [hq]⟩)
    · exact .inr (List.mem_filter.mpr ⟨hx, by simp [hq]⟩)
  · rw [mem_orL]
    have := h x hx
    by_cases h1 : x ∈ andL ps qs ls ks
    · exact .inl h1
    · by_cases h2 : x ∈ subL ls ks
      · exact .inr h2
      · simp [h1, h2] at this
theorem sub_self : subP ps ps ls ls = [] := by
  have e : subL ls ls = [] := by
    unfold subL
    rw [List.filter_eq_nil_iff]
    intro x hx
    simp [hx]
  unfold subP
  rw [e, List.filter_eq_nil_iff]
  intro x hx
  simp [hx, endsOf]
theorem and_self (h : Good ps ls) : (inPat (andP ps ps) (andL ps ps ls ls) ps ls && inPat ps ls (andP ps ps) (andL ps ps ls ls)) = true := by
  have e1 : andP ps ps = ps := by
    unfold andP
    rw [List.filter_eq_self]
    intro x hx
    simp [hx]
  rw [Bool.and_eq_true]
  refine ⟨inPat_of (fun x hx => and_sub hx) (fun x hx => andL_sub hx), inPat_of (fun x hx => by rw [e1]; exact hx) (fun x hx => ?_)⟩
  unfold andL
  rw [List.mem_filter, List.mem_filter, e1]
  have := h.lw x hx
  exact ⟨⟨hx, by simp [hx]⟩, by rw [Bool.and_eq_true]; exact ⟨decide_eq_true this.2.1, decide_eq_true this.2.2⟩⟩
/-! ### calls -/
theorem cl_words {i : Nat} {n : Nat} (hn : n ≤ 25) (hi : σ[i]? = some (some (.ref p))) : Ev (PW p) (tCl (sp_law_words K) X (tCons (tVar i) (tCons (tC (.int n)) tNil))) σ S (fun S v => ∃ ws, Is K ws S v ∧ Words n ws) :=
  ev_clW1 (P1 := Is K (n : Int)) n is_mono hi ev_ic fun S a h => ⟨by rw [h.int], hn⟩
theorem cl_raw {i : Nat} {n : Nat} {ws : List Str} (hn : n ≤ 8) (hw : Words 9 ws) (hi : σ[i]? = some (some (.ref p))) (ha : Ev (PW p) ta σ S (Is K ws)) : Ev (PW p) (tCl (sp_law_raw K) X (tCons (tVar i) (tCons ta (tCons (tC (.int n)) tNil)))) σ S (fun S v => ∃ r : PL, Is K r S v ∧ Good r.1 r.2) :=
  ev_clW2 (P2 := Is K (n : Int)) (ws, n) is_mono is_mono hi ha ev_ic fun S a b h1 h2 => ⟨a, by rw [h2.int], h1, hw, hn⟩
theorem cl_pattern (hg : Good ps ls) (ha : Ev M ta σ S (Is K ps)) (hb : Ev M tb σ S (Is K ls)) : Ev M (tCl (sp_law_pattern K) X (tCons ta (tCons tb tNil))) σ S (Pat K ps ls) :=
  ev_cl2 (ps, ls) is_mono is_mono ha hb fun S a b h1 h2 => ⟨a, b, rfl, h1, h2, hg⟩
theorem cl_told (hl : ps.length ≤ 1000) (hx : Ev M ta σ S (Pat K ps ls)) (ha : Ev M tb σ S (Is K ps)) (hb : Ev M tc σ S (Is K ls)) : Ev M (tCl (sp_law_told K) X (tCons ta (tCons tb (tCons tc tNil)))) σ S (Is K true) :=
  ev_cl3 ((ps, ls), (ps, ls)) pat_mono is_mono is_mono hx ha hb fun S x a b h1 h2 h3 => ⟨x, a, b, rfl, h1, h2, h3, hl, rfl⟩
theorem pl_mono {r : PL} : Mono (Pat K r.1 r.2) := pat_mono
theorem lst3 {α : Type} {xs : List α} (h : xs.length = 3) {i : Nat} (hi : i < 3) : ∃ x, xs[i]? = some x ∧ x ∈ xs := by
  have : i < xs.length := by omega
  exact ⟨xs[i], List.getElem?_eq_getElem this, List.getElem_mem this⟩
abbrev Pats (K : PySem.W.Frag) (rs : List PL) : Hp → V → Prop := LstOf (fun r : PL => Pat K r.1 r.2) rs
theorem ev_pix {rs : List PL} {i j k : Nat} {r : PL} {v : V} (h : rs[i]? = some r) (hv : Pats K rs S v) (hj : σ[j]? = some (some v)) (hk : σ[k]? = some (some (.int i))) : Ev M (tOp (rIx K) (tVar j) (tVar k)) σ S (Pat K r.1 r.2) :=
  ev_ixO (E := fun r : PL => Pat K r.1 r.2) (fun _ => pat_mono) (ev_var hj hv) (ev_iv (K := K) (z := (i : Int)) hk) rfl h
theorem ev_pixC {rs : List PL} {i j : Nat} {r : PL} {v : V} (h : rs[i]? = some r) (hv : Pats K rs S v) (hj : σ[j]? = some (some v)) : Ev M (tOp (rIx K) (tVar j) (tC (.int i))) σ S (Pat K r.1 r.2) :=
  ev_ixO (E := fun r : PL => Pat K r.1 r.2) (fun _ => pat_mono) (ev_var hj hv) (ev_ic (K := K) (z := (i : Int))) rfl h
theorem ev_rix {rs : List PL} {i j k : Nat} {r : PL} {v : V} (h : rs[i]? = some r) (hv : Is K rs S v) (hj : σ[j]? = some (some v)) (hk : σ[k]? = some (some (.int i))) : Ev M (tOp (rIx K) (tVar j) (tVar k)) σ S (Is K r) :=
  ev_ix (ev_var hj hv) (ev_iv (K := K) (z := (i : Int)) hk) rfl h
end
end Lw

namespace Lw
open PySem PySem.Spec PyProof.Rows L2 Fm
open PySem.W (Datum Tup T3 T4)
section
variable {K : PySem.W.Frag} {mg : Str → Option Value} {M : Wld} {σ : L2.St} {S : Hp} {ta tb tc : TE} {p : Addr} {ps qs : List Place} {ls ks : List Link} {X : XK}
/-! ### shuffled -/
theorem dq_erase {vs : List V} {ds : List PyData} (h : DqAll K S vs ds) : ∀ k, DqAll K S (vs.eraseIdx k) (ds.eraseIdx k) := by
  induction vs generalizing ds with
  | nil => cases h; intro k; simpa using DqAll.nil
  | cons v vs ih =>
    cases h with
    | cons h r =>
      intro k
      cases k with
      | zero => simpa using r
      | succ k => simpa using DqAll.cons h (ih r k)
theorem erase_map {α β : Type} {f : α → β} : ∀ {xs : List α} {k : Nat}, (xs.map f).eraseIdx k = (xs.eraseIdx k).map f
  | [], _ => by simp
  | _ :: _, 0 => by simp
  | _ :: xs, k + 1 => by simpa using erase_map (xs := xs) (k := k)
theorem IsAll.erase {α : Type} [DecidableEq α] [Datum α] {xs : List α} {vs : List V} (h : IsAll K xs S vs) (k : Nat) : IsAll K (xs.eraseIdx k) S (vs.eraseIdx k) := by
  unfold IsAll
  rw [← erase_map]
  exact dq_erase h k
theorem erase_perm {α : Type} : ∀ {xs : List α} {k : Nat} {x : α}, xs[k]? = some x → (x :: xs.eraseIdx k).Perm xs
  | [], _, _, h => by simp at h
  | y :: xs, 0, x, h => by
    have : y = x := by simpa using h
    subst this
    simp
  | y :: xs, k + 1, x, h => by
    have := erase_perm (xs := xs) (k := k) (x := x) (by simpa using h)
    simp only [List.eraseIdx_cons_succ]
    exact (List.Perm.swap y x _).trans (this.cons y)
theorem shuf {α : Type} [DecidableEq α] [Datum α] (H : Hp) (Q : VK) (xs : List α) (p : Addr) (a : V) (T : Hp) (w : (PW p).W T H) (s : Same S T) (ha : Is K xs S a) (hl : xs.length ≤ 1000) (q : ∀ S' T' H' v, Step S T S' T' → (PW p).W T' H' → (∃ ys : List α, Is K ys S' v ∧ ys.Perm xs) → Q v H') :
    t_law_shuffled K { nx := fun _ H' => Q .non H', rt := Q } (start N_law_shuffled [.ref p, a]) H := by
  obtain ⟨pa, vs, rfl, h1, h2⟩ := ha.lst
  refine ⟨_, rfl, pa, vs, rfl, .inl (.inl (Same.rd (s.trans ((PW p).sub w)) h1)), fun D2 n2 => ?_⟩
  have nT2 := ((PW p).sub w).free n2
  have st1 : Step S T S (upd T D2 (.lst vs)) := Step.tmp s nT2
  have w1 := (PW p).new (o := .lst vs) w n2
  have nS2 := s.free nT2
  dsimp only
  refine q_nil (M := PW p) (S := S) w1 st1 fun D3 nT3' st2 nS3 w2 => ?_
  have hne : D2 ≠ D3 := fun e => by rw [← e, upd_same] at nT3'; cases nT3'
  have nT3 : T D3 = none := by rwa [upd_ne (Ne.symm hne)] at nT3'
  dsimp only
  refine for_acc (M := PW p) (S := S) (S0 := S) (T0 := T) (evi_range (K := K) (ev_len (ev_var rfl ha)) (by omega) (by omega)) (fun _ _ _ _ _ h => h) w2 st2 (fun i σ S2 T2 => ∃ (us ws : List V) (ys zs : List α) (x : Option V), σ = [some (.ref p), some (.ref pa), some (.ref D2), some (.ref D3), x] ∧ T2 D2 = some (.lst ws) ∧ S2 D2 = none ∧ T2 D3 = some (.lst us) ∧ S2 D3 = none ∧ IsAll K ys S2 us ∧ IsAll K zs S2 ws ∧ (ys ++ zs).Perm xs ∧ ys.length = i) (fun S1 T1 st => ⟨[], vs, [], xs, none, rfl, st.tt _ _ (by rw [upd_ne hne, upd_same]), st.nw D2 (by rw [upd_ne hne, upd_same]; simp) nS2, st.tt _ _ upd_same, st.nw D3 (by rw [upd_same]; simp) nS3, .nil, h2.mono st.ss, .refl _, rfl⟩) (fun i v σ2 S2 T2 H2 hi st2 e2 w2 hJ hv => ?_) (fun σ2 S2 T2 H2 st2 e2 w2 hJ => ?_)
  · obtain ⟨us, ws, ys, zs, x, rfl, hD2, hS2, hD3, hS3, hys, hzs, hp, hyl⟩ := hJ
    have hlen := hp.length_eq
    rw [List.length_append] at hlen
    have hi' : i < xs.length := by simpa using hi
    have hzl : 0 < zs.length := by omega
    refine ⟨.ref D3, rfl, .inl ⟨rfl, us, SqL.of (((PW p).sub w2) _ _ hD3)⟩, .ref D2, rfl, .inl ⟨rfl, ws, SqL.of (((PW p).sub w2) _ _ hD2)⟩, ?_⟩
    refine (cl_draw (K := K) (X := E0) (n := (zs.length : Int)) (by omega) (Nat.lt_of_le_of_lt (Nat.log2_le_self _) (by omega)) rfl (ev_len (ev_var rfl (is_lst (.inl hD2) (hzs.mono st2.st))))) T2 H2 w2 (Same.refl _) _ fun S3 T3 H3 v3 st3 w3 ⟨r, e3, h0, hr⟩ => ?_
    subst e3
    have hk : r.toNat < zs.length := by omega
    obtain ⟨y, hy, hyv⟩ := hzs.at_ (List.getElem?_eq_getElem hk)
    have hD2' := st3.tt _ _ hD2
    have hD3' := st3.tt _ _ hD3
    refine ⟨D2, ws, r, r.toNat, y, rfl, rfl, ((PW p).sub w3) _ _ hD2', by omega, by omega, ?_, hy, ?_⟩
    · have hwl := hzs.len
      show seqIndex? r ws.length = some r.toNat
      unfold seqIndex?
      simp only [show ¬ (r < 0) by omega, if_false]
      rw [if_pos (by simp only [Bool.and_eq_true, decide_eq_true_eq]; omega)]
    have w4 := (PW p).set (o' := .lst (ws.eraseIdx r.toNat)) w3 hD2'
    refine ⟨D3, us, y, rfl, rfl, ((PW p).sub w4) _ _ (by rw [upd_ne (Ne.symm hne)]; exact hD3'), ?_, ?_⟩
    · rw [hys.len]
      exact Nat.lt_of_le_of_lt (by omega : ys.length ≤ 1000) (by decide)
    have w5 := (PW p).set (o' := .lst (us ++ [y])) w4 (by rw [upd_ne (Ne.symm hne)]; exact hD3')
    have stk := st2.trans (Step.keep st2.st st3)
    refine ⟨S2, _, (stk.set nT2 hS2).set nT3 hS3, w5, Same.refl _, us ++ [y], ws.eraseIdx r.toNat, ys ++ [zs[r.toNat]], zs.eraseIdx r.toNat, some v, rfl, by rw [upd_ne hne, upd_same], hS2, upd_same, hS3, isAll_snoc hys hyv, IsAll.erase hzs _, ?_, by rw [List.length_append, hyl]; rfl⟩
    rw [List.append_assoc]
    exact ((erase_perm (List.getElem?_eq_getElem hk)).append_left ys).trans hp
  · obtain ⟨us, ws, ys, zs, x, rfl, hD2, hS2, hD3, hS3, hys, hzs, hp, hyl⟩ := hJ
    have hlen := hp.length_eq
    rw [List.length_append] at hlen
    have hz : zs = [] := List.length_eq_zero_iff.mp (by have : ys.length = xs.length := by simpa using hyl
                                                        omega)
    subst hz
    rw [List.append_nil] at hp
    exact ⟨.ref D3, rfl, q _ T2 H2 _ (st2.freeze nT3 hD3) w2 ⟨ys, is_lst (.inl upd_same) (hys.mono (same_new hS3)), hp⟩⟩
theorem pure_law_shuffled (H : Hp) (vs : List V) (Q : VK) (E : XK) (h : sp_law_shuffled K vs H Q E) : t_law_shuffled K { nx := fun _ H' => Q .non H', rt := Q } (start N_law_shuffled vs) H := by
  obtain ⟨d, p, rest, S, T, rfl, w, s, ⟨a, rfl, ha⟩, q⟩ := h
  cases d with
  | inl xs => exact shuf H Q xs p a T w s ha.1 ha.2 q
  | inr xs => exact shuf H Q xs p a T w s ha.1 ha.2 q
/-! ### within -/
theorem pure_law_within (H : Hp) (vs : List V) (Q : VK) (E : XK) (h : sp_law_within K vs H Q E) : t_law_within K { nx := fun _ H' => Q .non H', rt := Q } (start N_law_within vs) H := by
  obtain ⟨⟨⟨ps, ls⟩, ⟨qs, ks⟩⟩, S, s, ⟨a, b, rfl, ha, hb, l1, l2⟩, q⟩ := h
  have ha : Is K (ps, ls) S a := ha
  have hb : Is K (qs, ks) S b := hb
  refine q_set (M := W0) (S := S) (T := H) (P := Is K (ps.filter fun p => !decide (p ∈ qs))) (ev_ni' (xs := ps) (ys := qs) (sz1 l1) (evi_list (ev_fst (ev_var rfl ha))) (fun S3 v e => (ev_fst (ev_var rfl (hb.mono e))).imp fun _ _ _ h => .inl h) fun v => rfl) (Same.refl _) s fun S1 T1 H1 v1 st1 w1 p1 => ?_
  exact q_ret (M := W0) (S := S1) (T := T1) (ev_andV (ev_eq (ev_var rfl p1) ev_l0) fun _ => ev_eq (ev_ni' (xs := ls) (ys := ks) (sz1 l2) (evi_list (ev_snd (ev_var rfl (ha.mono st1.ss)))) (fun S3 v e => (ev_snd (ev_var rfl (hb.mono (st1.ss.trans e)))).imp fun _ _ _ h => .inl h) fun v => rfl) ev_l0) w1 st1.st fun S' T' H' v st w p => q S' H' v ((st1.trans st).out w) p
/-! ### the law -/
theorem good_perm (g : Good ps ls) (h1 : qs.Perm ps) (h2 : ks.Perm ls) : Good qs ks where
  nd := (h1.map (·.a)).nodup_iff.mpr g.nd
  wd := fun q hq => g.wd q (h1.mem_iff.mp hq)
  ln := h2.nodup_iff.mpr g.ln
  lw := fun l hl => by
    obtain ⟨a, b, c⟩ := g.lw l (h2.mem_iff.mp hl)
    exact ⟨a, (h1.map (·.a)).mem_iff.mpr b, (h1.map (·.a)).mem_iff.mpr c⟩
  sp := by rw [h1.length_eq]; exact g.sp
  sl := by rw [h2.length_eq]; exact g.sl
theorem good_take (g : Good ps ls) (n : Nat) : Good ps (ls.take n) where
  nd := g.nd
  wd := g.wd
  ln := g.ln.sublist (List.take_sublist _ _)
  lw := fun l hl => g.lw l (List.mem_of_mem_take hl)
  sp := g.sp
  sl := by rw [List.length_take]; have := g.sl; omega
theorem lstN {α : Type} {xs : List α} {n : Nat} (h : xs.length = n) {i : Nat} (hi : i < n) : ∃ x, xs[i]? = some x ∧ x ∈ xs := by
  have : i < xs.length := by omega
  exact ⟨xs[i], List.getElem?_eq_getElem this, List.getElem_mem this⟩
theorem ev_callWL {δ : Type} {l : Addr} {o : HO} {pre : δ → Hp → List V → Prop} {post : δ → Hp → V → Prop} {t : TA} {i : Nat} (d : δ) (hp : σ[i]? = some (some (.ref p))) (ha : EvA (WL (PW p) l o) t σ S (pre d)) : Ev (WL (PW p) l o) (tCl (SpW pre post) X (tCons (tVar i) t)) σ S (post d) := fun T H w s Q q =>
  ⟨.ref p, hp, ha T H w s _ fun S1 T1 H1 vs st1 w1 p1 => ⟨d, p, vs, S1, upd T1 l o, rfl, w1.2, st1.st.trans (same_new w1.1), p1, fun S' T' H' v stp w' po => by
    obtain ⟨T2, st2, w2⟩ := WL.back w1.1 st1.st stp w'
    exact q S' T2 H' v (st1.trans st2) w2 po⟩⟩
theorem ev_clWL1 {δ : Type} {l : Addr} {o : HO} {pre : δ → Hp → List V → Prop} {post : δ → Hp → V → Prop} {P1 : Hp → V → Prop} {i : Nat} (d : δ) (m1 : Mono P1) (hp : σ[i]? = some (some (.ref p))) (ha : Ev (WL (PW p) l o) ta σ S P1) (hq : ∀ S a, P1 S a → pre d S [a]) : Ev (WL (PW p) l o) (tCl (SpW pre post) X (tCons (tVar i) (tCons ta tNil))) σ S (post d) :=
  ev_callWL d hp fun T H w s Q q => (eva_1 m1 ha) T H w s Q fun S' T' H' vs st w' ⟨a, e, h⟩ => q S' T' H' vs st w' (by rw [e]; exact hq _ _ h)
def RawP (K : PySem.W.Frag) : Hp → V → Prop := fun S v => ∃ r : PL, Is K r S v ∧ Good r.1 r.2
theorem rawP_mono : Mono (RawP K) := fun _ _ _ e ⟨r, h1, h2⟩ => ⟨r, h1.mono e, h2⟩
theorem sum_words : ∀ {ws : List Str}, (∀ w ∈ ws, isW w = true) → (ws.map (·.length)).sum ≤ 8 * ws.length
  | [], _ => by simp
  | w :: r, h => by
    have h1 := (word_len (h w (List.mem_cons_self ..))).1
    have h2 := sum_words (ws := r) fun x hx => h x (List.mem_cons_of_mem _ hx)
    rw [List.map_cons, List.sum_cons, List.length_cons]
    omega
theorem cl_within (l1 : ps.length ≤ 1000) (l2 : ls.length ≤ 1000) (ha : Ev M ta σ S (Is K (ps, ls))) (hb : Ev M tb σ S (Is K (qs, ks))) : Ev M (tCl (sp_law_within K) X (tCons ta (tCons tb tNil))) σ S (Is K (inPat ps ls qs ks)) :=
  ev_cl2 ((ps, ls), (qs, ks)) is_mono is_mono ha hb fun S a b h1 h2 => ⟨a, b, rfl, h1, h2, l1, l2⟩
theorem pure_law (T : Txt K mg) (H : Hp) (vs : List V) (Q : VK) (E : XK) (h : sp_law K vs H Q E) : t_law K { nx := fun _ H' => Q .non H', rt := Q } (start N_law vs) H := by
  obtain ⟨a, ns, rfl, hr, hl, q⟩ := h
  refine ⟨.ref a, rfl, a, ns, rfl, hr, hl, fun p H1 w1 => ?_⟩
  dsimp only
  refine q_set (M := PW p) (S := H) (T := H) (cl_words (K := K) (X := E0) (n := 9) (by decide) rfl) w1 (Same.refl _) fun S2 T2 H2 vw st2 w2 ⟨ws, hw, hww⟩ => ?_
  dsimp only
  have hraw : Ev (PW p) (tCl (sp_law_raw K) E0 (tCons (tVar 1) (tCons (tVar 2) (tCons (tC (.int 5)) tNil)))) [some (.ref a), some (.ref p), some vw, none, none, none, none, none, none, none, none, none, none, none, none] S2 (RawP K) := cl_raw (X := E0) (n := 5) (by decide) hww rfl (ev_var rfl hw)
  refine q_wlst (M := PW p) (S := S2) (T := T2) (PA := All2 (RawP K) (RawP K)) (eva_2 rawP_mono rawP_mono hraw hraw) (fun _ vs ⟨_, _, e, _⟩ => by subst e; exact small_size (by simp)) w2 st2.st fun S3 T3 H3 l vs st3 nl w3 ⟨v0, v1, e3, ⟨⟨ps, ls⟩, hr0, hg0⟩, ⟨r1, hr1, hg1⟩⟩ => ?_
  subst e3
  have l1 : ps.length ≤ 20 := hg0.sp
  have l2 : ls.length ≤ 20 := hg0.sl
  dsimp only
  -- the parts in another order
  refine q_wapp (M := PW p) (S := S3) (T := T3) (P := fun S v => ∃ r : PL, Is K r S v ∧ r.1.Perm ps ∧ r.2.Perm ls) rfl w3 st3.st (Nat.lt_of_lt_of_le (by simp : _ < 1000) (by decide)) ?_ fun S4 T4 H4 v2 st4 w4 ⟨⟨qs, ks⟩, hr2, hp2, hk2⟩ => ?_
  · refine ev_dispT (PA := All2 (fun S v => ∃ ys : List Place, Is K ys S v ∧ ys.Perm ps) (fun S v => ∃ ys : List Link, Is K ys S v ∧ ys.Perm ls)) (eva_2 (fun _ _ _ e ⟨y, h1, h2⟩ => ⟨y, h1.mono e, h2⟩) (fun _ _ _ e ⟨y, h1, h2⟩ => ⟨y, h1.mono e, h2⟩) ?_ ?_) (fun _ vs ⟨_, _, e, _⟩ => by subst e; exact small_size (by simp)) fun S5 vs pp ⟨x, y, e, ⟨ys, h1, h2⟩, ⟨zs, h3, h4⟩⟩ np => ?_
    · exact ev_clWL1 (δ := List Place ⊕ List Link) (P1 := Is K ps) (.inl ps) is_mono rfl (ev_fst (ev_wix (n := 0) rfl rfl rfl hr0)) fun S a h => ⟨a, rfl, h, by omega⟩
    · exact ev_clWL1 (δ := List Place ⊕ List Link) (P1 := Is K ls) (.inr ls) is_mono rfl (ev_snd (ev_wix (n := 0) rfl rfl rfl hr0)) fun S a h => ⟨a, rfl, h, by omega⟩
    · subst e
      exact ⟨(ys, zs), Dq.tup (.inl (.inl upd_same)) (.cons (h1.mono (same_new np)) (.cons (h3.mono (same_new np)) .nil)), h2, h4⟩
  have hr0' := hr0.mono st4.ss
  dsimp only
  -- where the links are cut
  refine q_set (M := WL (PW p) l (.lst ([v0, v1] ++ [v2]))) (S := S4) (T := T4) (P := Dr ((ls.length : Int) + 1)) (ev_clWL1 (δ := Int) (P1 := Is K ((ls.length : Int) + 1)) ((ls.length : Int) + 1) is_mono rfl (ev_add (ev_len (ev_snd (ev_wix (n := 0) rfl rfl rfl hr0'))) ev_ic) fun S a h => ⟨by rw [h.int], by omega, Nat.lt_of_le_of_lt (Nat.log2_le_self _) (by omega)⟩) w4 st4.st fun S5 T5 H5 v5 st5 w5 ⟨cu, e5, hc0, hc1⟩ => ?_
  subst e5
  obtain ⟨n, rfl⟩ : ∃ n : Nat, cu = (n : Int) := ⟨cu.toNat, by omega⟩
  have hr05 := hr0'.mono st5.ss
  dsimp only
  refine q_wapp (M := PW p) (S := S5) (T := T5) (P := Is K (ps, ls.take n)) rfl w5 st5.st (Nat.lt_of_lt_of_le (by simp : _ < 1000) (by decide)) (ev_pair (ev_fst (ev_wix (n := 0) rfl rfl rfl hr05)) ((ev_cut (ev_snd (ev_wix (n := 0) rfl rfl rfl hr05)) evo_none (evo_some (K := K) (ev_iv rfl))).eq (cutL_to _ _))) fun S6 T6 H6 v3 st6 w6 hr3 => ?_
  have nl6 : S6 l = none := WL.free w6 st6.st
  obtain ⟨S7, T7, e7, e7', st27, st67, w7⟩ := WL.close w6 (((st3.trans st4).trans st5).trans st6) nl
  have e37 := ((st4.trans st5).trans (st6.trans st67)).ss
  have hrs : Is K [((ps, ls) : PL), r1, (qs, ks), (ps, ls.take n)] S7 (.ref l) := by
    refine is_lst (vs := [v0, v1, v2, v3]) (.inl (by rw [e7, upd_same]; rfl)) (.cons (hr0.mono e37) (.cons (hr1.mono e37) (.cons (hr2.mono ((st5.trans st6).trans st67).ss) (.cons (hr3.mono st67.ss) .nil))))
  have hgood : ∀ r ∈ [((ps, ls) : PL), r1, (qs, ks), (ps, ls.take n)], Good r.1 r.2 := by
    intro r hr
    simp only [List.mem_cons, List.not_mem_nil, or_false] at hr
    rcases hr with rfl | rfl | rfl | rfl
    · exact hg0
    · exact hg1
    · exact good_perm hg0 hp2 hk2
    · exact good_take hg0 n
  have hlen : [((ps, ls) : PL), r1, (qs, ks), (ps, ls.take n)].length = 4 := rfl
  have hr_0 : [((ps, ls) : PL), r1, (qs, ks), (ps, ls.take n)][0]? = some (ps, ls) := rfl
  have hr_2 : [((ps, ls) : PL), r1, (qs, ks), (ps, ls.take n)][2]? = some (qs, ks) := rfl
  generalize [((ps, ls) : PL), r1, (qs, ks), (ps, ls.take n)] = rs at hrs hgood hlen hr_0 hr_2
  have hw7 := hw.mono st27.ss
  clear e7 e7' w6 nl6 hr3 hr2 hr0 hr0' hr05 hr1 w5 w4 w3
  dsimp only
  refine q_set (M := PW p) (S := S7) (T := T7) (P := Pats K rs) ((ev_compO (K := K) (xs := rs) (p := fun _ => true) (E := fun r : PL => Pat K r.1 r.2) (fun _ => pat_mono) (evi_list (ev_var rfl hrs)) (sz1 (by omega)) fun S4 v x hx e hv => ⟨evT_yes, fun _ => cl_pattern (X := E0) (hgood x hx) (ev_fst (a := x.1) (b := x.2) (ev_var rfl hv)) (ev_snd (a := x.1) (b := x.2) (ev_var rfl hv))⟩).imp fun _ _ _ h => by rwa [filter_yes] at h) w7 st27.st fun S8 T8 H8 vp st8 w8 hps => ?_
  have hw8 := hw7.mono st8.ss
  have hr8 := hrs.mono st8.ss
  dsimp only
  refine for_ev (M := PW p) (S := S8) (T := T8) (evi_range (K := K) (ev_ic (z := 4)) (by decide) (by decide)) (fun _ _ _ _ _ h => h) w8 st8.st (fun i σ S T => ∃ x6 x7 x8 x9, σ = [some (.ref a), some (.ref p), some vw, some (.ref l), some (.int n), some vp, x6, x7, x8, x9, none, none, none, none, none]) (fun S5 T5 st => ⟨none, none, none, none, rfl⟩) (fun i v σ5 S9 T9 H9 hi st9 w9 hJ hv => ?_) (fun σ5 S9 T9 H9 st9 w9 hJ => ?_)
  · obtain ⟨x6, x7, x8, x9, rfl⟩ := hJ
    subst hv
    show tFor _ _ _ _ _ _
    refine for_ev (M := PW p) (S := S9) (T := T9) (evi_range (K := K) (ev_ic (z := 4)) (by decide) (by decide)) (fun _ _ _ _ _ h => h) w9 st9.st (fun j σ S T => ∃ x7 x8 x9, σ = [some (.ref a), some (.ref p), some vw, some (.ref l), some (.int n), some vp, some (.int i), x7, x8, x9, none, none, none, none, none]) (fun S6 T6 st => ⟨x7, x8, x9, rfl⟩) (fun j v σ6 S6 T6 H6 hj st6 w6 hJ hv => ?_) (fun σ6 S6 T6 H6 st6 w6 hJ => ?_)
    · clear x7 x8 x9
      obtain ⟨x7, x8, x9, rfl⟩ := hJ
      subst hv
      obtain ⟨⟨as, bs⟩, hri, hmi⟩ := lstN hlen hi
      obtain ⟨⟨cs, ds⟩, hrj, hmj⟩ := lstN hlen hj
      have m1 : as.length ≤ 20 := (hgood _ hmi).sp
      have m2 : bs.length ≤ 20 := (hgood _ hmi).sl
      have m3 : cs.length ≤ 20 := (hgood _ hmj).sp
      have m4 : ds.length ≤ 20 := (hgood _ hmj).sl
      have e86 := st9.ss.trans st6.ss
      have hps6 := LstOf.mono (fun r : PL => pl_mono) _ _ _ e86 hps
      have hr6 := hr8.mono e86
      refine q_set (M := PW p) (S := S6) (T := T6) (P := Is K (inPat as bs cs ds)) (cl_within (X := E0) (by omega) (by omega) (ev_rix hri hr6 rfl rfl) (ev_rix hrj hr6 rfl rfl)) w6 st6.st fun S7 T7 H7 v7 st7 w7 p7 => ?_
      dsimp only
      refine q_set (M := PW p) (S := S7) (T := T7) (P := Is K (inPat as bs cs ds && inPat cs ds as bs)) (ev_andV (ev_var rfl p7) fun _ => cl_within (X := E0) (by omega) (by omega) (ev_rix hrj (hr6.mono st7.ss) rfl rfl) (ev_rix hri (hr6.mono st7.ss) rfl rfl)) w7 st7.st fun S8 T8 H8 v8 st8 w8 p8 => ?_
      have p7' := p7.mono st8.ss
      have hps8 := LstOf.mono (fun r : PL => pl_mono) _ _ _ (st7.ss.trans st8.ss) hps6
      dsimp only
      refine q_if (M := PW p) (S := S8) (T := T8) (ev_or (ev_test (K := K) (ev_ne (o_inP (X := E0) (ps := cs) (ls := ds) (qs := as) (ks := bs) (by omega) (by omega) (by omega) (ev_pix hri hps8 rfl rfl) (ev_pix hrj hps8 rfl rfl)) (ev_var rfl p7'))) fun _ => ev_test (K := K) (ev_ne (o_eq T (X := E0) (ps := as) (ls := bs) (qs := cs) (ks := ds) (by omega) (by omega) (by omega) (by omega) (ev_pix hri hps8 rfl rfl) (ev_pix hrj hps8 rfl rfl)) (ev_var rfl p8))) w8 st8.st (fun _ _ _ _ _ h => by simp at h) (fun S10 T10 H10 st10 w10 _ => ?_)
      have hps10 := LstOf.mono (fun r : PL => pl_mono) _ _ _ st10.ss hps8
      refine q_if (M := PW p) (S := S10) (T := T10) (ev_test (K := K) (ev_eq (o_ne T (X := E0) (ps := as) (ls := bs) (qs := cs) (ks := ds) (by omega) (by omega) (by omega) (by omega) (ev_pix hri hps10 rfl rfl) (ev_pix hrj hps10 rfl rfl)) (ev_var rfl (p8.mono st10.ss)))) w10 st10.st (fun _ _ _ _ _ h => by generalize (inPat as bs cs ds && inPat cs ds as bs) = b at h; cases b <;> simp at h) (fun S11 T11 H11 st11 w11 _ => ?_)
      have stz := ((st7.trans st8).trans st10).trans st11
      exact ⟨S11, T11, st6.trans stz, w11, stz.ss, _, _, _, rfl⟩
    · obtain ⟨x7, x8, x9, rfl⟩ := hJ
      exact ⟨S6, T6, st9.trans st6, w6, st6.ss, _, _, _, _, rfl⟩
  · obtain ⟨x6, x7, x8, x9, rfl⟩ := hJ
    have hps9 := LstOf.mono (fun r : PL => pl_mono) _ _ _ st9.ss hps
    have hw9 := hw8.mono st9.ss
    dsimp only
    refine for_ev (M := PW p) (S := S9) (T := T9) (evi_range (K := K) (ev_ic (z := 4)) (by decide) (by decide)) (fun _ _ _ _ _ h => h) w9 st9.st (fun i σ S T => ∃ x10 x11 x12, σ = [some (.ref a), some (.ref p), some vw, some (.ref l), some (.int n), some vp, x6, x7, x8, x9, x10, x11, x12, none, none]) (fun S6 T6 st => ⟨none, none, none, rfl⟩) (fun i v σ6 S6 T6 H6 hi st6 w6 hJ hv => ?_) (fun σ6 S6 T6 H6 st6 w6 hJ => ?_)
    · obtain ⟨x10, x11, x12, rfl⟩ := hJ
      subst hv
      obtain ⟨⟨as, bs⟩, hri, hmi⟩ := lstN hlen hi
      have m1 : as.length ≤ 20 := (hgood _ hmi).sp
      have m2 : bs.length ≤ 20 := (hgood _ hmi).sl
      have hr6 := hr8.mono (st9.ss.trans st6.ss)
      have hps6 := LstOf.mono (fun r : PL => pl_mono) _ _ _ st6.ss hps9
      refine q_set (M := PW p) (S := S6) (T := T6) (P := Is K (as.map (·.a))) ((ev_comp (p := fun _ => true) (f := fun x : Place => x.a) (evi_list (ev_fst (a := as) (b := bs) (ev_rix hri hr6 rfl rfl))) (sz1 (by omega)) fun S1 v x _ _ hv => ⟨evT_yes, fun _ => ev_a (ev_var rfl hv)⟩).eq (by rw [filter_yes])) w6 st6.st fun S7 T7 H7 v7 st7 w7 p7 => ?_
      have hw7 := hw9.mono (st6.ss.trans st7.ss)
      have hps7 := LstOf.mono (fun r : PL => pl_mono) _ _ _ st7.ss hps6
      have hwl := hww.len
      have hsum := sum_words hww.wd
      dsimp only
      refine for_ev (M := PW p) (S := S7) (T := T7) (evi_list (xs := ws ++ [("" : Str), Txt.join "" ws]) (ev_addL (ev_var rfl hw7) (ev_dispL (eva_consL (a := ("" : Str)) ev_sc (eva_consL (ev_join ev_sc (ev_var rfl hw7) (by show _ + _ * 0 ≤ _; omega)) eva_nilL)) (small_size (by simp))) (Nat.le_trans (by show ws.length + 2 ≤ 1000; omega : _ ≤ 1000) (by decide)))) itm_mono w7 st7.st (fun k σ S T => ∃ x12, σ = [some (.ref a), some (.ref p), some vw, some (.ref l), some (.int n), some vp, x6, x7, x8, x9, some (.int i), some v7, x12, none, none]) (fun S13 T13 st => ⟨x12, rfl⟩) (fun k v σ13 S13 T13 H13 hk st13 w13 hJ ⟨z, hz, hv⟩ => ?_) (fun σ13 S13 T13 H13 st13 w13 hJ => ?_)
      · obtain ⟨x12, rfl⟩ := hJ
        have hv' := hv.str
        subst hv'
        show tIfS _ _ _ _ _ _
        refine q_if (M := PW p) (S := S13) (T := T13) (ev_test (K := K) (ev_ne (o_inS (X := E0) (z := z) (ps := as) (ls := bs) (by omega) (ev_var rfl is_str) (ev_pix hri (LstOf.mono (fun r : PL => pl_mono) _ _ _ st13.ss hps7) rfl rfl)) (ev_in (ev_var rfl (is_str (x := z))) (ev_var rfl (p7.mono st13.ss))))) w13 st13.st (fun _ _ _ _ _ h => by simp at h) (fun S14 T14 H14 st14 w14 _ => ?_)
        exact ⟨S14, T14, st13.trans st14, w14, st14.ss, _, rfl⟩
      · obtain ⟨x12, rfl⟩ := hJ
        have e613 := st7.ss.trans st13.ss
        have hr13 := hr6.mono e613
        have hps13 := LstOf.mono (fun r : PL => pl_mono) _ _ _ e613 hps6
        dsimp only
        refine q_if (M := PW p) (S := S13) (T := T13) (ev_or (ev_not (ev_tB (cl_told (K := K) (X := E0) (ps := as) (ls := bs) (by omega) (ev_pix hri hps13 rfl rfl) (ev_fst (a := as) (b := bs) (ev_rix hri hr13 rfl rfl)) (ev_snd (a := as) (b := bs) (ev_rix hri hr13 rfl rfl))))) fun _ => ev_test (K := K) (o_eqX (X := E0) (ps := as) (ls := bs) (P2 := Is K (Tup.mk as)) T.nf_tuple T.iP_tuple is_mono (fun S H y e h => by obtain ⟨a, vs, rfl, h1, _⟩ := h.tup; exact ty_tup (Same.tup e h1)) (by omega) (by omega) (ev_pix hri hps13 rfl rfl) (ev_pl T (ps := as) (ls := bs) (ev_pix hri hps13 rfl rfl)))) w13 st13.st (fun _ _ _ _ _ h => by simp at h) (fun S14 T14 H14 st14 w14 _ => ?_)
        have stz := (st7.trans st13).trans st14
        exact ⟨S14, T14, st6.trans stz, w14, stz.ss, _, _, _, rfl⟩
    · obtain ⟨x10, x11, x12, rfl⟩ := hJ
      have hps6 := LstOf.mono (fun r : PL => pl_mono) _ _ _ st6.ss hps9
      have hw6 := hw9.mono st6.ss
      have hwl := hww.len
      obtain ⟨w0, hw0, _⟩ := lstN hwl (i := 0) (by decide)
      have hp2 : qs.Perm ps := hp2
      have hk2 : ks.Perm ls := hk2
      have m1 := hp2.length_eq
      have m2 := hk2.length_eq
      have lE : (orP ps qs).length ≤ 1000 := by
        unfold orP
        rw [List.length_append]
        have := List.length_filter_le (fun q => !decide (q ∈ ps)) qs
        omega
      dsimp only
      refine q_ret (M := PW p) (S := S6) (T := T6) (P := Is K true) ((ev_andV (o_inP (X := E0) (ps := orP ps qs) (ls := orL ls ks) (qs := ps) (ks := ls) lE (by omega) (by omega) (ev_pixC (i := 0) hr_0 hps6 rfl) (o_or (X := E0) (ps := ps) (ls := ls) (qs := qs) (ks := ks) (by omega) (by omega) (by omega) (by omega) (no_clash hg0.nd (fun x hx => hx) (fun x hx => hp2.mem_iff.mp hx)) (ev_pixC (i := 0) hr_0 hps6 rfl) (ev_pixC (i := 2) hr_2 hps6 rfl))) fun _ => ev_andV (ev_notV (o_eqX (X := E0) (ps := ps) (ls := ls) (P2 := Is K (0 : Int)) T.nf_int T.iP_int is_mono (fun S H y e h => by rw [h.int]; exact .base (.int 0)) (by omega) (by omega) (ev_pixC (i := 0) hr_0 hps6 rfl) ev_ic)) fun _ => ev_notV (o_eqX (X := E0) (ps := ps) (ls := ls) (P2 := Is K w0) T.nf_str T.iP_str is_mono (fun S H y e h => by rw [h.str]; exact ty_str) (by omega) (by omega) (ev_pixC (i := 0) hr_0 hps6 rfl) (ev_ix (i := 0) (ev_var rfl hw6) ev_ic rfl hw0))).eq ?_) w6 st6.st fun S7 T7 H7 v7 st7 w7 p7 => ?_
      · rw [inPat_of (fun x hx => mem_orP.mpr (.inl hx)) (fun x hx => mem_orL.mpr (.inl hx))]; rfl
      · rw [p7.bl]; exact q H7
end
end Lw

namespace Lw
open PySem PySem.Spec PyProof.Rows L2 Fm
open PySem.W (Datum Tup T3 T4)
def fa : List (PySem.W.Frag → Bool) := [fun K => (He.Fa.glo "is_word").ok K,
  fun K => (He.Fa.glo "clash").ok K,
  fun K => (He.Fa.glo "kept_ends").ok K,
  fun K => (He.Fa.glo "_law_pool").ok K,
  fun K => (He.Fa.glo "_law_draw").ok K,
  fun K => (He.Fa.glo "_law_word").ok K,
  fun K => (He.Fa.glo "_law_words").ok K,
  fun K => (He.Fa.glo "_law_raw").ok K,
  fun K => (He.Fa.glo "_law_pattern").ok K,
  fun K => (He.Fa.glo "_law_told").ok K,
  fun K => (He.Fa.glo "_law_shuffled").ok K,
  fun K => (He.Fa.glo "_law_within").ok K,
  fun K => (He.Fa.glo "law").ok K,
  fun K => (He.Fa.glo "Pattern").ok K,
  fun K => (He.Fa.cls "Pattern").ok K,
  fun K => PySem.W.selfFirst K (He.ga K "Pattern"),
  fun K => (He.Fa.mkr "Pattern").ok K,
  fun K => (He.Fa.noat "Pattern" "places").ok K,
  fun K => (He.Fa.noat "Pattern" "links").ok K,
  fun K => statB K (He.ga K "Pattern") "place",
  fun K => (He.Fa.meth "Pattern" "__or__").ok K,
  fun K => (He.Fa.meth "Pattern" "__and__").ok K,
  fun K => (He.Fa.meth "Pattern" "__sub__").ok K,
  fun K => (He.Fa.meth "Pattern" "__rshift__").ok K,
  fun K => (He.Fa.meth "Pattern" "__contains__").ok K,
  fun K => (He.Fa.meth "Pattern" "__len__").ok K,
  fun K => (He.Fa.meth "Pattern" "__eq__").ok K,
  fun K => (He.Fa.free "all").ok K,
  fun K => (He.Fa.free "int").ok K,
  fun K => (He.Fa.free "isinstance").ok K,
  fun K => (He.Fa.free "len").ok K,
  fun K => (He.Fa.free "list").ok K,
  fun K => (He.Fa.free "range").ok K,
  fun K => (He.Fa.free "str").ok K,
  fun K => (He.Fa.free "tuple").ok K,
  fun K => (He.Fa.str "LETTERS" "abcdefghijklmnopqrstuvwxyz").ok K,
  fun K => decide (PySem.W.kitOne K (.ref (He.ga K "Pattern")) (.type "str") = some false),
  fun K => clsXB K (He.ga K "Pattern"),
  fun K => decide (PySem.W.kitOne K (.ref (He.ga K "Pattern")) (.ref (He.ga K "Pattern")) = some true),
  fun K => PySem.W.notFirst K (He.ga K "Pattern") (.ref (He.ga K "Pattern")),
  fun K => decide (PySem.W.kitOne K (.type "tuple") (.ref (He.ga K "Pattern")) = some false),
  fun K => decide (PySem.W.kitOne K (.type "int") (.ref (He.ga K "Pattern")) = some false),
  fun K => decide (PySem.W.kitOne K (.type "str") (.ref (He.ga K "Pattern")) = some false),
  fun K => PySem.W.notFirst K (He.ga K "Pattern") (.type "tuple"),
  fun K => PySem.W.notFirst K (He.ga K "Pattern") (.type "int"),
  fun K => PySem.W.notFirst K (He.ga K "Pattern") (.type "str"),
  fun K => He.eqO (PySem.W.findIn K (.ref (He.ga K "Pattern")) "__ne__") (some (some (.builtin "object.__ne__")))]
def fn : List He5.DefA := [⟨fun K => (He.ga K "is_word"), "is_word", "is_word", defArgs s_is_word, defBody s_is_word, defScope s_is_word, [], []⟩,
  ⟨fun K => (He.ga K "clash"), "clash", "clash", defArgs s_clash, defBody s_clash, defScope s_clash, [], []⟩,
  ⟨fun K => (He.ga K "kept_ends"), "kept_ends", "kept_ends", defArgs s_kept_ends, defBody s_kept_ends, defScope s_kept_ends, [], []⟩,
  ⟨fun K => (He.ma K (He.ga K "Pattern") "__init__"), "__init__", "Pattern.__init__", defArgs s_Pattern_init, defBody s_Pattern_init, defScope s_Pattern_init, [], []⟩,
  ⟨fun K => (He5.wf K (He.ga K "Pattern") "staticmethod" "place"), "place", "Pattern.place", defArgs s_Pattern_place, defBody s_Pattern_place, defScope s_Pattern_place, [], []⟩,
  ⟨fun K => (He.ma K (He.ga K "Pattern") "__or__"), "__or__", "Pattern.__or__", defArgs s_Pattern_or, defBody s_Pattern_or, defScope s_Pattern_or, [], []⟩,
  ⟨fun K => (He.ma K (He.ga K "Pattern") "__and__"), "__and__", "Pattern.__and__", defArgs s_Pattern_and, defBody s_Pattern_and, defScope s_Pattern_and, [], []⟩,
  ⟨fun K => (He.ma K (He.ga K "Pattern") "__sub__"), "__sub__", "Pattern.__sub__", defArgs s_Pattern_sub, defBody s_Pattern_sub, defScope s_Pattern_sub, [], []⟩,
  ⟨fun K => (He.ma K (He.ga K "Pattern") "__rshift__"), "__rshift__", "Pattern.__rshift__", defArgs s_Pattern_rshift, defBody s_Pattern_rshift, defScope s_Pattern_rshift, [], []⟩,
  ⟨fun K => (He.ma K (He.ga K "Pattern") "__contains__"), "__contains__", "Pattern.__contains__", defArgs s_Pattern_contains, defBody s_Pattern_contains, defScope s_Pattern_contains, [], []⟩,
  ⟨fun K => (He.ma K (He.ga K "Pattern") "__len__"), "__len__", "Pattern.__len__", defArgs s_Pattern_len, defBody s_Pattern_len, defScope s_Pattern_len, [], []⟩,
  ⟨fun K => (He.ma K (He.ga K "Pattern") "__eq__"), "__eq__", "Pattern.__eq__", defArgs s_Pattern_eq, defBody s_Pattern_eq, defScope s_Pattern_eq, [], []⟩,
  ⟨fun K => (He.ga K "_law_pool"), "_law_pool", "_law_pool", defArgs s_law_pool, defBody s_law_pool, defScope s_law_pool, [], []⟩,
  ⟨fun K => (He.ga K "_law_draw"), "_law_draw", "_law_draw", defArgs s_law_draw, defBody s_law_draw, defScope s_law_draw, [], []⟩,
  ⟨fun K => (He.ga K "_law_word"), "_law_word", "_law_word", defArgs s_law_word, defBody s_law_word, defScope s_law_word, [], []⟩,
  ⟨fun K => (He.ga K "_law_words"), "_law_words", "_law_words", defArgs s_law_words, defBody s_law_words, defScope s_law_words, [], []⟩,
  ⟨fun K => (He.ga K "_law_raw"), "_law_raw", "_law_raw", defArgs s_law_raw, defBody s_law_raw, defScope s_law_raw, [], []⟩,
  ⟨fun K => (He.ga K "_law_pattern"), "_law_pattern", "_law_pattern", defArgs s_law_pattern, defBody s_law_pattern, defScope s_law_pattern, [], []⟩,
  ⟨fun K => (He.ga K "_law_told"), "_law_told", "_law_told", defArgs s_law_told, defBody s_law_told, defScope s_law_told, [], []⟩,
  ⟨fun K => (He.ga K "_law_shuffled"), "_law_shuffled", "_law_shuffled", defArgs s_law_shuffled, defBody s_law_shuffled, defScope s_law_shuffled, [], []⟩,
  ⟨fun K => (He.ga K "_law_within"), "_law_within", "_law_within", defArgs s_law_within, defBody s_law_within, defScope s_law_within, [], []⟩,
  ⟨fun K => (He.ga K "law"), "law", "law", defArgs s_law, defBody s_law, defScope s_law, [], []⟩]
abbrev R : PySem.W.OpenRow := PySem.W.OpenLaw.row PySem.Challenge.rw_foundormade_k14_parts_of_patterns
abbrev hk : PySem.W.Hook := hookB 6 fa fn
def ob (s : PySem.W.SharedT) : He.AlD := obsBG 6 fa fn (HandSHeadRun.getT s)
theorem ob_eq (s : PySem.W.SharedT) : ob s = hk.obs s.abs := obsBG_eq (HandSHeadRun.getT_eq s)
def names : List PySem.Str := ["FoundError", "BadPattern", "LETTERS", "is_word", "clash", "kept_ends", "Pattern", "_law_pool", "_law_draw", "_law_word", "_law_words", "_law_raw", "_law_pattern", "_law_told", "_law_shuffled", "_law_within"]
theorem run (w : World) : HandSHeadRun.RunEq R (PySem.W.view R.prog [20]) hk ob 4000 names w := by
  intro os
  kernel_rfl
theorem txt_of {K : PySem.W.Frag} {h : Heap} {mg : Str → Option Value} (X : K.In h) (G : h.Ns mainGlobals mg) (c : obsB fa fn K = He5.valA fn) : Txt K mg :=
  ⟨He.glo_ok X G (factB c 0),
   defF (fun K => (He.ga K "is_word")) c 0,
   defK (fun K => (He.ga K "is_word")) s_is_word "is_word" "is_word" c 0,
   He.glo_ok X G (factB c 1),
   defF (fun K => (He.ga K "clash")) c 1,
   defK (fun K => (He.ga K "clash")) s_clash "clash" "clash" c 1,
   He.glo_ok X G (factB c 2),
   defF (fun K => (He.ga K "kept_ends")) c 2,
   defK (fun K => (He.ga K "kept_ends")) s_kept_ends "kept_ends" "kept_ends" c 2,
   defF (fun K => (He.ma K (He.ga K "Pattern") "__init__")) c 3,
   defF (fun K => (He5.wf K (He.ga K "Pattern") "staticmethod" "place")) c 4,
   defF (fun K => (He.ma K (He.ga K "Pattern") "__or__")) c 5,
   defF (fun K => (He.ma K (He.ga K "Pattern") "__and__")) c 6,
   defF (fun K => (He.ma K (He.ga K "Pattern") "__sub__")) c 7,
   defF (fun K => (He.ma K (He.ga K "Pattern") "__rshift__")) c 8,
   defF (fun K => (He.ma K (He.ga K "Pattern") "__contains__")) c 9,
   defF (fun K => (He.ma K (He.ga K "Pattern") "__len__")) c 10,
   defF (fun K => (He.ma K (He.ga K "Pattern") "__eq__")) c 11,
   He.glo_ok X G (factB c 3),
   defF (fun K => (He.ga K "_law_pool")) c 12,
   defK (fun K => (He.ga K "_law_pool")) s_law_pool "_law_pool" "_law_pool" c 12,
   He.glo_ok X G (factB c 4),
   defF (fun K => (He.ga K "_law_draw")) c 13,
   defK (fun K => (He.ga K "_law_draw")) s_law_draw "_law_draw" "_law_draw" c 13,
   He.glo_ok X G (factB c 5),
   defF (fun K => (He.ga K "_law_word")) c 14,
   defK (fun K => (He.ga K "_law_word")) s_law_word "_law_word" "_law_word" c 14,
   He.glo_ok X G (factB c 6),
   defF (fun K => (He.ga K "_law_words")) c 15,
   defK (fun K => (He.ga K "_law_words")) s_law_words "_law_words" "_law_words" c 15,
   He.glo_ok X G (factB c 7),
   defF (fun K => (He.ga K "_law_raw")) c 16,
   defK (fun K => (He.ga K "_law_raw")) s_law_raw "_law_raw" "_law_raw" c 16,
   He.glo_ok X G (factB c 8),
   defF (fun K => (He.ga K "_law_pattern")) c 17,
   defK (fun K => (He.ga K "_law_pattern")) s_law_pattern "_law_pattern" "_law_pattern" c 17,
   He.glo_ok X G (factB c 9),
   defF (fun K => (He.ga K "_law_told")) c 18,
   defK (fun K => (He.ga K "_law_told")) s_law_told "_law_told" "_law_told" c 18,
   He.glo_ok X G (factB c 10),
   defF (fun K => (He.ga K "_law_shuffled")) c 19,
   defK (fun K => (He.ga K "_law_shuffled")) s_law_shuffled "_law_shuffled" "_law_shuffled" c 19,
   He.glo_ok X G (factB c 11),
   defF (fun K => (He.ga K "_law_within")) c 20,
   defK (fun K => (He.ga K "_law_within")) s_law_within "_law_within" "_law_within" c 20,
   He.glo_ok X G (factB c 12),
   defF (fun K => (He.ga K "law")) c 21,
   defK (fun K => (He.ga K "law")) s_law "law" "law" c 21,
   He.glo_ok X G (factB c 13),
   He.cls_ok (factB c 14),
   factB c 15,
   He.mkr_ok (factB c 16),
   He.noat_ok (factB c 17),
   He.noat_ok (factB c 18),
   statB_ok (factB c 19),
   He.meth_ok (factB c 20),
   own_of (He.meth_ok (factB c 20)),
   He.meth_ok (factB c 21),
   own_of (He.meth_ok (factB c 21)),
   He.meth_ok (factB c 22),
   own_of (He.meth_ok (factB c 22)),
   He.meth_ok (factB c 23),
   own_of (He.meth_ok (factB c 23)),
   He.meth_ok (factB c 24),
   own_of (He.meth_ok (factB c 24)),
   He.meth_ok (factB c 25),
   own_of (He.meth_ok (factB c 25)),
   He.meth_ok (factB c 26),
   own_of (He.meth_ok (factB c 26)),
   He.free_ok X G (factB c 27),
   He.free_ok X G (factB c 28),
   He.free_ok X G (factB c 29),
   He.free_ok X G (factB c 30),
   He.free_ok X G (factB c 31),
   He.free_ok X G (factB c 32),
   He.free_ok X G (factB c 33),
   He.free_ok X G (factB c 34),
   He.str_ok X G (factB c 35),
   of_decide_eq_true (factB c 36),
   clsXB_ok (factB c 37),
   of_decide_eq_true (factB c 38),
   factB c 39,
   of_decide_eq_true (factB c 40),
   of_decide_eq_true (factB c 41),
   of_decide_eq_true (factB c 42),
   factB c 43,
   factB c 44,
   factB c 45,
   He.eqO_ok (factB c 46)⟩
end Lw

namespace Lw
open PySem PySem.Spec PyProof.Rows L2 Fm
open PySem.W (Datum Tup T3 T4)
section
variable {P : Program} {w : World} {K : PySem.W.Frag} {mg : Str → Option Value} {base : Heap}
theorem ok_is_word (T : Txt K mg) : FnR P w K mg base CX0 1 (He.ga K "is_word") (sp_is_word K) := by
  refine fnR_def T.d_is_word sc_is_word ?_ (fun _ _ _ _ _ _ us hl => match us, hl with | [_], _ => rfl) (t_is_word K) (fun cdv A outer s H E hr => wk_is_word T cdv A outer s H E hr) (fun H vs Q E h => ?_)
  · intro vs H Q E h
    first
    | (obtain ⟨_, _, _, ⟨rfl, _⟩, _⟩ := h; rfl)
    | (obtain ⟨_, _, _, ⟨_, rfl, _⟩, _⟩ := h; rfl)
    | (obtain ⟨_, _, _, ⟨_, _, rfl, _⟩, _⟩ := h; rfl)
    | (obtain ⟨_, _, _, ⟨_, _, _, rfl, _⟩, _⟩ := h; rfl)
    | (obtain ⟨_, _, _, ⟨_, _, _, _, rfl, _⟩, _⟩ := h; rfl)
    | (obtain ⟨_, _, _, _, _, rfl, _, _, ⟨rfl, _⟩, _⟩ := h; rfl)
    | (obtain ⟨_, _, _, _, _, rfl, _, _, ⟨_, rfl, _⟩, _⟩ := h; rfl)
    | (obtain ⟨_, _, _, _, _, rfl, _, _, ⟨_, _, rfl, _⟩, _⟩ := h; rfl)
    | (obtain ⟨_, _, _, _, _, rfl, _, _, ⟨_, _, _, rfl, _⟩, _⟩ := h; rfl)
    | (obtain ⟨_, _, _, _, _, rfl, _, _, _, ⟨rfl, _⟩, _⟩ := h; rfl)
    | (obtain ⟨_, _, _, _, _, rfl, _, _, _, ⟨_, rfl, _⟩, _⟩ := h; rfl)
    | (obtain ⟨_, _, _, _, _, rfl, _, _, _, ⟨_, _, rfl, _⟩, _⟩ := h; rfl)
    | (obtain ⟨_, _, _, _, _, rfl, _, _, _, ⟨_, _, _, rfl, _⟩, _⟩ := h; rfl)
    | (obtain ⟨_, _, rfl, _⟩ := h; rfl)
  · first
    | exact pure_is_word T H vs Q E h
    | exact pure_is_word H vs Q E h
    | exact pure_is_word K H vs Q E h
theorem ok_clash (T : Txt K mg) : FnR P w K mg base CX0 1 (He.ga K "clash") (sp_clash K) := by
  refine fnR_def T.d_clash sc_clash ?_ (fun _ _ _ _ _ _ us hl => match us, hl with | [_, _], _ => rfl) (t_clash K) (fun cdv A outer s H E hr => wk_clash T cdv A outer s H E hr) (fun H vs Q E h => ?_)
  · intro vs H Q E h
    first
    | (obtain ⟨_, _, _, ⟨rfl, _⟩, _⟩ := h; rfl)
    | (obtain ⟨_, _, _, ⟨_, rfl, _⟩, _⟩ := h; rfl)
    | (obtain ⟨_, _, _, ⟨_, _, rfl, _⟩, _⟩ := h; rfl)
    | (obtain ⟨_, _, _, ⟨_, _, _, rfl, _⟩, _⟩ := h; rfl)
    | (obtain ⟨_, _, _, ⟨_, _, _, _, rfl, _⟩, _⟩ := h; rfl)
    | (obtain ⟨_, _, _, _, _, rfl, _, _, ⟨rfl, _⟩, _⟩ := h; rfl)
    | (obtain ⟨_, _, _, _, _, rfl, _, _, ⟨_, rfl, _⟩, _⟩ := h; rfl)
    | (obtain ⟨_, _, _, _, _, rfl, _, _, ⟨_, _, rfl, _⟩, _⟩ := h; rfl)
    | (obtain ⟨_, _, _, _, _, rfl, _, _, ⟨_, _, _, rfl, _⟩, _⟩ := h; rfl)
    | (obtain ⟨_, _, _, _, _, rfl, _, _, _, ⟨rfl, _⟩, _⟩ := h; rfl)
    | (obtain ⟨_, _, _, _, _, rfl, _, _, _, ⟨_, rfl, _⟩, _⟩ := h; rfl)
    | (obtain ⟨_, _, _, _, _, rfl, _, _, _, ⟨_, _, rfl, _⟩, _⟩ := h; rfl)
    | (obtain ⟨_, _, _, _, _, rfl, _, _, _, ⟨_, _, _, rfl, _⟩, _⟩ := h; rfl)
    | (obtain ⟨_, _, rfl, _⟩ := h; rfl)
  · first
    | exact pure_clash T H vs Q E h
    | exact pure_clash H vs Q E h
    | exact pure_clash K H vs Q E h
theorem ok_kept_ends (T : Txt K mg) : FnR P w K mg base CX0 1 (He.ga K "kept_ends") (sp_kept_ends K) := by
  refine fnR_def T.d_kept_ends sc_kept_ends ?_ (fun _ _ _ _ _ _ us hl => match us, hl with | [_], _ => rfl) (t_kept_ends K) (fun cdv A outer s H E hr => wk_kept_ends T cdv A outer s H E hr) (fun H vs Q E h => ?_)
  · intro vs H Q E h
    first
    | (obtain ⟨_, _, _, ⟨rfl, _⟩, _⟩ := h; rfl)
    | (obtain ⟨_, _, _, ⟨_, rfl, _⟩, _⟩ := h; rfl)
    | (obtain ⟨_, _, _, ⟨_, _, rfl, _⟩, _⟩ := h; rfl)
    | (obtain ⟨_, _, _, ⟨_, _, _, rfl, _⟩, _⟩ := h; rfl)
    | (obtain ⟨_, _, _, ⟨_, _, _, _, rfl, _⟩, _⟩ := h; rfl)
    | (obtain ⟨_, _, _, _, _, rfl, _, _, ⟨rfl, _⟩, _⟩ := h; rfl)
    | (obtain ⟨_, _, _, _, _, rfl, _, _, ⟨_, rfl, _⟩, _⟩ := h; rfl)
    | (obtain ⟨_, _, _, _, _, rfl, _, _, ⟨_, _, rfl, _⟩, _⟩ := h; rfl)
    | (obtain ⟨_, _, _, _, _, rfl, _, _, ⟨_, _, _, rfl, _⟩, _⟩ := h; rfl)
    | (obtain ⟨_, _, _, _, _, rfl, _, _, _, ⟨rfl, _⟩, _⟩ := h; rfl)
    | (obtain ⟨_, _, _, _, _, rfl, _, _, _, ⟨_, rfl, _⟩, _⟩ := h; rfl)
    | (obtain ⟨_, _, _, _, _, rfl, _, _, _, ⟨_, _, rfl, _⟩, _⟩ := h; rfl)
    | (obtain ⟨_, _, _, _, _, rfl, _, _, _, ⟨_, _, _, rfl, _⟩, _⟩ := h; rfl)
    | (obtain ⟨_, _, rfl, _⟩ := h; rfl)
  · first
    | exact pure_kept_ends T H vs Q E h
    | exact pure_kept_ends H vs Q E h
    | exact pure_kept_ends K H vs Q E h
theorem ok_Pattern_init (T : Txt K mg) : FnR P w K mg base CX0 1 (He.ma K (He.ga K "Pattern") "__init__") (sp_Pattern_init K) := by
  refine fnR_def T.d_Pattern_init sc_Pattern_init ?_ (fun _ _ _ _ _ _ us hl => match us, hl with | [_, _, _], _ => rfl) (t_Pattern_init K) (fun cdv A outer s H E hr => wk_Pattern_init T cdv A outer s H E hr) (fun H vs Q E h => ?_)
  · intro vs H Q E h
    first
    | (obtain ⟨_, _, _, ⟨rfl, _⟩, _⟩ := h; rfl)
    | (obtain ⟨_, _, _, ⟨_, rfl, _⟩, _⟩ := h; rfl)
    | (obtain ⟨_, _, _, ⟨_, _, rfl, _⟩, _⟩ := h; rfl)
    | (obtain ⟨_, _, _, ⟨_, _, _, rfl, _⟩, _⟩ := h; rfl)
    | (obtain ⟨_, _, _, ⟨_, _, _, _, rfl, _⟩, _⟩ := h; rfl)
    | (obtain ⟨_, _, _, _, _, rfl, _, _, ⟨rfl, _⟩, _⟩ := h; rfl)
    | (obtain ⟨_, _, _, _, _, rfl, _, _, ⟨_, rfl, _⟩, _⟩ := h; rfl)
    | (obtain ⟨_, _, _, _, _, rfl, _, _, ⟨_, _, rfl, _⟩, _⟩ := h; rfl)
    | (obtain ⟨_, _, _, _, _, rfl, _, _, ⟨_, _, _, rfl, _⟩, _⟩ := h; rfl)
    | (obtain ⟨_, _, _, _, _, rfl, _, _, _, ⟨rfl, _⟩, _⟩ := h; rfl)
    | (obtain ⟨_, _, _, _, _, rfl, _, _, _, ⟨_, rfl, _⟩, _⟩ := h; rfl)
    | (obtain ⟨_, _, _, _, _, rfl, _, _, _, ⟨_, _, rfl, _⟩, _⟩ := h; rfl)
    | (obtain ⟨_, _, _, _, _, rfl, _, _, _, ⟨_, _, _, rfl, _⟩, _⟩ := h; rfl)
    | (obtain ⟨_, _, rfl, _⟩ := h; rfl)
  · first
    | exact pure_Pattern_init T H vs Q E h
    | exact pure_Pattern_init H vs Q E h
    | exact pure_Pattern_init K H vs Q E h
theorem ok_Pattern_contains (T : Txt K mg) : FnR P w K mg base CX0 1 (He.ma K (He.ga K "Pattern") "__contains__") (sp_Pattern_contains K) := by
  refine fnR_def T.d_Pattern_contains sc_Pattern_contains ?_ (fun _ _ _ _ _ _ us hl => match us, hl with | [_, _], _ => rfl) (t_Pattern_contains K) (fun cdv A outer s H E hr => wk_Pattern_contains T cdv A outer s H E hr) (fun H vs Q E h => ?_)
  · intro vs H Q E h
    first
    | (obtain ⟨_, _, _, ⟨rfl, _⟩, _⟩ := h; rfl)
    | (obtain ⟨_, _, _, ⟨_, rfl, _⟩, _⟩ := h; rfl)
    | (obtain ⟨_, _, _, ⟨_, _, rfl, _⟩, _⟩ := h; rfl)
    | (obtain ⟨_, _, _, ⟨_, _, _, rfl, _⟩, _⟩ := h; rfl)
    | (obtain ⟨_, _, _, ⟨_, _, _, _, rfl, _⟩, _⟩ := h; rfl)
    | (obtain ⟨_, _, _, _, _, rfl, _, _, ⟨rfl, _⟩, _⟩ := h; rfl)
    | (obtain ⟨_, _, _, _, _, rfl, _, _, ⟨_, rfl, _⟩, _⟩ := h; rfl)
    | (obtain ⟨_, _, _, _, _, rfl, _, _, ⟨_, _, rfl, _⟩, _⟩ := h; rfl)
    | (obtain ⟨_, _, _, _, _, rfl, _, _, ⟨_, _, _, rfl, _⟩, _⟩ := h; rfl)
    | (obtain ⟨_, _, _, _, _, rfl, _, _, _, ⟨rfl, _⟩, _⟩ := h; rfl)
    | (obtain ⟨_, _, _, _, _, rfl, _, _, _, ⟨_, rfl, _⟩, _⟩ := h; rfl)
    | (obtain ⟨_, _, _, _, _, rfl, _, _, _, ⟨_, _, rfl, _⟩, _⟩ := h; rfl)
    | (obtain ⟨_, _, _, _, _, rfl, _, _, _, ⟨_, _, _, rfl, _⟩, _⟩ := h; rfl)
    | (obtain ⟨_, _, rfl, _⟩ := h; rfl)
  · first
    | exact pure_Pattern_contains T H vs Q E h
    | exact pure_Pattern_contains H vs Q E h
    | exact pure_Pattern_contains K H vs Q E h
theorem ok_Pattern_len (T : Txt K mg) : FnR P w K mg base CX0 1 (He.ma K (He.ga K "Pattern") "__len__") (sp_Pattern_len K) := by
  refine fnR_def T.d_Pattern_len sc_Pattern_len ?_ (fun _ _ _ _ _ _ us hl => match us, hl with | [_], _ => rfl) (t_Pattern_len K) (fun cdv A outer s H E hr => wk_Pattern_len T cdv A outer s H E hr) (fun H vs Q E h => ?_)
  · intro vs H Q E h
    first
    | (obtain ⟨_, _, _, ⟨rfl, _⟩, _⟩ := h; rfl)
    | (obtain ⟨_, _, _, ⟨_, rfl, _⟩, _⟩ := h; rfl)
    | (obtain ⟨_, _, _, ⟨_, _, rfl, _⟩, _⟩ := h; rfl)
    | (obtain ⟨_, _, _, ⟨_, _, _, rfl, _⟩, _⟩ := h; rfl)
    | (obtain ⟨_, _, _, ⟨_, _, _, _, rfl, _⟩, _⟩ := h; rfl)
    | (obtain ⟨_, _, _, _, _, rfl, _, _, ⟨rfl, _⟩, _⟩ := h; rfl)
    | (obtain ⟨_, _, _, _, _, rfl, _, _, ⟨_, rfl, _⟩, _⟩ := h; rfl)
    | (obtain ⟨_, _, _, _, _, rfl, _, _, ⟨_, _, rfl, _⟩, _⟩ := h; rfl)
    | (obtain ⟨_, _, _, _, _, rfl, _, _, ⟨_, _, _, rfl, _⟩, _⟩ := h; rfl)
    | (obtain ⟨_, _, _, _, _, rfl, _, _, _, ⟨rfl, _⟩, _⟩ := h; rfl)
    | (obtain ⟨_, _, _, _, _, rfl, _, _, _, ⟨_, rfl, _⟩, _⟩ := h; rfl)
    | (obtain ⟨_, _, _, _, _, rfl, _, _, _, ⟨_, _, rfl, _⟩, _⟩ := h; rfl)
    | (obtain ⟨_, _, _, _, _, rfl, _, _, _, ⟨_, _, _, rfl, _⟩, _⟩ := h; rfl)
    | (obtain ⟨_, _, rfl, _⟩ := h; rfl)
  · first
    | exact pure_Pattern_len T H vs Q E h
    | exact pure_Pattern_len H vs Q E h
    | exact pure_Pattern_len K H vs Q E h
theorem ok_law_pool (T : Txt K mg) : FnR P w K mg base CX0 1 (He.ga K "_law_pool") (sp_law_pool K) := by
  refine fnR_def T.d_law_pool sc_law_pool ?_ (fun _ _ _ _ _ _ us hl => match us, hl with | [_], _ => rfl) (t_law_pool K) (fun cdv A outer s H E hr => wk_law_pool T cdv A outer s H E hr) (fun H vs Q E h => ?_)
  · intro vs H Q E h
    first
    | (obtain ⟨_, _, _, ⟨rfl, _⟩, _⟩ := h; rfl)
    | (obtain ⟨_, _, _, ⟨_, rfl, _⟩, _⟩ := h; rfl)
    | (obtain ⟨_, _, _, ⟨_, _, rfl, _⟩, _⟩ := h; rfl)
    | (obtain ⟨_, _, _, ⟨_, _, _, rfl, _⟩, _⟩ := h; rfl)
    | (obtain ⟨_, _, _, ⟨_, _, _, _, rfl, _⟩, _⟩ := h; rfl)
    | (obtain ⟨_, _, _, _, _, rfl, _, _, ⟨rfl, _⟩, _⟩ := h; rfl)
    | (obtain ⟨_, _, _, _, _, rfl, _, _, ⟨_, rfl, _⟩, _⟩ := h; rfl)
    | (obtain ⟨_, _, _, _, _, rfl, _, _, ⟨_, _, rfl, _⟩, _⟩ := h; rfl)
    | (obtain ⟨_, _, _, _, _, rfl, _, _, ⟨_, _, _, rfl, _⟩, _⟩ := h; rfl)
    | (obtain ⟨_, _, _, _, _, rfl, _, _, _, ⟨rfl, _⟩, _⟩ := h; rfl)
    | (obtain ⟨_, _, _, _, _, rfl, _, _, _, ⟨_, rfl, _⟩, _⟩ := h; rfl)
    | (obtain ⟨_, _, _, _, _, rfl, _, _, _, ⟨_, _, rfl, _⟩, _⟩ := h; rfl)
    | (obtain ⟨_, _, _, _, _, rfl, _, _, _, ⟨_, _, _, rfl, _⟩, _⟩ := h; rfl)
    | (obtain ⟨_, _, rfl, _⟩ := h; rfl)
  · first
    | exact pure_law_pool T H vs Q E h
    | exact pure_law_pool H vs Q E h
    | exact pure_law_pool K H vs Q E h
theorem ok_law_draw (T : Txt K mg) : FnR P w K mg base CX0 1 (He.ga K "_law_draw") (sp_law_draw K) := by
  refine fnR_def T.d_law_draw sc_law_draw ?_ (fun _ _ _ _ _ _ us hl => match us, hl with | [_, _], _ => rfl) (t_law_draw K) (fun cdv A outer s H E hr => wk_law_draw T cdv A outer s H E hr) (fun H vs Q E h => ?_)
  · intro vs H Q E h
    first
    | (obtain ⟨_, _, _, ⟨rfl, _⟩, _⟩ := h; rfl)
    | (obtain ⟨_, _, _, ⟨_, rfl, _⟩, _⟩ := h; rfl)
    | (obtain ⟨_, _, _, ⟨_, _, rfl, _⟩, _⟩ := h; rfl)
    | (obtain ⟨_, _, _, ⟨_, _, _, rfl, _⟩, _⟩ := h; rfl)
    | (obtain ⟨_, _, _, ⟨_, _, _, _, rfl, _⟩, _⟩ := h; rfl)
    | (obtain ⟨_, _, _, _, _, rfl, _, _, ⟨rfl, _⟩, _⟩ := h; rfl)
    | (obtain ⟨_, _, _, _, _, rfl, _, _, ⟨_, rfl, _⟩, _⟩ := h; rfl)
    | (obtain ⟨_, _, _, _, _, rfl, _, _, ⟨_, _, rfl, _⟩, _⟩ := h; rfl)
    | (obtain ⟨_, _, _, _, _, rfl, _, _, ⟨_, _, _, rfl, _⟩, _⟩ := h; rfl)
    | (obtain ⟨_, _, _, _, _, rfl, _, _, _, ⟨rfl, _⟩, _⟩ := h; rfl)
    | (obtain ⟨_, _, _, _, _, rfl, _, _, _, ⟨_, rfl, _⟩, _⟩ := h; rfl)
    | (obtain ⟨_, _, _, _, _, rfl, _, _, _, ⟨_, _, rfl, _⟩, _⟩ := h; rfl)
    | (obtain ⟨_, _, _, _, _, rfl, _, _, _, ⟨_, _, _, rfl, _⟩, _⟩ := h; rfl)
    | (obtain ⟨_, _, rfl, _⟩ := h; rfl)
  · first
    | exact pure_law_draw T H vs Q E h
    | exact pure_law_draw H vs Q E h
    | exact pure_law_draw K H vs Q E h
theorem ok_law_within (T : Txt K mg) : FnR P w K mg base CX0 1 (He.ga K "_law_within") (sp_law_within K) := by
  refine fnR_def T.d_law_within sc_law_within ?_ (fun _ _ _ _ _ _ us hl => match us, hl with | [_, _], _ => rfl) (t_law_within K) (fun cdv A outer s H E hr => wk_law_within T cdv A outer s H E hr) (fun H vs Q E h => ?_)
  · intro vs H Q E h
    first
    | (obtain ⟨_, _, _, ⟨rfl, _⟩, _⟩ := h; rfl)
    | (obtain ⟨_, _, _, ⟨_, rfl, _⟩, _⟩ := h; rfl)
    | (obtain ⟨_, _, _, ⟨_, _, rfl, _⟩, _⟩ := h; rfl)
    | (obtain ⟨_, _, _, ⟨_, _, _, rfl, _⟩, _⟩ := h; rfl)
    | (obtain ⟨_, _, _, ⟨_, _, _, _, rfl, _⟩, _⟩ := h; rfl)
    | (obtain ⟨_, _, _, _, _, rfl, _, _, ⟨rfl, _⟩, _⟩ := h; rfl)
    | (obtain ⟨_, _, _, _, _, rfl, _, _, ⟨_, rfl, _⟩, _⟩ := h; rfl)
    | (obtain ⟨_, _, _, _, _, rfl, _, _, ⟨_, _, rfl, _⟩, _⟩ := h; rfl)
    | (obtain ⟨_, _, _, _, _, rfl, _, _, ⟨_, _, _, rfl, _⟩, _⟩ := h; rfl)
    | (obtain ⟨_, _, _, _, _, rfl, _, _, _, ⟨rfl, _⟩, _⟩ := h; rfl)
    | (obtain ⟨_, _, _, _, _, rfl, _, _, _, ⟨_, rfl, _⟩, _⟩ := h; rfl)
    | (obtain ⟨_, _, _, _, _, rfl, _, _, _, ⟨_, _, rfl, _⟩, _⟩ := h; rfl)
    | (obtain ⟨_, _, _, _, _, rfl, _, _, _, ⟨_, _, _, rfl, _⟩, _⟩ := h; rfl)
    | (obtain ⟨_, _, rfl, _⟩ := h; rfl)
  · first
    | exact pure_law_within T H vs Q E h
    | exact pure_law_within H vs Q E h
    | exact pure_law_within K H vs Q E h
theorem ok_Pattern_eq (T : Txt K mg) : FnR P w K mg base CX0 2 (He.ma K (He.ga K "Pattern") "__eq__") (sp_Pattern_eq K) := by
  refine fnR_def T.d_Pattern_eq sc_Pattern_eq ?_ (fun _ _ _ _ _ _ us hl => match us, hl with | [_, _], _ => rfl) (t_Pattern_eq K) (fun cdv A outer s H E hr => wk_Pattern_eq T (ok_Pattern_contains T) cdv A outer s H E hr) (fun H vs Q E h => ?_)
  · intro vs H Q E h
    first
    | (obtain ⟨_, _, _, ⟨rfl, _⟩, _⟩ := h; rfl)
    | (obtain ⟨_, _, _, ⟨_, rfl, _⟩, _⟩ := h; rfl)
    | (obtain ⟨_, _, _, ⟨_, _, rfl, _⟩, _⟩ := h; rfl)
    | (obtain ⟨_, _, _, ⟨_, _, _, rfl, _⟩, _⟩ := h; rfl)
    | (obtain ⟨_, _, _, ⟨_, _, _, _, rfl, _⟩, _⟩ := h; rfl)
    | (obtain ⟨_, _, _, _, _, rfl, _, _, ⟨rfl, _⟩, _⟩ := h; rfl)
    | (obtain ⟨_, _, _, _, _, rfl, _, _, ⟨_, rfl, _⟩, _⟩ := h; rfl)
    | (obtain ⟨_, _, _, _, _, rfl, _, _, ⟨_, _, rfl, _⟩, _⟩ := h; rfl)
    | (obtain ⟨_, _, _, _, _, rfl, _, _, ⟨_, _, _, rfl, _⟩, _⟩ := h; rfl)
    | (obtain ⟨_, _, _, _, _, rfl, _, _, _, ⟨rfl, _⟩, _⟩ := h; rfl)
    | (obtain ⟨_, _, _, _, _, rfl, _, _, _, ⟨_, rfl, _⟩, _⟩ := h; rfl)
    | (obtain ⟨_, _, _, _, _, rfl, _, _, _, ⟨_, _, rfl, _⟩, _⟩ := h; rfl)
    | (obtain ⟨_, _, _, _, _, rfl, _, _, _, ⟨_, _, _, rfl, _⟩, _⟩ := h; rfl)
    | (obtain ⟨_, _, rfl, _⟩ := h; rfl)
  · first
    | exact pure_Pattern_eq T H vs Q E h
    | exact pure_Pattern_eq H vs Q E h
    | exact pure_Pattern_eq K H vs Q E h
theorem ok_law_word (T : Txt K mg) : FnR P w K mg base CX0 2 (He.ga K "_law_word") (sp_law_word K) := by
  refine fnR_def T.d_law_word sc_law_word ?_ (fun _ _ _ _ _ _ us hl => match us, hl with | [_, _], _ => rfl) (t_law_word K) (fun cdv A outer s H E hr => wk_law_word T (ok_law_draw T) cdv A outer s H E hr) (fun H vs Q E h => ?_)
  · intro vs H Q E h
    first
    | (obtain ⟨_, _, _, ⟨rfl, _⟩, _⟩ := h; rfl)
    | (obtain ⟨_, _, _, ⟨_, rfl, _⟩, _⟩ := h; rfl)
    | (obtain ⟨_, _, _, ⟨_, _, rfl, _⟩, _⟩ := h; rfl)
    | (obtain ⟨_, _, _, ⟨_, _, _, rfl, _⟩, _⟩ := h; rfl)
    | (obtain ⟨_, _, _, ⟨_, _, _, _, rfl, _⟩, _⟩ := h; rfl)
    | (obtain ⟨_, _, _, _, _, rfl, _, _, ⟨rfl, _⟩, _⟩ := h; rfl)
    | (obtain ⟨_, _, _, _, _, rfl, _, _, ⟨_, rfl, _⟩, _⟩ := h; rfl)
    | (obtain ⟨_, _, _, _, _, rfl, _, _, ⟨_, _, rfl, _⟩, _⟩ := h; rfl)
    | (obtain ⟨_, _, _, _, _, rfl, _, _, ⟨_, _, _, rfl, _⟩, _⟩ := h; rfl)
    | (obtain ⟨_, _, _, _, _, rfl, _, _, _, ⟨rfl, _⟩, _⟩ := h; rfl)
    | (obtain ⟨_, _, _, _, _, rfl, _, _, _, ⟨_, rfl, _⟩, _⟩ := h; rfl)
    | (obtain ⟨_, _, _, _, _, rfl, _, _, _, ⟨_, _, rfl, _⟩, _⟩ := h; rfl)
    | (obtain ⟨_, _, _, _, _, rfl, _, _, _, ⟨_, _, _, rfl, _⟩, _⟩ := h; rfl)
    | (obtain ⟨_, _, rfl, _⟩ := h; rfl)
  · first
    | exact pure_law_word T H vs Q E h
    | exact pure_law_word H vs Q E h
    | exact pure_law_word K H vs Q E h
theorem ok_law_raw (T : Txt K mg) : FnR P w K mg base CX0 2 (He.ga K "_law_raw") (sp_law_raw K) := by
  refine fnR_def T.d_law_raw sc_law_raw ?_ (fun _ _ _ _ _ _ us hl => match us, hl with | [_, _, _], _ => rfl) (t_law_raw K) (fun cdv A outer s H E hr => wk_law_raw T (ok_law_draw T) cdv A outer s H E hr) (fun H vs Q E h => ?_)
  · intro vs H Q E h
    first
    | (obtain ⟨_, _, _, ⟨rfl, _⟩, _⟩ := h; rfl)
    | (obtain ⟨_, _, _, ⟨_, rfl, _⟩, _⟩ := h; rfl)
    | (obtain ⟨_, _, _, ⟨_, _, rfl, _⟩, _⟩ := h; rfl)
    | (obtain ⟨_, _, _, ⟨_, _, _, rfl, _⟩, _⟩ := h; rfl)
    | (obtain ⟨_, _, _, ⟨_, _, _, _, rfl, _⟩, _⟩ := h; rfl)
    | (obtain ⟨_, _, _, _, _, rfl, _, _, ⟨rfl, _⟩, _⟩ := h; rfl)
    | (obtain ⟨_, _, _, _, _, rfl, _, _, ⟨_, rfl, _⟩, _⟩ := h; rfl)
    | (obtain ⟨_, _, _, _, _, rfl, _, _, ⟨_, _, rfl, _⟩, _⟩ := h; rfl)
    | (obtain ⟨_, _, _, _, _, rfl, _, _, ⟨_, _, _, rfl, _⟩, _⟩ := h; rfl)
    | (obtain ⟨_, _, _, _, _, rfl, _, _, _, ⟨rfl, _⟩, _⟩ := h; rfl)
    | (obtain ⟨_, _, _, _, _, rfl, _, _, _, ⟨_, rfl, _⟩, _⟩ := h; rfl)
    | (obtain ⟨_, _, _, _, _, rfl, _, _, _, ⟨_, _, rfl, _⟩, _⟩ := h; rfl)
    | (obtain ⟨_, _, _, _, _, rfl, _, _, _, ⟨_, _, _, rfl, _⟩, _⟩ := h; rfl)
    | (obtain ⟨_, _, rfl, _⟩ := h; rfl)
  · first
    | exact pure_law_raw T H vs Q E h
    | exact pure_law_raw H vs Q E h
    | exact pure_law_raw K H vs Q E h
theorem ok_law_shuffled (T : Txt K mg) : FnR P w K mg base CX0 2 (He.ga K "_law_shuffled") (sp_law_shuffled K) := by
  refine fnR_def T.d_law_shuffled sc_law_shuffled ?_ (fun _ _ _ _ _ _ us hl => match us, hl with | [_, _], _ => rfl) (t_law_shuffled K) (fun cdv A outer s H E hr => wk_law_shuffled T (ok_law_draw T) cdv A outer s H E hr) (fun H vs Q E h => ?_)
  · intro vs H Q E h
    first
    | (obtain ⟨_, _, _, ⟨rfl, _⟩, _⟩ := h; rfl)
    | (obtain ⟨_, _, _, ⟨_, rfl, _⟩, _⟩ := h; rfl)
    | (obtain ⟨_, _, _, ⟨_, _, rfl, _⟩, _⟩ := h; rfl)
    | (obtain ⟨_, _, _, ⟨_, _, _, rfl, _⟩, _⟩ := h; rfl)
    | (obtain ⟨_, _, _, ⟨_, _, _, _, rfl, _⟩, _⟩ := h; rfl)
    | (obtain ⟨_, _, _, _, _, rfl, _, _, ⟨rfl, _⟩, _⟩ := h; rfl)
    | (obtain ⟨_, _, _, _, _, rfl, _, _, ⟨_, rfl, _⟩, _⟩ := h; rfl)
    | (obtain ⟨_, _, _, _, _, rfl, _, _, ⟨_, _, rfl, _⟩, _⟩ := h; rfl)
    | (obtain ⟨_, _, _, _, _, rfl, _, _, ⟨_, _, _, rfl, _⟩, _⟩ := h; rfl)
    | (obtain ⟨_, _, _, _, _, rfl, _, _, _, ⟨rfl, _⟩, _⟩ := h; rfl)
    | (obtain ⟨_, _, _, _, _, rfl, _, _, _, ⟨_, rfl, _⟩, _⟩ := h; rfl)
    | (obtain ⟨_, _, _, _, _, rfl, _, _, _, ⟨_, _, rfl, _⟩, _⟩ := h; rfl)
    | (obtain ⟨_, _, _, _, _, rfl, _, _, _, ⟨_, _, _, rfl, _⟩, _⟩ := h; rfl)
    | (obtain ⟨_, _, rfl, _⟩ := h; rfl)
  · first
    | exact pure_law_shuffled T H vs Q E h
    | exact pure_law_shuffled H vs Q E h
    | exact pure_law_shuffled K H vs Q E h
theorem ok_Pattern_place (T : Txt K mg) : FnR P w K mg base CX0 3 (He5.wf K (He.ga K "Pattern") "staticmethod" "place") (sp_Pattern_place K) := by
  refine fnR_def T.d_Pattern_place sc_Pattern_place ?_ (fun _ _ _ _ _ _ us hl => match us, hl with | [_, _, _], _ => rfl) (t_Pattern_place K) (fun cdv A outer s H E hr => wk_Pattern_place T (ok_Pattern_init T) (ok_is_word T) cdv A outer s H E hr) (fun H vs Q E h => ?_)
  · intro vs H Q E h
    first
    | (obtain ⟨_, _, _, ⟨rfl, _⟩, _⟩ := h; rfl)
    | (obtain ⟨_, _, _, ⟨_, rfl, _⟩, _⟩ := h; rfl)
    | (obtain ⟨_, _, _, ⟨_, _, rfl, _⟩, _⟩ := h; rfl)
    | (obtain ⟨_, _, _, ⟨_, _, _, rfl, _⟩, _⟩ := h; rfl)
    | (obtain ⟨_, _, _, ⟨_, _, _, _, rfl, _⟩, _⟩ := h; rfl)
    | (obtain ⟨_, _, _, _, _, rfl, _, _, ⟨rfl, _⟩, _⟩ := h; rfl)
    | (obtain ⟨_, _, _, _, _, rfl, _, _, ⟨_, rfl, _⟩, _⟩ := h; rfl)
    | (obtain ⟨_, _, _, _, _, rfl, _, _, ⟨_, _, rfl, _⟩, _⟩ := h; rfl)
    | (obtain ⟨_, _, _, _, _, rfl, _, _, ⟨_, _, _, rfl, _⟩, _⟩ := h; rfl)
    | (obtain ⟨_, _, _, _, _, rfl, _, _, _, ⟨rfl, _⟩, _⟩ := h; rfl)
    | (obtain ⟨_, _, _, _, _, rfl, _, _, _, ⟨_, rfl, _⟩, _⟩ := h; rfl)
    | (obtain ⟨_, _, _, _, _, rfl, _, _, _, ⟨_, _, rfl, _⟩, _⟩ := h; rfl)
    | (obtain ⟨_, _, _, _, _, rfl, _, _, _, ⟨_, _, _, rfl, _⟩, _⟩ := h; rfl)
    | (obtain ⟨_, _, rfl, _⟩ := h; rfl)
  · first
    | exact pure_Pattern_place T H vs Q E h
    | exact pure_Pattern_place H vs Q E h
    | exact pure_Pattern_place K H vs Q E h
theorem ok_Pattern_or (T : Txt K mg) : FnR P w K mg base CX0 3 (He.ma K (He.ga K "Pattern") "__or__") (sp_Pattern_or K) := by
  refine fnR_def T.d_Pattern_or sc_Pattern_or ?_ (fun _ _ _ _ _ _ us hl => match us, hl with | [_, _], _ => rfl) (t_Pattern_or K) (fun cdv A outer s H E hr => wk_Pattern_or T (ok_Pattern_init T) (ok_clash T) cdv A outer s H E hr) (fun H vs Q E h => ?_)
  · intro vs H Q E h
    first
    | (obtain ⟨_, _, _, ⟨rfl, _⟩, _⟩ := h; rfl)
    | (obtain ⟨_, _, _, ⟨_, rfl, _⟩, _⟩ := h; rfl)
    | (obtain ⟨_, _, _, ⟨_, _, rfl, _⟩, _⟩ := h; rfl)
    | (obtain ⟨_, _, _, ⟨_, _, _, rfl, _⟩, _⟩ := h; rfl)
    | (obtain ⟨_, _, _, ⟨_, _, _, _, rfl, _⟩, _⟩ := h; rfl)
    | (obtain ⟨_, _, _, _, _, rfl, _, _, ⟨rfl, _⟩, _⟩ := h; rfl)
    | (obtain ⟨_, _, _, _, _, rfl, _, _, ⟨_, rfl, _⟩, _⟩ := h; rfl)
    | (obtain ⟨_, _, _, _, _, rfl, _, _, ⟨_, _, rfl, _⟩, _⟩ := h; rfl)
    | (obtain ⟨_, _, _, _, _, rfl, _, _, ⟨_, _, _, rfl, _⟩, _⟩ := h; rfl)
    | (obtain ⟨_, _, _, _, _, rfl, _, _, _, ⟨rfl, _⟩, _⟩ := h; rfl)
    | (obtain ⟨_, _, _, _, _, rfl, _, _, _, ⟨_, rfl, _⟩, _⟩ := h; rfl)
    | (obtain ⟨_, _, _, _, _, rfl, _, _, _, ⟨_, _, rfl, _⟩, _⟩ := h; rfl)
    | (obtain ⟨_, _, _, _, _, rfl, _, _, _, ⟨_, _, _, rfl, _⟩, _⟩ := h; rfl)
    | (obtain ⟨_, _, rfl, _⟩ := h; rfl)
  · first
    | exact pure_Pattern_or T H vs Q E h
    | exact pure_Pattern_or H vs Q E h
    | exact pure_Pattern_or K H vs Q E h
theorem ok_Pattern_and (T : Txt K mg) : FnR P w K mg base CX0 3 (He.ma K (He.ga K "Pattern") "__and__") (sp_Pattern_and K) := by
  refine fnR_def T.d_Pattern_and sc_Pattern_and ?_ (fun _ _ _ _ _ _ us hl => match us, hl with | [_, _], _ => rfl) (t_Pattern_and K) (fun cdv A outer s H E hr => wk_Pattern_and T (ok_Pattern_init T) cdv A outer s H E hr) (fun H vs Q E h => ?_)
  · intro vs H Q E h
    first
    | (obtain ⟨_, _, _, ⟨rfl, _⟩, _⟩ := h; rfl)
    | (obtain ⟨_, _, _, ⟨_, rfl, _⟩, _⟩ := h; rfl)
    | (obtain ⟨_, _, _, ⟨_, _, rfl, _⟩, _⟩ := h; rfl)
    | (obtain ⟨_, _, _, ⟨_, _, _, rfl, _⟩, _⟩ := h; rfl)
    | (obtain ⟨_, _, _, ⟨_, _, _, _, rfl, _⟩, _⟩ := h; rfl)
    | (obtain ⟨_, _, _, _, _, rfl, _, _, ⟨rfl, _⟩, _⟩ := h; rfl)
    | (obtain ⟨_, _, _, _, _, rfl, _, _, ⟨_, rfl, _⟩, _⟩ := h; rfl)
    | (obtain ⟨_, _, _, _, _, rfl, _, _, ⟨_, _, rfl, _⟩, _⟩ := h; rfl)
    | (obtain ⟨_, _, _, _, _, rfl, _, _, ⟨_, _, _, rfl, _⟩, _⟩ := h; rfl)
    | (obtain ⟨_, _, _, _, _, rfl, _, _, _, ⟨rfl, _⟩, _⟩ := h; rfl)
    | (obtain ⟨_, _, _, _, _, rfl, _, _, _, ⟨_, rfl, _⟩, _⟩ := h; rfl)
    | (obtain ⟨_, _, _, _, _, rfl, _, _, _, ⟨_, _, rfl, _⟩, _⟩ := h; rfl)
    | (obtain ⟨_, _, _, _, _, rfl, _, _, _, ⟨_, _, _, rfl, _⟩, _⟩ := h; rfl)
    | (obtain ⟨_, _, rfl, _⟩ := h; rfl)
  · first
    | exact pure_Pattern_and T H vs Q E h
    | exact pure_Pattern_and H vs Q E h
    | exact pure_Pattern_and K H vs Q E h
theorem ok_Pattern_sub (T : Txt K mg) : FnR P w K mg base CX0 3 (He.ma K (He.ga K "Pattern") "__sub__") (sp_Pattern_sub K) := by
  refine fnR_def T.d_Pattern_sub sc_Pattern_sub ?_ (fun _ _ _ _ _ _ us hl => match us, hl with | [_, _], _ => rfl) (t_Pattern_sub K) (fun cdv A outer s H E hr => wk_Pattern_sub T (ok_Pattern_init T) (ok_kept_ends T) cdv A outer s H E hr) (fun H vs Q E h => ?_)
  · intro vs H Q E h
    first
    | (obtain ⟨_, _, _, ⟨rfl, _⟩, _⟩ := h; rfl)
    | (obtain ⟨_, _, _, ⟨_, rfl, _⟩, _⟩ := h; rfl)
    | (obtain ⟨_, _, _, ⟨_, _, rfl, _⟩, _⟩ := h; rfl)
    | (obtain ⟨_, _, _, ⟨_, _, _, rfl, _⟩, _⟩ := h; rfl)
    | (obtain ⟨_, _, _, ⟨_, _, _, _, rfl, _⟩, _⟩ := h; rfl)
    | (obtain ⟨_, _, _, _, _, rfl, _, _, ⟨rfl, _⟩, _⟩ := h; rfl)
    | (obtain ⟨_, _, _, _, _, rfl, _, _, ⟨_, rfl, _⟩, _⟩ := h; rfl)
    | (obtain ⟨_, _, _, _, _, rfl, _, _, ⟨_, _, rfl, _⟩, _⟩ := h; rfl)
    | (obtain ⟨_, _, _, _, _, rfl, _, _, ⟨_, _, _, rfl, _⟩, _⟩ := h; rfl)
    | (obtain ⟨_, _, _, _, _, rfl, _, _, _, ⟨rfl, _⟩, _⟩ := h; rfl)
    | (obtain ⟨_, _, _, _, _, rfl, _, _, _, ⟨_, rfl, _⟩, _⟩ := h; rfl)
    | (obtain ⟨_, _, _, _, _, rfl, _, _, _, ⟨_, _, rfl, _⟩, _⟩ := h; rfl)
    | (obtain ⟨_, _, _, _, _, rfl, _, _, _, ⟨_, _, _, rfl, _⟩, _⟩ := h; rfl)
    | (obtain ⟨_, _, rfl, _⟩ := h; rfl)
  · first
    | exact pure_Pattern_sub T H vs Q E h
    | exact pure_Pattern_sub H vs Q E h
    | exact pure_Pattern_sub K H vs Q E h
theorem ok_law_words (T : Txt K mg) : FnR P w K mg base CX0 3 (He.ga K "_law_words") (sp_law_words K) := by
  refine fnR_def T.d_law_words sc_law_words ?_ (fun _ _ _ _ _ _ us hl => match us, hl with | [_, _], _ => rfl) (t_law_words K) (fun cdv A outer s H E hr => wk_law_words T (ok_law_word T) cdv A outer s H E hr) (fun H vs Q E h => ?_)
  · intro vs H Q E h
    first
    | (obtain ⟨_, _, _, ⟨rfl, _⟩, _⟩ := h; rfl)
    | (obtain ⟨_, _, _, ⟨_, rfl, _⟩, _⟩ := h; rfl)
    | (obtain ⟨_, _, _, ⟨_, _, rfl, _⟩, _⟩ := h; rfl)
    | (obtain ⟨_, _, _, ⟨_, _, _, rfl, _⟩, _⟩ := h; rfl)
    | (obtain ⟨_, _, _, ⟨_, _, _, _, rfl, _⟩, _⟩ := h; rfl)
    | (obtain ⟨_, _, _, _, _, rfl, _, _, ⟨rfl, _⟩, _⟩ := h; rfl)
    | (obtain ⟨_, _, _, _, _, rfl, _, _, ⟨_, rfl, _⟩, _⟩ := h; rfl)
    | (obtain ⟨_, _, _, _, _, rfl, _, _, ⟨_, _, rfl, _⟩, _⟩ := h; rfl)
    | (obtain ⟨_, _, _, _, _, rfl, _, _, ⟨_, _, _, rfl, _⟩, _⟩ := h; rfl)
    | (obtain ⟨_, _, _, _, _, rfl, _, _, _, ⟨rfl, _⟩, _⟩ := h; rfl)
    | (obtain ⟨_, _, _, _, _, rfl, _, _, _, ⟨_, rfl, _⟩, _⟩ := h; rfl)
    | (obtain ⟨_, _, _, _, _, rfl, _, _, _, ⟨_, _, rfl, _⟩, _⟩ := h; rfl)
    | (obtain ⟨_, _, _, _, _, rfl, _, _, _, ⟨_, _, _, rfl, _⟩, _⟩ := h; rfl)
    | (obtain ⟨_, _, rfl, _⟩ := h; rfl)
  · first
    | exact pure_law_words T H vs Q E h
    | exact pure_law_words H vs Q E h
    | exact pure_law_words K H vs Q E h
theorem ok_law_told (T : Txt K mg) : FnR P w K mg base CX0 3 (He.ga K "_law_told") (sp_law_told K) := by
  refine fnR_def T.d_law_told sc_law_told ?_ (fun _ _ _ _ _ _ us hl => match us, hl with | [_, _, _], _ => rfl) (t_law_told K) (fun cdv A outer s H E hr => wk_law_told T (ok_Pattern_len T) cdv A outer s H E hr) (fun H vs Q E h => ?_)
  · intro vs H Q E h
    first
    | (obtain ⟨_, _, _, ⟨rfl, _⟩, _⟩ := h; rfl)
    | (obtain ⟨_, _, _, ⟨_, rfl, _⟩, _⟩ := h; rfl)
    | (obtain ⟨_, _, _, ⟨_, _, rfl, _⟩, _⟩ := h; rfl)
    | (obtain ⟨_, _, _, ⟨_, _, _, rfl, _⟩, _⟩ := h; rfl)
    | (obtain ⟨_, _, _, ⟨_, _, _, _, rfl, _⟩, _⟩ := h; rfl)
    | (obtain ⟨_, _, _, _, _, rfl, _, _, ⟨rfl, _⟩, _⟩ := h; rfl)
    | (obtain ⟨_, _, _, _, _, rfl, _, _, ⟨_, rfl, _⟩, _⟩ := h; rfl)
    | (obtain ⟨_, _, _, _, _, rfl, _, _, ⟨_, _, rfl, _⟩, _⟩ := h; rfl)
    | (obtain ⟨_, _, _, _, _, rfl, _, _, ⟨_, _, _, rfl, _⟩, _⟩ := h; rfl)
    | (obtain ⟨_, _, _, _, _, rfl, _, _, _, ⟨rfl, _⟩, _⟩ := h; rfl)
    | (obtain ⟨_, _, _, _, _, rfl, _, _, _, ⟨_, rfl, _⟩, _⟩ := h; rfl)
    | (obtain ⟨_, _, _, _, _, rfl, _, _, _, ⟨_, _, rfl, _⟩, _⟩ := h; rfl)
    | (obtain ⟨_, _, _, _, _, rfl, _, _, _, ⟨_, _, _, rfl, _⟩, _⟩ := h; rfl)
    | (obtain ⟨_, _, rfl, _⟩ := h; rfl)
  · first
    | exact pure_law_told T H vs Q E h
    | exact pure_law_told H vs Q E h
    | exact pure_law_told K H vs Q E h
theorem ok_Pattern_rshift (T : Txt K mg) : FnR P w K mg base CX0 4 (He.ma K (He.ga K "Pattern") "__rshift__") (sp_Pattern_rshift K) := by
  refine fnR_def T.d_Pattern_rshift sc_Pattern_rshift ?_ (fun _ _ _ _ _ _ us hl => match us, hl with | [_, _], _ => rfl) (t_Pattern_rshift K) (fun cdv A outer s H E hr => wk_Pattern_rshift T (ok_Pattern_init T) (ok_Pattern_or T) (ok_is_word T) cdv A outer s H E hr) (fun H vs Q E h => ?_)
  · intro vs H Q E h
    first
    | (obtain ⟨_, _, _, ⟨rfl, _⟩, _⟩ := h; rfl)
    | (obtain ⟨_, _, _, ⟨_, rfl, _⟩, _⟩ := h; rfl)
    | (obtain ⟨_, _, _, ⟨_, _, rfl, _⟩, _⟩ := h; rfl)
    | (obtain ⟨_, _, _, ⟨_, _, _, rfl, _⟩, _⟩ := h; rfl)
    | (obtain ⟨_, _, _, ⟨_, _, _, _, rfl, _⟩, _⟩ := h; rfl)
    | (obtain ⟨_, _, _, _, _, rfl, _, _, ⟨rfl, _⟩, _⟩ := h; rfl)
    | (obtain ⟨_, _, _, _, _, rfl, _, _, ⟨_, rfl, _⟩, _⟩ := h; rfl)
    | (obtain ⟨_, _, _, _, _, rfl, _, _, ⟨_, _, rfl, _⟩, _⟩ := h; rfl)
    | (obtain ⟨_, _, _, _, _, rfl, _, _, ⟨_, _, _, rfl, _⟩, _⟩ := h; rfl)
    | (obtain ⟨_, _, _, _, _, rfl, _, _, _, ⟨rfl, _⟩, _⟩ := h; rfl)
    | (obtain ⟨_, _, _, _, _, rfl, _, _, _, ⟨_, rfl, _⟩, _⟩ := h; rfl)
    | (obtain ⟨_, _, _, _, _, rfl, _, _, _, ⟨_, _, rfl, _⟩, _⟩ := h; rfl)
    | (obtain ⟨_, _, _, _, _, rfl, _, _, _, ⟨_, _, _, rfl, _⟩, _⟩ := h; rfl)
    | (obtain ⟨_, _, rfl, _⟩ := h; rfl)
  · first
    | exact pure_Pattern_rshift T H vs Q E h
    | exact pure_Pattern_rshift H vs Q E h
    | exact pure_Pattern_rshift K H vs Q E h
theorem ok_law_pattern (T : Txt K mg) : FnR P w K mg base CX0 5 (He.ga K "_law_pattern") (sp_law_pattern K) := by
  refine fnR_def T.d_law_pattern sc_law_pattern ?_ (fun _ _ _ _ _ _ us hl => match us, hl with | [_, _], _ => rfl) (t_law_pattern K) (fun cdv A outer s H E hr => wk_law_pattern T (ok_Pattern_or T) (ok_Pattern_place T) (ok_Pattern_rshift T) (ok_Pattern_sub T) cdv A outer s H E hr) (fun H vs Q E h => ?_)
  · intro vs H Q E h
    first
    | (obtain ⟨_, _, _, ⟨rfl, _⟩, _⟩ := h; rfl)
    | (obtain ⟨_, _, _, ⟨_, rfl, _⟩, _⟩ := h; rfl)
    | (obtain ⟨_, _, _, ⟨_, _, rfl, _⟩, _⟩ := h; rfl)
    | (obtain ⟨_, _, _, ⟨_, _, _, rfl, _⟩, _⟩ := h; rfl)
    | (obtain ⟨_, _, _, ⟨_, _, _, _, rfl, _⟩, _⟩ := h; rfl)
    | (obtain ⟨_, _, _, _, _, rfl, _, _, ⟨rfl, _⟩, _⟩ := h; rfl)
    | (obtain ⟨_, _, _, _, _, rfl, _, _, ⟨_, rfl, _⟩, _⟩ := h; rfl)
    | (obtain ⟨_, _, _, _, _, rfl, _, _, ⟨_, _, rfl, _⟩, _⟩ := h; rfl)
    | (obtain ⟨_, _, _, _, _, rfl, _, _, ⟨_, _, _, rfl, _⟩, _⟩ := h; rfl)
    | (obtain ⟨_, _, _, _, _, rfl, _, _, _, ⟨rfl, _⟩, _⟩ := h; rfl)
    | (obtain ⟨_, _, _, _, _, rfl, _, _, _, ⟨_, rfl, _⟩, _⟩ := h; rfl)
    | (obtain ⟨_, _, _, _, _, rfl, _, _, _, ⟨_, _, rfl, _⟩, _⟩ := h; rfl)
    | (obtain ⟨_, _, _, _, _, rfl, _, _, _, ⟨_, _, _, rfl, _⟩, _⟩ := h; rfl)
    | (obtain ⟨_, _, rfl, _⟩ := h; rfl)
  · first
    | exact pure_law_pattern T H vs Q E h
    | exact pure_law_pattern H vs Q E h
    | exact pure_law_pattern K H vs Q E h
end
theorem law_ok {P : Program} {w : World} {K : PySem.W.Frag} {h : Heap} {mg : Str → Option Value} {f : Addr} (X : K.In h) (G : h.Ns mainGlobals mg) (hfa : mg ("law" : Str) = some (.ref f)) (c : obsB fa fn K = He5.valA fn) :
    ∃ fd : FuncData, (∀ (s : Shared) (v : Value), BindsTo s fd ⟨[v], []⟩ [("_law_script", v)]) ∧ ∀ base : Heap, K.In base → base.Ns mainGlobals mg → FnOk P w K mg base CX0 6 f fd ["_law_script"] (sp_law K) := by
  have T := txt_of X G c
  obtain ⟨fd, F⟩ := T.d_law
  have e := hfa.symm.trans T.g_law
  cases e
  refine ⟨fd, fun s v => fun_bindsTo (ps := ["_law_script"]) F (fun _ _ _ _ _ _ us hl => match us, hl with | [_], _ => rfl) s [v] rfl, fun base _ _ => F.ok sc_law (fun vs H Q E h => ?_) fun cdv A outer s H vs Q E hr h => ⟨t_law K, wk_law T (ok_Pattern_contains T) (ok_Pattern_eq T) (ok_Pattern_or T) (ok_law_draw T) (ok_law_pattern T) (ok_law_pool T) (ok_law_raw T) (ok_law_shuffled T) (ok_law_told T) (ok_law_within T) (ok_law_words T) cdv A outer s H E hr, pure_law T H vs Q E h⟩⟩
  obtain ⟨_, _, rfl, _⟩ := h
  rfl
end Lw
open PySem PySem.W PySem.Calls PyProof.Rows
theorem PySem.Challenge.cw_foundormade_k14_parts_of_patterns_holds : PySem.Challenge.rw_foundormade_k14_parts_of_patterns.Holds := by
  w_on; o_law
  refine HandSHeadRun.head_any (r := OpenLaw.row PySem.Challenge.rw_foundormade_k14_parts_of_patterns) (q := view (OpenLaw.row PySem.Challenge.rw_foundormade_k14_parts_of_patterns).prog [20]) (H := Lw.hk) (ob := Lw.ob) (M := 4000) (loose := Lw.names) (d := HandSHeadRun.topDef (OpenLaw.row PySem.Challenge.rw_foundormade_k14_parts_of_patterns).prog 20) (kwd := []) Lw.ob_eq
    (by kernel_rfl) (fun s => by kernel_rfl) Lw.run (by kernel_rfl) (by kernel_rfl) (by kernel_rfl) (by rfl) (by first | assumption | decide +kernel) (by decide +kernel) ⟨rfl, rfl, rfl, rfl, rfl, by decide +kernel⟩ ?hw ?hc
  case hw => w_witness2
  case hc =>
    refine L2.walk_ofE (l := PySem.Challenge.rw_foundormade_k14_parts_of_patterns) (n := 63) (k := 6) (x := "_law_script") (CX := L2.CX0) rfl (by decide) (by kernel_rfl) ⟨rfl, by decide, by decide⟩ ?F (fun _ _ _ _ z => z)
    intro w mg fa h Y G hmg0
    obtain ⟨K, KX, c⟩ := Y
    have hmg : mg ("law" : PySem.Str) = some (.ref fa) := by
      have e : (HandSHeadRun.topDef (OpenLaw.row PySem.Challenge.rw_foundormade_k14_parts_of_patterns).prog 20).name = ("law" : PySem.Str) := by kernel_rfl
      rw [← e]
      exact hmg0
    obtain ⟨fd, hb, hF⟩ := Lw.law_ok (P := (PySem.Challenge.rw_foundormade_k14_parts_of_patterns).prog) (w := w) KX G hmg c
    exact ⟨K, fd, Lw.sp_law K, KX, hb, fun H a ns hl _ hS => ⟨a, ns, rfl, hS, hl, fun _ => rfl⟩, hF⟩
