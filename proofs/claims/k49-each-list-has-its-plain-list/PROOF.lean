import PyProof.Rows.All
import Wide.All
import OpenK.AllK
import Wide.FinOn
import PyProof.EqAt
import PyProof.EqKinds
import PyProof.TupleCall
import KE.Datum
import KE.DatumMore
import KE.DatumIndex
import HandS.Base
import HandS.Call
import HandS.List
import HandS.Comp
import HandS.Ends
import HandS.Dict
import HandS.Iter
import HandS.Text
import HandS.Words
import HandS.WordsList
import HandS.WordsDict
import HandS.Deep
import HandS.Style
import HandS.Wide
import HandS.IsInst
import HandS.Flow
import HandS.More
import HandS.Star
import HandS.ClsMeth
import HandS.DictComp
import HandS.HeadHook1
import HandS.HeadHook2
import HandS.HeadNt
import KE.KStateDown
import Lean
import HandS.Head0
import HandS.Head1
import HandS.Head2
import HandS.HeadEnd
import PyProof.InstNe
import HandS.Exc
import HandS.ExcInit
import HandS.ExcField
import HandS.CallSlots
import HandS.WordsExc
import KE.KExcSuper
import HandS.ExcOwn
import HandS.ExcIs
import HandS.TryOnly
import KE.KExcIs
import KE.GoesMore
import PyProof.EnumMake
import HandS.Small
import HandS.OwnEq
import HandS.IterVal
import KE.KOwnIter
import HandS.Strs
import PyProof.DictMoreH
import HandS.DictTup
import HandS.Zip
import HandS.Conv
import HandS.MakeKwOnly
import PyProof.Rows.ListMulArg
import HandS.Property
import HandS.SortRule
import PyProof.Rows.SortKeyStr
import KE.DataEq
import HandS.Defaults
import HandS.TupAny
import PyProof.Rows.SortShellAny
import PyProof.ReprRoads
import PyProof.ReprLen
import HandS.OwnIter
import HandS.Set
import PySem.Challenge.RW_foundormade_k49_each_list_has_its_plain
set_option Elab.async false
set_option linter.all false
set_option maxRecDepth 100000
set_option maxHeartbeats 4000000
namespace Fm
open PySem PySem.Spec PyProof.Rows L2
open PySem.W (Datum Tup)
theorem same_new {H:Hp} {p:Addr} {o:HO} (h:H p=none):Same H (upd H p o) := fun b x e=>by
 rw [upd_ne (ne_of_none e h)]
 exact e
theorem same_upd {S H:Hp} {p:Addr} {o:HO} (e:Same S H) (h:S p=none):Same S (upd H p o) := fun b x q=>by
 rw [upd_ne (ne_of_none q h)]
 exact e b x q
theorem same_both {S H:Hp} {p:Addr} {o:HO} (e:Same S H):Same (upd S p o) (upd H p o) := fun b x q=>by
 by_cases hb:b=p
 ·subst hb; rw [upd_same] at q ⊢; exact q
 ·rw [upd_ne hb] at q ⊢; exact e b x q
structure Step (S T S' T':Hp):Prop where
 ss:Same S S'
 st:Same S' T'
 tt:Same T T'
 nw:∀ a,T a≠none→S a=none→S' a=none
section
variable {S T S' T' S0 T0 S1 T1 S2 T2 H H':Hp} {p:Addr} {o:HO}
theorem Step.refl (h:Same S T):Step S T S T := ⟨Same.refl _,h,Same.refl _,fun _ _ h=>h⟩
theorem Step.trans (a:Step S T S1 T1) (b:Step S1 T1 S2 T2):Step S T S2 T2 :=
 ⟨a.ss.trans b.ss,b.st,a.tt.trans b.tt,fun x hx hs=>b.nw x (fun z=>hx (a.tt.free z)) (a.nw x hx hs)⟩
theorem Step.new (h:Same S T) (n:T p=none):Step S T (upd S p o) (upd T p o) := by
 refine ⟨same_new (h.free n),same_both h,same_new n,fun a ha hs=>?_⟩
 have hne:a≠p := fun z=>ha (by rw [z]; exact n)
 rw [upd_ne hne]; exact hs
theorem Step.tmp (h:Same S T) (n:T p=none):Step S T S (upd T p o) :=
 ⟨Same.refl _,h.trans (same_new n),same_new n,fun _ _ h=>h⟩
theorem Step.freeze (s:Step S0 T0 S T) (n:T0 p=none) (h:T p=some o):Step S0 T0 (upd S p o) T := by
 refine ⟨fun b x q=>?_,fun b x q=>?_,s.tt,fun a ha hs=>?_⟩
 ·have q' := s.ss b x q
  by_cases hb:b=p
  ·subst hb
   have z := s.st b x q'
   rw [h] at z; rw [upd_same]; exact z
  ·rw [upd_ne hb]; exact q'
 ·by_cases hb:b=p
  ·subst hb; rw [upd_same] at q; rw [← q]; exact h
  ·rw [upd_ne hb] at q; exact s.st b x q
 ·have hne:a≠p := fun z=>ha (by rw [z]; exact n)
  rw [upd_ne hne]; exact s.nw a ha hs
theorem Step.set (s:Step S0 T0 S T) (n0:T0 p=none) (ns:S p=none):Step S0 T0 S (upd T p o) :=
 ⟨s.ss,same_upd s.st ns,same_upd s.tt n0,s.nw⟩
def join (A B:Hp):Hp := fun a=>match A a with | some o=>some o | none=>B a
theorem join_l {A B:Hp}:Same A (join A B) := fun b x q=>by unfold join; rw [q]
theorem Step.widen (s:Step S T S' T') (e:Same S S1) (h1:Same S1 T):Step S1 T (join S1 S') T'∧Same S' (join S1 S') := by
 refine ⟨⟨join_l,fun b x q=>?_,s.tt,fun a ha hs=>?_⟩,fun b x q=>?_⟩
 ·unfold join at q
  cases z:S1 b with
  | some y=>rw [z] at q; cases q; exact s.tt b _ (h1 b _ z)
  | none=>rw [z] at q; exact s.st b x q
 ·unfold join; rw [hs]; exact s.nw a ha (e.free hs)
 ·unfold join
  cases z:S1 b with
  | some y =>
   have h2 := s.tt b _ (h1 b _ z)
   rw [s.st b x q] at h2; exact h2.symm
  | none=>exact q
structure Wld where
 W:Hp→Hp→Prop
 sub:∀ {T H},W T H→Same T H
 new:∀ {T H a o},W T H→H a=none→W (upd T a o) (upd H a o)
 tmp:∀ {T H a o},W T H→H a=none→W T (upd H a o)
 set:∀ {T H a o o'},W T H→T a=some o→W (upd T a o') (upd H a o')
 lift:∀ {S S' T H H'},W T H→Same S T→Step S H S' H'→∃ T',Step S T S' T'∧W T' H'
def liftT (T H S':Hp):Hp := fun a=>match H a with | some _=>T a | none=>S' a
theorem liftT_step (h:Same T H) (e:Same S T) (s:Step S H S' H'):Step S T S' (liftT T H S')∧Same (liftT T H S') H' := by
 refine ⟨⟨s.ss,fun b x q=>?_,fun b x q=>?_,fun a ha hs=>s.nw a (fun z=>ha (h.free z)) hs⟩,fun b x q=>?_⟩
 ·unfold liftT
  cases z:H b with
  | none=>exact q
  | some y =>
   cases w:S b with
   | none=>rw [s.nw b (by rw [z]; simp) w] at q; cases q
   | some u=>rw [s.ss b u w] at q; cases q; exact e b _ w
 ·unfold liftT; rw [h b x q]; exact q
 ·unfold liftT at q
  cases z:H b with
  | none=>rw [z] at q; exact s.st b x q
  | some y=>rw [z] at q; exact s.tt b x (h b x q)
def W0:Wld where
 W := Same
 sub := fun h=>h
 new := fun h n=>same_both h
 tmp := fun h n=>h.trans (same_new n)
 set := fun h _=>same_both h
 lift := fun h e s=>⟨_,(liftT_step h e s).1,(liftT_step h e s).2⟩
end
mutual
inductive Dq (K:PySem.W.Frag) (H:Hp):V→PyData→Prop
 | non:Dq K H .non .none
 | bl (b:Bool):Dq K H (.bl b) (.bool b)
 | int (i:Int):Dq K H (.int i) (.int i)
 | str (x:Str):Dq K H (.str x) (.str x)
 | lst {a:Addr} {xs:List V} {ds:List PyData}:Rd H a (.lst xs)→DqAll K H xs ds→Dq K H (.ref a) (.list ds)
 | tup {a:Addr} {xs:List V} {ds:List PyData}:SqT K H a xs→DqAll K H xs ds→Dq K H (.ref a) (.tuple ds)
inductive DqAll (K:PySem.W.Frag) (H:Hp):List V→List PyData→Prop
 | nil:DqAll K H [] []
 | cons {v:V} {vs:List V} {d:PyData} {ds:List PyData}:Dq K H v d→DqAll K H vs ds→DqAll K H (v :: vs) (d :: ds)
end
theorem Same.rd {S S':Hp} {a:Addr} {u:HO} (e:Same S S') (h:Rd S a u):Rd S' a u := by
 rcases h with h | ⟨o,h⟩
 ·exact .inl (e _ _ h)
 ·exact .inr ⟨o,e _ _ h⟩
mutual
theorem Dq.dp {K:PySem.W.Frag} {S:Hp}:∀ {v:V} {d:PyData},Dq K S v d→Dp K S v d
 | _,_, .non=>.non
 | _,_, .bl b=>.bl b
 | _,_, .int i=>.int i
 | _,_, .str x=>.str x
 | _,_, .lst h r=>.lst (.inl h) (DqAll.dp r)
 | _,_, .tup h r=>.tup h (DqAll.dp r)
theorem DqAll.dp {K:PySem.W.Frag} {S:Hp}:∀ {vs:List V} {ds:List PyData},DqAll K S vs ds→DpAll K S vs ds
 | _,_, .nil=>.nil
 | _,_, .cons h r=>.cons (Dq.dp h) (DqAll.dp r)
end
section
variable {K:PySem.W.Frag} {S S':Hp} {v:V} {vs:List V}
mutual
theorem Dq.mono (e:Same S S'):∀ {v:V} {d:PyData},Dq K S v d→Dq K S' v d
 | _,_, .non=>.non
 | _,_, .bl b=>.bl b
 | _,_, .int i=>.int i
 | _,_, .str x=>.str x
 | _,_, .lst h r=>.lst (Same.rd e h) (DqAll.mono e r)
 | _,_, .tup h r=>.tup (by
  rcases h with (h | ⟨o,h⟩) | h
  ·exact .inl (.inl (e _ _ h))
  ·exact .inl (.inr ⟨o,e _ _ h⟩)
  ·exact .inr h) (DqAll.mono e r)
theorem DqAll.mono (e:Same S S'):∀ {vs:List V} {ds:List PyData},DqAll K S vs ds→DqAll K S' vs ds
 | _,_, .nil=>.nil
 | _,_, .cons h r=>.cons (Dq.mono e h) (DqAll.mono e r)
end
theorem Same.tup {a:Addr} {xs:List V} (e:Same S S') (h:SqT K S a xs):SqT K S' a xs := by
 rcases h with (h | ⟨o,h⟩) | h
 ·exact .inl (.inl (e _ _ h))
 ·exact .inl (.inr ⟨o,e _ _ h⟩)
 ·exact .inr h
theorem DqAll.len:∀ {vs:List V} {ds:List PyData},DqAll K S vs ds→vs.length=ds.length
 | _,_, .nil=>rfl
 | _,_, .cons _ r=>by rw [List.length_cons,List.length_cons,DqAll.len r]
theorem DqAll.at_:∀ {vs:List V} {ds:List PyData} {i:Nat} {d:PyData},DqAll K S vs ds→ds[i]? = some d→∃ v,vs[i]? = some v∧Dq K S v d
 | _,_,_,_, .nil,e=>by simp at e
 | _,_,0,_, .cons h _,e=>by simp at e; subst e; exact ⟨_,rfl,h⟩
 | _,_,i + 1,d, .cons _ r,e=>by
  obtain ⟨v,h1,h2⟩ := DqAll.at_ (i := i) (d := d) r (by simpa using e)
  exact ⟨v,by simpa using h1,h2⟩
theorem DqAll.of:∀ {vs:List V} {ds:List PyData} {i:Nat} {v:V},DqAll K S vs ds→vs[i]? = some v→∃ d,ds[i]? = some d∧Dq K S v d
 | _,_,_,_, .nil,e=>by simp at e
 | _,_,0,_, .cons h _,e=>by simp at e; subst e; exact ⟨_,rfl,h⟩
 | _,_,i + 1,v, .cons _ r,e=>by
  obtain ⟨d,h1,h2⟩ := DqAll.of (i := i) (v := v) r (by simpa using e)
  exact ⟨d,by simpa using h1,h2⟩
theorem DqAll.app:∀ {vs ws:List V} {ds es:List PyData},DqAll K S vs ds→DqAll K S ws es→DqAll K S (vs ++ ws) (ds ++ es)
 | _,_,_,_, .nil,h=>h
 | _,_,_,_, .cons h r,q=>.cons h (DqAll.app r q)
theorem DqAll.drop_:∀ {vs:List V} {ds:List PyData} (n:Nat),DqAll K S vs ds→DqAll K S (vs.drop n) (ds.drop n)
 | _,_,0,h=>h
 | _,_,_ + 1, .nil=>.nil
 | _,_,n + 1, .cons _ r=>DqAll.drop_ n r
theorem DqAll.take_:∀ {vs:List V} {ds:List PyData} (n:Nat),DqAll K S vs ds→DqAll K S (vs.take n) (ds.take n)
 | _,_,0,h=>.nil
 | _,_,_ + 1, .nil=>.nil
 | _,_,n + 1, .cons h r=>.cons h (DqAll.take_ n r)
theorem DqAll.rev:∀ {vs:List V} {ds:List PyData},DqAll K S vs ds→DqAll K S vs.reverse ds.reverse
 | _,_, .nil=>.nil
 | _,_, .cons h r=>by rw [List.reverse_cons,List.reverse_cons]; exact DqAll.app (DqAll.rev r) (.cons h .nil)
end
section
variable {K:PySem.W.Frag} {S S':Hp} {v:V} {vs:List V} {α β:Type} [DecidableEq α] [Datum α] [DecidableEq β] [Datum β]
def Is (K:PySem.W.Frag) (x:α) (S:Hp) (v:V):Prop := Dq K S v (Datum.toD x)
def IsAll (K:PySem.W.Frag) (xs:List α) (S:Hp) (vs:List V):Prop := DqAll K S vs (xs.map Datum.toD)
theorem Is.mono {x:α} (h:Is K x S v) (e:Same S S'):Is K x S' v := Dq.mono e h
theorem IsAll.mono {xs:List α} (h:IsAll K xs S vs) (e:Same S S'):IsAll K xs S' vs := DqAll.mono e h
theorem is_int {i:Int}:Is K i S (.int i) := .int i
theorem is_bl {b:Bool}:Is K b S (.bl b) := .bl b
theorem is_str {x:Str}:Is K x S (.str x) := .str x
theorem Is.int {i:Int} (h:Is K i S v):v = .int i := by cases h; rfl
theorem Is.bl {b:Bool} (h:Is K b S v):v = .bl b := by cases h; rfl
theorem Is.str {x:Str} (h:Is K x S v):v = .str x := by cases h; rfl
theorem is_lst {a:Addr} {xs:List α} (h:Rd S a (.lst vs)) (r:IsAll K xs S vs):Is K xs S (.ref a) := .lst h r
theorem Is.lst {xs:List α} (h:Is K xs S v):∃ a vs,v = .ref a∧Rd S a (.lst vs)∧IsAll K xs S vs := by
 cases h with
 | lst h r=>exact ⟨_,_,rfl,h,r⟩
theorem Is.tup {t:Tup α} (h:Is K t S v):∃ a vs,v = .ref a∧SqT K S a vs∧IsAll K t.items S vs := by
 cases h with
 | tup h r=>exact ⟨_,_,rfl,h,r⟩
theorem IsAll.len {xs:List α} (h:IsAll K xs S vs):vs.length=xs.length := by rw [DqAll.len h,List.length_map]
theorem IsAll.at_ {xs:List α} {i:Nat} {x:α} (h:IsAll K xs S vs) (e:xs[i]? = some x):∃ v,vs[i]? = some v∧Is K x S v :=
 DqAll.at_ h (by rw [List.getElem?_map,e]; rfl)
theorem IsAll.of {xs:List α} {i:Nat} (h:IsAll K xs S vs) (e:vs[i]? = some v):∃ x,xs[i]? = some x∧Is K x S v := by
 obtain ⟨d,h1,h2⟩ := DqAll.of h e
 rw [List.getElem?_map] at h1
 cases z:xs[i]? with
 | none=>rw [z] at h1; cases h1
 | some x=>rw [z] at h1; cases h1; exact ⟨x,rfl,h2⟩
theorem IsAll.nil:IsAll K ([]:List α) S [] := DqAll.nil
theorem IsAll.cons {x:α} {xs:List α} (h:Is K x S v) (r:IsAll K xs S vs):IsAll K (x :: xs) S (v :: vs) := DqAll.cons h r
theorem IsAll.app {xs ys:List α} {ws:List V} (h:IsAll K xs S vs) (r:IsAll K ys S ws):IsAll K (xs ++ ys) S (vs ++ ws) := by
 unfold IsAll; rw [List.map_append]; exact DqAll.app h r
theorem IsAll.one {x:α} (h:Is K x S v):IsAll K [x] S [v] := DqAll.cons h DqAll.nil
theorem IsAll.drop_ {xs:List α} (n:Nat) (h:IsAll K xs S vs):IsAll K (xs.drop n) S (vs.drop n) := by
 unfold IsAll; rw [List.map_drop]; exact DqAll.drop_ n h
theorem IsAll.take_ {xs:List α} (n:Nat) (h:IsAll K xs S vs):IsAll K (xs.take n) S (vs.take n) := by
 unfold IsAll; rw [List.map_take]; exact DqAll.take_ n h
theorem IsAll.rev {xs:List α} (h:IsAll K xs S vs):IsAll K xs.reverse S vs.reverse := by
 unfold IsAll; rw [List.map_reverse]; exact DqAll.rev h
theorem isAll_ints:∀ {ns:List Int},IsAll K ns S (ns.map V.int)
 | []=>DqAll.nil
 | n :: r=>DqAll.cons (Dq.int n) isAll_ints
theorem IsAll.ints:∀ {ns:List Int} {vs:List V},IsAll K ns S vs→vs=ns.map V.int
 | [],_,h=>by cases h; rfl
 | n :: r,_,h=>by
  cases h with
  | cons h t=>rw [Is.int h,IsAll.ints t]; rfl
end
end Fm
namespace Fm
open PySem PySem.Spec PyProof.Rows L2
open PySem.W (Datum Tup)
section
variable {X:Cx}
def rEqP (K:PySem.W.Frag):R2 := fun x y H Q=>∃ d e,Dp K H x d∧Dp K H y e∧d.plain=true∧e.plain=true∧min d.depth e.depth≤60∧Q (.bl (PyData.eqv d e)) H
def rNeP (K:PySem.W.Frag):R2 := fun x y H Q=>∃ d e,Dp K H x d∧Dp K H y e∧d.plain=true∧e.plain=true∧min d.depth e.depth≤60∧Q (.bl (!PyData.eqv d e)) H
theorem op_eqP (hu:X.A.units + 64 < cLine):OpR X (compareOp .Eq) (rEqP X.K) := by
 intro pins s σ H x y v u Q I rx ry h
 obtain ⟨d,e,hd,he,sd,se,hm,q⟩ := h
 obtain ⟨as,r1⟩ := Dp.reads I d x v hd rx
 obtain ⟨bs,r2⟩ := Dp.reads I e y u he ry
 exact SeqAt.eq_plain r1 r2 sd se (by omega) ⟨.bl _,H,I,rfl,q⟩
theorem op_neP (hu:X.A.units + 64 < cLine):OpR X (compareOp .NotEq) (rNeP X.K) := by
 intro pins s σ H x y v u Q I rx ry h
 obtain ⟨d,e,hd,he,sd,se,hm,q⟩ := h
 obtain ⟨as,r1⟩ := Dp.reads I d x v hd rx
 obtain ⟨bs,r2⟩ := Dp.reads I e y u he ry
 exact SeqAt.ne_plain r1 r2 sd se (by omega) ⟨.bl _,H,I,rfl,q⟩
def rInP (K:PySem.W.Frag) (neg:Bool):R2 := fun x y H Q=>(∃ d ds,Dp K H x d∧(Dp K H y (.list ds)∨Dp K H y (.tuple ds))∧d.plain=true∧PyData.plainAll ds=true∧d.depth≤60∧Q (.bl (if neg then !ds.any (fun z=>PyData.eqv z d) else ds.any (fun z=>PyData.eqv z d))) H)
 ∨ ∃ (c:Nat) (z:Str),x = .str ⟨#[c]⟩∧y = .str z∧Q (.bl (if neg then !decide (c∈z.cps.toList) else decide (c∈z.cps.toList))) H
theorem op_inP (hu:X.A.units + 65 < cLine):OpR X (compareOp .In) (rInP X.K false) := by
 intro pins s σ H x y v u Q I rx ry h
 rcases h with ⟨d,ds,hd,he,sd,se,hm,q⟩ | ⟨c,z,hx,hy,q⟩
 ·obtain ⟨as,r1⟩ := Dp.reads I d x v hd rx
  have hr:X.A.units + 1 + min (PyData.depthAll ds) d.depth < cLine := by
   have := Nat.min_le_right (PyData.depthAll ds) d.depth
   omega
  rcases he with he | he
  ·obtain ⟨bs,r2⟩ := Dp.reads I (.list ds) y u he ry
   exact SeqAt.in_list_data r2 r1 se sd hr ⟨.bl _,H,I,rfl,q⟩
  ·obtain ⟨bs,r2⟩ := Dp.reads I (.tuple ds) y u he ry
   exact SeqAt.in_tuple_data r2 r1 se sd hr ⟨.bl _,H,I,rfl,q⟩
 ·exact op_in_sign pins s σ H x y v u Q I rx ry ⟨c,z,hx,hy,q⟩
theorem op_notInP (hu:X.A.units + 65 < cLine):OpR X (compareOp .NotIn) (rInP X.K true) := by
 intro pins s σ H x y v u Q I rx ry h
 rcases h with ⟨d,ds,hd,he,sd,se,hm,q⟩ | ⟨c,z,hx,hy,q⟩
 ·obtain ⟨as,r1⟩ := Dp.reads I d x v hd rx
  have hr:X.A.units + 1 + min (PyData.depthAll ds) d.depth < cLine := by
   have := Nat.min_le_right (PyData.depthAll ds) d.depth
   omega
  rcases he with he | he
  ·obtain ⟨bs,r2⟩ := Dp.reads I (.list ds) y u he ry
   exact SeqAt.notIn_list_data r2 r1 se sd hr ⟨.bl _,H,I,rfl,q⟩
  ·obtain ⟨bs,r2⟩ := Dp.reads I (.tuple ds) y u he ry
   exact SeqAt.notIn_tuple_data r2 r1 se sd hr ⟨.bl _,H,I,rfl,q⟩
 ·exact op_notIn_sign pins s σ H x y v u Q I rx ry ⟨c,z,hx,hy,q⟩
def rCatR:R2 := fun x y H Q=>∃ l b xs zs,x = .ref l∧y = .ref b∧Rd H l (.lst xs)∧Rd H b (.lst zs)∧xs.length + zs.length≤sizeLine∧∀ p,H p=none→Q (.ref p) (upd H p (.lst (xs ++ zs)))
theorem op_catR:OpR X (binaryOp .Add) rCatR := by
 intro pins s σ H x y v u Q I rx ry h
 obtain ⟨l,b,xs,zs,rfl,rfl,hH,hB,hz,q⟩ := h
 cases rx
 cases ry
 obtain ⟨z,its,n,r,e⟩ := hH.ok I.hok
 obtain ⟨z2,its2,n2,r2,e2⟩ := hB.ok I.hok
 have hl := r.length
 have hl2 := r2.length
 refine PySem.P.add_list e e2 ?_ (by rw [List.size_toArray,List.size_toArray]; omega)
 have ea:its.toArray ++ its2.toArray=(its ++ its2).toArray := by simp
 rw [ea]
 exact ⟨.ref _,_,I.lnew (t' := s.toks) (r.append r2) (by rw [List.length_append]; omega),rfl,q _ I.fresh⟩
def rAddA:R2 := fun x y H Q=>(∃ i j,x = .int i∧y = .int j∧Q (.int (i + j)) H)∨(∃ i j,x = .str i∧y = .str j∧i.length + j.length≤sizeLine∧Q (.str (i ++ j)) H)∨rCatR x y H Q
theorem OpR.or {f:Value→Value→Sem Value} {r r':R2} (h:OpR X f r) (h':OpR X f r'):OpR X f (fun x y H Q=>r x y H Q∨r' x y H Q) := by
 intro pins s σ H x y v u Q I rx ry q
 rcases q with q | q
 ·exact h pins s σ H x y v u Q I rx ry q
 ·exact h' pins s σ H x y v u Q I rx ry q
theorem op_addA:OpR X (binaryOp .Add) rAddA := OpR.or op_add (OpR.or op_add_str op_catR)
def iSeq (K:PySem.W.Frag) (tl:TE):TI := fun σ H R=>tl σ H fun x H1=>(∃ a,x = .ref a∧(∃ xs,SqL K H1 a xs)∧R (Itl K a) H1)∨(∃ a,x = .ref a∧(∃ xs,SqT K H1 a xs)∧R (Itt K a) H1)∨∃ z,x = .str z∧R (Its z) H1
theorem pi_seq {tg l:Expr} {tl:TE} (hl:PE X l tl):PI X tg l (iSeq X.K tl) := by
 refine ⟨fun pins s σ H R I h=>?_⟩
 refine thn (hl.run pins s σ H _ I h) fun v s1 ⟨x,H1,I1,r1,q1⟩=>?_
 rcases q1 with ⟨a,e,⟨xs,hq⟩,q⟩ | ⟨a,e,⟨xs,hq⟩,q⟩ | ⟨z,e,q⟩
 ·subst e
  cases r1
  obtain ⟨its,rv,p,hz⟩ := I1.list hq
  refine wpAny_pyIter_list p.isList ?_
  refine ⟨s1.heap.objs.size,[s1.heap.objs.size],_,_,H1,rfl,I1.kept (t' := s1.toks) fun b o e=>Heap.get?_push_of_some _ e,turn_list a _,⟨_,Heap.get?_push_size _ rfl,rfl,rfl⟩,fun b hb=>?_,q⟩
  have e:b=s1.heap.objs.size := by simpa using hb
  subst e
  exact I1.fpOk (Nat.le_refl _) (I1.hok.fresh (Nat.le_refl _))
 ·subst e
  cases r1
  obtain ⟨its,rv,p,hz⟩ := I1.tuple hq
  refine wpAny_pyIter_tuple (show s1.heap.IsTuple a its.toArray from p) ?_
  refine ⟨s1.heap.objs.size,[s1.heap.objs.size],_,_,H1,rfl,I1.kept (t' := s1.toks) fun b o e=>Heap.get?_push_of_some _ e,turn_tuple a _,⟨_,Heap.get?_push_size _ rfl,rfl,rfl⟩,fun b hb=>?_,q⟩
  have e:b=s1.heap.objs.size := by simpa using hb
  subst e
  exact I1.fpOk (Nat.le_refl _) (I1.hok.fresh (Nat.le_refl _))
 ·subst e
  obtain ⟨t,rfl⟩ := r1
  cases ha:z.cps.all (· < 128)
  ·exact wpAny_pyIter_wide ha (pi_one (tk := s1.toks) I1 _ (turn_str _ z t "str_iterator" (.inr rfl)) ⟨_,Heap.get?_push_size _ rfl,rfl,rfl⟩ q)
  ·exact wpAny_pyIter_ascii ha (pi_one (tk := s1.toks) I1 _ (turn_str _ z t "str_ascii_iterator" (.inl rfl)) ⟨_,Heap.get?_push_size _ rfl,rfl,rfl⟩ q)
def rSlA (K:PySem.W.Frag):V→Option Int→Option Int→Hp→VK→Prop := fun x lo hi H Q=>(∃ a xs,x = .ref a∧SqL K H a xs∧∀ p,H p=none→Q (.ref p) (upd H p (.lst (cutV xs lo hi))))∨∃ z,x = .str z∧z.length≤sizeLine∧Q (.str (cutS z lo hi)) H
theorem sl_any:SlR X (rSlA X.K) := by
 intro pins s σ H x v vl vu lo hi sl Q I rx hs pl pu h
 rcases h with h | h
 ·exact sl_list pins s σ H x v vl vu lo hi sl Q I rx hs pl pu h
 ·exact sl_str pins s σ H x v vl vu lo hi sl Q I rx hs pl pu h
def rGetL:V→V→Hp→VK→Prop := fun x y H Q=>∃ p xs i v,x = .ref p∧y = .int i∧0≤i∧H p=some (.lst xs)∧xs[i.toNat]? = some v∧Q v H
theorem get_list {X:Cx}:PGet X rGetL := by
 intro pins s σ H o i ov iv Q I ro ri h
 obtain ⟨p,xs,i,z,rfl,rfl,h0,hq,he,q⟩ := h
 cases ro
 obtain ⟨t,rfl⟩ := ri
 obtain ⟨its,r,pl,hz⟩ := I.list (SqL.of hq)
 obtain ⟨w,ew,rw'⟩ := r.get he
 have hl := r.length
 have hn := line63
 have hi:i.toNat < its.length := (List.getElem?_eq_some_iff.mp ew).1
 exact wpAny_getItem_list pl.isList h0 (by omega) (by simpa using ew) ⟨z,H,I,rw',q⟩
end
end Fm
namespace Fm
open PySem PySem.Spec PyProof.Rows L2
open PySem.W (Datum Tup T3 T4)
def Ev (M:Wld) (t:TE) (σ:L2.St) (S:Hp) (P:Hp→V→Prop):Prop :=
 ∀ T H,M.W T H→Same S T→∀ Q:VK,(∀ S' T' H' v,Step S T S' T'→M.W T' H'→P S' v→Q v H')→t σ H Q
def EvT (M:Wld) (t:TT) (σ:L2.St) (S:Hp) (b:Bool):Prop :=
 ∀ T H,M.W T H→Same S T→∀ Q:Bool→Hp→Prop,(∀ S' T' H',Step S T S' T'→M.W T' H'→Q b H')→t σ H Q
def EvA (M:Wld) (t:TA) (σ:L2.St) (S:Hp) (P:Hp→List V→Prop):Prop :=
 ∀ T H,M.W T H→Same S T→∀ Q:List V→Hp→Prop,(∀ S' T' H' vs,Step S T S' T'→M.W T' H'→P S' vs→Q vs H')→t σ H Q
def Rv (M:Wld) (r:Hp→VK→Prop) (S:Hp) (P:Hp→V→Prop):Prop :=
 ∀ T H,M.W T H→Same S T→∀ Q:VK,(∀ S' T' H' v,Step S T S' T'→M.W T' H'→P S' v→Q v H')→r H Q
def Mono (P:Hp→V→Prop):Prop := ∀ S S' v,Same S S'→P S v→P S' v
def MonoA (P:Hp→List V→Prop):Prop := ∀ S S' v,Same S S'→P S v→P S' v
section
variable {M:Wld} {K:PySem.W.Frag} {σ:L2.St} {S S1:Hp} {P P1 P2:Hp→V→Prop} {ta tb te tc:TE} {t u:TT} {v x y:V}
theorem Ev.mono (hP:Mono P) (h:Ev M te σ S P) (e:Same S S1):Ev M te σ S1 P := fun T H w s Q q =>
 h T H w (e.trans s) Q fun S' T' H' v st w' p=>by
  obtain ⟨a,b⟩ := st.widen e s
  exact q _ T' H' v a w' (hP _ _ _ b p)
theorem EvT.mono {b:Bool} (h:EvT M t σ S b) (e:Same S S1):EvT M t σ S1 b := fun T H w s Q q =>
 h T H w (e.trans s) Q fun S' T' H' st w'=>q _ T' H' (st.widen e s).1 w'
theorem EvA.mono {ta:TA} {P:Hp→List V→Prop} (hP:MonoA P) (h:EvA M ta σ S P) (e:Same S S1):EvA M ta σ S1 P := fun T H w s Q q =>
 h T H w (e.trans s) Q fun S' T' H' v st w' p=>by
  obtain ⟨a,b⟩ := st.widen e s
  exact q _ T' H' v a w' (hP _ _ _ b p)
theorem Ev.imp (h:Ev M te σ S P) (hp:∀ S' v,Same S S'→P S' v→P1 S' v):Ev M te σ S P1 := fun T H w s Q q =>
 h T H w s Q fun S' T' H' v st w' p=>q S' T' H' v st w' (hp S' v st.ss p)
theorem EvT.is {a b:Bool} (h:EvT M t σ S a) (e:a=b):EvT M t σ S b := e ▸ h
theorem ev_var {i:Nat} (h:σ[i]? = some (some v)) (p:P S v):Ev M (tVar i) σ S P := fun T H w s Q q=>⟨v,h,q S T H v (Step.refl s) w p⟩
theorem ev_c (p:P S v):Ev M (tC v) σ S P := fun T H w s Q q=>q S T H v (Step.refl s) w p
theorem rv_now {r:Hp→VK→Prop} (h:∀ H,Same S H→∀ Q:VK,Q v H→r H Q) (p:P S v):Rv M r S P := fun T H w s Q q =>
 h H (s.trans (M.sub w)) Q (q S T H v (Step.refl s) w p)
theorem ev_op {r:R2} (hP:Mono P1) (ha:Ev M ta σ S P1) (hb:∀ S1,Same S S1→Ev M tb σ S1 P2) (hr:∀ S2 x y,Same S S2→P1 S2 x→P2 S2 y→Rv M (r x y) S2 P):Ev M (tOp r ta tb) σ S P := fun T H w s Q q =>
 ha T H w s _ fun S1 T1 H1 x st1 w1 p1=>hb S1 st1.ss T1 H1 w1 st1.st _ fun S2 T2 H2 y st2 w2 p2 =>
  hr S2 x y (st1.ss.trans st2.ss) (hP _ _ _ st2.ss p1) p2 T2 H2 w2 st2.st Q fun S3 T3 H3 v st3 w3 p=>q S3 T3 H3 v ((st1.trans st2).trans st3) w3 p
theorem ev_test {b:Bool} (h:Ev M te σ S (Is K b)):EvT M (tTest te) σ S b := fun T H w s Q q=>h T H w s _ fun S' T' H' v st w' p=>⟨b,p.bl,q S' T' H' st w'⟩
theorem ev_and {a b:Bool} (h1:EvT M t σ S a) (h2:a=true→EvT M u σ S b):EvT M (tAnd t u) σ S (a && b) := fun T H w s Q q=>h1 T H w s _ fun S1 T1 H1 st w1=>by
 cases a with
 | true=>exact iteT ((h2 rfl).mono st.ss T1 H1 w1 st.st Q fun S2 T2 H2 st2 w2=>q S2 T2 H2 (st.trans st2) w2)
 | false=>exact iteF (q S1 T1 H1 st w1)
theorem is_mono {α:Type} [DecidableEq α] [Datum α] {a:α}:Mono (Is K a) := fun _ _ _ e h=>h.mono e
end
section
variable {M:Wld} {K:PySem.W.Frag} {σ:L2.St} {S S1:Hp} {P P1 P2 P3 P4:Hp→V→Prop} {PA:Hp→List V→Prop} {ta tb te tc td:TE} {tr:TA} {v x y:V}
theorem ev_nil (p:PA S []):EvA M tNil σ S PA := fun T H w s Q q=>q S T H [] (Step.refl s) w p
theorem ev_cons {PR:Hp→List V→Prop} (hP:Mono P1) (ha:Ev M ta σ S P1) (hr:∀ S1,Same S S1→EvA M tr σ S1 PR) (hq:∀ S2 x xs,Same S S2→P1 S2 x→PR S2 xs→PA S2 (x :: xs)):EvA M (tCons ta tr) σ S PA := fun T H w s Q q =>
 ha T H w s _ fun S1 T1 H1 x st1 w1 p1=>hr S1 st1.ss T1 H1 w1 st1.st _ fun S2 T2 H2 xs st2 w2 p2=>q S2 T2 H2 (x :: xs) (st1.trans st2) w2 (hq S2 x xs (st1.ss.trans st2.ss) (hP _ _ _ st2.ss p1) p2)
def All1 (P1:Hp→V→Prop):Hp→List V→Prop := fun S vs=>∃ a,vs=[a]∧P1 S a
theorem eva_1 (h1:Mono P1) (ha:Ev M ta σ S P1):EvA M (tCons ta tNil) σ S (All1 P1) := ev_cons (PR := fun _ vs=>vs=[]) h1 ha (fun S1 _=>ev_nil rfl) fun S2 x xs _ p e=>⟨x,by rw [e],p⟩
end
end Fm
namespace Fm
open PySem PySem.Spec PyProof.Rows L2
open PySem.W (Datum Tup T3 T4)
section
variable {X:Cx}
def rLenA (K:PySem.W.Frag):List V→Hp→VK→Prop := fun xs H Q=>∃ x n,xs=[x]∧LenV K x H n∧Q (.int n) H
theorem call_lenA:CallR X (.builtin "len") (rLenA X.K) := call_len
def rInt1:List V→Hp→VK→Prop := fun xs H Q=>(∃ i,xs=[.int i]∧Q (.int i) H)∨∃ k,xs=[.bl k]∧Q (.int (if k then 1 else 0)) H
theorem call_intA:CallR X (.type "int") rInt1 := call_int1
def rListOf (K:PySem.W.Frag):List V→Hp→VK→Prop := fun xs H Q=>∃ p ys,xs=[.ref p]∧(SqL K H p ys∨SqT K H p ys)∧∀ l,H l=none→Q (.ref l) (upd H l (.lst ys))
theorem call_listA:CallR X (.type "list") (rListOf X.K) := call_list_of
def rTupOf (K:PySem.W.Frag):List V→Hp→VK→Prop := fun xs H Q=>∃ p ys,xs=[.ref p]∧((SqL K H p ys∧∀ l,H l=none→Q (.ref l) (upd H l (.tup ys)))∨(SqT K H p ys∧Q (.ref p) H))
theorem call_tupA:CallR X (.type "tuple") (rTupOf X.K) := call_tuple_of
def rAllA (K:PySem.W.Frag):List V→Hp→VK→Prop := rAll K
def rJoinA (K:PySem.W.Frag):V→List V→Hp→VK→Prop := fun x xs H Q=>∃ a p,∃ ys:List Str,x = .str a∧xs=[.ref p]∧(SqL K H p (ys.map V.str)∨SqT K H p (ys.map V.str))∧(ys.map (·.length)).sum + ys.length * a.length≤16777216∧Q (.str (Txt.join a ys)) H
theorem pe_joinA {o e:Expr} {to te:TE} {apos pos:Pos} (ho:PE X o to) (he:PE X e te) (hs:starEach [e] X.env=[(false,eval e X.env)] := by rfl) (hbase:attributeBase o "join" X.env (eval o X.env)=eval o X.env := by rfl) (hline:(apos.endLine == pos.line)=true := by rfl) :
 PE X (.Call (.Attribute o "join" apos) [e] [] pos) (tM1 (rJoinA X.K) to te) := pe_join ho he hs hbase hline
def rLeA:R2 := rI0 fun i j=>.bl (decide (i≤j))
def rGtA:R2 := rI0 fun i j=>.bl (decide (j < i))
def rGeA:R2 := rI0 fun i j=>.bl (decide (j≤i))
theorem op_leA:OpR X (compareOp .LtE) rLeA := op_le
theorem op_gtA:OpR X (compareOp .Gt) rGtA := op_gt
theorem op_geA:OpR X (compareOp .GtE) rGeA := op_ge
def rSubI:R2 := rI0 fun i j=>.int (i - j)
theorem op_subI:OpR X (binaryOp .Sub) rSubI := op_sub
def rMulA:R2 := rI CMul fun i j=>.int (i * j)
theorem op_mulA:OpR X (binaryOp .Mult) rMulA := op_mul
def rDivA:R2 := rI CDivW fun i j=>.int (i / j)
theorem op_divA:OpR X (binaryOp .FloorDiv) rDivA := op_fdivW
def rIsNA:R2 := fun x y H Q=>y = .non∧Q (.bl (decide (x = .non))) H
def rNotNA:R2 := fun x y H Q=>y = .non∧Q (.bl (!decide (x = .non))) H
theorem op_isNA:OpR X (compareOp .Is) rIsNA := op_isN
theorem op_notNA:OpR X (compareOp .IsNot) rNotNA := op_notN
end
section
variable {M:Wld} {K:PySem.W.Frag} {σ:L2.St} {S:Hp} {P:Hp→V→Prop} {ta tb te tc td:TE} {v x y:V} {α β γ δ:Type} [DecidableEq α] [Datum α] [DecidableEq β] [Datum β] [DecidableEq γ] [Datum γ] [DecidableEq δ] [Datum δ]
theorem isb {b b':Bool} (e:b=b'):Is K b' S (.bl b) := by subst e; exact is_bl
theorem rv_eq {a b:α} (hd:Datum.depth α≤60) (hx:Is K a S x) (hy:Is K b S y):Rv M (rEqP K x y) S (Is K (decide (a=b))) :=
 rv_now (v := .bl (PyData.eqv (Datum.toD a) (Datum.toD b))) (fun H s Q q=>⟨_,_,(hx.mono s).dp,(hy.mono s).dp,Datum.plain a,Datum.plain b,Nat.le_trans (Nat.min_le_left _ _) (Nat.le_trans (Datum.depth_le a) hd),q⟩) (isb (Datum.eqv a b))
theorem rv_ne {a b:α} (hd:Datum.depth α≤60) (hx:Is K a S x) (hy:Is K b S y):Rv M (rNeP K x y) S (Is K (!decide (a=b))) :=
 rv_now (v := .bl (!PyData.eqv (Datum.toD a) (Datum.toD b))) (fun H s Q q=>⟨_,_,(hx.mono s).dp,(hy.mono s).dp,Datum.plain a,Datum.plain b,Nat.le_trans (Nat.min_le_left _ _) (Nat.le_trans (Datum.depth_le a) hd),q⟩) (isb (by rw [Datum.eqv a b]))
theorem ev_eq {a b:α} (ha:Ev M ta σ S (Is K a)) (hb:Ev M tb σ S (Is K b)) (hd:Datum.depth α≤60 := by decide):Ev M (tOp (rEqP K) ta tb) σ S (Is K (decide (a=b))) :=
 ev_op is_mono ha (fun S1 e=>hb.mono is_mono e) fun S2 x y _ hx hy=>rv_eq hd hx hy
theorem ev_ne {a b:α} (ha:Ev M ta σ S (Is K a)) (hb:Ev M tb σ S (Is K b)) (hd:Datum.depth α≤60 := by decide):Ev M (tOp (rNeP K) ta tb) σ S (Is K (!decide (a=b))) :=
 ev_op is_mono ha (fun S1 e=>hb.mono is_mono e) fun S2 x y _ hx hy=>rv_ne hd hx hy
theorem ev_I0 {g:Int→Int→V} {i j:Int} (ha:Ev M ta σ S (Is K i)) (hb:Ev M tb σ S (Is K j)) (p:∀ S',P S' (g i j)):Ev M (tOp (rI0 g) ta tb) σ S P :=
 ev_op is_mono ha (fun S1 e=>hb.mono is_mono e) fun S2 x y _ hx hy=>rv_now (fun H s Q q=>⟨i,j,hx.int,hy.int,q⟩) (p _)
theorem ev_I {C:Int→Int→Prop} {g:Int→Int→V} {i j:Int} (ha:Ev M ta σ S (Is K i)) (hb:Ev M tb σ S (Is K j)) (hc:C i j) (p:∀ S',P S' (g i j)):Ev M (tOp (rI C g) ta tb) σ S P :=
 ev_op is_mono ha (fun S1 e=>hb.mono is_mono e) fun S2 x y _ hx hy=>rv_now (fun H s Q q=>⟨i,j,hx.int,hy.int,hc,q⟩) (p _)
theorem ev_gt {i j:Int} (ha:Ev M ta σ S (Is K i)) (hb:Ev M tb σ S (Is K j)):Ev M (tOp rGtA ta tb) σ S (Is K (decide (j < i))) := ev_I0 ha hb fun _=>is_bl
theorem ev_ge {i j:Int} (ha:Ev M ta σ S (Is K i)) (hb:Ev M tb σ S (Is K j)):Ev M (tOp rGeA ta tb) σ S (Is K (decide (j≤i))) := ev_I0 ha hb fun _=>is_bl
theorem ev_add {i j:Int} (ha:Ev M ta σ S (Is K i)) (hb:Ev M tb σ S (Is K j)):Ev M (tOp rAddA ta tb) σ S (Is K (i + j)) :=
 ev_op is_mono ha (fun S1 e=>hb.mono is_mono e) fun S2 x y _ hx hy=>rv_now (fun H s Q q=>.inl ⟨i,j,hx.int,hy.int,q⟩) is_int
theorem ev_cb {r:List V→Hp→VK→Prop} {t:TA} {PA:Hp→List V→Prop} (ha:EvA M t σ S PA) (hr:∀ S2 vs,Same S S2→PA S2 vs→Rv M (r vs) S2 P):Ev M (tCB r t) σ S P := fun T H w s Q q =>
 ha T H w s _ fun S1 T1 H1 vs st1 w1 p1=>hr S1 vs st1.ss p1 T1 H1 w1 st1.st Q fun S3 T3 H3 v st3 w3 p=>q S3 T3 H3 v (st1.trans st3) w3 p
theorem ev_int {i:Int} (ha:Ev M ta σ S (Is K i)):Ev M (tCB rInt1 (tCons ta tNil)) σ S (Is K i) :=
 ev_cb (eva_1 is_mono ha) fun S2 vs _ ⟨a,e,h⟩=>by
  subst e
  rw [h.int]
  exact rv_now (fun H s Q q=>.inl ⟨i,rfl,q⟩) is_int
theorem ev_disp {t:TA} {PA:Hp→List V→Prop} (ha:EvA M t σ S PA) (hz:∀ S vs,PA S vs→vs.length≤sizeLine) (hp:∀ S2 vs p,PA S2 vs→S2 p=none→P (upd S2 p (.lst vs)) (.ref p)):Ev M (tLst t) σ S P := fun T H w s Q q =>
 ha T H w s _ fun S1 T1 H1 vs st1 w1 p1=>⟨hz _ _ p1,fun p np=>by
  have nt := (M.sub w1).free np
  exact q _ _ _ _ (st1.trans (Step.new st1.st nt)) (M.new w1 np) (hp S1 vs p p1 (st1.st.free nt))⟩
theorem small_size {n:Nat} (h:n≤1000):n≤sizeLine := Nat.le_trans h (by decide)
theorem ev_l0:Ev M (tLst tNil) σ S (Is K ([]:List α)) :=
 ev_disp (PA := fun _ vs=>vs=[]) (ev_nil rfl) (fun _ vs e=>by subst e; exact small_size (by simp)) fun S2 vs p e np=>by
  subst e
  exact is_lst (.inl upd_same) .nil
theorem ev_ix {xs:List α} {i:Nat} {a:α} {j:Int} (ha:Ev M ta σ S (Is K xs)) (hb:Ev M tb σ S (Is K j)) (hj:j=(i:Int)) (h:xs[i]? = some a):Ev M (tOp (rIx K) ta tb) σ S (Is K a) :=
 ev_op is_mono ha (fun S1 e=>hb.mono is_mono e) fun S2 x y _ hx hy=>by
  obtain ⟨p,vs,rfl,h1,h2⟩ := hx.lst
  obtain ⟨v,h3,h4⟩ := h2.at_ h
  exact rv_now (fun H s Q q=>.inl ⟨p,vs,j,v,rfl,hy.int, .inl (Same.rd s h1),by rw [hj]; exact atI_nat h3,q⟩) h4
theorem IsAll.cut {xs:List α} {vs:List V} {lo hi:Option Int} (h:IsAll K xs S vs):IsAll K ((xs.drop (HT.sIx xs.length 0 lo)).take (HT.sIx xs.length xs.length hi - HT.sIx xs.length 0 lo)) S (cutV vs lo hi) := by
 unfold cutV
 rw [h.len]
 exact (h.drop_ _).take_ _
def cutL (xs:List α) (lo hi:Option Int):List α := (xs.drop (HT.sIx xs.length 0 lo)).take (HT.sIx xs.length xs.length hi - HT.sIx xs.length 0 lo)
theorem cutL_to (xs:List α) (n:Nat):cutL xs none (some (n:Int))=xs.take n := by
 unfold cutL
 rw [HT.sIx_none,HT.sIx_nat]
 show ((xs.drop 0).take _)=_
 rw [List.drop_zero,Nat.sub_zero]
 by_cases h:n≤xs.length
 ·rw [Nat.min_eq_left h]
 ·rw [Nat.min_eq_right (by omega),List.take_of_length_le (Nat.le_refl _),List.take_of_length_le (by omega)]
theorem cutL_from (xs:List α) (n:Nat):cutL xs (some (n:Int)) none=xs.drop n := by
 unfold cutL
 rw [HT.sIx_none,HT.sIx_nat]
 by_cases h:n≤xs.length
 ·rw [Nat.min_eq_left h,List.take_of_length_le (by rw [List.length_drop]; exact Nat.le_refl _)]
 ·rw [Nat.min_eq_right (by omega),List.drop_of_length_le (Nat.le_refl _),List.drop_of_length_le (by omega)]; simp
def EvO (M:Wld) (t:TO) (σ:L2.St) (S:Hp) (o:Option Int):Prop := ∀ T H,M.W T H→Same S T→∀ Q:Option Int→Hp→Prop,(∀ S' T' H',Step S T S' T'→M.W T' H'→Q o H')→t σ H Q
theorem evo_none:EvO M tNoPart σ S none := fun T H w s Q q=>q S T H (Step.refl s) w
theorem evo_some {i:Int} (h:Ev M te σ S (Is K i)):EvO M (tPart te) σ S (some i) := fun T H w s Q q=>h T H w s _ fun S1 T1 H1 v st w1 p=>⟨i,p.int,q S1 T1 H1 st w1⟩
theorem EvO.mono {t:TO} {o:Option Int} {S1:Hp} (h:EvO M t σ S o) (e:Same S S1):EvO M t σ S1 o := fun T H w s Q q =>
 h T H w (e.trans s) Q fun S' T' H' st w'=>q _ T' H' (st.widen e s).1 w'
end
end Fm
namespace Fm
open PySem PySem.Spec PyProof.Rows L2
open PySem.W (Datum Tup T3 T4)
structure Walks (J:It) (S:Hp) (n:Nat) (I:Nat→V→Prop):Prop where
 go:∀ i H,Same S H→i < n→J.go i H
 yl:∀ i H x H',Same S H→i < n→J.yld i H x H'→H' = H∧I i x
 st:∀ i H,Same S H→n≤i→J.stop i H
section
variable {K:PySem.W.Frag} {S:Hp} {a:Addr} {vs:List V}
theorem walks_list (h:Rd S a (.lst vs)):Walks (Itl K a) S vs.length (fun i x=>vs[i]? = some x) where
 go := fun i H s hi=>⟨vs,vs[i], .inl (Same.rd s h),List.getElem?_eq_getElem hi⟩
 yl := fun i H x H' s hi y=>⟨y.1,y.2 vs (.inl (Same.rd s h))⟩
 st := fun i H s hi=>⟨vs, .inl (Same.rd s h),hi⟩
theorem Walks.imp {J:It} {n:Nat} {I I':Nat→V→Prop} (w:Walks J S n I) (h:∀ i x,i < n→I i x→I' i x):Walks J S n I' where
 go := w.go
 yl := fun i H x H' s hi y=>⟨(w.yl i H x H' s hi y).1,h i x hi (w.yl i H x H' s hi y).2⟩
 st := w.st
end
def EvI (M:Wld) (wi:TI) (σ:L2.St) (S:Hp) (n:Nat) (I:Hp→Nat→V→Prop):Prop :=
 ∀ T H,M.W T H→Same S T→∀ R:It→Hp→Prop,(∀ S' T' H' J,Step S T S' T'→M.W T' H'→Walks J S' n (I S')→R J H')→wi σ H R
section
variable {M:Wld} {K:PySem.W.Frag} {σ:L2.St} {S:Hp} {tl:TE} {α β γ δ:Type} [DecidableEq α] [Datum α] [DecidableEq β] [Datum β] [DecidableEq γ] [Datum γ] [DecidableEq δ] [Datum δ]
def Itm (K:PySem.W.Frag) (xs:List α):Hp→Nat→V→Prop := fun S i v=>∃ x,xs[i]? = some x∧Is K x S v
theorem evi_list {xs:List α} (h:Ev M tl σ S (Is K xs)):EvI M (iSeq K tl) σ S xs.length (Itm K xs) := fun T H w s R q=>h T H w s _ fun S1 T1 H1 v st w1 p=>by
 obtain ⟨a,vs,rfl,h1,h2⟩ := p.lst
 have e:xs.length=vs.length := h2.len.symm
 refine .inl ⟨a,rfl,⟨vs, .inl (Same.rd (st.st.trans (M.sub w1)) h1)⟩,q S1 T1 H1 _ st w1 ?_⟩
 rw [e]
 exact (walks_list h1).imp fun i x _ hx=>h2.of hx
def MonoI (I:Hp→Nat→V→Prop):Prop := ∀ S S' i v,Same S S'→I S i v→I S' i v
theorem itm_mono {xs:List α}:MonoI (Itm K xs) := fun S S' i v e ⟨x,h1,h2⟩=>⟨x,h1,h2.mono e⟩
theorem Paired.snoc {α β:Type} {F:α→β→Prop}:∀ {l:List α} {r:List β} {a:α} {b:β},Paired F l r→F a b→Paired F (l ++ [a]) (r ++ [b])
 | _,_,_,_, .nil,h=>.cons h .nil
 | _,_,_,_, .cons x t,h=>.cons x (Paired.snoc t h)
def LstOf {ι:Type} (E:ι→Hp→V→Prop) (xs:List ι):Hp→V→Prop := fun S v=>∃ a ws,v = .ref a∧Rd S a (.lst ws)∧Paired (fun i w=>E i S w) xs ws
theorem LstOf.mono {ι:Type} {E:ι→Hp→V→Prop} {xs:List ι} (hE:∀ i,Mono (E i)):Mono (LstOf E xs) := fun S S' v e ⟨a,ws,h1,h2,h3⟩=>⟨a,ws,h1,Same.rd e h2,Paired.mapP h3 fun i w h=>hE i _ _ _ e h⟩
theorem paired_is {xs:List α}:∀ {ι:Type} {is:List ι} {f:ι→α} {ws:List V} {S:Hp},Paired (fun i w=>Is K (f i) S w) is ws→IsAll K (is.map f) S ws
 | _,_,_,_,_, .nil=>DqAll.nil
 | _,_,_,_,_, .cons h t=>DqAll.cons h (paired_is (xs := xs) t)
theorem ev_lcN {wi:TI} {g:TG} {tt:TT} {te:TE} {vs:List Nat} {n:Nat} {I:Hp→Nat→V→Prop} {p:Nat→Bool} {E:Nat→Hp→V→Prop} (hi:EvI M wi σ S n I) (hI:MonoI I) (hE:∀ i,Mono (E i)) (hz:n≤sizeLine)
  (hb:∀ i S1 v,i < n→Same S S1→I S1 i v→∃ σ',(∀ H,Same S1 H→∀ Q:L2.St→Hp→Prop,Q σ' H→g v (wipe σ vs) H Q)∧wipe σ' vs=wipe σ vs∧EvT M tt σ' S1 (p i)∧(p i=true→Ev M te σ' S1 (E i))) :
  Ev M (tLc wi g tt te vs) σ S (fun S' v=>∃ a ws,v = .ref a∧S a=none∧S' a=some (.lst ws)∧Paired (fun i w=>E i S' w) ((List.range n).filter p) ws) := fun T H w s Q q=>hi T H w s _ fun S1 T1 H1 J st1 w1 wk D nD=>by
 have nT:T1 D=none := (M.sub w1).free nD
 have nS:S1 D=none := st1.st.free nT
 refine ⟨fun i m H=>m=n - i∧i≤n∧∃ S2 T2 ws,Step S1 T1 S2 T2∧M.W T2 H∧T2 D=some (.lst ws)∧S2 D=none∧Paired (fun i w=>E i S2 w) ((List.range i).filter p) ws,⟨n,by omega,by omega,S1,_,[],Step.tmp st1.st nT,M.new w1 nD,upd_same,nS,by simpa using Paired.nil⟩, ?_⟩
 rintro i m H2 ⟨rfl,hin,S2,T2,ws,st2,w2,hD,hS,hp⟩
 have sH:Same S1 H2 := (st2.ss.trans st2.st).trans (M.sub w2)
 by_cases hlt:i < n
 ·refine .inr ⟨wk.go i H2 sH hlt,fun H'=>∃ S2 T2 ws,Step S1 T1 S2 T2∧M.W T2 H'∧T2 D=some (.lst ws)∧S2 D=none∧Paired (fun i w=>E i S2 w) ((List.range (i + 1)).filter p) ws,fun H' h=>⟨n - (i + 1),by omega,rfl,hlt,h⟩,fun x H' y=>?_⟩
  obtain ⟨e,hx⟩ := wk.yl i H2 x H' sH hlt y
  subst e
  obtain ⟨σ',hg,hw,ht,he⟩ := hb i S2 x hlt (st1.ss.trans st2.ss) (hI _ _ _ _ st2.ss hx)
  refine hg _ (st2.st.trans (M.sub w2)) _ ⟨hw,ht T2 _ w2 st2.st _ fun S3 T3 H3 st3 w3=>?_⟩
  have er:List.range (i + 1)=List.range i ++ [i] := List.range_succ
  cases hpi:p i with
  | false =>
   refine iteF ⟨S3,T3,ws,st2.trans st3,w3,st3.tt _ _ hD,st3.nw D (by rw [hD]; simp) hS, ?_⟩
   rw [er,List.filter_append]
   have:List.filter p [i]=[] := by simp [hpi]
   rw [this,List.append_nil]
   exact Paired.mapP hp fun i w h=>hE i _ _ _ st3.ss h
  | true =>
   refine iteT (((he hpi).mono (hE i) st3.ss) T3 H3 w3 st3.st _ fun S4 T4 H4 y st4 w4 pe=>?_)
   have h34 := st3.trans st4
   have hD4:T4 D=some (.lst ws) := h34.tt _ _ hD
   have hS4:S4 D=none := h34.nw D (by rw [hD]; simp) hS
   have hl:ws.length≤i := by
    rw [← Paired.length hp]
    exact Nat.le_trans (List.length_filter_le _ _) (by simp)
   refine ⟨ws,(M.sub w4) _ _ hD4,by omega,S4,_,ws ++ [y],(st2.trans h34).set nT hS4,M.set w4 hD4,upd_same,hS4, ?_⟩
   rw [er,List.filter_append]
   have:List.filter p [i]=[i] := by simp [hpi]
   rw [this]
   exact Paired.snoc (Paired.mapP hp fun i w h=>hE i _ _ _ h34.ss h) pe
 ·have e:i=n := by omega
  subst e
  refine .inl ⟨wk.st i H2 sH (Nat.le_refl _),q _ T2 H2 (.ref D) (st1.trans (st2.freeze nT hD)) w2 ⟨D,ws,rfl,st1.ss.free nS,upd_same,Paired.mapP hp fun i w h=>hE i _ _ _ (same_new hS) h⟩⟩
theorem wipe1 {i:Nat} {v:V}:wipe ((wipe σ [i]).set i (some v)) [i]=wipe σ [i] := by
 show (((σ.set i none).set i (some v)).set i none)=σ.set i none
 rw [List.set_set,List.set_set]
end
section
variable {M:Wld} {σ:L2.St} {S T H:Hp}
theorem for_ev {wi:TI} {g:TG} {tb:TS} {D:Ends} {n:Nat} {I:Hp→Nat→V→Prop} (hi:EvI M wi σ S n I) (hI:MonoI I) (w:M.W T H) (s:Same S T) (J:Nat→L2.St→Hp→Hp→Prop)
  (h0:∀ S1 T1,Step S T S1 T1→J 0 σ S1 T1)
  (hs:∀ i v σ2 S2 T2 H2,i < n→Step S T S2 T2→M.W T2 H2→J i σ2 S2 T2→I S2 i v →
   g v σ2 H2 fun σ3 H3=>tb { D with nx := fun σ' H'=>∃ S' T',Step S T S' T'∧M.W T' H'∧Same S2 S'∧J (i + 1) σ' S' T',ct := fun σ' H'=>∃ S' T',Step S T S' T'∧M.W T' H'∧Same S2 S'∧J (i + 1) σ' S' T',bk := D.nx } σ3 H3)
  (hd:∀ σ2 S2 T2 H2,Step S T S2 T2→M.W T2 H2→J n σ2 S2 T2→D.nx σ2 H2):tFor wi g tb D σ H := hi T H w s _ fun S1 T1 H1 J1 st1 w1 wk=>by
 refine ⟨fun i m σ H=>m=n - i∧i≤n∧∃ S2 T2,Step S T S2 T2∧Same S1 S2∧M.W T2 H∧J i σ S2 T2,⟨n,by omega,by omega,S1,T1,st1,Same.refl _,w1,h0 S1 T1 st1⟩, ?_⟩
 rintro i m σ2 H2 ⟨rfl,hin,S2,T2,st2,e2,w2,hJ⟩
 have sH:Same S1 H2 := (e2.trans st2.st).trans (M.sub w2)
 by_cases hlt:i < n
 ·refine .inr ⟨wk.go i H2 sH hlt,fun σ' H'=>∃ S' T',Step S T S' T'∧M.W T' H'∧Same S2 S'∧J (i + 1) σ' S' T',fun σ' H' ⟨S',T',a,b,c,d⟩=>⟨n - (i + 1),by omega,rfl,hlt,S',T',a,e2.trans c,b,d⟩,fun x H' y=>?_⟩
  obtain ⟨e,hx⟩ := wk.yl i H2 x H' sH hlt y
  subst e
  exact hs i x σ2 S2 T2 _ hlt st2 w2 hJ (hI _ _ _ _ e2 hx)
 ·have e:i=n := by omega
  subst e
  exact .inl ⟨wk.st i H2 sH (Nat.le_refl _),hd σ2 S2 T2 H2 st2 w2 hJ⟩
end
end Fm
namespace Fm
open PySem PySem.Spec PyProof.Rows L2
open PySem.W (Datum Tup T3 T4)
section
variable {P:Program} {w:World} {K:PySem.W.Frag} {mg:Str→Option Value} {base:Heap} {CX:CXT} {k:Nat} {f:Addr} {sp:Sp}
theorem fnR_of {fd:FuncData} {ps:List Str} (F:FnOk P w K mg base CX k f fd ps sp) (hb:Binds K fd ps []):FnR P w K mg base CX k f sp :=
 (F.raw hb .nil).imp fun vs H Q E h=>by rw [List.append_nil]; exact h
end
section
variable {X:Cx} {CX:CXT} {k:Nat} {C f:Addr} {sp:Sp} {E:XK} {x m:Str} {e o:Expr} {es:List Expr} {te ta:TE} {t:TA} {p pos apos:Pos}
theorem inst_at {pins:List (Addr × Obj)} {σ:L2.St} {H:Hp} {s:Shared} {a dx:Addr} {fs:List (Str × V)} (I:Inv X pins σ H s) (h:H a=some (.ins C dx fs)):∃ ox od,PySem.W.InstAt s.heap a ox C od := by
 obtain ⟨mA,O,_⟩ := ins_get I.hok h
 obtain ⟨od,J,_⟩ := O.look
 exact ⟨_,_,J⟩
structure Own (K:PySem.W.Frag) (C:Addr) (m:Str) (f:Addr):Prop where
 at_:PySem.W.findIn K (.ref C) m=some (some (.ref f))
 fn:PySem.W.isFn K (.ref f)=true
theorem rel_not {v:V} {u:Value} (r:RelV v u):u≠.notImplemented := by
 cases v <;> first | (obtain ⟨t,e⟩ := r; rw [e]; intro z; cases z) | (intro z; rw [z] at r; cases r)
theorem cmpBack {Q:Value→Shared→Prop} {u:Value} {s:Shared} (h:u≠.notImplemented) (q:Q u s):PySem.W.CmpBack Q u s := by
 unfold PySem.W.CmpBack
 cases u <;> first | exact absurd rfl h | exact q
theorem vals2 {x y:V} {u v:Value} (r:RelV x u) (r':RelV y v):Vals [x,y] [u,v] := .cons r (.cons r' .nil)
def rOwn (C:Addr) (sp:Sp) (E:XK):R2 := fun x y H Q=>∃ a b dx dy fs gs,x = .ref a∧y = .ref b∧H a=some (.ins C dx fs)∧H b=some (.ins C dy gs)∧sp [x,y] H Q E
theorem noFill_tuple_rshift:fillsNumberSlot (.type "tuple") "rshift" = pure false := by
 unfold fillsNumberSlot
 dsimp only
 rw [typeLookup_type,typeLookup_type,builtinLookup_eq_fast]
 kernel_rfl
theorem binop_KT {prog:Program} {w:World} {K:PySem.W.Frag} {x L:Addr} {h₀:Heap} {m:Str→Option Value} {ox:Obj} {od:Option Obj} {s:Shared} {A:Around} {E:Value→Shared→Prop} {b:Value} {Q:Value→Shared→Prop} (F:PyProof.Rows.Fr h₀ L s.heap m) (X₀:K.In h₀) (I:PySem.W.InstAt s.heap x ox C od) (hb:PySem.W.Looks (model prog w) s.heap (typeOf b) (.type "tuple")) (hc:PySem.W.selfFirst K C=true)
  (hs:PySem.W.findIn K (.ref C) (PySem.dunder "rshift")=some (some (.ref f))) (hf:PySem.W.isFn K (.ref f)=true)
  (h:wpAny (model prog w) A (call (.ref f) [.ref x,b]) (PySem.W.CmpBack Q) E s):wpAny (model prog w) A (binaryOp .RShift (.ref x) b) Q E s := by
 have X := X₀.keeps F.keep
 obtain ⟨cd,hcd,hm⟩ := PySem.W.any_some hc
 obtain ⟨rest,hm⟩:∃ rest,cd.mro = .ref C :: rest := by
  cases q:cd.mro with
  | nil=>rw [q] at hm; cases hm
  | cons a r=>rw [q] at hm; exact ⟨r,by rw [List.head?_cons] at hm; cases (beq_iff_eq.mp hm); rfl⟩
 unfold binaryOp
 refine wpAny_holding (wpAny_bind ?_)
 unfold binaryOp1
 refine wpAny_bind (I.type.here (wpAny_bind (hb.here (wpAny_bind ((PySem.W.fills_K X hcd hm hs).here ?_)))))
 simp only [show (Value.ref C == Value.type "tuple")=false from rfl,Bool.false_eq_true,if_false]
 refine wpAny_bind (wpAny_of_eq noFill_tuple_rshift ?_)
 simp only [Bool.and_false,Bool.false_eq_true,if_false,Bool.false_and,if_true]
 refine wpAny_bind (wpAny_pure ?_)
 simp only [Bool.false_eq_true,if_false]
 refine wpAny_bind (m := tryMethod (.ref x) _ b) ?_
 unfold tryMethod
 refine wpAny_bind (PySem.W.special_fn X I hs (beq_iff_eq.mp hf) (wpAny_mono h (fun v s' hv=>?_) fun _ _ e=>e))
 cases v <;> first | exact hv.elim | exact wpAny_pure (wpAny_pure (wpAny_pure hv))
def rOwnT (K:PySem.W.Frag) (C:Addr) (sp:Sp) (E:XK):R2 := fun x y H Q=>∃ a b dx fs xs,x = .ref a∧y = .ref b∧H a=some (.ins C dx fs)∧SqT K H b xs∧sp [x,y] H Q E
def rOwnIn (C:Addr) (sp:Sp) (E:XK) (neg:Bool):R2 := fun x y H Q=>∃ a dx fs,y = .ref a∧H a=some (.ins C dx fs)∧sp [y,x] H (fun v H'=>∃ b,v = .bl b∧Q (.bl (if neg then !b else b)) H') E
theorem op_inO (hs:Own X.K C "__contains__" f) (F:FnR X.prog X.w X.K X.mg X.base CX k f sp) (hr:Room k X.A) (hx:Passes CX X E):OpR X (compareOp .In) (rOwnIn C sp E false) := by
 intro pins s σ H x y v u Q I rx ry h
 obtain ⟨a,dx,fs,rfl,ha,q⟩ := h
 obtain rfl:u=Value.ref a := ry
 obtain ⟨ox,od,J⟩ := inst_at I ha
 obtain ⟨m,Fr⟩ := I.fr
 refine PySem.W.in_K Fr I.mod.kin J hs.at_ hs.fn ?_
 refine thn (wpAny_call (run_fnR F hr hx I (vals2 (x := V.ref a) rfl rx) q)) fun r s1 hq=>?_
 obtain ⟨z,H',I',rz,b,rfl,qz⟩ := hq
 cases rz
 exact wpAny_truthy_bool ⟨.bl b,H',I',rfl,qz⟩
end
section
variable {X:Cx} {CX:CXT} {k:Nat} {C f:Addr} {sp:Sp} {E:XK} {x m:Str} {e o:Expr} {es:List Expr} {te ta:TE} {t:TA} {p pos apos:Pos}
structure Stat (K:PySem.W.Frag) (C:Addr) (m:Str) (p g:Addr):Prop where
 rd:PySem.W.readsIn K C (.type "type")=true
 ga:PySem.W.specialIn K (.ref C) "__getattribute__" = some (some (.builtin "type.__getattribute__"))
 at_:PySem.W.findCls K (.ref C) (.type "type") m=some (.get (.builtin "staticmethod.__get__") (.ref p) .none (.ref C))
 rc:∃ rest,PySem.W.recIn K p "staticmethod" = some (.ref g :: rest)
 kp:PySem.W.keepIn K (.ref g)=true
theorem getst_ok {p g:Addr} {pins:List (Addr × Obj)} {σ:L2.St} {H:Hp} {s:Shared} {A:Around} {E:Value→Shared→Prop} {b:Bool} {Q:Value→Shared→Prop} (I:Inv X pins σ H s) (k:Stat X.K C m p g) (h:∀ s',Inv X pins σ H s'→Q (.ref g) s') :
  wpAny (model X.prog X.w) A (getAttr (.ref C) m b) Q E s := by
 obtain ⟨rest,hp⟩ := k.rc
 refine PySem.W.cls_bind I.kIn k.rd k.at_ ?_
 exact wpAny_call (PySem.W.sm_get (s := { s with toks := s.toks + 1 }) I.kIn hp (PySem.W.handed_on rfl (h _ (I.tok _))))
theorem sw_trueD {kx vx:Expr} {gs:List Comprehension} {scope:Scope} {pos py:Pos} {y:Str} {l:Nat} {env:Env} (hk:env.scope.kind = .function) (hy:env.scope.names.lookup y=some .local) (hl:(py.line == pos.line)=true)
  (ha:(scope.names.any fun (n,k)=>n == y && (k == .local || k == .cell))=false):swapsWith (.DictComp kx vx gs scope pos) (some (.Name y py)) l env=pure true := by
 have ky:env.kindOf y=some .local := hy
 have hb:env.blockKind = .function := by unfold Env.blockKind; rw [hk]; rfl
 unfold swapsWith
 simp only [hb,ky,ha,Expr.pos,hl]
 rfl
end
end Fm
namespace Fm
open PySem PySem.Spec PyProof.Rows L2
open PySem.W (Datum Tup T3 T4)
theorem units65 {k:Nat} {A:Around} (hr:Room k A):A.units + 65 < cLine := by have := hr.un; omega
section
variable {X:Cx}
theorem call_allA (hc:X.calm=true):CallR X (.builtin "all") (rAllA X.K) := cr_all hc
def rModA:R2 := rI (fun _ j=>0 < j) fun i j=>.int (i % j)
theorem op_modA:OpR X (binaryOp .Mod) rModA := op_mod
def rPowA:R2 := rI CPow fun i j=>.int (i ^ j.toNat)
theorem op_powA:OpR X (binaryOp .Pow) rPowA := op_pow
def rNegA:V→Hp→VK→Prop := rU fun i=>.int (-i)
theorem un_negA:UnR X (unaryOp .USub) rNegA := un_neg
theorem pe_const_str {x z:Str} {pos:Pos} (h:∃ t,X.mg x=some (.str z t)) (hg:Gl X x) (hd:(x == ("__debug__":Str))=false := by decide):PE X (.Name x pos) (tC (.str z)) := by
 obtain ⟨t,e⟩ := h
 exact pe_glob hg e ⟨t,rfl⟩ hd
theorem ps_setDc {i:Nat} {y:Str} {py:Pos} {kx vx tg iter:Expr} {ifs:List Expr} {scope:Scope} {own:List (Str × Nat)} {pos spos:Pos} {wi:TI} {g:TG} {tt:TT} {tk tv:TE} (hc:X.calm=true) (hN:X.N.Nodup) (hy:X.N[i]? = some y) (hyl:X.env.scope.names.lookup y=some .local)
  (hsw:swapsWith (.DictComp kx vx [⟨tg,iter,ifs,0⟩] scope pos) (some (.Name y py)) spos.line X.env=pure true) (hi:PI X tg iter wi) (ok:BlkOk X.N X.env.scope scope own)
  (hg:∀ (s:Shared) (H:Hp) (C:Addr) (cl:List (Str × Addr)) (fp:List Addr),PG (X.blk s H scope (compEnvC scope cl C X.env) fp) tg g) (ht:∀ (s:Shared) (H:Hp) (C:Addr) (cl:List (Str × Addr)) (fp:List Addr),PTs (X.blk s H scope (compEnvC scope cl C X.env) fp) ifs tt)
  (hk:∀ (s:Shared) (H:Hp) (C:Addr) (cl:List (Str × Addr)) (fp:List Addr),PE (X.blk s H scope (compEnvC scope cl C X.env) fp) kx tk)
  (he:∀ (s:Shared) (H:Hp) (C:Addr) (cl:List (Str × Addr)) (fp:List Addr),PE (X.blk s H scope (compEnvC scope cl C X.env) fp) vx tv) (hs:∀ x,foldedSetIterable iter X.env x=pure x := by intro _; rfl) :
  PS X (.Assign [.Name y py] (.DictComp kx vx [⟨tg,iter,ifs,0⟩] scope pos) spos) (tAsg (tDc wi g tt tk tv (own.map (·.2))) (gName i)) := by
 refine ⟨fun pins s σ H D I h=>?_⟩
 rw [exec_Assign_Name_used _ _ _ _ hsw]
 refine wpAny_bind (wpAny_standAt (wpAny_bind ?_))
 show wpAny _ X.A (do let _ ← comprehension (.DictComp kx vx [⟨tg,iter,ifs,0⟩] scope pos) scope X.env (firstIterPos [⟨tg,iter,ifs,0⟩] pos) newDict false (eval iter X.env) (some (assign (.Name y py) X.env))) _ _ s
 have h:tDc wi g tt tk tv (own.map (·.2)) σ H (fun x H1=>gName i x σ H1 D.nx) := h
 refine wpAny_bind (thn (dc_core (Qf := fun _ s'=>SP X pins D .next s') hc hN I hi ok hg ht hk he hs h fun L C s' m H' I' q hn f=>?_) fun _ s' hq=>wpAny_pure (wpAny_pure hq))
 show wpAny _ _ (assign (.Name y py) X.env (.ref L)) _ _ _
 refine wpAny_assign_Name (store_ok2 (v := V.ref L) I' hN hy (.inl hyl) rfl (fun s2 I2 ⟨a,sb,ha⟩=>?_) (.inr hyl))
 obtain ⟨f0,f1,f2,f3,f4,f5⟩ := f
 have haC:C≠a := by
  rcases ha with z | z
  ·rw [z]; exact f1
  ·exact fun e=>f4 y a z e.symm
 refine ⟨m,hn.sameBut sb haC,fun h3 sb3=>?_⟩
 exact ⟨_,H',I2.turned (t' := s2.toks) (fun b o hb e=>(sb3.2 b hb).trans e) f0 f1 f3 f4 f5,q⟩
end
def obsB (fa:List (PySem.W.Frag→Bool)) (fn:List He5.DefA) (K:PySem.W.Frag):He.AlD := ((fa.all fun f=>f K) && fn.all fun d=>d.ok K,fn.map fun d=>He5.fnA K (d.at_ K))
section
variable {fa:List (PySem.W.Frag→Bool)} {fn:List He5.DefA} {K:PySem.W.Frag}
theorem factB (c:obsB fa fn K=He5.valA fn) (i:Nat) {f:PySem.W.Frag→Bool} (h:fa[i]? = some f := by rfl):f K=true := by
 have c1 := (He.ba (show ((fa.all fun f=>f K) && fn.all fun d=>d.ok K)=true from congrArg (fun z:He.AlD=>z.1) c)).1
 exact List.all_eq_true.mp c1 f (List.mem_of_getElem? h)
theorem defB (c:obsB fa fn K=He5.valA fn) (i:Nat) {d:He5.DefA} (h:fn[i]? = some d := by rfl):∃ fd,L2.FunD K d.name d.qual d.params d.body d.scope (d.dvs K) (d.kws K) (d.at_ K) fd := by
 have c2 := (He.ba (show ((fa.all fun f=>f K) && fn.all fun d=>d.ok K)=true from congrArg (fun z:He.AlD=>z.1) c)).2
 have e:fn.map (fun d=>He5.fnA K (d.at_ K))=fn.map He5.DefA.val := congrArg (fun z:He.AlD=>z.2) c
 have e2:(fn.map fun d=>He5.fnA K (d.at_ K))[i]? = (fn.map He5.DefA.val)[i]? := by rw [e]
 rw [List.getElem?_map,List.getElem?_map,h] at e2
 exact He5.DefA.funD (Option.some.inj e2) (List.all_eq_true.mp c2 d (List.mem_of_getElem? h))
end
section
variable {fa:List (PySem.W.Frag→Bool)} {fn:List He5.DefA} {K:PySem.W.Frag} {x qual:Str} {st:Stmt}
theorem defF (at_:PySem.W.Frag→Addr) (c:obsB fa fn K=He5.valA fn) (i:Nat) (h:fn[i]? = some ⟨at_,x,qual,defArgs st,defBody st,defScope st,[],[]⟩ := by rfl):∃ fd,Fun K x qual st (at_ K) fd := by
 obtain ⟨fd,F⟩ := defB c i h
 exact ⟨fd,He5.fun_of F⟩
theorem defK (at_:PySem.W.Frag→Addr) (st:Stmt) (x qual:Str) (c:obsB fa fn K=He5.valA fn) (i:Nat) (h:fn[i]? = some ⟨at_,x,qual,defArgs st,defBody st,defScope st,[],[]⟩ := by rfl):PySem.W.keepIn K (.ref (at_ K))=true := by
 obtain ⟨fd,F⟩ := defB c i h
 exact F.kp
end
def statB (K:PySem.W.Frag) (C:Addr) (m:Str):Bool := PySem.W.readsIn K C (.type "type") && (He.eqO (PySem.W.specialIn K (.ref C) "__getattribute__") (some (some (.builtin "type.__getattribute__"))) && (He5.wrapB K C "staticmethod" "staticmethod.__get__" m && PySem.W.keepIn K (.ref (He5.wf K C "staticmethod" m))))
theorem statB_ok {K:PySem.W.Frag} {C:Addr} {m:Str} (h:statB K C m=true):Stat K C m (He.ma K C m) (He5.wf K C "staticmethod" m) := by
 obtain ⟨h1,h⟩ := He.ba h
 obtain ⟨h2,h⟩ := He.ba h
 obtain ⟨h3,h4⟩ := He.ba h
 obtain ⟨h5,h6⟩ := He5.wrapB_ok h3
 exact ⟨h1,He.eqO_ok h2,h5,h6,h4⟩
structure ClsX (K:PySem.W.Frag) (C:Addr):Prop where
 ha:PySem.W.findIn K (.ref C) "__class__" = some (some (.builtin "object.__class__"))
 hn:PySem.W.specialIn K (.builtin "object.__class__") "__get__" = some (some (.builtin "getset_descriptor.__get__"))
 ht:PySem.W.takesIn K (.builtin "object.__class__")=some true
 hm:PySem.W.mroIn K C (.type "object")=some true
def clsXB (K:PySem.W.Frag) (C:Addr):Bool := He.eqO (PySem.W.findIn K (.ref C) "__class__") (some (some (.builtin "object.__class__"))) && (He.eqO (PySem.W.specialIn K (.builtin "object.__class__") "__get__") (some (some (.builtin "getset_descriptor.__get__"))) && (decide (PySem.W.takesIn K (.builtin "object.__class__")=some true) && decide (PySem.W.mroIn K C (.type "object")=some true)))
theorem clsXB_ok {K:PySem.W.Frag} {C:Addr} (h:clsXB K C=true):ClsX K C := by
 obtain ⟨h1,h⟩ := He.ba h
 obtain ⟨h2,h⟩ := He.ba h
 obtain ⟨h3,h4⟩ := He.ba h
 exact ⟨He.eqO_ok h1,He.eqO_ok h2,of_decide_eq_true h3,of_decide_eq_true h4⟩
theorem own_of {K:PySem.W.Frag} {C f:Addr} {m:Str} (h:Meth K C m f):Own K C m f := ⟨h.at_,h.fn⟩
section
variable {P:Program} {w:World} {K:PySem.W.Frag} {mg:Str→Option Value} {base:Heap} {k:Nat} {f:Addr} {sp:Sp} {x qual:Str} {st:Stmt} {N ps:List Str}
theorem fnR_def (F:∃ fd,Fun K x qual st f fd) (S:FnScope N ps (defScope st)) (len:∀ vs H Q E,sp vs H Q E→vs.length=ps.length)
  (hb:∀ (kV doc pm:Value) (an:Option Addr) (cdv ct:Value) (us:List Value),us.length=ps.length→bindArgs (PySem.W.fnOf x qual (defArgs st) (defBody st) (defScope st) .none kV doc pm an cdv ct) ⟨us,[]⟩=pure (ps.zip us))
  (t:TS) (hw:∀ (cdv:Value) (A:Around) (outer:List Env) (s:Shared) (H:Hp) (E:XK),Room k (A.deeper (envOfC qual (defScope st) s.heap.objs.size f cdv))→PSs (cxOf CX0 P w K mg base N qual (defScope st) f cdv A outer s H E).nox (defBody st) t)
  (hq:∀ H vs Q E,sp vs H Q E→t { nx := fun _ H'=>Q .non H',rt := Q } (start N vs) H):FnR P w K mg base CX0 (k + 1) f sp := by
 obtain ⟨fd,F⟩ := F
 exact fnR_of (F.ok S len fun cdv A outer s H vs Q E hr h=>⟨t,hw cdv A outer s H E hr,hq H vs Q E h⟩) (F.binds hb)
end
end Fm
namespace Fm
open PySem PySem.Spec PyProof.Rows L2
open PySem.W (Datum Tup T3 T4)
def PoolAt (H:Hp) (p g:Addr):Prop := ∃ (gs:List Int) (c sd n:Int),H p=some (.lst [.ref g, .int c, .int sd, .int n])∧H g=some (.lst (gs.map V.int))∧0≤sd∧sd < 2147483648
theorem PoolAt.ne {H:Hp} {p g:Addr} (h:PoolAt H p g):p≠g := by
 obtain ⟨gs,c,sd,n,h1,h2,_⟩ := h
 intro e
 rw [e,h2] at h1
 cases gs with
 | nil=>cases h1
 | cons a r=>cases h1
theorem PoolAt.keep {H H':Hp} {p g:Addr} (h:PoolAt H p g) (e1:H' p=H p) (e2:H' g=H g):PoolAt H' p g := by
 obtain ⟨gs,c,sd,n,h1,h2,h3⟩ := h
 exact ⟨gs,c,sd,n,e1.trans h1,e2.trans h2,h3⟩
theorem PoolAt.some {H:Hp} {p g:Addr} (h:PoolAt H p g):H p≠none∧H g≠none := by
 obtain ⟨gs,c,sd,n,h1,h2,h3⟩ := h
 rw [h1,h2]
 exact ⟨by simp,by simp⟩
def PWd (p:Addr) (T H:Hp):Prop := Same T H∧∃ g,T p=none∧T g=none∧PoolAt H p g
def PW (p:Addr):Wld where
 W := PWd p
 sub := fun h=>h.1
 new := fun {T H a o} ⟨s,g,h1,h2,h3⟩ na=>by
  have e1:p≠a := fun e=>h3.some.1 (by rw [e]; exact na)
  have e2:g≠a := fun e=>h3.some.2 (by rw [e]; exact na)
  exact ⟨same_both s,g,by rw [upd_ne e1]; exact h1,by rw [upd_ne e2]; exact h2,h3.keep (upd_ne e1) (upd_ne e2)⟩
 tmp := fun {T H a o} ⟨s,g,h1,h2,h3⟩ na=>by
  have e1:p≠a := fun e=>h3.some.1 (by rw [e]; exact na)
  have e2:g≠a := fun e=>h3.some.2 (by rw [e]; exact na)
  exact ⟨s.trans (same_new na),g,h1,h2,h3.keep (upd_ne e1) (upd_ne e2)⟩
 set := fun {T H a o o'} ⟨s,g,h1,h2,h3⟩ ha=>by
  have e1:p≠a := fun e=>by rw [e,ha] at h1; cases h1
  have e2:g≠a := fun e=>by rw [e,ha] at h2; cases h2
  exact ⟨same_both s,g,by rw [upd_ne e1]; exact h1,by rw [upd_ne e2]; exact h2,h3.keep (upd_ne e1) (upd_ne e2)⟩
 lift := fun {S S' T H H'} ⟨s,g,h1,h2,h3⟩ e st=>by
  obtain ⟨a,b⟩ := liftT_step s e st
  have k:∀ x,H x≠none→liftT T H S' x=T x := fun x hx=>by
   unfold liftT
   cases z:H x with
   | none=>exact absurd z hx
   | some o=>rfl
  refine ⟨_,a,b,g,by rw [k p h3.some.1]; exact h1,by rw [k g h3.some.2]; exact h2, ?_⟩
  obtain ⟨gs,c,sd,n,q1,q2,q3⟩ := h3
  exact ⟨gs,c,sd,n,st.tt _ _ q1,st.tt _ _ q2,q3⟩
end Fm
namespace Fm
open PySem PySem.Spec PyProof.Rows L2
open PySem.W (Datum Tup T3 T4)
section
variable {M:Wld} {K:PySem.W.Frag} {σ:L2.St} {S T H:Hp} {P:Hp→V→Prop} {te ta tb:TE} {tt:TT} {D:Ends} {t u:TS} {i:Nat} {b:Bool}
theorem ev_at {p:Addr} {vs:List V} {j n:Nat} {z:Int} {v:V} (h0:σ[j]? = some (some (.ref p))) (h:S p=some (.lst vs)) (hz:z=(n:Int)) (hv:vs[n]? = some v) (hP:P S v):Ev M (tOp (rIx K) (tVar j) (tC (.int z))) σ S P := fun T H w s Q q =>
 ⟨.ref p,h0, .inl ⟨p,vs,z,v,rfl,rfl,SqL.of ((s.trans (M.sub w)) _ _ h),by rw [hz]; exact atI_nat hv,q S T H v (Step.refl s) w hP⟩⟩
theorem q_set (h:Ev M te σ S P) (w:M.W T H) (s:Same S T) (q:∀ S' T' H' v,Step S T S' T'→M.W T' H'→P S' v→D.nx (σ.set i (some v)) H'):tAsg te (gName i) D σ H := h T H w s _ q
theorem q_ret (h:Ev M te σ S P) (w:M.W T H) (s:Same S T) (q:∀ S' T' H' v,Step S T S' T'→M.W T' H'→P S' v→D.rt v H'):tRet te D σ H := h T H w s _ q
theorem q_if (h:EvT M tt σ S b) (w:M.W T H) (s:Same S T) (h1:∀ S' T' H',Step S T S' T'→M.W T' H'→b=true→t D σ H') (h2:∀ S' T' H',Step S T S' T'→M.W T' H'→b=false→u D σ H'):tIfS tt t u D σ H := h T H w s _ fun S' T' H' st w'=>by
 cases b with
 | true=>exact iteT (h1 S' T' H' st w' rfl)
 | false=>exact iteF (h2 S' T' H' st w' rfl)
theorem ev_mod {a b:Int} (ha:Ev M ta σ S (Is K a)) (hb:Ev M tb σ S (Is K b)) (h:0 < b):Ev M (tOp rModA ta tb) σ S (Is K (a % b)) := ev_I ha hb h fun _=>is_int
theorem ev_div {a b:Int} (ha:Ev M ta σ S (Is K a)) (hb:Ev M tb σ S (Is K b)) (h:CDivW a b):Ev M (tOp rDivA ta tb) σ S (Is K (a / b)) := ev_I ha hb h fun _=>is_int
theorem ev_mul {a b:Int} (ha:Ev M ta σ S (Is K a)) (hb:Ev M tb σ S (Is K b)) (h:CMul a b):Ev M (tOp rMulA ta tb) σ S (Is K (a * b)) := ev_I ha hb h fun _=>is_int
theorem ev_pow {a b:Int} (ha:Ev M ta σ S (Is K a)) (hb:Ev M tb σ S (Is K b)) (h:CPow a b):Ev M (tOp rPowA ta tb) σ S (Is K (a ^ b.toNat)) := ev_I ha hb h fun _=>is_int
theorem ev_iv {j:Nat} {z:Int} (h:σ[j]? = some (some (.int z))):Ev M (tVar j) σ S (Is K z) := ev_var h is_int
theorem ev_ic {z:Int}:Ev M (tC (.int z)) σ S (Is K z) := ev_c is_int
end
end Fm
namespace Fm
open PySem PySem.Spec PyProof.Rows L2
open PySem.W (Datum Tup T3 T4)
section
variable {M:Wld} {K:PySem.W.Frag} {σ:L2.St} {S:Hp} {P P1 P2:Hp→V→Prop} {ta tb te tc td tl:TE} {v x y:V} {α β γ δ:Type} [DecidableEq α] [Datum α] [DecidableEq β] [Datum β] [DecidableEq γ] [Datum γ] [DecidableEq δ] [Datum δ]
theorem ty_tup {H:Hp} {a:Addr} {xs:List V} (h:SqT K H a xs):TyX K H (.ref a) (.type "tuple") := by
 rcases h with (h | ⟨o,h⟩) | ⟨o,its,n,h,hc,_⟩
 ·exact .base (.tup h)
 ·exact .fTuple h
 ·exact .kTuple h hc
theorem ty_ins {H:Hp} {a C dx:Addr} {fs:List (Str × V)} (c:Cls K C) (x:ClsX K C) (h:H a=some (.ins C dx fs)):TyX K H (.ref a) (.ref C) := .base (.ins h c x.ha x.hn x.ht x.hm)
end
end Fm
namespace Fm
open PySem PySem.Spec PyProof.Rows L2
open PySem.W (Datum Tup T3 T4)
inductive Orel {α β:Type} (F:α→β→Prop):Option α→Option β→Prop
 | no:Orel F none none
 | yes {a:α} {b:β}:F a b→Orel F (some a) (some b)
section
variable {ι:Type} {E:ι→Hp→V→Prop} {key:ι→Key} {xs:List ι} {x:ι} {S S':Hp} {kvs:List (Key × V)} {w:V} {k:Key}
def dlast (key:ι→Key) (xs:List ι) (k:Key):Option ι := xs.reverse.find? fun x=>decide (key x=k)
theorem dlast_snoc:dlast key (xs ++ [x]) k=if k=key x then some x else dlast key xs k := by
 unfold dlast
 rw [List.reverse_append]
 show List.find? _ (x :: xs.reverse)=_
 rw [List.find?_cons]
 by_cases h:k=key x
 ·simp [h]
 ·have h':¬ key x=k := fun e=>h e.symm
  simp [h,h']
def DAll (E:ι→Hp→V→Prop) (key:ι→Key) (xs:List ι) (S:Hp) (kvs:List (Key × V)):Prop := ∀ k,Orel (fun i w=>E i S w) (dlast key xs k) (valV kvs k)
theorem DAll.nil:DAll E key [] S [] := fun k=>.no
theorem DAll.put (h:DAll E key xs S kvs) (e:E x S w):DAll E key (xs ++ [x]) S (putK kvs (key x) w) := fun k=>by
 rw [dlast_snoc,valV_put]
 by_cases q:k=key x
 ·rw [if_pos q,if_pos q]; exact .yes e
 ·rw [if_neg q,if_neg q]; exact h k
theorem DAll.mono (hE:∀ i,Mono (E i)) (h:DAll E key xs S kvs) (e:Same S S'):DAll E key xs S' kvs := fun k=>by
 have := h k
 generalize dlast key xs k=a at this ⊢
 generalize valV kvs k=b at this ⊢
 cases this with
 | no=>exact .no
 | yes q=>exact .yes (hE _ _ _ _ e q)
def DctOf (E:ι→Hp→V→Prop) (key:ι→Key) (xs:List ι):Hp→V→Prop := fun S v=>∃ a kvs,v = .ref a∧Rd S a (.dK kvs)∧kvs.length≤xs.length∧DAll E key xs S kvs
theorem DctOf.mono (hE:∀ i,Mono (E i)):Mono (DctOf E key xs) := fun S S' v e ⟨a,kvs,h1,h2,h3,h4⟩=>⟨a,kvs,h1,Same.rd e h2,h3,h4.mono hE e⟩
end
section
variable {M:Wld} {K:PySem.W.Frag} {σ:L2.St} {S T H:Hp} {P P1 P2:Hp→V→Prop} {ta tb te tc td tk tv tl ty tx:TE} {v x y:V} {α β γ δ:Type} [DecidableEq α] [Datum α] [DecidableEq β] [Datum β] [DecidableEq γ] [Datum γ] [DecidableEq δ] [Datum δ]
theorem dlast_map {ι κ:Type} {key:κ→Key} {f:ι→κ} {xs:List ι} {k:Key}:dlast key (xs.map f) k=(dlast (fun i=>key (f i)) xs k).map f := by
 unfold dlast
 rw [← List.map_reverse,List.find?_map]
 rfl
theorem DctOf.of {ι κ:Type} {E:κ→Hp→V→Prop} {key:κ→Key} {f:ι→κ} {xs:List ι} (h:DctOf (fun i=>E (f i)) (fun i=>key (f i)) xs S v):DctOf E key (xs.map f) S v := by
 obtain ⟨a,kvs,h1,h2,h3,h4⟩ := h
 refine ⟨a,kvs,h1,h2,by rw [List.length_map]; exact h3,fun k=>?_⟩
 rw [dlast_map]
 have := h4 k
 cases e1:dlast (fun i=>key (f i)) xs k with
 | none =>
  rw [e1] at this
  generalize valV kvs k=o at this
  cases this
  exact .no
 | some j =>
  rw [e1] at this
  generalize valV kvs k=o at this
  cases this with
  | yes q=>exact .yes q
theorem Step.keep {S T S' T':Hp} (s:Same S T) (h:Step T T S' T'):Step S T S T' := ⟨Same.refl _,s.trans h.tt,h.tt,fun _ _ h=>h⟩
end
end Fm
namespace Fm
open PySem PySem.Spec PyProof.Rows L2
open PySem.W (Datum Tup T3 T4)
section
variable {M:Wld} {K:PySem.W.Frag} {σ:L2.St} {S T H S0 T0:Hp} {P P1 P2:Hp→V→Prop} {ta tb te tc td tk tv tl ty tx:TE} {v x y:V} {α β γ δ:Type} [DecidableEq α] [Datum α] [DecidableEq β] [Datum β] [DecidableEq γ] [Datum γ] [DecidableEq δ] [Datum δ]
theorem Paired.len {ι κ:Type} {R:ι→κ→Prop} {xs:List ι} {ys:List κ} (h:Paired R xs ys):ys.length=xs.length := (Paired.length h).symm
theorem Paired.all {ι κ:Type} {R:ι→κ→Prop} {F:κ→Prop} {xs:List ι} {ys:List κ} (h:Paired R xs ys) (hF:∀ i y,R i y→F y):∀ y∈ys,F y := by
 induction h with
 | nil=>intro y hy; exact nomatch hy
 | cons hh t ih =>
  intro y hy
  rcases List.mem_cons.mp hy with e | hy
  ·rw [e]; exact hF _ _ hh
  ·exact ih y hy
theorem nodup_le {α:Type} [DecidableEq α]:∀ {xs ys:List α},xs.Nodup→(∀ x∈xs,x∈ys)→xs.length≤ys.length
 | [],_,_,_=>Nat.zero_le _
 | x :: xs,ys,hn,h=>by
  have hx := h x (List.mem_cons_self ..)
  have hn' := List.nodup_cons.mp hn
  have := nodup_le (xs := xs) (ys := ys.erase x) hn'.2 fun z hz=>(List.mem_erase_of_ne (fun e=>hn'.1 (by rw [← e]; exact hz))).mpr (h z (List.mem_cons_of_mem _ hz))
  rw [List.length_erase_of_mem hx] at this
  have:0 < ys.length := List.length_pos_of_mem hx
  rw [List.length_cons]
  omega
theorem Same.sql {S S':Hp} {a:Addr} {vs:List V} (e:Same S S') (h:SqL K S a vs):SqL K S' a vs := by
 rcases h with h | h
 ·exact .inl (Same.rd e h)
 ·exact .inr h
theorem ev_cutQ {j:Nat} {a:Addr} {vs:List V} {tl th:TO} {lo hi:Option Int} {xs:List α} (hj:σ[j]? = some (some (.ref a))) (h1:SqL K S a vs) (h2:IsAll K xs S vs) (hl:EvO M tl σ S lo) (hh:EvO M th σ S hi):Ev M (tSl (rSlA K) (tVar j) tl th) σ S (Is K (cutL xs lo hi)) := fun T H w s Q q =>
 ⟨.ref a,hj,hl T H w s _ fun S2 T2 H2 st2 w2=>(hh.mono st2.ss) T2 H2 w2 st2.st _ fun S3 T3 H3 st3 w3=>by
  refine .inl ⟨a,vs,rfl,Same.sql ((st2.ss.trans st3.ss).trans (st3.st.trans (M.sub w3))) h1,fun l nl=>?_⟩
  have nt := (M.sub w3).free nl
  exact q _ _ _ _ ((st2.trans st3).trans (Step.new st3.st nt)) (M.new w3 nl) (is_lst (.inl upd_same) ((IsAll.cut (h2.mono (st2.ss.trans st3.ss))).mono (same_new (st3.st.free nt))))⟩
theorem fun_bindsTo {x qual:Str} {st:Stmt} {f:Addr} {fd:FuncData} {ps:List Str} (F:Fun K x qual st f fd)
  (h:∀ (kV doc pm:Value) (an:Option Addr) (cdv ct:Value) (us:List Value),us.length=ps.length→bindArgs (PySem.W.fnOf x qual (defArgs st) (defBody st) (defScope st) .none kV doc pm an cdv ct) ⟨us,[]⟩=pure (ps.zip us)) (s:Shared) (us:List Value) (hl:us.length=ps.length):BindsTo s fd ⟨us,[]⟩ (ps.zip us) := by
 obtain ⟨oc,od,kV,doc,pm,an,cdv,ct,osl,rfl,lk,hcd⟩ := F.ex
 exact .of_eq (h kV doc pm an cdv ct us hl)
end
end Fm
namespace Fm
open PySem PySem.Spec PyProof.Rows L2
open PySem.W (Datum Tup T3 T4)
end Fm
namespace Fm
open PySem PySem.Spec PyProof.Rows L2
open PySem.W (Datum Tup T3 T4)
def del (H:Hp) (l:Addr):Hp := fun a=>if a=l then none else H a
theorem del_same {H:Hp} {l:Addr}:del H l l=none := if_pos rfl
theorem del_ne {H:Hp} {l a:Addr} (h:a≠l):del H l a=H a := if_neg h
theorem upd_comm {H:Hp} {a b:Addr} {o u:HO} (h:a≠b):upd (upd H a o) b u=upd (upd H b u) a o := by
 funext c
 by_cases h1:c=a
 ·subst h1; rw [upd_ne h,upd_same,upd_same]
 ·by_cases h2:c=b
  ·subst h2; rw [upd_same,upd_ne h1,upd_same]
  ·rw [upd_ne h2,upd_ne h1,upd_ne h1,upd_ne h2]
theorem upd_upd {H:Hp} {a:Addr} {o u:HO}:upd (upd H a o) a u=upd H a u := by
 funext c
 by_cases h1:c=a
 ·subst h1; rw [upd_same,upd_same]
 ·rw [upd_ne h1,upd_ne h1,upd_ne h1]
theorem upd_del {H:Hp} {l:Addr} {o:HO} (h:H l=some o):upd (del H l) l o=H := by
 funext c
 by_cases h1:c=l
 ·subst h1; rw [upd_same,h]
 ·rw [upd_ne h1,del_ne h1]
theorem Step.hide {S T S' T':Hp} {l:Addr} {o:HO} (n:T l=none) (s:Same S T) (h:Step S (upd T l o) S' T'):Step S T S' (del T' l)∧T' l=some o := by
 have hl:T' l=some o := h.tt _ _ upd_same
 have hS:S' l=none := h.nw l (by rw [upd_same]; simp) (s.free n)
 refine ⟨⟨h.ss,fun b x q=>?_,fun b x q=>?_,fun a ha hs=>?_⟩,hl⟩
 ·have hb:b≠l := ne_of_none q hS
  rw [del_ne hb]; exact h.st b x q
 ·have hb:b≠l := ne_of_none q n
  rw [del_ne hb]; exact h.tt b x (by rw [upd_ne hb]; exact q)
 ·have hb:a≠l := fun e=>ha (by rw [e]; exact n)
  exact h.nw a (by rw [upd_ne hb]; exact ha) hs
def WL (M:Wld) (l:Addr) (o:HO):Wld where
 W := fun T H=>T l=none∧M.W (upd T l o) H
 sub := fun {T H} ⟨n,w⟩=>(same_new n).trans (M.sub w)
 new := fun {T H a u} ⟨n,w⟩ na=>by
  have hl:l≠a := ne_of_none ((M.sub w) _ _ upd_same) na
  exact ⟨by rw [upd_ne hl]; exact n,by rw [upd_comm (Ne.symm hl)]; exact M.new w na⟩
 tmp := fun {T H a u} ⟨n,w⟩ na=>⟨n,M.tmp w na⟩
 set := fun {T H a u u'} ⟨n,w⟩ ha=>by
  have hl:a≠l := ne_of_none ha n
  exact ⟨by rw [upd_ne (Ne.symm hl)]; exact n,by rw [upd_comm hl]; exact M.set w (by rw [upd_ne hl]; exact ha)⟩
 lift := fun {S S' T H H'} ⟨n,w⟩ e st=>by
  obtain ⟨T',st',w'⟩ := M.lift w (e.trans (same_new n)) st
  obtain ⟨a,b⟩ := st'.hide n e
  exact ⟨del T' l,a,del_same,by rw [upd_del b]; exact w'⟩
section
variable {M:Wld} {K:PySem.W.Frag} {σ:L2.St} {S T H S0 T0:Hp} {P P1 P2:Hp→V→Prop} {te ta tb:TE} {l p:Addr} {o o':HO} {vs:List V} {D:Ends} {i:Nat}
theorem WL.hp (w:(WL M l o).W T H):H l=some o := (M.sub w.2) _ _ upd_same
theorem WL.free (w:(WL M l o).W T H) (s:Same S T):S l=none := s.free w.1
theorem WL.put (w:(WL M l o).W T H):(WL M l o').W T (upd H l o') := ⟨w.1,by rw [← upd_upd (o := o)]; exact M.set w.2 upd_same⟩
theorem WL.back {S' T' H':Hp} (n:T l=none) (s:Same S T) (st:Step S (upd T l o) S' T') (w:M.W T' H'):∃ T2,Step S T S' T2∧(WL M l o).W T2 H' := by
 obtain ⟨a,b⟩ := st.hide n s
 exact ⟨del T' l,a,del_same,by rw [upd_del b]; exact w⟩
end
end Fm
namespace Fm
open PySem PySem.Spec PyProof.Rows L2
open PySem.W (Datum Tup T3 T4)
theorem lk_rev {x:Str} {v:Value}:∀ {ps:List Str} {us:List Value} {i:Nat},ps.Nodup→ps[i]? = some x→us[i]? = some v→(ps.zip us).reverse.lookup x=some v
 | [],_,_,_,h,_=>by simp at h
 | _ :: _,[],_,_,_,h=>by simp at h
 | p :: ps,w :: us,0,nd,h1,h2=>by
  have e1:p=x := by simpa using h1
  have e2:w=v := by simpa using h2
  subst e1; subst e2
  have hn:(ps.zip us).reverse.lookup p=none := by
   rw [List.lookup_eq_none_iff]
   intro q hq
   have hq':q∈ps.zip us := by simpa using hq
   obtain ⟨a,b⟩ := q
   have := (List.of_mem_zip hq').1
   have hne:p≠a := fun e=>(List.nodup_cons.mp nd).1 (e ▸ this)
   simpa using hne
  rw [List.zip_cons_cons,List.reverse_cons,List.lookup_append,hn]
  simp
 | p :: ps,w :: us,i + 1,nd,h1,h2=>by
  have := lk_rev (ps := ps) (us := us) (i := i) (List.nodup_cons.mp nd).2 (by simpa using h1) (by simpa using h2)
  rw [List.zip_cons_cons,List.reverse_cons,List.lookup_append,this]
  rfl
def cxS (P : Program) (w : World) (K : PySem.W.Frag) (mg : Str → Option Value) (base : Heap) (N : List Str) (qual : Str) (scope : Scope) (f cda cc : Addr) (A : Around) (outer : List Env) (s : Shared) (H : Hp) : Cx :=
  { cxOf CX0 P w K mg base N qual scope f (.ref cda) A outer s H E0 with
    env := PySem.W.ksEnv qual scope s.heap.objs.size f (.ref cda) cc
    A := A.deeper (PySem.W.ksEnv qual scope s.heap.objs.size f (.ref cda) cc)
    stack := PySem.W.ksEnv qual scope s.heap.objs.size f (.ref cda) cc :: outer
    fn := fun _ => false
    xe := fun _ _ => False }
structure SuScope (ps:List Str) (sc:Scope):Prop where
 kind:sc.kind = .function
 co:sc.isCoroutine=false
 gen:sc.isGenerator=false
 nd:ps.Nodup
 par:∀ x∈ps,sc.names.lookup x=some .local
 nocell:∀ y∈sc.names,y.2≠.cell
 free:∀ y∈sc.names,y.2 = .free→y.1 = "__class__"
 sup:sc.names.lookup ("super":Str)=some .globalImplicit
 cls:sc.names.lookup ("__class__":Str)=some .free
structure SuFn (K:PySem.W.Frag) (file:Str) (C f:Addr) (qual:Str) (params:Arguments) (body:List Stmt) (scope:Scope) (fd:FuncData) (cda cc:Addr):Prop where
 ex:∃ (name:Str) (oc:Value) (od:Option Addr) (kV doc pm:Value) (an:Option Addr) (ct:Value) (osl:Array (Option Value)),fd=PySem.W.ksFn name qual params body scope .none kV doc pm an (.ref cda) ct cc∧K.lookup f=some ⟨oc,od, .func fd,osl⟩
 code:PySem.W.codeIn K (.ref cda) qual=true
 file:∃ ccl cdd vs ccs tf,K.lookup cda=some ⟨ccl,cdd, .fields vs,ccs⟩∧vs[2]? = some (.str file tf)
 cell:∃ cl cld csl,K.lookup cc=some ⟨cl,cld, .cell (some (.ref C)),csl⟩
 sup:PySem.W.ks_superIn K C C "__init__" = some (some (.builtin "ValueError.__init__"))
 ve:PySem.W.subIn K (.ref C) (.type "ValueError")=some true
 self:PySem.W.mroIn K C (.ref C)=some true
 op:PySem.W.nsIn K cStatics "thirdparty.any" = some none
section
variable {P:Program} {w:World} {K:PySem.W.Frag} {mg:Str→Option Value} {base:Heap} {qual:Str} {scope:Scope} {f cda cc C a:Addr} {A:Around} {outer:List Env} {s s1:Shared} {H:Hp} {ps:List Str} {us:List Value} {vs:List V} {params:Arguments} {body:List Stmt} {fd:FuncData} {file:Str}
theorem inv_startS {h1:Heap} {tk:Nat} (S:SuScope ps scope) (hd:A.handled=none) (e0:Env0 P w K mg base A outer s H) (hl:vs.length=ps.length) (r:Vals vs us) (hc:∃ cl cld csl,K.lookup cc=some ⟨cl,cld, .cell (some (.ref C)),csl⟩)
  (hns:h1.Ns s.heap.objs.size (fun x=>(ps.zip us).reverse.lookup x)) (hk:∀ b o,s.heap.get? b=some o→h1.get? b=some o) :
  Inv (cxS P w K mg base ps qual scope f cda cc A outer s H) [] (start ps vs) H { s with heap := h1,toks := tk } := by
 obtain ⟨cl,cld,csl,hcl⟩ := hc
 have hb := e0.bs _ _ (e0.mod.kin _ _ hcl)
 have one:∀ y c,([(("__class__":Str),cc)]:List (Str × Addr)).lookup y=some c→y = "__class__" ∧ c=cc := fun y c h=>by
  by_cases e:y = "__class__"
  ·subst e
   have:cc=c := by simpa [List.lookup] using h
   exact ⟨rfl,this.symm⟩
  ·have e':(y == ("__class__":Str))=false := by simpa using e
   simp [List.lookup,e'] at h
 refine ⟨⟨e0.mod,S.kind,rfl,rfl,Nat.le_refl _,fun y z c h1 h2=>(one y c h1).1.trans (one z c h2).1.symm,fun y hy=>?_,(fun y c z _=>by cases z),fun _=>hd,Around.frames_deeper e0.frames, .inr ⟨rfl,rfl⟩,(fun b z=>nomatch z),e0.bs,e0.bsz,(fun b _ _ z=>nomatch z),(fun b z=>nomatch z),e0.funs,e0.frf⟩,
  rfl,e0.bare,Un.kept hk,⟨_,hns,fun i y v h1 h2 _=>?_⟩,fun y c h=>?_,e0.hok.fresh (Nat.le_refl _),fun y c h=>?_,(fun p hp=>nomatch hp),e0.hok.kept hk, ?_⟩
 ·have hy:scope.names.lookup y=some .cell∨scope.names.lookup y=some .free := hy
  rcases hy with hy | hy
  ·exact absurd rfl (S.nocell _ (PySem.mem_of_lookup hy))
  ·have e:y = "__class__" := S.free _ (PySem.mem_of_lookup hy) rfl
   subst e
   exact ⟨cc,by show ([(("__class__":Str),cc)]:List (Str × Addr)).lookup _=_; simp [List.lookup]⟩
 ·have hi:i < vs.length := by
   have := (List.getElem?_eq_some_iff.mp h1).1
   have:i < ps.length := this
   omega
  have hv:vs[i]? = some v := by
   unfold L2.start at h2
   rw [List.getElem?_append_left (by simpa using hi),List.getElem?_map] at h2
   cases e:vs[i]? with
   | none=>rw [e] at h2; cases h2
   | some b=>rw [e] at h2; cases h2; rfl
  obtain ⟨u,hu,rv⟩ := r.get hv
  exact ⟨u,rv, .inl ⟨S.par y (List.mem_of_getElem? h1),lk_rev S.nd h1 hu⟩⟩
 ·obtain ⟨rfl,rfl⟩ := one y c h
  exact ⟨_,_,hk _ _ hb.1,rfl⟩
 ·obtain ⟨rfl,rfl⟩ := one y c h
  exact hb.2
 ·unfold L2.start
  rw [List.length_append,List.length_map,List.length_replicate]
  show _=ps.length
  omega
theorem super_init {X:Cx} {bd:List Stmt} {p0 p1 p2 p3 pos:Pos} {j:Nat} {msg:Str} {σ:L2.St} {E:Value→Shared→Prop} {ar:Arg} {pl:Sem Bool}
  (hX:X=cxS P w K mg base ps qual scope f cda cc A outer s H) (S:SuScope ps scope) (F:SuFn K file C f qual params body scope fd cda cc) (T:OexC K C) (hfile:((P.main.file:Str) == file)=true) (htop:(P.main.scope.names.lookup ("super":Str)).isSome=false) (hmg:mg "super" = none)
  (hp:(params.posonlyargs ++ params.args).head? = some ar) (h0:ps[0]? = some ar.arg) (hs:σ[0]? = some (some (.ref a))) {H1:Hp} (I:Inv X [] σ H1 s1) (ha:H1 a=some (exo a C none))
  (hev:eval (.Call (.Attribute (.Call (.Name "super" p0) [] [] p1) "__init__" p2) [.Constant (.str msg) j p3] [] pos) X.env=(do
   let ov ← attributeBase (.Call (.Name "super" p0) [] [] p1) "__init__" X.env (eval (.Call (.Name "super" p0) [] [] p1) X.env)
   standAt p2.atName
   let (f,first) ← holding [ov] (getMethod ov "__init__" pl)
   callWith pos f first (backTo pos (starEach [.Constant (.str msg) j p3] X.env)) []) := by rfl)
  {Q:Value→Shared→Prop} (q:∀ u s',Inv X [] σ H1 s'→Q u s') :
  _root_.PySem.wpAt (model P w) X.A (.func bd X.env) (eval (.Call (.Attribute (.Call (.Name "super" p0) [] [] p1) "__init__" p2) [.Constant (.str msg) j p3] [] pos) X.env) Q E s1 := by
 subst hX
 obtain ⟨name,oc,od,kV,doc,pm,an,ct,osl,rfl,lkf⟩ := F.ex
 obtain ⟨ccl,cdd,vsF,ccs,tf,lkc,hvs⟩ := F.file
 obtain ⟨cl,cld,csl,lkcell⟩ := F.cell
 obtain ⟨nm,qn,NN,bs,bm,sn,sub,ab,col,dd,k0,k1,k2,k3,k5,hC,hbm⟩ := T.cls
 have hcl:∃ cd,PySem.W.clsIn K C=some cd := ⟨_,by unfold PySem.W.clsIn; rw [hC] <;> rfl⟩
 obtain ⟨cd,hcd⟩ := hcl
 refine ks_wpAt_MethodCall (pl := pl) ?_ hev
 have KX:K.In s1.heap := I.kIn
 have bk := I.bk
 obtain ⟨mb,hb1,hb2⟩ := I.ok.mod.blt
 obtain ⟨m,hns,hloc⟩ := id I.loc
 have hself:m ar.arg=some (.ref a) := by
  obtain ⟨u,ru,hu⟩ := hloc 0 ar.arg (.ref a) h0 hs (.inl (S.par _ (List.mem_of_getElem? h0)))
  have eu:u=Value.ref a := ru
  subst eu
  rcases hu with ⟨_,z⟩ | ⟨z,_⟩
  ·exact z
  ·have k:scope.names.lookup ar.arg=some .local := S.par _ (List.mem_of_getElem? h0)
   have z':scope.names.lookup ar.arg=some .cell∨scope.names.lookup ar.arg=some .free := z
   rw [k] at z'
   rcases z' with z' | z' <;> cases z'
 refine ks_wpAt_super_base (of := ⟨oc,od, .func _,osl⟩) (oc := ⟨ccl,cdd, .fields vsF,ccs⟩) S.sup S.cls (by decide) rfl (KX _ _ lkf) rfl hp rfl (KX _ _ lkc) rfl hvs hfile htop ?_
 refine PySem.W.ks_loadName_global S.kind S.sup (PySem.Calls.loadGlobal_builtin (mg := mg) (mb := mb) (I.ok.mod.glob.keeps bk) hmg (hb1.keeps bk) ((hb2 "super" (by decide)).trans (by decide +kernel:bootBuiltins "super" = some (.type "super"))) ⟨rfl, ?_⟩)
 refine wpAny_loadName_free S.kind S.cls (c := cc) (by show ([(("__class__":Str),cc)]:List (Str × Addr)).lookup _=_; simp [List.lookup]) ⟨_,KX _ _ lkcell,rfl⟩ ?_
 refine wpAny_loadName_local S.kind (S.par _ (List.mem_of_getElem? h0)) hns hself ?_
 have hCobj := KX _ _ hC
 refine ks_wpAny_isType_cls hCobj rfl ⟨rfl, ?_⟩
 obtain ⟨t1,hx⟩ := exo_at I.hok ha
 obtain ⟨hp1,g,d,t,os⟩ := s1
 refine ks_wpAny_call_super hCobj rfl hx rfl (fun c e=>by cases e) (PySem.W.looks_mroIn KX F.self) fun h2 e2 kp2=>?_
 have I2 := I.kept (t' := t) kp2
 have KX2:K.In h2 := KX.keeps kp2
 have hx2 := kp2 _ _ hx
 have IA:PySem.W.InstAt h2 a _ C none := ⟨hx2,rfl,rfl,trivial⟩
 have hsup := F.sup
 unfold PySem.W.ks_superIn at hsup
 rw [hcd,Option.bind_some] at hsup
 refine PySem.W.kxs_getMethod PySem.W.kxs_ValueError (l₀ := cd.mro) e2 (PySem.W.looks_opaque KX2 F.op) (fun A Q E s k q=>wpAny_bind ((PySem.W.looks_clsIn KX2 hcd) A _ E s k (wpAny_pure q))) rfl KX2 hsup (IA.type.andThen (PySem.W.looks_subIn KX2 F.ve)) (PySem.W.ks_ne KX2 IA hcd) (by decide) ?_
 have kp3:∀ b o,h2.get? b=some o→(h2.push (PySem.W.kxs_mw "ValueError.__init__" a)).get? b=some o := fun b o e=>Heap.get?_push_of_some _ e
 have I3 := I2.kept (t' := t + 1) kp3
 have hmw:(h2.push (PySem.W.kxs_mw "ValueError.__init__" a)).get? h2.objs.size=some (PySem.W.kxs_mw "ValueError.__init__" a) := Heap.get?_push_at rfl rfl
 have I4 := I3.pins_of (pins' := [(h2.objs.size,PySem.W.kxs_mw "ValueError.__init__" a)]) (fun p hp=>by
  rw [List.mem_singleton.mp hp]
  refine ⟨hmw,I2.hok.fresh (Nat.le_refl _),fun z=>?_,I2.nofs (Nat.le_refl _),fun v z=>by cases z⟩
  have := I2.lt
  have z':h2.objs.size=(cxS P w K mg base ps qual scope f cda cc A outer s H).env.locals := z
  rw [← z'] at this
  exact absurd this (Nat.lt_irrefl _))
 refine PySem.W.kxs_callWith (i := "ValueError.__init__") (x := a) rfl ?_
 have hpa:PA (cxS P w K mg base ps qual scope f cda cc A outer s H) [.Constant (.str msg) j p3] (tCons (tC (.str msg)) tNil) := pa_cons pe_str pa_nil
 refine PySem.Calls.evalArgs_plain (thn (hpa.run pos _ _ σ H1 (fun vs H2=>H2=H1∧vs.length≤1000) I4 ⟨rfl,by simp⟩) fun us2 s5 hh=>?_)
 obtain ⟨vs5,H5,I5,r5,e5,hl5⟩ := hh
 subst e5
 obtain ⟨hmw5,_⟩ := I5.pin _ (List.mem_append_right _ (List.mem_singleton.mpr rfl))
 refine ⟨hmw5, ?_⟩
 obtain ⟨t5,hx5⟩ := exo_at I5.hok ha
 have hC5 := I5.kIn _ _ hC
 obtain ⟨hp5,g5,d5,tk5,os5⟩ := s5
 refine wpAny_call (codeAny_of_tree ?_)
 show wpAny _ _ (callAny (.ref h2.objs.size) ⟨us2,[]⟩) _ _ _
 simp only [callAny]
 refine wpAny_bind (wpAny_load hmw5 ?_)
 refine PySem.W.KFB.if_so (by show (Value.type "method-wrapper" == Value.type "method" || Value.type "method-wrapper" == Value.type "builtin_function_or_method" || Value.type "method-wrapper" == Value.type "method-wrapper")=true; decide) ?_
 refine wpAny_bind (PySem.W.check_bound_init PySem.F.excBase_ValueError.toExcCallFacts hC5 hx5 rfl ?_)
 refine wpAny_bind (wpAny_pure (wpAny_pure ?_))
 refine ⟨plainId_quiet PySem.F.excBase_ValueError.init.plain _,codeAny_builtin PySem.F.excBase_ValueError.initEntry ?_⟩
 refine PySem.W.exc_init_tree (cls := .ref C) (t0 := t5) (dv := none) (c2 := .none) (c3 := .none) (b4 := .bool false) hx5 ?_ fun h6 kp6 hx6 _=>?_
 ·rw [← Paired.length r5,sizeLine_eq]
  omega
 have J := I5.write (t' := tk5) (x := a) (e := a) (o := exo a C none) (by rw [ha]; exact True.intro) (.inl rfl) kp6 ⟨_,hx6⟩ (exo_ok hx6)
 have eu:upd H5 a (exo a C none)=H5 := by
  funext b
  by_cases hb:b=a
  ·rw [hb,upd_same,ha]
  ·rw [upd_ne hb]
 rw [eu] at J
 exact q _ _ (J.pins_of (pins' := []) fun p hp=>nomatch hp)
end
end Fm
namespace Fm
open PySem PySem.Spec PyProof.Rows L2
open PySem.W (Datum Tup T3 T4)
section
variable {K:PySem.W.Frag} {C:Addr}
def rawEx (K:PySem.W.Frag) (C:Addr):Bool := match K.lookup C with
 | some ⟨.type "type",_, .cls cd,sl⟩=>(match cd.mro,sl.toList with
  | .ref C' :: bm,[_,_,_,_,some (.builtin n),_]=>C' == C && n == "ValueError.__new__" && !cd.hasDel && cd.hasDict && PySem.HandSPX.refsVE bm
  | _,_=>false)
 | _=>false
theorem rawEx_ok (q:rawEx K C=true):∃ nm qn N bs bm sn sub ab col dd k0 k1 k2 k3 k5,K.lookup C=some (excClassObj nm qn C N bs bm true sn sub ab col dd k0 k1 k2 k3 k5 "ValueError.__new__")∧PySem.HandSPX.refsVE bm=true := by
 unfold rawEx at q
 split at q
 ·rename_i dd cd sl ho
  split at q
  ·rename_i C' bm k0 k1 k2 k3 n k5 hm hs
   simp only [Bool.and_eq_true,beq_iff_eq,Bool.not_eq_true'] at q
   obtain ⟨⟨⟨⟨rfl,rfl⟩,hdel⟩,hdt⟩,ht⟩ := q
   obtain ⟨nm,bs,mro,ns,qn,hd,sn,sub,ab,col,del⟩ := cd
   dsimp only at hm hdel hdt
   subst hm hdel hdt
   have hsl:sl = #[k0,k1,k2,k3,some (.builtin "ValueError.__new__"),k5] := by
    obtain ⟨l⟩ := sl
    simp only at hs
    rw [hs]
   subst hsl
   exact ⟨nm,qn,ns,bs,bm,sn,sub,ab,col,dd,k0,k1,k2,k3,k5,ho,ht⟩
  ·cases q
 ·cases q
def oexB (K:PySem.W.Frag) (C:Addr):Bool := rawEx K C && (He.eqO (PySem.W.findIn K (.ref C) "__setattr__") (some (some (.builtin "object.__setattr__"))) && (decide (PySem.W.subIn K (.ref C) (.type "BaseException")=some true) && (decide (PySem.W.typeIn K (.ref C)=some (.type "type")) && PySem.W.keepIn K (.ref C))))
theorem oexB_ok (h:oexB K C=true):OexC K C := by
 obtain ⟨h1,h⟩ := He.ba h
 obtain ⟨h2,h⟩ := He.ba h
 obtain ⟨h3,h⟩ := He.ba h
 obtain ⟨h4,h5⟩ := He.ba h
 exact ⟨rawEx_ok h1,He.eqO_ok h2,of_decide_eq_true h3,of_decide_eq_true h4,h5⟩
def excB (K:PySem.W.Frag) (D:Addr):Bool := He.eqO (PySem.W.findIn K (.ref D) "__getattribute__") (some (some (.builtin "BaseException.__getattribute__"))) && (He.eqO (PySem.W.findIn K (.ref D) "__getattr__") (some none) && (decide (PySem.W.subIn K (.ref D) (.type "BaseException")=some true) && (PySem.W.hasDictIn K D &&
 (He.eqO (PySem.W.findIn K (.ref D) "__class__") (some (some (.builtin "object.__class__"))) && (He.eqO (PySem.W.specialIn K (.builtin "object.__class__") "__get__") (some (some (.builtin "getset_descriptor.__get__"))) && (decide (PySem.W.takesIn K (.builtin "object.__class__")=some true) && decide (PySem.W.mroIn K D (.type "object")=some true)))))))
theorem excB_ok (h:excB K C=true):ExcC K C := by
 obtain ⟨h1,h⟩ := He.ba h
 obtain ⟨h2,h⟩ := He.ba h
 obtain ⟨h3,h⟩ := He.ba h
 obtain ⟨h4,h⟩ := He.ba h
 obtain ⟨h5,h⟩ := He.ba h
 obtain ⟨h6,h⟩ := He.ba h
 obtain ⟨h7,h8⟩ := He.ba h
 exact ⟨He.eqO_ok h1,He.eqO_ok h2,of_decide_eq_true h3,h4,He.eqO_ok h5,He.eqO_ok h6,of_decide_eq_true h7,of_decide_eq_true h8⟩
structure DefE where
 cls:PySem.W.Frag→Addr
 qual:Str
 st:Stmt
 file:Str
def DefE.at_ (d:DefE) (K:PySem.W.Frag):Addr := He.ma K (d.cls K) "__init__"
def fnE (K:PySem.W.Frag) (a:Addr):He.FnW := match K.lookup a with
 | some ⟨_,_, .func fd,_⟩=>some (fd.name,fd.qualname,fd.params,fd.body,fd.scope,fd.globals,[],fd.builtins)
 | _=>none
def DefE.val (d:DefE):He.FnW := some ("__init__",d.qual,defArgs d.st, .stmts (defBody d.st),defScope d.st,mainGlobals,[],builtinsNs)
def isNone:Value→Bool
 | .none=>true
 | _=>false
theorem isNone_ok {v:Value} (h:isNone v=true):v = .none := by
 cases v <;> first | rfl | cases h
def fileB (K:PySem.W.Frag) (file:Str):Value→Bool
 | .ref c=>(match K.lookup c with
  | some ⟨_,_, .fields vs,_⟩=>(match vs.toList with
   | _ :: _ :: .str z _ :: _=>z == file
   | _=>false)
  | _=>false)
 | _=>false
theorem fileB_ok {file:Str} {v:Value} (h:fileB K file v=true):∃ c ccl cdd vs ccs tf,v = .ref c∧K.lookup c=some ⟨ccl,cdd, .fields vs,ccs⟩∧vs[2]? = some (.str file tf) := by
 unfold fileB at h
 split at h
 ·rename_i c
  split at h
  ·rename_i ccl cdd vs ccs e
   split at h
   ·rename_i v0 v1 z tf r e2
    have:z=file := by simpa using h
    subst this
    refine ⟨c,ccl,cdd,vs,ccs,tf,rfl,e, ?_⟩
    rw [← Array.getElem?_toList,e2]
    rfl
   ·cases h
  ·cases h
 ·cases h
def cellB (K:PySem.W.Frag) (C:Addr):List (Str × Addr)→Bool
 | [(n,cc)]=>n == ("__class__":Str) && (match K.lookup cc with
  | some ⟨_,_, .cell (some (.ref D)),_⟩=>D == C
  | _=>false)
 | _=>false
theorem cellB_ok {l:List (Str × Addr)} (h:cellB K C l=true):∃ cc,l=[(("__class__":Str),cc)]∧∃ cl cld csl,K.lookup cc=some ⟨cl,cld, .cell (some (.ref C)),csl⟩ := by
 unfold cellB at h
 split at h
 ·rename_i n cc
  obtain ⟨h1,h2⟩ := He.ba h
  split at h2
  ·rename_i cl cld D csl e
   have e1:n = "__class__" := by simpa using h1
   have e2:D=C := by simpa using h2
   subst e1 e2
   exact ⟨cc,rfl,cl,cld,csl,e⟩
  ·cases h2
 ·cases h
def DefE.ok (K:PySem.W.Frag) (d:DefE):Bool := (match K.lookup (d.at_ K) with
 | some ⟨_,_, .func fd,_⟩=>isNone fd.defaults && (PySem.W.codeIn K fd.code d.qual && (fileB K d.file fd.code && cellB K (d.cls K) fd.closure))
 | _=>false) && (oexB K (d.cls K) && (excB K (d.cls K) && (He.eqO (PySem.W.findIn K (.ref (d.cls K)) "__init__") (some (some (.ref (d.at_ K)))) && (decide (PySem.W.typeIn K (.ref (d.at_ K))=some (.type "function")) &&
 (He.eqO (PySem.W.ks_superIn K (d.cls K) (d.cls K) "__init__") (some (some (.builtin "ValueError.__init__"))) && (decide (PySem.W.subIn K (.ref (d.cls K)) (.type "ValueError")=some true) && (decide (PySem.W.mroIn K (d.cls K) (.ref (d.cls K))=some true) && He.eqO (PySem.W.nsIn K cStatics "thirdparty.any") (some none))))))))
structure Err (K:PySem.W.Frag) (file:Str) (C f:Addr) (qual:Str) (st:Stmt):Prop where
 oex:OexC K C
 exc:ExcC K C
 ini:PySem.W.findIn K (.ref C) "__init__" = some (some (.ref f))
 ty:PySem.W.typeIn K (.ref f)=some (.type "function")
 fn:∃ fd cda cc,SuFn K file C f qual (defArgs st) (defBody st) (defScope st) fd cda cc
theorem DefE.err {d:DefE} (e:fnE K (d.at_ K)=d.val) (c:d.ok K=true):Err K d.file (d.cls K) (d.at_ K) d.qual d.st := by
 obtain ⟨c1,h⟩ := He.ba c
 obtain ⟨h2,h⟩ := He.ba h
 obtain ⟨h3,h⟩ := He.ba h
 obtain ⟨h4,h⟩ := He.ba h
 obtain ⟨h5,h⟩ := He.ba h
 obtain ⟨h6,h⟩ := He.ba h
 obtain ⟨h7,h⟩ := He.ba h
 obtain ⟨h8,h9⟩ := He.ba h
 refine ⟨oexB_ok h2,excB_ok h3,He.eqO_ok h4,of_decide_eq_true h5, ?_⟩
 unfold fnE at e
 cases q:K.lookup (d.at_ K) with
 | none =>
  rw [q] at c1
  cases c1
 | some o =>
  obtain ⟨oc,od,dt,osl⟩ := o
  rw [q] at c1 e
  cases dt with
  | func fd =>
   obtain ⟨n1,n2,n3,n4,n5,n6,n7,n8,n9,n10,n11,n12,n13,n14,n15⟩ := fd
   have e2:(some (n1,n2,n3,n4,n5,n6,[],n15):He.FnW)=some (("__init__":Str),d.qual,defArgs d.st,FuncBody.stmts (defBody d.st),defScope d.st,mainGlobals,[],builtinsNs) := e
   simp only [Option.some.injEq,Prod.mk.injEq] at e2
   obtain ⟨k1,k2,k3,k4,k5,k6,_,k8⟩ := e2
   subst k1 k2 k3 k4 k5 k6 k8
   have c3:(isNone n8 && (PySem.W.codeIn K n13 d.qual && (fileB K d.file n13 && cellB K (d.cls K) n7)))=true := c1
   obtain ⟨m1,m⟩ := He.ba c3
   obtain ⟨m2,m⟩ := He.ba m
   obtain ⟨m3,m4⟩ := He.ba m
   have e8 := isNone_ok m1
   subst e8
   obtain ⟨cda,ccl,cdd,vs,ccs,tf,rfl,lkc,hv⟩ := fileB_ok m3
   obtain ⟨cc,rfl,hcell⟩ := cellB_ok m4
   exact ⟨_,cda,cc,⟨"__init__",oc,od,n9,n10,n11,n12,n14,osl,rfl,q⟩,m2,⟨ccl,cdd,vs,ccs,tf,lkc,hv⟩,hcell,He.eqO_ok h6,of_decide_eq_true h7,of_decide_eq_true h8,He.eqO_ok h9⟩
  | _=>cases c1
end
def cloO (o:Obj):List Addr := match o.data with
 | .func fd=>fd.closure.map (·.2)
 | _=>[]
def pushA:List Addr→Nat→List Addr→Nat × List Addr
 | [],m,l=>(m,l)
 | a :: r,m,l=>match Nat.beq (Nat.land (Nat.shiftRight m a) 1) 0 with
  | true=>pushA r (Nat.lor m (Nat.shiftLeft 1 a)) (a :: l)
  | false=>pushA r m l
def levelA (g:Addr→Option Obj):List Addr→Nat→List Addr→Nat × List Addr
 | [],m,l=>(m,l)
 | a :: r,m,l=>match g a with
  | some o=>(match pushA (He.refsD o ++ cloO o) m l with
   | (m',l')=>levelA g r m' l')
  | none=>levelA g r m l
def reachA (g:Addr→Option Obj):Nat→List Addr→Nat→List Addr
 | 0,l,_=>l
 | n + 1,l,m=>l ++ (match levelA g l m [] with
  | (m',l')=>reachA g n l' m')
def asE (g:Addr→Option Obj) (n:Nat):List Addr := match pushA [cStatics,mainGlobals] 0 [] with
 | (m,l)=>reachA g n l m
def obsE (fa:List (PySem.W.Frag→Bool)) (fn:List He5.DefA) (fe:List DefE) (K:PySem.W.Frag):He.AlD := (((fa.all fun f=>f K) && fn.all fun d=>d.ok K) && fe.all fun d=>d.ok K,(fn.map fun d=>He5.fnA K (d.at_ K)) ++ fe.map fun d=>fnE K (d.at_ K))
def valE (fn:List He5.DefA) (fe:List DefE):He.AlD := (true,fn.map He5.DefA.val ++ fe.map DefE.val)
def obsEG (n:Nat) (fa:List (PySem.W.Frag→Bool)) (fn:List He5.DefA) (fe:List DefE) (g:Addr→Option Obj):He.AlD := obsE fa fn fe (He.frG g (asE g n))
def hookE (n:Nat) (fa:List (PySem.W.Frag→Bool)) (fn:List He5.DefA) (fe:List DefE):PySem.W.Hook where
 α := He.AlD
 obs := fun s=>obsEG n fa fn fe s.heap.get?
 val := fun _=>valE fn fe
 says := fun _ h=>∃ K:PySem.W.Frag,K.In h∧obsE fa fn fe K=valE fn fe
 of := fun _ _ e=>⟨_,He.frG_in,e⟩
 keeps := fun _ _ _ ⟨K,hK,c⟩ k=>⟨K,PySem.W.Frag.In.keeps hK k,c⟩
theorem obsEG_eq {n:Nat} {fa:List (PySem.W.Frag→Bool)} {fn:List He5.DefA} {fe:List DefE} {g:Addr→Option Obj} {s:Shared} (h:∀ a,g a=s.heap.get? a):obsEG n fa fn fe g=(hookE n fa fn fe).obs s := by
 have e:g=s.heap.get? := funext h
 rw [e] <;> rfl
section
variable {fa:List (PySem.W.Frag→Bool)} {fn:List He5.DefA} {fe:List DefE} {K:PySem.W.Frag}
theorem toB (c:obsE fa fn fe K=valE fn fe):obsB fa fn K=He5.valA fn := by
 have c1 := (He.ba (show (((fa.all fun f=>f K) && fn.all fun d=>d.ok K) && fe.all fun d=>d.ok K)=true from congrArg (fun z:He.AlD=>z.1) c)).1
 have e:(fn.map fun d=>He5.fnA K (d.at_ K)) ++ (fe.map fun d=>fnE K (d.at_ K))=fn.map He5.DefA.val ++ fe.map DefE.val := congrArg (fun z:He.AlD=>z.2) c
 have e1 := (List.append_inj e (by simp)).1
 show (_,_)=(_,_)
 rw [c1,e1]
theorem toE (c:obsE fa fn fe K=valE fn fe) (i:Nat) {d:DefE} (h:fe[i]? = some d := by rfl):Err K d.file (d.cls K) (d.at_ K) d.qual d.st := by
 have c2 := (He.ba (show (((fa.all fun f=>f K) && fn.all fun d=>d.ok K) && fe.all fun d=>d.ok K)=true from congrArg (fun z:He.AlD=>z.1) c)).2
 have e:(fn.map fun d=>He5.fnA K (d.at_ K)) ++ (fe.map fun d=>fnE K (d.at_ K))=fn.map He5.DefA.val ++ fe.map DefE.val := congrArg (fun z:He.AlD=>z.2) c
 have e1 := (List.append_inj e (by simp)).2
 have e2:(fe.map fun d=>fnE K (d.at_ K))[i]? = (fe.map DefE.val)[i]? := by rw [e1]
 rw [List.getElem?_map,List.getElem?_map,h] at e2
 exact DefE.err (Option.some.inj e2) (List.all_eq_true.mp c2 d (List.mem_of_getElem? h))
end
end Fm
namespace Fm
open PySem PySem.Spec PyProof.Rows L2
open PySem.W (Datum Tup T3 T4)
section
variable {P:Program} {w:World} {K:PySem.W.Frag} {mg:Str→Option Value} {base:Heap} {file qual:Str} {C f:Addr} {st:Stmt} {ps:List Str} {rest:List Stmt} {t:TS} {p0 p1 p2 p3 pos pe:Pos} {j:Nat} {msg:Str} {ar:Arg}
theorem err_fn (Er:Err K file C f qual st) (S:SuScope ps (defScope st)) (hfile:((P.main.file:Str) == file)=true) (htop:(P.main.scope.names.lookup ("super":Str)).isSome=false) (hmg:mg "super" = none)
  (hp:((defArgs st).posonlyargs ++ (defArgs st).args).head? = some ar) (h0:ps[0]? = some ar.arg)
  (hbd:defBody st = .Expr (.Call (.Attribute (.Call (.Name "super" p0) [] [] p1) "__init__" p2) [.Constant (.str msg) j p3] [] pos) pe :: rest)
  (hb:∀ (name:Str) (kV doc pm:Value) (an:Option Addr) (cdv ct:Value) (cc:Addr) (us:List Value),us.length=ps.length→bindArgs (PySem.W.ksFn name qual (defArgs st) (defBody st) (defScope st) .none kV doc pm an cdv ct cc) ⟨us,[]⟩=pure (ps.zip us))
  (hev:∀ cda cc L:Addr,∃ pl,eval (.Call (.Attribute (.Call (.Name "super" p0) [] [] p1) "__init__" p2) [.Constant (.str msg) j p3] [] pos) (PySem.W.ksEnv qual (defScope st) L f (.ref cda) cc)=(do
   let ov ← attributeBase (.Call (.Name "super" p0) [] [] p1) "__init__" (PySem.W.ksEnv qual (defScope st) L f (.ref cda) cc) (eval (.Call (.Name "super" p0) [] [] p1) (PySem.W.ksEnv qual (defScope st) L f (.ref cda) cc))
   standAt p2.atName
   let (f',first) ← holding [ov] (getMethod ov "__init__" pl)
   callWith pos f' first (backTo pos (starEach [.Constant (.str msg) j p3] (PySem.W.ksEnv qual (defScope st) L f (.ref cda) cc))) []))
  (hsw:∀ cda cc L:Addr,swapsWith (.Call (.Attribute (.Call (.Name "super" p0) [] [] p1) "__init__" p2) [.Constant (.str msg) j p3] [] pos) none pe.line (PySem.W.ksEnv qual (defScope st) L f (.ref cda) cc)=pure false)
  (hw:∀ (cda cc:Addr) (A:Around) (outer:List Env) (s:Shared) (H:Hp),PSs (cxS P w K mg base ps qual (defScope st) f cda cc A outer s H) rest t) :
  FnR P w K mg base CX0 1 f (fun vs H Q _=>∃ a ws,vs = .ref a :: ws∧vs.length=ps.length∧H a=some (exo a C none)∧t { nx := fun _ H'=>Q .non H',rt := Q } (start ps vs) H) := by
 intro A outer s H us vs Q E hr e0 r ⟨a,ws,ev,hl,ha,hq⟩
 obtain ⟨fd,cda,cc,F⟩ := Er.fn
 obtain ⟨name,oc,od,kV,doc,pm,an,ct,osl,rfl,lkf⟩ := id F.ex
 have KX:K.In s.heap := e0.mod.kin.keeps fun b o e=>(e0.bs b o e).1
 have lim:s.heap.NoLimit := e0.mod.nolimit.keeps fun b o e=>(e0.bs b o e).1
 have hlu:us.length=ps.length := by rw [← r.length]; exact hl
 have T := Er.oex
 refine ks_codeAny_call_defAt (body := defBody st) hr.depth (KX _ _ lkf) rfl lim (PySem.W.codeRec_of KX F.code) rfl (.of_eq (hb name kV doc pm an (.ref cda) ct cc us hlu)) S.nocell (fun x hx=>S.par x.1 (List.of_mem_zip hx).1) (fun h1 hns hk=>?_) S.co S.gen S.kind
 have I:Inv (cxS P w K mg base ps qual (defScope st) f cda cc A outer s H) [] (start ps vs) H { s with heap := h1,toks := s.toks + (ps.zip us).length } := inv_startS S hr.hd e0 hl r F.cell hns hk
 have hs0:(start ps vs)[0]? = some (some (.ref a)) := by rw [ev]; rfl
 show _root_.PySem.wpAt (model P w) (A.deeper (PySem.W.ksEnv qual (defScope st) s.heap.objs.size f (.ref cda) cc)) (.func (defBody st) (PySem.W.ksEnv qual (defScope st) s.heap.objs.size f (.ref cda) cc)) (execs (defBody st) (PySem.W.ksEnv qual (defScope st) s.heap.objs.size f (.ref cda) cc)) _ _ _
 have fin:∀ s',Inv (cxS P w K mg base ps qual (defScope st) f cda cc A outer s H) [] (start ps vs) H s'→wpAny (model P w) (A.deeper (PySem.W.ksEnv qual (defScope st) s.heap.objs.size f (.ref cda) cc)) (execs rest (PySem.W.ksEnv qual (defScope st) s.heap.objs.size f (.ref cda) cc))
   (fun fl s'=>CR CX0 outer P w H s Q E (.ok (.ret (match fl with | .ret v=>v | _=>.none))) s') (fun _ _=>False) s' := fun s' I'=>by
  refine wpAny_mono ((hw cda cc A outer s H).run [] s' (start ps vs) H _ I' hq) (fun fl s2 hs=>?_) fun _ _ z=>False.elim z
  cases fl with
  | ret u =>
   obtain ⟨v,σ',H',J,rv,q⟩ := hs
   exact ⟨v,H',J.os,J.bare,J.base,J.hok,rv,q⟩
  | next =>
   obtain ⟨σ',H',J,q⟩ := hs
   exact ⟨.non,H',J.os,J.bare,J.base,J.hok,rfl,q⟩
  | brk =>
   obtain ⟨_,_,_,q⟩ := hs
   exact False.elim q
  | cont =>
   obtain ⟨_,_,_,q⟩ := hs
   exact False.elim q
 have F':SuFn K file C f qual (defArgs st) (defBody st) (defScope st) (PySem.W.ksFn name qual (defArgs st) (defBody st) (defScope st) .none kV doc pm an (.ref cda) ct cc) cda cc := F
 generalize hB:defBody st=bd at F' hbd ⊢
 subst hbd
 have hin:interactive (PySem.W.ksEnv qual (defScope st) s.heap.objs.size f (.ref cda) cc)=false := by
  unfold interactive
  show ((defScope st).kind == _ && _)=false
  rw [S.kind]
  rfl
 obtain ⟨pl,hev⟩ := hev cda cc s.heap.objs.size
 refine ks_wpAt_execs_cons (ks_wpAt_Expr_any ?_ hin (hsw cda cc _))
 refine super_init (pl := pl) (hev := hev) (X := cxS P w K mg base ps qual (defScope st) f cda cc A outer s H) (H1 := H) rfl S F' T hfile htop hmg hp h0 hs0 I ha (q := fun u s' I'=>?_)
 refine wpAt_of_wpAny (wpAny_mono (fin s' I') (fun _ _ z=>z) fun _ _ z=>z.elim)
end
def spE1 (C:Addr) (f:Str):Sp := fun vs H Q _=>∃ a v,vs=[.ref a,v]∧H a=some (exo a C none)∧∀ dx,H dx=none→dx≠a→Q .non (upd (upd H dx (exd dx [(f,v)])) a (exo a C (some dx)))
def spE2 (C:Addr) (f g:Str):Sp := fun vs H Q _=>∃ a v u,vs=[.ref a,v,u]∧H a=some (exo a C none)∧∀ dx,H dx=none→dx≠a→Q .non (upd (upd (upd H dx (exd dx [(f,v)])) a (exo a C (some dx))) dx (exd dx [(g,u),(f,v)]))
section
variable {X:Cx} {o e:Expr} {es:List Expr} {to te:TE} {ta:TA} {f g x:Str} {p p' p1 p2 pos:Pos} {C fI:Addr} {k:Nat} {sp:Sp} {CX:CXT}
def tMkE (C:Addr) (sp:Sp) (ta:TA):L2.St→Hp→XK→Prop := fun σ H Q=>ta σ H fun vs H1=>vs.length≤1000∧∀ a,H1 a=none→sp (.ref a :: vs) (upd H1 a (exo a C none))
 (fun v H2=>v = .non∧∃ (d:Addr) (fs:List (Str × V)),H2 a=some (exo a C (some d))∧H2 d=some (exd d fs)∧H1 d=none∧Q (.ref C) (some d) (upd (L2.del H2 a) d (.xd fs))) (fun _ _ _=>False)
theorem pmk_oexR (T:OexC X.K C) (iC:PySem.W.findIn X.K (.ref C) "__init__" = some (some (.ref fI))) (tI:PySem.W.typeIn X.K (.ref fI)=some (.type "function"))
  (F1:FnR X.prog X.w X.K X.mg X.base CX0 k fI sp) (hr:Room (k + 1) X.A) (hg:Gl X x) (hm:X.mg x=some (.ref C)) (ha:PA X (e :: es) ta)
  (hdb:(x == ("__debug__":Str))=false := by decide) (he:starEach (e :: es) X.env=(false,eval e X.env) :: starEach es X.env := by rfl) (hpl:(backTo pos (starEach es X.env)).any (·.1)=false := by rfl) :
  PMk X (.Call (.Name x p) (e :: es) [] pos) (tMkE C sp ta) := by
 intro pins s σ H Q I h
 obtain ⟨nm,q,N,bs,bm,sn,sub,ab,col,dd,k0,k1,k2,k3,k5,hC,hbm⟩ := T.cls
 refine wpAny_Call_Name_kw (ld_glob I hg hm ?_ hdb)
 refine PySem.W.callWith_K (h₀ := X.base) I.ok.mod.kin T.kC (thn (ha.run pos pins s σ H _ I h) fun us s1 ⟨vs,H1,I1,r1,hz,q1⟩=>⟨I1.kIn, ?_⟩) he hpl
 show wpAny _ _ (call (.ref C) us) _ _ _
 obtain ⟨hp,g,dr,tk,os⟩ := s1
 have hsz:hp.objs.size≤hp.objs.size + 1 := Nat.le_succ _
 have hn:H1 (hp.objs.size + 1)=none := I1.hok.fresh hsz
 have hq := q1 (hp.objs.size + 1) hn
 have kk:∀ b o,hp.get? b=some o→((hp.push (PySem.W.kdv_tup us)).push (PySem.HandSPX.excO C hp.objs.size)).get? b=some o := fun b o e=>Heap.get?_push_of_some _ (Heap.get?_push_of_some _ e)
 have hget:((hp.push (PySem.W.kdv_tup us)).push (PySem.HandSPX.excO C hp.objs.size)).get? (hp.objs.size + 1)=some (PySem.HandSPX.excO C hp.objs.size) := by heap_get
 have I2:Inv X pins σ (upd H1 (hp.objs.size + 1) (exo (hp.objs.size + 1) C none)) ⟨(hp.push (PySem.W.kdv_tup us)).push (PySem.HandSPX.excO C hp.objs.size),g,dr,tk,os⟩ :=
  I1.laid (t' := tk) (a := hp.objs.size + 1) (o := exo (hp.objs.size + 1) C none) (h' := (hp.push (PySem.W.kdv_tup us)).push (PySem.HandSPX.excO C hp.objs.size)) kk hsz (exo_ok hget)
 have r2:Vals (V.ref (hp.objs.size + 1) :: vs) (Value.ref (hp.objs.size + 1) :: us) := .cons rfl r1
 have hus:us.length≤sizeLine := by
  rw [← Paired.length r1,sizeLine_eq]
  omega
 refine wpAny_call (PySem.HandSPX.call_own F.excBase_ValueError (fun Y=>PySem.HandSPX.refsVE_contains Y bm hbm) (I1.kIn _ _ hC) (PySem.W.looks_findIn I1.kIn iC) (fun self=>PySem.W.bind_fn I1.kIn self tI) hus
  (codeAny_mono (F1 _ X.stack _ _ (Value.ref (hp.objs.size + 1) :: us) _ _ (fun _ _ _=>False) (hr.make C us []) (I2.env0.make C us []) r2 hq) fun r s' hq'=>?_))
 cases r with
 | error er=>exact False.elim hq'
 | ok fl =>
  cases fl with
  | ret u =>
   obtain ⟨v,H2,os2,bare2,un2,hok2,rv,ev,d,fs,ea,ed,hd1,q2⟩ := hq'
   subst ev
   obtain ⟨h2,g2,d2,t2,os'⟩ := s'
   exact ⟨rv,mk_end (raises_own T.exC T.tyC) I1 hsz kk un2 hok2 os2 bare2 ea ed hd1 q2⟩
  | next=>exact False.elim hq'
  | brk=>exact False.elim hq'
  | cont=>exact False.elim hq'
def tRz (C:Addr) (sp:Sp) (ta:TA) (W:WX):TS := fun _ σ H=>tMkE C sp ta σ H fun cls d H'=>W cls d σ H'
theorem ps_rz {file qual:Str} {st:Stmt} {W:WX} {pos2:Pos} (hc:X.calm=true) (tk:Takes X W) (T:Err X.K file C fI qual st) (F1:FnR X.prog X.w X.K X.mg X.base CX0 k fI sp) (hr:Room (k + 1) X.A) (hg:Gl X x) (hm:X.mg x=some (.ref C)) (ha:PA X (e :: es) ta)
 (hdb:(x == ("__debug__":Str))=false := by decide) (he:starEach (e :: es) X.env=(false,eval e X.env) :: starEach es X.env := by rfl) (hpl:(backTo pos (starEach es X.env)).any (·.1)=false := by rfl) :
 PS X (.Raise (some (.Call (.Name x p) (e :: es) [] pos)) none pos2) (tRz C sp ta W) := ps_raise hc tk (pmk_oexR T.oex T.ini T.ty F1 hr hg hm ha hdb he hpl)
end
section
variable {M:Wld} {K:PySem.W.Frag} {σ:L2.St} {S T H:Hp} {P P1 P2:Hp→V→Prop} {te ta tb:TE} {C:Addr} {f g:Str} {W:WX} {D:Ends}
def Rz1 (C:Addr) (f:Str) (P:Hp→V→Prop):Hp→Value→Option Addr→Prop := fun S cls d=>cls = .ref C∧∃ dd v,d=some dd∧S dd=some (.xd [(f,v)])∧P S v
def Rz2 (C:Addr) (f g:Str) (P P':Hp→V→Prop):Hp→Value→Option Addr→Prop := fun S cls d=>cls = .ref C∧∃ dd v u,d=some dd∧S dd=some (.xd [(g,u),(f,v)])∧P S v∧P' S u
theorem Rz1.mono {S S':Hp} {cls:Value} {d:Option Addr} (hP:Mono P) (h:Rz1 C f P S cls d) (e:Same S S'):Rz1 C f P S' cls d := by
 obtain ⟨h1,dd,v,h2,h3,h4⟩ := h
 exact ⟨h1,dd,v,h2,e _ _ h3,hP _ _ _ e h4⟩
theorem Rz2.mono {P':Hp→V→Prop} {S S':Hp} {cls:Value} {d:Option Addr} (hP:Mono P) (hP':Mono P') (h:Rz2 C f g P P' S cls d) (e:Same S S'):Rz2 C f g P P' S' cls d := by
 obtain ⟨h1,dd,v,u,h2,h3,h4,h5⟩ := h
 exact ⟨h1,dd,v,u,h2,e _ _ h3,hP _ _ _ e h4,hP' _ _ _ e h5⟩
end
section
variable {X:Cx} {CX:CXT} {k:Nat} {C f:Addr} {sp:Sp} {E:L2.St→XK} {x m:Str} {a b e o:Expr} {es:List Expr} {te ta tb:TE} {t:TA} {p pos apos:Pos}
theorem run_fnRS {pins:List (Addr × Obj)} {σ:L2.St} {H:Hp} {s:Shared} {Q:VK} {E:XK} {us:List Value} {vs:List V} (F:FnR X.prog X.w X.K X.mg X.base CX k f sp) (hr:Room k X.A) (hx:PassesAt CX X σ E) (I:Inv X pins σ H s) (r:Vals vs us) (h:sp vs H Q E) :
  codeAny (model X.prog X.w) X.A (.call (.ref f) ⟨us,[]⟩) (fun r s'=>match r with | .ok (.ret v)=>EP X pins σ Q v s' | .ok _=>False | .error e=>X.xe e s') s := by
 refine codeAny_mono (F X.A X.stack s H us vs Q E hr I.env0 r h) fun r s' hq=>?_
 cases r with
 | error e=>exact hx pins H s e s' I hq
 | ok fl =>
  cases fl with
  | ret u=>exact I.after hq
  | next=>exact False.elim hq
  | brk=>exact False.elim hq
  | cont=>exact False.elim hq
def OpRS (X:Cx) (f:Value→Value→Sem Value) (r:L2.St→R2):Prop :=
 ∀ (pins:List (Addr × Obj)) (s:Shared) (σ:L2.St) (H:Hp) (x y:V) (v u:Value) (Q:VK),Inv X pins σ H s→RelV x v→RelV y u→r σ x y H Q→wpAny (model X.prog X.w) X.A (f v u) (EP X pins σ Q) X.xe s
def tOpS (r:L2.St→R2) (ta tb:TE):TE := fun σ H Q=>ta σ H fun x H1=>tb σ H1 fun y H2=>r σ x y H2 Q
theorem pe_opS {op:Operator} {r:L2.St→R2} (ho:OpRS X (binaryOp op) r) (ha:PE X a ta) (hb:PE X b tb):PE X (.BinOp a op b pos) (tOpS r ta tb) := by
 refine ⟨fun pins s σ H Q I h=>?_⟩
 exact wpAny_BinOp (binT ha hb I h fun v u s2 x y H2 I2 rx ry q=>ho pins s2 σ H2 x y v u Q I2 rx ry q)
theorem op_ownS {op:Operator} (hc:PySem.W.selfFirst X.K C=true) (hs:Own X.K C (PySem.dunder op.info.2) f) (F:FnR X.prog X.w X.K X.mg X.base CX k f sp) (hr:Room k X.A) (hx:∀ σ,PassesAt CX X σ (E σ)):OpRS X (binaryOp op) (fun σ=>rOwn C sp (E σ)) := by
 intro pins s σ H x y v u Q I rx ry h
 obtain ⟨a,b,dx,dy,fs,gs,rfl,rfl,ha,hb,q⟩ := h
 obtain rfl:v=Value.ref a := rx
 obtain rfl:u=Value.ref b := ry
 obtain ⟨ox,od,J⟩ := inst_at I ha
 obtain ⟨oy,od',J'⟩ := inst_at I hb
 obtain ⟨m,Fr⟩ := I.fr
 refine PySem.W.binop_K Fr I.mod.kin J J'.type hc hs.at_ hs.fn ?_
 refine thn (wpAny_call (run_fnRS F hr (hx σ) I (vals2 (x := V.ref a) (y := V.ref b) rfl rfl) q)) fun r s1 hq=>?_
 obtain ⟨z,H',I',rz,qz⟩ := hq
 exact cmpBack (rel_not rz) ⟨z,H',I',rz,qz⟩
theorem op_ownTS (hc:PySem.W.selfFirst X.K C=true) (hs:Own X.K C (PySem.dunder "rshift") f) (F:FnR X.prog X.w X.K X.mg X.base CX k f sp) (hr:Room k X.A) (hx:∀ σ,PassesAt CX X σ (E σ)):OpRS X (binaryOp .RShift) (fun σ=>rOwnT X.K C sp (E σ)) := by
 intro pins s σ H x y v u Q I rx ry h
 obtain ⟨a,b,dx,fs,xs,rfl,rfl,ha,hb,q⟩ := h
 obtain rfl:v=Value.ref a := rx
 obtain rfl:u=Value.ref b := ry
 obtain ⟨ox,od,J⟩ := inst_at I ha
 obtain ⟨its,_,⟨o,ho,hcl,_⟩,_⟩ := I.tuple hb
 obtain ⟨m,Fr⟩ := I.fr
 have hT:PySem.W.Looks (model X.prog X.w) s.heap (typeOf (.ref b)) (.type "tuple") := by
  intro A' Q' E' s' k' q'
  exact wpAny_typeOf_ref (k' _ _ ho) (by rw [hcl]; exact q')
 refine binop_KT Fr I.mod.kin J hT hc hs.at_ hs.fn ?_
 refine thn (wpAny_call (run_fnRS F hr (hx σ) I (vals2 (x := V.ref a) (y := V.ref b) rfl rfl) q)) fun r s1 hq=>?_
 obtain ⟨z,H',I',rz,qz⟩ := hq
 exact cmpBack (rel_not rz) ⟨z,H',I',rz,qz⟩
def tClS (sp:Sp) (E:L2.St→XK) (t:TA):TE := fun σ H Q=>t σ H fun vs H1=>sp vs H1 Q (E σ)
theorem pe_clS (F:FnR X.prog X.w X.K X.mg X.base CX k f sp) (hr:Room k X.A) (hg:Gl X x) (hm:X.mg x=some (.ref f)) (hk:PySem.W.keepIn X.K (.ref f)=true) (hx:∀ σ,PassesAt CX X σ (E σ)) (ha:PA X (e :: es) t) (hdb:(x == ("__debug__":Str))=false := by decide)
  (he:starEach (e :: es) X.env=(false,eval e X.env) :: starEach es X.env := by rfl) (hpl:(backTo pos (starEach es X.env)).any (·.1)=false := by rfl):PE X (.Call (.Name x p) (e :: es) [] pos) (tClS sp E t) := by
 refine ⟨fun pins s σ H Q I h=>?_⟩
 refine wpAny_Call_Name_kw (ld_glob I hg hm ?_ hdb)
 refine PySem.W.callWith_K (h₀ := X.base) I.ok.mod.kin hk (thn (ha.run pos pins s σ H _ I h) fun us s1 ⟨vs,H1,I1,r,q⟩=>⟨I1.kIn, ?_⟩) he hpl
 exact wpAny_call (run_fnRS F hr (hx σ) I1 r q)
def tStatS (C:Addr) (sp:Sp) (E:L2.St→XK) (ta:TE) (t:TA):TE := fun σ H Q=>ta σ H fun x H1=>x = .ref C∧t σ H1 fun vs H2=>sp vs H2 Q (E σ)
theorem pe_staticS {p g:Addr} {pl:Sem Bool} (he:PE X o ta) (c:Stat X.K C m p g) (F:FnR X.prog X.w X.K X.mg X.base CX k g sp) (hr:Room k X.A) (hx:∀ σ,PassesAt CX X σ (E σ)) (ha:PA X (e :: es) t)
  (hst:starEach (e :: es) X.env=(false,eval e X.env) :: starEach es X.env := by rfl) (hpl:(backTo pos (starEach es X.env)).any (·.1)=false := by rfl)
  (ht:eval (.Call (.Attribute o m apos) (e :: es) [] pos) X.env=(do
   let ov ← eval o X.env
   standAt apos.atName
   let (f,first) ← holding [ov] (getMethod ov m pl)
   callWith pos f first (backTo pos (starEach (e :: es) X.env)) (backToKw pos (keywordEach [] X.env))) := by rfl) :
  PE X (.Call (.Attribute o m apos) (e :: es) [] pos) (tStatS C sp E ta t) := by
 refine ⟨fun pins s σ H Q I h=>?_⟩
 refine PySem.W.methodCall_KW (pl := pl) (thn (he.run pins s σ H _ I h) fun u s1 ⟨x,H1,I1,rx,ex,q⟩=>?_) ht
 subst ex
 obtain rfl:u=Value.ref C := rx
 refine PySem.W.method_cls I1.kIn c.ga (getst_ok I1 c fun s2 I2=>?_)
 refine PySem.W.callWith_K (h₀ := X.base) (first := []) I2.ok.mod.kin c.kp (thn (ha.run pos pins s2 σ H1 _ I2 q) fun us s3 ⟨vs,H2,I3,r,q2⟩=>⟨I3.kIn, ?_⟩) hst hpl
 exact wpAny_call (run_fnRS F hr (hx σ) I3 r q2)
def tMakeS (C:Addr) (sp:Sp) (E:L2.St→XK) (t:TA):TE := fun σ H Q=>t σ H fun vs H1=>∀ x dx,H1 x=none→H1 dx=none→dx≠x →
 sp (V.ref x :: vs) (upd (upd H1 dx (.own x)) x (.ins C dx [])) (fun v H2=>v = .non∧Q (.ref x) H2) (E σ)
theorem pe_makeS (M:Mk X.K C f) (F:FnR X.prog X.w X.K X.mg X.base CX k f sp) (hr:Room (k + 1) X.A) (hg:Gl X x) (hm:X.mg x=some (.ref C)) (hx:∀ σ,PassesAt CX X σ (E σ)) (ha:PA X (e :: es) t) (hdb:(x == ("__debug__":Str))=false := by decide)
  (he:starEach (e :: es) X.env=(false,eval e X.env) :: starEach es X.env := by rfl) (hpl:(backTo pos (starEach es X.env)).any (·.1)=false := by rfl):PE X (.Call (.Name x p) (e :: es) [] pos) (tMakeS C sp E t) := by
 refine ⟨fun pins s0 σ H0 Q I0 h0=>?_⟩
 refine wpAny_Call_Name_kw (ld_glob I0 hg hm ?_ hdb)
 refine PySem.W.callWith_K (h₀ := X.base) I0.ok.mod.kin M.kp (thn (ha.run pos pins s0 σ H0 _ I0 h0) fun us s ⟨vs,H,I,r,h⟩=>⟨I.kIn, ?_⟩) he hpl
 have hq := h (s.heap.objs.size + 1) s.heap.objs.size (I.hok.fresh (Nat.le_succ _)) (I.hok.fresh (Nat.le_refl _)) (Nat.ne_of_lt (Nat.lt_succ_self _))
 have I2 := Inv.made (C := C) I
 have r2:Vals (V.ref (s.heap.objs.size + 1) :: vs) (Value.ref (s.heap.objs.size + 1) :: us) := .cons rfl r
 refine wpAny_call (make_map (f := f) I.kIn M.makes M.init (beq_iff_eq.mp M.fn) (codeAny_mono (F _ X.stack _ _ (Value.ref (s.heap.objs.size + 1) :: us) _ _ (E σ) (hr.make C us []) (I2.env0.make C us []) r2 hq) fun r s' hq'=>?_))
 cases r with
 | error e=>exact hx σ pins _ _ e s' I2 hq'
 | ok fl =>
  cases fl with
  | ret u =>
   obtain ⟨v,H',I3,rv,ev,q3⟩ := I2.after hq'
   subst ev
   exact ⟨rv,⟨V.ref (s.heap.objs.size + 1),H',I3,rfl,q3⟩⟩
  | next=>exact False.elim hq'
  | brk=>exact False.elim hq'
  | cont=>exact False.elim hq'
theorem PS.nox {st:Stmt} {t:TS} (h:PS X.nox st t):PS X st t := ⟨fun pins s σ H D I hw =>
 wpAny_mono (h.run pins s σ H D (I.wish _) hw) (fun _ _ q=>q.unwish) fun _ _ z=>False.elim z⟩
end
section
variable {M:Wld} {K:PySem.W.Frag} {σ:L2.St} {S T H S1:Hp} {P P1 P2 P3:Hp→V→Prop} {R R':Hp→Value→Option Addr→Prop} {te ta tb tc:TE} {C:Addr} {δ:Type}
def EvX (M:Wld) (t:(L2.St→XK)→TE) (σ:L2.St) (S:Hp) (P:Hp→V→Prop) (R:Hp→Value→Option Addr→Prop):Prop :=
 ∀ T H,M.W T H→Same S T→∀ (Q:VK) (E:L2.St→XK),(∀ S' T' H' v,Step S T S' T'→M.W T' H'→P S' v→Q v H')→(∀ S' T' H' cls d,Step S T S' T'→M.W T' H'→R S' cls d→E σ cls d H')→t E σ H Q
theorem EvX.imp {t:(L2.St→XK)→TE} (h:EvX M t σ S P R) (hp:∀ S' v,Same S S'→P S' v→P1 S' v) (hr:∀ S' cls d,Same S S'→R S' cls d→R' S' cls d):EvX M t σ S P1 R' := fun T H w s Q E q q' =>
 h T H w s Q E (fun S' T' H' v st w' p=>q S' T' H' v st w' (hp S' v st.ss p)) fun S' T' H' cls d st w' r=>q' S' T' H' cls d st w' (hr S' cls d st.ss r)
theorem EvA.imp {t:TA} {PA PB:Hp→List V→Prop} (h:EvA M t σ S PA) (k:∀ S' vs,Same S S'→PA S' vs→PB S' vs):EvA M t σ S PB := fun T H w s Q q =>
 h T H w s Q fun S' T' H' vs st w' p=>q S' T' H' vs st w' (k S' vs st.ss p)
end
theorem fnR_defX {P:Program} {w:World} {K:PySem.W.Frag} {mg:Str→Option Value} {base:Heap} {k:Nat} {f:Addr} {sp:Sp} {x qual:Str} {st:Stmt} {N ps:List Str} (F:∃ fd,Fun K x qual st f fd) (S:FnScope N ps (defScope st)) (len:∀ vs H Q E,sp vs H Q E→vs.length=ps.length)
  (hb:∀ (kV doc pm:Value) (an:Option Addr) (cdv ct:Value) (us:List Value),us.length=ps.length→bindArgs (PySem.W.fnOf x qual (defArgs st) (defBody st) (defScope st) .none kV doc pm an cdv ct) ⟨us,[]⟩=pure (ps.zip us))
  (t:XK→TS) (hw:∀ (cdv:Value) (A:Around) (outer:List Env) (s:Shared) (H:Hp) (E:XK),Room k (A.deeper (envOfC qual (defScope st) s.heap.objs.size f cdv))→PSs (cxOf (L2.CX P w) P w K mg base N qual (defScope st) f cdv A outer s H E) (defBody st) (t E))
  (hq:∀ H vs Q E,sp vs H Q E→t E { nx := fun _ H'=>Q .non H',rt := Q } (start N vs) H):FnR P w K mg base (L2.CX P w) (k + 1) f sp := by
 obtain ⟨fd,F⟩ := F
 exact fnR_of (F.okX S len fun cdv A outer s H vs Q E hr h=>⟨t E,hw cdv A outer s H E hr,hq H vs Q E h⟩) (F.binds hb)
end Fm
namespace Fm
open PySem PySem.Spec PyProof.Rows L2
open AutoSeq1 (wpAny_loadPart')
theorem enumT_new (tp:Addr) (vs:Array Value) (cc:Nat) (dct:Option Addr) (sl:Array (Option Value)):Meets (Builtin.«enumerate.__new__» ⟨[.type "enumerate", .ref tp],[]⟩) (fun _ R st=>st.heap.get? tp=some { cls := .type "tuple",dict := dct,data := .seq vs cc,slots := sl }∧R (.ok (.ret (.ref (st.heap.push { cls := .type "tuple_iterator",data := .fields #[.ref tp, .int 0 0] }).objs.size))) { st with heap := (st.heap.push { cls := .type "tuple_iterator",data := .fields #[.ref tp, .int 0 0] }).push { cls := .type "enumerate",data := .fields #[.none, .bool false, .ref st.heap.objs.size,rawInt 0, .none, .none] } }) := .of_wp fun prog w A R st h=>by
 obtain ⟨hp,g,d,tk,os⟩ := st; obtain ⟨hl,h⟩ := h
 have hsub := sub_enumerate
 have hT:Heap.IsTuple (Shared.heap ⟨hp,g,d,tk,os⟩) tp vs := ⟨_,hl,rfl,cc,rfl⟩
 wp_walk using wpAny_loadPart' hl
 refine wpAny_stack_any fun k=>wpAny_pure ?_
 split
 ·rename_i c _ _ _ _ _
  cases (c == Value.type "enumerate") <;> (wp_walk using wpAny_loadPart' hl,wpAny_pyIter_tuple hT) <;> exact ⟨_,rfl,h⟩
 ·wp_walk using wpAny_loadPart' hl,wpAny_pyIter_tuple hT
  exact ⟨_,rfl,h⟩
end Fm
namespace Fm
open PySem PySem.Spec PyProof.Rows L2
theorem enumT_call {prog:Program} {w:World} {A:Around} {E:Value→Shared→Prop} {s:Shared} {tp:Addr} {vs:Array Value} {Q:Value→Shared→Prop} (hT:s.heap.IsTuple tp vs)
  (h:∀ h',IsEnum h' (s.heap.objs.size + 1) s.heap.objs.size 0 .none→h'.IsTupleIter s.heap.objs.size tp 0→(∀ b o,s.heap.get? b=some o→h'.get? b=some o)→Q (.ref (s.heap.objs.size + 1)) { s with heap := h' }):wpAny (model prog w) A (call (.type "enumerate") [.ref tp]) Q E s := by
 obtain ⟨⟨c,dct,dt,sl⟩,hl,hc,k,hd⟩ := hT
 obtain rfl:c = .type "tuple" := hc
 obtain rfl:dt = .seq vs k := hd
 refine callType_new F.called_enumerate (by decide) (F.typeCall_enumerate_1 _) (F.newCall_enumerate_1 _) (fun ob=>F.args_object_init_2 ob _) F.entry_enumerate_new (enumT_new tp vs k dct sl) ⟨hl, ?_⟩
 have hz:(s.heap.push { cls := .type "tuple_iterator",data := .fields #[.ref tp, .int 0 0] }).objs.size=s.heap.objs.size + 1 := Heap.size_push ..
 show _∧_
 rw [hz]
 have he:IsEnum ((s.heap.push { cls := .type "tuple_iterator",data := .fields #[.ref tp, .int 0 0] }).push { cls := .type "enumerate",data := .fields #[.none, .bool false, .ref s.heap.objs.size,rawInt 0, .none, .none] }) (s.heap.objs.size + 1) s.heap.objs.size 0 .none := by
  have q := Heap.get?_push_size (s.heap.push { cls := .type "tuple_iterator",data := .fields #[.ref tp, .int 0 0] }) (o := { cls := .type "enumerate",data := .fields #[.none, .bool false, .ref s.heap.objs.size,rawInt 0, .none, .none] }) rfl
  rw [hz] at q; exact q
 exact ⟨⟨_,he,rfl⟩,h _ he ⟨_,Heap.get?_push_of_some _ (Heap.get?_push_size _ rfl),rfl,rfl⟩ fun b o x=>Heap.get?_push_of_some _ (Heap.get?_push_of_some _ x)⟩
def IteT (K:PySem.W.Frag) (a:Addr):It :=
 ⟨fun i H=>∃ (xs:List V) (x:V),SqT K H a xs∧xs[i]? = some x,fun i H v H'=>∃ T x,v = .ref T∧H T=none∧H' = upd H T (.tup [.int (i:Nat),x])∧∀ xs,SqT K H a xs→xs[i]? = some x,fun i H=>∃ xs:List V,SqT K H a xs∧xs.length≤i⟩
theorem enum_not_tup {h:Heap} {e it a:Addr} {i:Int} {old:Value} {vs:Array Value} (he:IsEnum h e it i old) (ht:h.IsTuple a vs):e≠a := fun z=>by
 obtain ⟨o,ho,hc,_⟩ := ht
 subst z
 unfold IsEnum at he
 rw [he] at ho
 cases ho
 exact absurd (Value.type.inj hc) (by decide)
theorem titer_not_tup {h:Heap} {it a t:Addr} {i:Nat} {vs:Array Value} (he:h.IsTupleIter it t i) (ht:h.IsTuple a vs):a≠it := fun z=>by
 obtain ⟨o,ho,hc,_⟩ := ht
 obtain ⟨o',ho',hc',_⟩ := he
 subst z
 rw [ho] at ho'
 cases ho'
 rw [hc] at hc'
 exact absurd (Value.type.inj hc') (by decide)
theorem turn_enumT {P : Program} {w : World} {K : PySem.W.Frag} {elts : List Expr} {kk : Nat} {tpos : Pos} (a e it : Addr) :
    Turn P w K (.Tuple elts kk tpos) (IteT K a) [e, it] e (fun i h => (∃ old, IsEnum h e it ((i : Nat) : Int) old) ∧ h.IsTupleIter it a i ∧ e ≠ it) where
  mem := by simp
  obj := fun i h st b hb => by
    obtain ⟨⟨old, he⟩, ⟨o, ho, hc, hd⟩, _⟩ := st
    rcases (by simpa using hb : b = e ∨ b = it) with z | z
    · subst z; exact ⟨_, he, fun v q => nomatch q⟩
    · subst z; exact ⟨o, ho, fun v q => by rw [hd] at q; cases q⟩
  keep := fun i h h' st k => by
    obtain ⟨⟨old, he⟩, hi, hne⟩ := st
    exact ⟨⟨old, k e (by simp) _ he⟩, hi.at fun o q => k it (by simp) o q, hne⟩
  item := by
    intro X hP hw hK hc i pins s σ H E I hf st hg
    subst hP hw hK
    obtain ⟨⟨old, he⟩, hit, hne⟩ := st
    obtain ⟨xs, x, hq, hx⟩ := hg
    obtain ⟨its, rv, p, hz⟩ := I.tuple hq
    have p' : s.heap.IsTuple a its.toArray := p
    obtain ⟨u, hu, ru⟩ := rv.get hx
    have hel : e < s.heap.objs.size := Heap.lt_size he
    have hil : it < s.heap.objs.size := by obtain ⟨_, q, _⟩ := hit; exact Heap.lt_size q
    have hilt : i < its.toArray.size := by
      have := (List.getElem?_eq_some_iff.mp hu).1
      simpa using this
    refine wpAny_pyNext_enum_itemD (Draws.tuple (A := X.A.in1) (show X.A.in1.handled = none from I.ok.hd hc) it a (titer_not_tup hit p') its.toArray) he ⟨hit, p'⟩ hilt hne (fun m => ?_) fun y h' tk hy ho hst hT hsz hk => ?_
    · rcases (by simpa using m : e = it ∨ e = a) with z | z
      · exact hne z
      · exact enum_not_tup he p' z
    obtain rfl : u = y := by
      have : its[i]? = some y := by simpa using hy
      rw [hu] at this
      exact Option.some.inj this
    refine ⟨_, rfl, wpAny_letOwnedTupleGo_enum (s := { s with heap := h', toks := tk + 1 }) ho fun h'' he' sb => ?_⟩
    have hT2 : h''.get? s.heap.objs.size = some { cls := .type "tuple", data := .seq #[.int i tk, u] } := (sb.2 _ (Nat.ne_of_gt hel)).trans hT
    have nw : ObjOk X.prog X.w (upd H s.heap.objs.size (.tup [.int (i : Nat), x])) h'' s.heap.objs.size (.tup [.int (i : Nat), x]) := ⟨by show 2 ≤ sizeLine; decide, [.int i tk, u], .cons ⟨_, rfl⟩ (.cons ru .nil), ⟨_, hT2, rfl, _, rfl⟩⟩
    have I1 : Inv X pins σ (upd H s.heap.objs.size (.tup [.int (i : Nat), x])) { s with heap := h'', toks := tk + 1 } := I.turnedNew (ch := [e, it]) (fun b ob hb q => (sb.2 b (fun z => hb (by simp [z]))).trans (hk b ob (fun z => hb (by simp [z])) (fun z => hb (by simp [z])) q)) hf (Nat.le_refl _) nw
    refine ⟨.ref s.heap.objs.size, _, I1, rfl, ⟨_, x, rfl, I.hok.fresh (Nat.le_refl _), rfl, fun ys hy => by rw [I.tuple_inj hy hq]; exact hx⟩, ⟨⟨u, ?_⟩, hst.1.at fun o q => (sb.2 it (Ne.symm hne)).trans q, hne⟩, fun b hb => ?_⟩
    · rw [show ((i + 1 : Nat) : Int) = (i : Int) + 1 by omega]; exact he'
    · have hb' : b < s.heap.objs.size := by
        rcases (by simpa using hb : b = e ∨ b = it) with z | z
        · rw [z]; exact hel
        · rw [z]; exact hil
      rw [upd_ne (Nat.ne_of_lt hb')]
      exact (hf b hb).1
  done := by
    intro X hP hw hK hc i pins s σ H E I hf st hg
    subst hP hw hK
    obtain ⟨⟨old, he⟩, hit, hne⟩ := st
    obtain ⟨xs, hq, hx⟩ := hg
    obtain ⟨its, rv, p, hz⟩ := I.tuple hq
    have p' : s.heap.IsTuple a its.toArray := p
    obtain ⟨f0, f1, f2, f3, f4, f5⟩ := hf it (by simp)
    have hl := rv.length
    have hTy : s.TypeIs (.ref e) "enumerate" := ⟨_, he, rfl⟩
    unfold pyNext
    refine wpAny_bind (wpAny_attempt (wpAny_callSpecial?_slot (name := Str.ofString "__next__") hTy F.slot_enumerate_next (wpAny_call_entry F.slot_enumerate_next hTy F.entry_enumerate_next (show wpAny _ _ (field (.ref e) 2 >>= _) _ _ _ from ?_) (F.args_enumerate_next_1 _))))
    refine wpAny_bind (wpAny_field he rfl (x := .ref it) rfl (wpAny_bind (wpAny_nextOf_tuple_end (show X.A.in1.handled = none from I.ok.hd hc) hit p' (by simp; omega) fun h' y eb hy => ?_)))
    obtain ⟨o, ho, hcl⟩ := hy
    exact wpAny_bind (wpAny_isInstance (T := "StopIteration") (b := true) ⟨o, ho, hcl⟩ isSubtype_stop (wpAny_pure ⟨rfl, I.turned (t' := s.toks) (fun b o hb q => eb b o hb q) f0 f1 f3 f4 f5⟩))
  self := fun A i s Q E st h => by
    obtain ⟨⟨_, he⟩, _⟩ := st
    exact wpAny_pyIter_enum he h
def iEnumT (K:PySem.W.Frag) (ta:TA):TI := fun σ H R=>ta σ H fun vs H1=>∃ a xs,vs=[.ref a]∧SqT K H1 a xs∧R (IteT K a) H1
theorem pi_enumT {X:Cx} {e:Expr} {ta:TA} {p pos tpos:Pos} {elts:List Expr} {kk:Nat} (hg:Gl X "enumerate") (hm:X.mg "enumerate" = none) (ha:PA X [e] ta) (hs:starEach [e] X.env=[(false,eval e X.env)] := by rfl):PI X (.Tuple elts kk tpos) (.Call (.Name "enumerate" p) [e] [] pos) (iEnumT X.K ta) := by
 refine ⟨fun pins s σ H R I h=>Call_ (ld_blt I hg hm boot_enumerate (PyProof.Rows.callWith_type1 (thn (ha.run pos pins s σ H _ I h) fun us s1 ⟨vs,H1,I1,r1,q1⟩=>?_) hs rfl))⟩
 obtain ⟨a,xs,ex,hq,q⟩ := q1
 subst ex
 cases r1 with
 | cons r rr =>
  cases rr
  cases r
  obtain ⟨its,rv,p',hz⟩ := I1.tuple hq
  refine enumT_call (show s1.heap.IsTuple a its.toArray from p') fun h' he hit hk=>wpAny_pyIter_enum he ?_
  have I2:Inv X pins σ H1 { s1 with heap := h' } := I1.kept (t' := s1.toks) hk
  refine ⟨s1.heap.objs.size + 1,[s1.heap.objs.size + 1,s1.heap.objs.size],_,_,H1,rfl,I2,turn_enumT a (s1.heap.objs.size + 1) s1.heap.objs.size,⟨⟨.none,he⟩,hit,Nat.succ_ne_self _⟩,fun b hb=>?_,q⟩
  have hle:s1.heap.objs.size≤b := by
   rcases (by simpa using hb:b=s1.heap.objs.size + 1∨b=s1.heap.objs.size) with z | z
   ·rw [z]; exact Nat.le_add_right _ _
   ·rw [z]; exact Nat.le_refl _
  exact I1.fpOk hle (I1.hok.fresh hle)
end Fm
namespace Fm
open PySem PySem.Spec PyProof.Rows L2
end Fm
namespace Fm
open PySem PySem.Spec PyProof.Rows L2
end Fm
namespace Fm
open PySem PySem.Spec PyProof.Rows L2
end Fm
namespace PySem.W
open Lean Elab Tactic Meta PySem PySem.Calls PyProof.Rows
end PySem.W
namespace Fm
open PySem PySem.Spec PyProof.Rows L2
end Fm
namespace Fm
open PySem PySem.Spec PyProof.Rows L2
end Fm
namespace Fm
open PySem PySem.Spec PyProof.Rows L2
end Fm
namespace Fm
open PySem PySem.Spec PyProof.Rows L2
open PySem.SeqAt
open AutoSeq1 (wpAny_loadPart')
open MeetsSeq MeetsSeq2 MeetsSeq3 SeqRoads2
end Fm
namespace Fm
open PySem PySem.Spec PyProof.Rows L2 ItX
end Fm
namespace Fm
open PySem PySem.Spec PyProof.Rows L2
end Fm
namespace Fm
open PySem PySem.Spec PyProof.Rows L2
def grow (acc:List Str) (z:Str):List Str := if z∈acc then acc else acc ++ [z]
def uniq (zs:List Str):List Str := zs.foldl grow []
section
variable {prog:Program} {w:World} {A:Around} {R:Result→Shared→Prop} {it T:Addr} {fp wr:List Addr} {G:Array GenState→Array GenState→Prop} {n:Nat} {P:Nat→Value→Prop} {St:Nat→Shared→Prop} {zs:List Str}
def Got (prog:Program) (w:World) (zs:List Str) (T:Addr) (i:Nat) (h:Heap):Prop := h.SetOf (PySem.strKind prog w) T (fun z=>decide (z∈zs.take i)) (uniq (zs.take i)).length
theorem Got.keep {i:Nat} {h h':Heap} (q:Got prog w zs T i h) (k:∀ o,h.get? T=some o→h'.get? T=some o):Got prog w zs T i h' := by
 obtain ⟨o,es,ep,tb,ho,r⟩ := q
 exact ⟨o,es,ep,tb,k o ho,r⟩
variable {l:Addr} {vs:Array Value} {s:Shared} {E:Value→Shared→Prop} {Q:Value→Shared→Prop}
end
end Fm
namespace Fm
open PySem PySem.Spec PyProof.Rows L2
end Fm
namespace Fm
open PySem PySem.Spec PyProof.Rows L2
open L2.DX (KT_drop)
end Fm
namespace Fm
open PySem PySem.Spec PyProof.Rows L2
end Fm
namespace Fm
open PySem PySem.Spec PyProof.Rows L2
section
variable {X:Cx}
def rRepL:R2 := fun x y H Q=>∃ l xs i,x = .ref l∧y = .int i∧Rd H l (.lst xs)∧0≤i∧i < 2 ^ 62∧xs.length * i.toNat≤2 ^ 24∧∀ p,H p=none→Q (.ref p) (upd H p (.lst (List.replicate i.toNat xs).flatten))
theorem vals_rep {xs:List V} {us:List Value} (h:Vals xs us):∀ k:Nat,Vals (List.replicate k xs).flatten (List.replicate k us).flatten
 | 0=>.nil
 | k + 1=>by
  rw [List.replicate_succ,List.replicate_succ,List.flatten_cons,List.flatten_cons]
  exact h.append (vals_rep h k)
theorem op_repL:OpR X (binaryOp .Mult) rRepL := by
 intro pins s σ H x y v u Q I rx ry h
 obtain ⟨l,xs,i,rfl,rfl,hH,h0,h1,hz,q⟩ := h
 cases rx
 obtain ⟨t,rfl⟩ := ry
 obtain ⟨z,its,n,r,e⟩ := hH.ok I.hok
 have hl := r.length
 have hsz:its.toArray.size * i.toNat≤2 ^ 24 := by rw [List.size_toArray,← hl]; exact hz
 have ho := e
 refine wpAny_binaryOp_repeat_ref (T := "list") (U := "int") (by decide) ⟨_,ho,rfl⟩ (fun s'=>typeIs_int s' i t) noFill_list_mul F.fills_int_mul F.slot_int_rmul repeat_list F.slot_int_index.lookup
  (call_meets F.slot_int_rmul (typeIs_int s i t) F.entry_int_rmul (F.args_int_rmul_2 _ _) (lm_int_rmul_list_any i t l its.toArray n _ _)
   ⟨ho,rfl,⟨_,ho,rfl⟩,call_meets F.slot_list_mul ⟨_,ho,rfl⟩ F.entry_list_mul (F.args_list_mul_2 _ _)
    (lm_list_mul_any l its.toArray n _ _ i t (by simp [Builtin.List.listFitsIndex]; omega) (by omega) (by simp [Builtin.List.listTooLong,sizeLine]; omega))
    ⟨ho, ?_⟩⟩)
 rw [listMul_foldl_if]
 have r2 := vals_rep r i.toNat
 rw [List.toList_toArray]
 refine ⟨.ref _,_,I.lnew (t' := s.toks) r2 ?_,rfl,q _ I.fresh⟩
 rw [lm_len_rep_flat,Nat.mul_comm]
 exact hz
end
end Fm
namespace Am
open PySem PySem.Spec PyProof.Rows L2
open Fm (same_new same_upd same_both Same.rd Same.tup Same.sql)
inductive D where
 | non | bl (b:Bool) | int (i:Int) | str (s:Str) | ty (n:String) | cls (n:Str)
 | tup (xs:List D) | ktup (xs:List D) | lst (xs:List D)
 | dK (kvs:List (Key × D)) | dT (kvs:List (List Key × D))
 | ins (c:Str) (fs:List (Str × D))
 | exn (a:Addr) (cls:Value) (d:Option Addr) (c:Str) (fs:List (Str × D))
 | scr (ns:List Int)
 | ref (n:Nat)
inductive Nd where
 | lst (xs:List D) | dK (kvs:List (Key × D)) | dT (kvs:List (List Key × D)) | ins (c:Str) (fs:List (Str × D)) | pool | lkK (o:Obj) (us:List (Key × V)) (kvs:List (Key × D)) | lkT (o:Obj) (us:List (List Key × V)) (kvs:List (List Key × D))
abbrev AH := Nat→Option Nd
def put (A:AH) (n:Nat) (x:Nd):AH := fun m=>if m=n then some x else A m
def rem (A:AH) (n:Nat):AH := fun m=>if m=n then none else A m
theorem put_same {A:AH} {n:Nat} {x:Nd}:put A n x n=some x := if_pos rfl
theorem put_ne {A:AH} {n m:Nat} {x:Nd} (h:m≠n):put A n x m=A m := if_neg h
theorem rem_same {A:AH} {n:Nat}:rem A n n=none := if_pos rfl
theorem rem_ne {A:AH} {n m:Nat} (h:m≠n):rem A n m=A m := if_neg h
theorem put_put {A:AH} {n:Nat} {x y:Nd}:put (put A n x) n y=put A n y := by funext m; unfold put; split <;> rfl
structure Sg where
 S:Hp
 i:Nat→Option Addr
structure Sg.le (g g':Sg):Prop where
 s:Same g.S g'.S
 i:∀ n a,g.i n=some a→g'.i n=some a
theorem Sg.le.refl {g:Sg}:g.le g := ⟨Same.refl _,fun _ _ h=>h⟩
theorem Sg.le.trans {g g1 g2:Sg} (h:g.le g1) (h':g1.le g2):g.le g2 := ⟨h.s.trans h'.s,fun n a e=>h'.i n a (h.i n a e)⟩
section
variable (K:PySem.W.Frag)
mutual
inductive Rep (g:Sg):V→D→Prop
 | non:Rep g .non .non
 | bl (b:Bool):Rep g (.bl b) (.bl b)
 | int (i:Int):Rep g (.int i) (.int i)
 | str (x:Str):Rep g (.str x) (.str x)
 | ty (n:String):Rep g (.ty n) (.ty n)
 | cls (n:Str):Rep g (.ref (He.ga K n)) (.cls n)
 | tup {a:Addr} {vs:List V} {ds:List D}:g.S a=some (.tup vs)→Reps g vs ds→Rep g (.ref a) (.tup ds)
 | ktup {a:Addr} {vs:List V} {ds:List D}:SqT K g.S a vs→Reps g vs ds→Rep g (.ref a) (.ktup ds)
 | lst {a:Addr} {vs:List V} {ds:List D}:Rd g.S a (.lst vs)→Reps g vs ds→Rep g (.ref a) (.lst ds)
 | dK {a:Addr} {kvs:List (Key × V)} {ds:List (Key × D)}:Rd g.S a (.dK kvs)→kvs.map (·.1)=ds.map (·.1)→Reps g (kvs.map (·.2)) (ds.map (·.2))→Rep g (.ref a) (.dK ds)
 | dT {a:Addr} {kvs:List (List Key × V)} {ds:List (List Key × D)}:Rd g.S a (.dT kvs)→kvs.map (·.1)=ds.map (·.1)→Reps g (kvs.map (·.2)) (ds.map (·.2))→Rep g (.ref a) (.dT ds)
 | ins {a dx:Addr} {c:Str} {fvs:List (Str × V)} {fs:List (Str × D)}:g.S a=some (.ins (He.ga K c) dx fvs)→fvs.map (·.1)=fs.map (·.1)→Reps g (fvs.map (·.2)) (fs.map (·.2))→Rep g (.ref a) (.ins c fs)
 | exn {a dd:Addr} {c:Str} {fvs:List (Str × V)} {fs:List (Str × D)}:g.S dd=some (.xd fvs)→fvs.map (·.1)=fs.map (·.1)→Reps g (fvs.map (·.2)) (fs.map (·.2))→Rep g (.ref a) (.exn a (.ref (He.ga K c)) (some dd) c fs)
 | exn0 {a:Addr} {c:Str}:Rep g (.ref a) (.exn a (.ref (He.ga K c)) none c [])
 | scr {a:Addr} {ns:List Int}:SqL K g.S a (ns.map V.int)→Rep g (.ref a) (.scr ns)
 | ref {a:Addr} {n:Nat}:g.i n=some a→Rep g (.ref a) (.ref n)
inductive Reps (g:Sg):List V→List D→Prop
 | nil:Reps g [] []
 | cons {v:V} {vs:List V} {d:D} {ds:List D}:Rep g v d→Reps g vs ds→Reps g (v :: vs) (d :: ds)
end
end
section
variable {K:PySem.W.Frag} {g g':Sg}
mutual
theorem Rep.mono (e:g.le g'):∀ {v:V} {d:D},Rep K g v d→Rep K g' v d
 | _,_, .non=>.non
 | _,_, .bl b=>.bl b
 | _,_, .int i=>.int i
 | _,_, .str x=>.str x
 | _,_, .ty x=>.ty x
 | _,_, .cls x=>.cls x
 | _,_, .tup h r=>.tup (e.s _ _ h) (Reps.mono e r)
 | _,_, .ktup h r=>.ktup (Same.tup e.s h) (Reps.mono e r)
 | _,_, .lst h r=>.lst (Same.rd e.s h) (Reps.mono e r)
 | _,_, .dK h k r=>.dK (Same.rd e.s h) k (Reps.mono e r)
 | _,_, .dT h k r=>.dT (Same.rd e.s h) k (Reps.mono e r)
 | _,_, .ins h k r=>.ins (e.s _ _ h) k (Reps.mono e r)
 | _,_, .exn h k r=>.exn (e.s _ _ h) k (Reps.mono e r)
 | _,_, .exn0=>.exn0
 | _,_, .scr h=>.scr (Same.sql e.s h)
 | _,_, .ref h=>.ref (e.i _ _ h)
theorem Reps.mono (e:g.le g'):∀ {vs:List V} {ds:List D},Reps K g vs ds→Reps K g' vs ds
 | _,_, .nil=>.nil
 | _,_, .cons h r=>.cons (Rep.mono e h) (Reps.mono e r)
end
theorem Reps.len:∀ {vs:List V} {ds:List D},Reps K g vs ds→vs.length=ds.length
 | _,_, .nil=>rfl
 | _,_, .cons _ r=>by rw [List.length_cons,List.length_cons,Reps.len r]
theorem Reps.at_:∀ {vs:List V} {ds:List D} {i:Nat} {d:D},Reps K g vs ds→ds[i]? = some d→∃ v,vs[i]? = some v∧Rep K g v d
 | _,_,_,_, .nil,e=>by simp at e
 | _,_,0,_, .cons h _,e=>by simp at e; subst e; exact ⟨_,rfl,h⟩
 | _,_,i + 1,d, .cons _ r,e=>by
  obtain ⟨v,h1,h2⟩ := Reps.at_ (i := i) (d := d) r (by simpa using e)
  exact ⟨v,by simpa using h1,h2⟩
theorem Reps.of:∀ {vs:List V} {ds:List D} {i:Nat} {v:V},Reps K g vs ds→vs[i]? = some v→∃ d,ds[i]? = some d∧Rep K g v d
 | _,_,_,_, .nil,e=>by simp at e
 | _,_,0,_, .cons h _,e=>by simp at e; subst e; exact ⟨_,rfl,h⟩
 | _,_,i + 1,v, .cons _ r,e=>by
  obtain ⟨d,h1,h2⟩ := Reps.of (i := i) (v := v) r (by simpa using e)
  exact ⟨d,by simpa using h1,h2⟩
theorem Reps.app:∀ {vs ws:List V} {ds es:List D},Reps K g vs ds→Reps K g ws es→Reps K g (vs ++ ws) (ds ++ es)
 | _,_,_,_, .nil,h=>h
 | _,_,_,_, .cons h r,q=>.cons h (Reps.app r q)
theorem Reps.drop_:∀ {vs:List V} {ds:List D} (n:Nat),Reps K g vs ds→Reps K g (vs.drop n) (ds.drop n)
 | _,_,0,h=>h
 | _,_,_ + 1, .nil=>.nil
 | _,_,n + 1, .cons _ r=>Reps.drop_ n r
theorem Reps.take_:∀ {vs:List V} {ds:List D} (n:Nat),Reps K g vs ds→Reps K g (vs.take n) (ds.take n)
 | _,_,0,h=>.nil
 | _,_,_ + 1, .nil=>.nil
 | _,_,n + 1, .cons h r=>.cons h (Reps.take_ n r)
theorem Reps.rev:∀ {vs:List V} {ds:List D},Reps K g vs ds→Reps K g vs.reverse ds.reverse
 | _,_, .nil=>.nil
 | _,_, .cons h r=>by rw [List.reverse_cons,List.reverse_cons]; exact Reps.app (Reps.rev r) (.cons h .nil)
theorem Reps.set_:∀ {vs:List V} {ds:List D} {v:V} {d:D} (n:Nat),Reps K g vs ds→Rep K g v d→Reps K g (vs.set n v) (ds.set n d)
 | _,_,_,_,_, .nil,_=>.nil
 | _,_,_,_,0, .cons _ r,q=>.cons q r
 | _,_,_,_,n + 1, .cons h r,q=>.cons h (Reps.set_ n r q)
theorem Reps.erase:∀ {vs:List V} {ds:List D} (n:Nat),Reps K g vs ds→Reps K g (vs.eraseIdx n) (ds.eraseIdx n)
 | _,_,_, .nil=>.nil
 | _,_,0, .cons _ r=>r
 | _,_,n + 1, .cons h r=>.cons h (Reps.erase n r)
theorem Rep.int_ {v:V} {i:Int} (h:Rep K g v (.int i)):v = .int i := by cases h; rfl
theorem Rep.bl_ {v:V} {b:Bool} (h:Rep K g v (.bl b)):v = .bl b := by cases h; rfl
theorem Rep.str_ {v:V} {x:Str} (h:Rep K g v (.str x)):v = .str x := by cases h; rfl
theorem Rep.non_ {v:V} (h:Rep K g v .non):v = .non := by cases h; rfl
end
def Lk (o o':HO):Prop := o' = o∨(((∃ k,o = .dK k)∨∃ k,o = .dT k)∧∃ u,o' = .frz u o)
def Sub (S H:Hp):Prop := ∀ a o,S a=some o→∃ o',H a=some o'∧Lk o o'
section
variable {K:PySem.W.Frag} {S H:Hp} {a:Addr}
theorem Sub.free (h:Sub S H) (n:H a=none):S a=none := by
 cases e:S a with
 | none=>rfl
 | some o=>obtain ⟨o',h1,_⟩ := h a o e; rw [n] at h1; cases h1
theorem Sub.at_ {o:HO} (h:Sub S H) (e:S a=some o) (n:(∀ k,o≠.dK k)∧∀ k,o≠.dT k):H a=some o := by
 obtain ⟨o',h1,h2 | ⟨⟨k,h2⟩ | ⟨k,h2⟩,_⟩⟩ := h a o e
 ·rw [h1,h2]
 ·exact absurd h2 (n.1 k)
 ·exact absurd h2 (n.2 k)
theorem Sub.sql {vs:List V} (h:Sub S H) (e:SqL K S a vs):SqL K H a vs := by
 rcases e with (e | ⟨o,e⟩) | e
 ·exact .inl (.inl (h.at_ e (by constructor <;> intro _ z <;> cases z)))
 ·exact .inl (.inr ⟨o,h.at_ e (by constructor <;> intro _ z <;> cases z)⟩)
 ·exact .inr e
theorem Sub.sqt {vs:List V} (h:Sub S H) (e:SqT K S a vs):SqT K H a vs := by
 rcases e with (e | ⟨o,e⟩) | e
 ·exact .inl (.inl (h.at_ e (by constructor <;> intro _ z <;> cases z)))
 ·exact .inl (.inr ⟨o,h.at_ e (by constructor <;> intro _ z <;> cases z)⟩)
 ·exact .inr e
theorem Sub.ins {C dx:Addr} {fs:List (Str × V)} (h:Sub S H) (e:S a=some (.ins C dx fs)):H a=some (.ins C dx fs) := h.at_ e (by constructor <;> intro _ z <;> cases z)
theorem Sub.rd {o:HO} (h:Sub S H) (e:Rd S a o):Rd H a o := by
 rcases e with e | ⟨u,e⟩
 ·obtain ⟨o',h1,h2 | ⟨_,u,h2⟩⟩ := h a o e
  ·exact .inl (by rw [h1,h2])
  ·exact .inr ⟨u,by rw [h1,h2]⟩
 ·exact .inr ⟨u,h.at_ e (by constructor <;> intro _ z <;> cases z)⟩
theorem Sub.new {p:Addr} {o:HO} (h:Sub S H) (n:H p=none):Sub (upd S p o) (upd H p o) := fun b x e=>by
 by_cases hb:b=p
 ·subst hb; rw [upd_same] at e; cases e; exact ⟨_,upd_same, .inl rfl⟩
 ·rw [upd_ne hb] at e; rw [upd_ne hb]; exact h b x e
theorem Sub.set {p:Addr} {o:HO} (h:Sub S H) (n:S p=none):Sub S (upd H p o) := fun b x e=>by
 have hb:b≠p := ne_of_none e n
 rw [upd_ne hb]; exact h b x e
end
def NdAt (K:PySem.W.Frag) (g:Sg) (H:Hp) (a:Addr):Nd→Prop
 | .lst ds=>∃ vs,H a=some (.lst vs)∧Reps K g vs ds
 | .dK ds=>∃ kvs,H a=some (.dK kvs)∧kvs.map (·.1)=ds.map (·.1)∧Reps K g (kvs.map (·.2)) (ds.map (·.2))
 | .dT ds=>∃ kvs,H a=some (.dT kvs)∧kvs.map (·.1)=ds.map (·.1)∧Reps K g (kvs.map (·.2)) (ds.map (·.2))
 | .ins c fs=>∃ dx fvs,H a=some (.ins (He.ga K c) dx fvs)∧fvs.map (·.1)=fs.map (·.1)∧Reps K g (fvs.map (·.2)) (fs.map (·.2))
 | .pool=>∃ (gs:List Int) (c sd n:Int) (p:Addr),H a=some (.lst [.ref p, .int c, .int sd, .int n])∧g.S p=some (.lst (gs.map V.int))∧0≤sd∧sd < 2147483648
 | .lkK o us ds=>H a=some (.frz o (.dK us))∧us.map (·.1)=ds.map (·.1)∧Reps K g (us.map (·.2)) (ds.map (·.2))
 | .lkT o us ds=>H a=some (.frz o (.dT us))∧us.map (·.1)=ds.map (·.1)∧Reps K g (us.map (·.2)) (ds.map (·.2))
structure Wr (K:PySem.W.Frag) (g:Sg) (A:AH) (H:Hp):Prop where
 sub:Sub g.S H
 inj:∀ n m a,g.i n=some a→g.i m=some a→n=m
 ex:∀ n a,g.i n=some a→H a≠none
 fin:∃ N,∀ n,N≤n→g.i n=none
 nd:∀ n x,A n=some x→∃ a,g.i n=some a∧g.S a=none∧NdAt K g H a x
def Own (g:Sg) (A:AH) (a:Addr):Prop := ∃ n x,A n=some x∧g.i n=some a
structure Stp (g:Sg) (A:AH) (H:Hp) (g':Sg) (A':AH) (H':Hp):Prop where
 le:g.le g'
 kp:∀ a o,H a=some o→¬ Own g A a→H' a=some o
 nw:∀ a,Own g' A' a→Own g A a∨H a=none
 ex:∀ a,H a≠none→H' a≠none
 sn:∀ a o,H a=some o→(∀ vs,o≠.tup vs)→g.S a=none→¬ Own g A a→g'.S a=none
 inw:∀ n a,g'.i n=some a→g.i n=some a∨H a=none
section
variable {K:PySem.W.Frag} {g g' g1 g2:Sg} {A A' A1 A2:AH} {H H' H1 H2:Hp} {a p:Addr} {o:HO} {n:Nat} {x y:Nd}
theorem NdAt.mono (e:g.le g') (h:H' a=H a):NdAt K g H a x→NdAt K g' H' a x := by
 cases x with
 | lst ds=>rintro ⟨vs,h1,h2⟩; exact ⟨vs,h.trans h1,h2.mono e⟩
 | dK ds=>rintro ⟨vs,h1,h2,h3⟩; exact ⟨vs,h.trans h1,h2,h3.mono e⟩
 | dT ds=>rintro ⟨vs,h1,h2,h3⟩; exact ⟨vs,h.trans h1,h2,h3.mono e⟩
 | ins c fs=>rintro ⟨dx,vs,h1,h2,h3⟩; exact ⟨dx,vs,h.trans h1,h2,h3.mono e⟩
 | pool=>rintro ⟨gs,c,sd,n,p,h1,h2,h3⟩; exact ⟨gs,c,sd,n,p,h.trans h1,e.s _ _ h2,h3⟩
 | lkK o us ds=>rintro ⟨h1,h2,h3⟩; exact ⟨h.trans h1,h2,h3.mono e⟩
 | lkT o us ds=>rintro ⟨h1,h2,h3⟩; exact ⟨h.trans h1,h2,h3.mono e⟩
theorem NdAt.some (h:NdAt K g H a x):H a≠none := by
 cases x with
 | lst ds=>obtain ⟨vs,h1,_⟩ := h; rw [h1]; simp
 | dK ds=>obtain ⟨vs,h1,_⟩ := h; rw [h1]; simp
 | dT ds=>obtain ⟨vs,h1,_⟩ := h; rw [h1]; simp
 | ins c fs=>obtain ⟨dx,vs,h1,_⟩ := h; rw [h1]; simp
 | pool=>obtain ⟨gs,c,sd,n,p,h1,_⟩ := h; rw [h1]; simp
 | lkK o us ds=>rw [h.1]; simp
 | lkT o us ds=>rw [h.1]; simp
theorem Stp.refl:Stp g A H g A H := ⟨.refl,fun _ _ h _=>h,fun _ h=>.inl h,fun _ h=>h,fun _ _ _ _ h _=>h,fun _ _ h=>.inl h⟩
theorem Stp.trans (s:Stp g A H g1 A1 H1) (t:Stp g1 A1 H1 g2 A2 H2):Stp g A H g2 A2 H2 := by
 have k:∀ a o,H a=some o→¬ Own g A a→¬ Own g1 A1 a := fun a o h n z=>by
  rcases s.nw a z with z | z
  ·exact n z
  ·rw [h] at z; cases z
 refine ⟨s.le.trans t.le,fun a o h n=>t.kp a o (s.kp a o h n) (k a o h n),fun a h=>?_,fun a h=>t.ex a (s.ex a h),fun a o e n h2 h3=>?_,fun n a h=>?_⟩
 rotate_left
 ·exact t.sn a o (s.kp a o e h3) n (s.sn a o e n h2 h3) (k a o e h3)
 ·rcases t.inw n a h with h | h
  ·exact s.inw n a h
  ·exact .inr (Classical.byContradiction fun z=>s.ex a z h)
 rcases t.nw a h with h | h
 ·exact s.nw a h
 ·cases e:H a with
  | none=>exact .inr rfl
  | some o =>
   refine .inl (Classical.byContradiction fun n=>?_)
   rw [s.kp a o e n] at h; cases h
theorem ex_upd (h:H a≠none):upd H p o a≠none := by
 by_cases e:a=p
 ·subst e; rw [upd_same]; simp
 ·rw [upd_ne e]; exact h
theorem Wr.new (w:Wr K g A H) (np:H p=none):Wr K ⟨upd g.S p o,g.i⟩ A (upd H p o)∧Stp g A H ⟨upd g.S p o,g.i⟩ A (upd H p o) := by
 have le:g.le ⟨upd g.S p o,g.i⟩ := ⟨same_new (w.sub.free np),fun _ _ h=>h⟩
 refine ⟨⟨w.sub.new np,w.inj,fun n a h=>?_,w.fin,fun n x h=>?_⟩,⟨le,fun a u h _=>?_,fun a h=>.inl h,fun a h=>ex_upd h,fun a u h1 _ h2 _=>?_,fun _ _ h=>.inl h⟩⟩
 ·have hn:a≠p := fun e=>w.ex n a h (by rw [e]; exact np)
  rw [upd_ne hn]; exact w.ex n a h
 ·obtain ⟨a,h1,h2,h3⟩ := w.nd n x h
  have hn:a≠p := fun e=>w.ex n a h1 (by rw [e]; exact np)
  exact ⟨a,h1,by show upd g.S p o a=none; rw [upd_ne hn]; exact h2,h3.mono le (upd_ne hn)⟩
 ·rw [upd_ne (ne_of_none h np)]; exact h
 ·show upd g.S p o a=none
  rw [upd_ne (ne_of_none h1 np)]; exact h2
theorem Wr.node (w : Wr K g A H) (np : H p = none) (hx : ∀ g', g.le g' → NdAt K g' (upd H p o) p x) : ∃ n, A n = none ∧ g.i n = none ∧ Wr K ⟨g.S, fun m => if m = n then some p else g.i m⟩ (put A n x) (upd H p o) ∧ Stp g A H ⟨g.S, fun m => if m = n then some p else g.i m⟩ (put A n x) (upd H p o) := by
  obtain ⟨N, hN⟩ := w.fin
  have hi : g.i N = none := hN N (Nat.le_refl _)
  have hA : A N = none := by
    cases e : A N with
    | none => rfl
    | some x => obtain ⟨a, h, _⟩ := w.nd N x e; rw [hi] at h; cases h
  have le : g.le ⟨g.S, fun m => if m = N then some p else g.i m⟩ := ⟨Same.refl _, fun m a h => by
    have : m ≠ N := fun e => by rw [e, hi] at h; cases h
    show (if m = N then some p else g.i m) = some a
    rw [if_neg this]; exact h⟩
  have old : ∀ m a, (if m = N then some p else g.i m) = some a → (m = N ∧ a = p) ∨ (m ≠ N ∧ g.i m = some a ∧ a ≠ p) := fun m a h => by
    by_cases e : m = N
    · rw [if_pos e] at h; exact .inl ⟨e, (Option.some.inj h).symm⟩
    · rw [if_neg e] at h; exact .inr ⟨e, h, fun z => w.ex m a h (by rw [z]; exact np)⟩
  refine ⟨N, hA, hi, ⟨w.sub.set (w.sub.free np), fun n m a h1 h2 => ?_, fun n a h => ?_, ⟨N + 1, fun n h => ?_⟩, fun n y h => ?_⟩, ⟨le, fun a u h _ => ?_, fun a h => ?_, fun a h => ex_upd h, fun _ _ _ _ h _ => h, fun n a h => ?_⟩⟩
  · rcases old n a h1 with ⟨e1, e2⟩ | ⟨e1, e2, e3⟩ <;> rcases old m a h2 with ⟨f1, f2⟩ | ⟨f1, f2, f3⟩
    · rw [e1, f1]
    · exact absurd e2 f3
    · exact absurd f2 e3
    · exact w.inj n m a e2 f2
  · rcases old n a h with ⟨e1, e2⟩ | ⟨e1, e2, e3⟩
    · rw [e2, upd_same]; simp
    · rw [upd_ne e3]; exact w.ex n a e2
  · show (if n = N then some p else g.i n) = none
    rw [if_neg (by omega)]; exact hN n (by omega)
  · by_cases e : n = N
    · subst e
      rw [put_same] at h; cases h
      exact ⟨p, if_pos rfl, w.sub.free np, hx _ le⟩
    · rw [put_ne e] at h
      obtain ⟨a, h1, h2, h3⟩ := w.nd n y h
      have hn : a ≠ p := fun z => w.ex n a h1 (by rw [z]; exact np)
      exact ⟨a, by show (if n = N then some p else g.i n) = some a; rw [if_neg e]; exact h1, h2, h3.mono le (upd_ne hn)⟩
  · rw [upd_ne (ne_of_none h np)]; exact h
  · obtain ⟨m, y, h1, h2⟩ := h
    rcases old m a h2 with ⟨e1, e2⟩ | ⟨e1, e2, e3⟩
    · exact .inr (by rw [e2]; exact np)
    · rw [put_ne e1] at h1; exact .inl ⟨m, y, h1, e2⟩
  · rcases old n a h with ⟨e1, e2⟩ | ⟨e1, e2, e3⟩
    · exact .inr (by rw [e2]; exact np)
    · exact .inl e2
theorem Wr.set (w : Wr K g A H) (ha : g.i n = some a) (hA : A n = some x) (hx : NdAt K g (upd H a o) a y) : Wr K g (put A n y) (upd H a o) ∧ Stp g A H g (put A n y) (upd H a o) := by
  obtain ⟨a', h1, h2, h3⟩ := w.nd n x hA
  rw [ha] at h1; cases h1
  refine ⟨⟨w.sub.set h2, w.inj, fun m b h => ?_, w.fin, fun m z h => ?_⟩, ⟨.refl, fun b u h hn => ?_, fun b h => ?_, fun b h => ex_upd h, fun _ _ _ _ h _ => h, fun _ _ h => .inl h⟩⟩
  · by_cases e : b = a
    · rw [e, upd_same]; simp
    · rw [upd_ne e]; exact w.ex m b h
  · by_cases e : m = n
    · subst e; rw [put_same] at h; cases h; exact ⟨a, ha, h2, hx⟩
    · rw [put_ne e] at h
      obtain ⟨b, q1, q2, q3⟩ := w.nd m z h
      have hb : b ≠ a := fun z => e (w.inj m n a (by rw [← z]; exact q1) ha)
      exact ⟨b, q1, q2, q3.mono .refl (upd_ne hb)⟩
  · rw [upd_ne (fun e => hn ⟨n, x, hA, by rw [e]; exact ha⟩)]; exact h
  · obtain ⟨m, z, h1, h2⟩ := h
    by_cases e : m = n
    · subst e; exact .inl ⟨m, x, hA, h2⟩
    · rw [put_ne e] at h1; exact .inl ⟨m, z, h1, h2⟩
theorem Wr.freeze (w : Wr K g A H) (ha : g.i n = some a) (hA : A n = some x) (ho : H a = some o) : Wr K ⟨upd g.S a o, g.i⟩ (rem A n) H ∧ Stp g A H ⟨upd g.S a o, g.i⟩ (rem A n) H := by
  obtain ⟨a', h1, h2, h3⟩ := w.nd n x hA
  rw [ha] at h1; cases h1
  have le : g.le ⟨upd g.S a o, g.i⟩ := ⟨same_new h2, fun _ _ h => h⟩
  refine ⟨⟨fun b u e => ?_, w.inj, w.ex, w.fin, fun m z h => ?_⟩, ⟨le, fun b u h _ => h, fun b h => ?_, fun _ h => h, fun b u h1 _ h2 h3 => ?_, fun _ _ h => .inl h⟩⟩
  · by_cases hb : b = a
    · subst hb; have e' : upd g.S b o b = some u := e; rw [upd_same] at e'; cases e'; exact ⟨_, ho, .inl rfl⟩
    · have e' : upd g.S a o b = some u := e; rw [upd_ne hb] at e'; exact w.sub b u e'
  · by_cases e : m = n
    · subst e; rw [rem_same] at h; cases h
    · rw [rem_ne e] at h
      obtain ⟨b, q1, q2, q3⟩ := w.nd m z h
      have hb : b ≠ a := fun z => e (w.inj m n a (by rw [← z]; exact q1) ha)
      exact ⟨b, q1, by show upd g.S a o b = none; rw [upd_ne hb]; exact q2, q3.mono le rfl⟩
  · obtain ⟨m, z, h1, h2⟩ := h
    by_cases e : m = n
    · subst e; rw [rem_same] at h1; cases h1
    · rw [rem_ne e] at h1; exact .inl ⟨m, z, h1, h2⟩
  · show upd g.S a o b = none
    rw [upd_ne (fun z => h3 ⟨n, x, hA, by rw [z]; exact ha⟩)]; exact h2
theorem Wr.tupS {vs:List V} (w:Wr K g A H) (hp:H p=some (.tup vs)):∃ g',Wr K g' A H∧Stp g A H g' A H∧g'.S p=some (.tup vs) := by
 cases e:g.S p with
 | some u =>
  obtain ⟨o',h1,h2 | ⟨_,z,h2⟩⟩ := w.sub p u e
  ·rw [hp] at h1; cases h1; subst h2; exact ⟨g,w, .refl,e⟩
  ·rw [hp] at h1; cases h1; cases h2
 | none =>
  have hn:∀ n x,A n=some x→g.i n≠some p := fun n x hA hi=>by
   obtain ⟨a,h1,h2,h3⟩ := w.nd n x hA
   rw [hi] at h1; cases h1
   cases x with
   | lst ds=>obtain ⟨_,h1,_⟩ := h3; rw [hp] at h1; cases h1
   | dK ds=>obtain ⟨_,h1,_⟩ := h3; rw [hp] at h1; cases h1
   | dT ds=>obtain ⟨_,h1,_⟩ := h3; rw [hp] at h1; cases h1
   | ins c fs=>obtain ⟨_,_,h1,_⟩ := h3; rw [hp] at h1; cases h1
   | pool=>obtain ⟨_,_,_,_,_,h1,_⟩ := h3; rw [hp] at h1; cases h1
   | lkK o us ds=>have h1 := h3.1; rw [hp] at h1; cases h1
   | lkT o us ds=>have h1 := h3.1; rw [hp] at h1; cases h1
  have le:g.le ⟨upd g.S p (.tup vs),g.i⟩ := ⟨same_new e,fun _ _ h=>h⟩
  refine ⟨⟨upd g.S p (.tup vs),g.i⟩,⟨fun b u q=>?_,w.inj,w.ex,w.fin,fun m z h=>?_⟩,⟨le,fun _ _ h _=>h,fun b h=>.inl h,fun _ h=>h,fun b u h1 h0 h2 h3=>?_,fun _ _ h=>.inl h⟩,upd_same⟩
  ·by_cases hb:b=p
   ·subst hb; have q':upd g.S b (.tup vs) b=some u := q; rw [upd_same] at q'; cases q'; exact ⟨_,hp, .inl rfl⟩
   ·have q':upd g.S p (.tup vs) b=some u := q; rw [upd_ne hb] at q'; exact w.sub b u q'
  ·obtain ⟨b,q1,q2,q3⟩ := w.nd m z h
   have hb:b≠p := fun y=>hn m z h (by rw [← y]; exact q1)
   exact ⟨b,q1,by show upd g.S p (.tup vs) b=none; rw [upd_ne hb]; exact q2,q3.mono le rfl⟩
  ·show upd g.S p (.tup vs) b=none
   rw [upd_ne (fun z=>by rw [z,hp] at h1; cases h1; exact h0 vs rfl)]; exact h2
def Les (A' A:AH):Prop := ∀ n x,A' n=some x→A n=some x
theorem Les.refl:Les A A := fun _ _ h=>h
theorem Wr.forget (w:Wr K g A H) (h:Les A' A):Wr K g A' H := ⟨w.sub,w.inj,w.ex,w.fin,fun n x e=>w.nd n x (h n x e)⟩
theorem Stp.forget (s:Stp g A H g1 A1 H1) (h:Les A2 A1):Stp g A H g1 A2 H1 := ⟨s.le,s.kp,fun a ⟨n,x,h1,h2⟩=>s.nw a ⟨n,x,h n x h1,h2⟩,s.ex,s.sn,s.inw⟩
theorem Wr.tmp (w:Wr K g A H) (np:H p=none):Wr K g A (upd H p o)∧Stp g A H g A (upd H p o) := by
 refine ⟨⟨w.sub.set (w.sub.free np),w.inj,fun n a h=>?_,w.fin,fun n x h=>?_⟩,⟨.refl,fun a u h _=>?_,fun a h=>.inl h,fun a h=>ex_upd h,fun _ _ _ _ h _=>h,fun _ _ h=>.inl h⟩⟩
 ·have hn:a≠p := fun e=>w.ex n a h (by rw [e]; exact np)
  rw [upd_ne hn]; exact w.ex n a h
 ·obtain ⟨a,h1,h2,h3⟩ := w.nd n x h
  have hn:a≠p := fun e=>w.ex n a h1 (by rw [e]; exact np)
  exact ⟨a,h1,h2,h3.mono .refl (upd_ne hn)⟩
 ·rw [upd_ne (ne_of_none h np)]; exact h
theorem Wr.own (w:Wr K g A H) (hS:g.S p=none) (hi:∀ n,g.i n≠some p):Wr K g A (upd H p o) := by
 refine ⟨w.sub.set hS,w.inj,fun n a h=>ex_upd (w.ex n a h),w.fin,fun n x h=>?_⟩
 obtain ⟨a,h1,h2,h3⟩ := w.nd n x h
 exact ⟨a,h1,h2,h3.mono .refl (upd_ne fun z=>hi n (by rw [← z]; exact h1))⟩
theorem Stp.put (s:Stp g A H g' A' H') (np:H p=none):Stp g A H g' A' (upd H' p o) :=
 ⟨s.le,fun a u h n=>by rw [upd_ne (ne_of_none h np)]; exact s.kp a u h n,s.nw,fun a h=>ex_upd (s.ex a h),s.sn,s.inw⟩
theorem Stp.beside (s:Stp g A H g' A' H') (hp:H p=some o) (hS:g.S p=none) (hi:∀ n,g.i n≠some p) (ho:∀ vs,o≠.tup vs := by intro _ z; cases z):H' p=some o∧g'.S p=none∧∀ n,g'.i n≠some p := by
 have hn:¬ Own g A p := fun ⟨n,_,_,h⟩=>hi n h
 refine ⟨s.kp p o hp hn,s.sn p o hp ho hS hn,fun n e=>?_⟩
 rcases s.inw n p e with h | h
 ·exact hi n h
 ·rw [hp] at h; cases h
end
end Am
namespace Am
open PySem PySem.Spec PyProof.Rows L2
open Fm (same_new rEqP rNeP rInP rCatR rAddA rSlA rIsNA rNotNA rListOf rTupOf rAllA rLenA rInt1)
structure Xc where
 c:Str
 fs:List (Str × D)
abbrev Sl := List (Option D)
abbrev QE := D→AH→Prop
abbrev QX := Xc→AH→Prop
abbrev ME := Sl→AH→QE→QX→Prop
abbrev MT := Sl→AH→(Bool→AH→Prop)→QX→Prop
abbrev MA := Sl→AH→(List D→AH→Prop)→QX→Prop
def RepX (K:PySem.W.Frag) (g:Sg) (cls:Value) (dd:Option Addr) (x:Xc):Prop := cls = .ref (He.ga K x.c)∧((∃ a fvs,dd=some a∧g.S a=some (.xd fvs)∧fvs.map (·.1)=x.fs.map (·.1)∧Reps K g (fvs.map (·.2)) (x.fs.map (·.2)))∨(dd=none∧x.fs=[]))
structure RepS (K:PySem.W.Frag) (g:Sg) (σ:L2.St) (s:Sl):Prop where
 len:σ.length=s.length
 at_:∀ (i:Nat) (d:D),s[i]? = some (some d)→∃ v,σ[i]? = some (some v)∧Rep K g v d
theorem RepS.mono {K:PySem.W.Frag} {g g':Sg} {σ:L2.St} {s:Sl} (e:g.le g') (h:RepS K g σ s):RepS K g' σ s := ⟨h.len,fun i d q=>by
 obtain ⟨v,h1,h2⟩ := h.at_ i d q
 exact ⟨v,h1,h2.mono e⟩⟩
theorem RepS.set {K:PySem.W.Frag} {g:Sg} {σ:L2.St} {s:Sl} {i:Nat} {v:V} {d:D} (h:RepS K g σ s) (r:Rep K g v d):RepS K g (σ.set i (some v)) (s.set i (some d)) := by
 refine ⟨by rw [List.length_set,List.length_set]; exact h.len,fun j e q=>?_⟩
 rw [List.getElem?_set] at q ⊢
 by_cases hj:i=j
 ·subst hj
  rw [if_pos rfl] at q ⊢
  by_cases hl:i < s.length
  ·rw [if_pos hl] at q
   cases q
   rw [if_pos (by rw [h.len]; exact hl)]
   exact ⟨v,rfl,r⟩
  ·rw [if_neg hl] at q; cases q
 ·rw [if_neg hj] at q ⊢
  exact h.at_ j e q
theorem RepS.unset {K:PySem.W.Frag} {g:Sg} {σ:L2.St} {s:Sl} {i:Nat} {v:Option V} (h:RepS K g σ s):RepS K g (σ.set i v) (s.set i none) := by
 refine ⟨by rw [List.length_set,List.length_set]; exact h.len,fun j e q=>?_⟩
 rw [List.getElem?_set] at q ⊢
 by_cases hj:i=j
 ·subst hj
  rw [if_pos rfl] at q
  by_cases hl:i < s.length
  ·rw [if_pos hl] at q; cases q
  ·rw [if_neg hl] at q; cases q
 ·rw [if_neg hj] at q ⊢
  exact h.at_ j e q
def Post (K:PySem.W.Frag) (g:Sg) (A:AH) (H:Hp) (Qa:QE) (Q:VK):Prop := ∀ g' A' H' v d,Stp g A H g' A' H'→Wr K g' A' H'→Rep K g' v d→Qa d A'→Q v H'
def PostX (K:PySem.W.Frag) (g:Sg) (A:AH) (H:Hp) (Ea:QX) (W:Value→Option Addr→Hp→Prop):Prop := ∀ g' A' H' x cls dd,Stp g A H g' A' H'→Wr K g' A' H'→RepX K g' cls dd x→Ea x A'→W cls dd H'
section
variable {K:PySem.W.Frag} {g g1:Sg} {A A1:AH} {H H1:Hp} {Qa:QE} {Q:VK} {Ea:QX} {W:Value→Option Addr→Hp→Prop} {v:V} {d:D}
theorem Post.now (q:Post K g A H Qa Q) (w:Wr K g A H) (r:Rep K g v d) (h:Qa d A):Q v H := q g A H v d .refl w r h
theorem Post.step (q:Post K g A H Qa Q) (s:Stp g A H g1 A1 H1):Post K g1 A1 H1 Qa Q := fun g' A' H' v d s' w r h=>q g' A' H' v d (s.trans s') w r h
theorem PostX.step (q:PostX K g A H Ea W) (s:Stp g A H g1 A1 H1):PostX K g1 A1 H1 Ea W := fun g' A' H' x c d s' w r h=>q g' A' H' x c d (s.trans s') w r h
end
def cE (K:PySem.W.Frag) (W:WX) (m:ME):TE := fun σ H Q=>∃ g s A Qa Ea,Wr K g A H∧RepS K g σ s∧m s A Qa Ea∧Post K g A H Qa Q∧PostX K g A H Ea (fun c d H'=>W c d σ H')
def cT (K:PySem.W.Frag) (W:WX) (m:MT):TT := fun σ H Q=>∃ g s A Qa Ea,Wr K g A H∧RepS K g σ s∧m s A Qa Ea∧(∀ g' A' H' b,Stp g A H g' A' H'→Wr K g' A' H'→Qa b A'→Q b H')∧PostX K g A H Ea (fun c d H'=>W c d σ H')
def cA (K:PySem.W.Frag) (W:WX) (m:MA):TA := fun σ H Q=>∃ g s A Qa Ea,Wr K g A H∧RepS K g σ s∧m s A Qa Ea∧(∀ g' A' H' vs ds,Stp g A H g' A' H'→Wr K g' A' H'→Reps K g' vs ds→Qa ds A'→Q vs H')∧PostX K g A H Ea (fun c d H'=>W c d σ H')
abbrev WF:WX := fun _ _ _ _=>False
section
variable {X:Cx} {e a b c:Expr} {W:WX} {m ma mb mc:ME} {t t':TE} {pos:Pos}
theorem PE.weak (h:PE X e t) (k:∀ σ H Q,t' σ H Q→t σ H Q):PE X e t' := ⟨fun pins s σ H Q I q=>h.run pins s σ H Q I (k σ H Q q)⟩
theorem PT.weak {t t':TT} (h:PT X e t) (k:∀ σ H Q,t' σ H Q→t σ H Q):PT X e t' := ⟨fun pins s σ H Q I q=>h.run pins s σ H Q I (k σ H Q q)⟩
theorem PA.weak {es:List Expr} {t t':TA} (h:PA X es t) (k:∀ σ H Q,t' σ H Q→t σ H Q):PA X es t' := ⟨fun pos pins s σ H Q I q=>h.run pos pins s σ H Q I (k σ H Q q)⟩
def mVar (i:Nat):ME := fun s A Q _=>∃ d,s[i]? = some (some d)∧Q d A
def mC (d:D):ME := fun _ A Q _=>Q d A
theorem ae_var {i:Nat} (h:PE X e (tVar i)):PE X e (cE X.K W (mVar i)) := PE.weak h fun σ H Q ⟨g,s,A,Qa,Ea,w,r,⟨d,h1,h2⟩,q,_⟩=>by
 obtain ⟨v,h3,h4⟩ := r.at_ i d h1
 exact ⟨v,h3,q.now w h4 h2⟩
theorem ae_c {v:V} {d:D} (hd:∀ g,Rep X.K g v d) (h:PE X e (tC v)):PE X e (cE X.K W (mC d)) := PE.weak h fun σ H Q ⟨g,s,A,Qa,Ea,w,r,h1,q,_⟩=>q.now w (hd g) h1
abbrev F2 := D→D→AH→QE→Prop
abbrev F1 := D→AH→QE→Prop
def OpS (K:PySem.W.Frag) (r:R2) (f:F2):Prop := ∀ g A H x y dx dy Qa Q,Wr K g A H→Rep K g x dx→Rep K g y dy→f dx dy A Qa→Post K g A H Qa Q→r x y H Q
def UnS (K:PySem.W.Frag) (r:V→Hp→VK→Prop) (f:F1):Prop := ∀ g A H x dx Qa Q,Wr K g A H→Rep K g x dx→f dx A Qa→Post K g A H Qa Q→r x H Q
def CallS (K:PySem.W.Frag) (r:List V→Hp→VK→Prop) (f:List D→AH→QE→Prop):Prop := ∀ g A H xs ds Qa Q,Wr K g A H→Reps K g xs ds→f ds A Qa→Post K g A H Qa Q→r xs H Q
def mOp (f:F2) (ma mb:ME):ME := fun s A Q E=>ma s A (fun x A1=>mb s A1 (fun y A2=>f x y A2 Q) E) E
def mUn (f:F1) (ma:ME):ME := fun s A Q E=>ma s A (fun x A1=>f x A1 Q) E
theorem c_op {K:PySem.W.Frag} {r:R2} {f:F2} (os:OpS K r f):∀ σ H Q,cE K W (mOp f ma mb) σ H Q→tOp r (cE K W ma) (cE K W mb) σ H Q := fun σ H Q ⟨g,s,A,Qa,Ea,w,r,h,q,qx⟩ =>
 ⟨g,s,A,_,Ea,w,r,h,fun g1 A1 H1 x dx st1 w1 rx h1=>⟨g1,s,A1,_,Ea,w1,r.mono st1.le,h1,fun g2 A2 H2 y dy st2 w2 ry h2=>os g2 A2 H2 x y dx dy Qa Q w2 (rx.mono st2.le) ry h2 (q.step (st1.trans st2)),qx.step st1⟩,qx⟩
theorem c_un {K:PySem.W.Frag} {r:V→Hp→VK→Prop} {f:F1} (os:UnS K r f):∀ σ H Q,cE K W (mUn f ma) σ H Q→tUn r (cE K W ma) σ H Q := fun σ H Q ⟨g,s,A,Qa,Ea,w,r,h,q,qx⟩ =>
 ⟨g,s,A,_,Ea,w,r,h,fun g1 A1 H1 x dx st1 w1 rx h1=>os g1 A1 H1 x dx Qa Q w1 rx h1 (q.step st1),qx⟩
theorem ae_op {op:Operator} {r:R2} {f:F2} (ho:OpR X (binaryOp op) r) (os:OpS X.K r f) (ha:PE X a (cE X.K W ma)) (hb:PE X b (cE X.K W mb)):PE X (.BinOp a op b pos) (cE X.K W (mOp f ma mb)) := PE.weak (pe_op ho ha hb) (c_op os)
theorem ae_un {op:UnaryOp} {r:V→Hp→VK→Prop} {f:F1} (ho:UnR X (unaryOp op) r) (os:UnS X.K r f) (ha:PE X a (cE X.K W ma)):PE X (.UnaryOp op a pos) (cE X.K W (mUn f ma)) := PE.weak (pe_un ho ha) (c_un os)
theorem ae_cmp {op:CmpOp} {r:R2} {f:F2} (ho:OpR X (compareOp op) r) (os:OpS X.K r f) (ha:PE X a (cE X.K W ma)) (hb:PE X b (cE X.K W mb)) (hm:behindInMarks op b=false):PE X (.Compare a [op] [b] pos) (cE X.K W (mOp f ma mb)) := PE.weak (pe_cmpR ho ha hb hm) (c_op os)
def mB (m:ME):MT := fun s A Q E=>m s A (fun d A1=>∃ b,d = .bl b∧Q b A1) E
theorem c_tB {K:PySem.W.Frag}:∀ σ H Q,cT K W (mB m) σ H Q→tB (cE K W m) σ H Q := fun σ H Q ⟨g,s,A,Qa,Ea,w,r,h,q,qx⟩ =>
 ⟨g,s,A,_,Ea,w,r,h,fun g1 A1 H1 x dx st1 w1 rx ⟨b,e,h1⟩=>⟨b,by rw [e] at rx; exact rx.bl_,q g1 A1 H1 b st1 w1 h1⟩,qx⟩
theorem c_tTest {K:PySem.W.Frag}:∀ σ H Q,cT K W (mB m) σ H Q→tTest (cE K W m) σ H Q := fun σ H Q ⟨g,s,A,Qa,Ea,w,r,h,q,qx⟩ =>
 ⟨g,s,A,_,Ea,w,r,h,fun g1 A1 H1 x dx st1 w1 rx ⟨b,e,h1⟩=>⟨b,by rw [e] at rx; exact rx.bl_,q g1 A1 H1 b st1 w1 h1⟩,qx⟩
theorem at_val (h:PE X e (cE X.K W m)) (he:∀ whole,isTrue e X.env whole=(do let v ← whole; standAt e.pos; holding [v] (truthy v)) := by intro _; rfl):PT X e (cT X.K W (mB m)) := PT.weak (pt_val h he) c_tB
theorem tTest_mono {t t':TE} (k:∀ σ H Q,t' σ H Q→t σ H Q):∀ σ H Q,tTest t' σ H Q→tTest t σ H Q := fun σ H Q h=>k σ H _ h
theorem at_cmp {op:CmpOp} {r:R2} {f:F2} (ho:OpR X (compareOp op) r) (os:OpS X.K r f) (ha:PE X a (cE X.K W ma)) (hb:PE X b (cE X.K W mb)) (hm:behindInMarks op b=false):PT X (.Compare a [op] [b] pos) (cT X.K W (mB (mOp f ma mb))) :=
 PT.weak (pt_cmpR ho ha hb hm) fun σ H Q h=>tTest_mono (c_op os) σ H Q (c_tTest σ H Q h)
def mChain (f f':F2) (ma mb mc:ME):ME := fun s A Q E=>ma s A (fun x A1=>mb s A1 (fun y A2=>f x y A2 fun z A3=>∃ k,z = .bl k∧(if k=true then mc s A3 (fun w A4=>f' y w A4 Q) E else Q (.bl false) A3)) E) E
theorem c_chain {K:PySem.W.Frag} {r r':R2} {f f':F2} (os:OpS K r f) (os':OpS K r' f'):∀ σ H Q,cE K W (mChain f f' ma mb mc) σ H Q→tChain r r' (cE K W ma) (cE K W mb) (cE K W mc) σ H Q := fun σ H Q ⟨g,s,A,Qa,Ea,w,r,h,q,qx⟩ =>
 ⟨g,s,A,_,Ea,w,r,h,fun g1 A1 H1 x dx st1 w1 rx h1=>⟨g1,s,A1,_,Ea,w1,r.mono st1.le,h1,fun g2 A2 H2 y dy st2 w2 ry h2=>os g2 A2 H2 x y dx dy _ _ w2 (rx.mono st2.le) ry h2 fun g3 A3 H3 z dz st3 w3 rz ⟨k,ek,h3⟩=>⟨k,by rw [ek] at rz; exact rz.bl_,by
  have st := (st1.trans st2).trans st3
  cases k with
  | true=>exact iteT ⟨g3,s,A3,_,Ea,w3,r.mono st.le,h3,fun g4 A4 H4 u du st4 w4 ru h4=>os' g4 A4 H4 y u dy du Qa Q w4 (ry.mono (st3.trans st4).le) ru h4 (q.step (st.trans st4)),qx.step st⟩
  | false=>exact iteF (q _ _ _ _ _ st w3 (.bl false) h3)⟩,qx.step st1⟩,qx⟩
theorem ae_chain {op op':CmpOp} {r r':R2} {f f':F2} (ho:OpR X (compareOp op) r) (ho':OpR X (compareOp op') r') (os:OpS X.K r f) (os':OpS X.K r' f') (ha:PE X a (cE X.K W ma)) (hb:PE X b (cE X.K W mb)) (hc:PE X c (cE X.K W mc)) (hm:lastMarks [op,op'] [b,c]=false := by with_unfolding_all rfl):PE X (.Compare a [op,op'] [b,c] pos) (cE X.K W (mChain f f' ma mb mc)) := PE.weak (pe_chain ho ho' ha hb hc hm) (c_chain os os')
theorem at_chain {op op':CmpOp} {r r':R2} {f f':F2} (ho:OpR X (compareOp op) r) (ho':OpR X (compareOp op') r') (os:OpS X.K r f) (os':OpS X.K r' f') (ha:PE X a (cE X.K W ma)) (hb:PE X b (cE X.K W mb)) (hc:PE X c (cE X.K W mc)) (hm:lastMarks [op,op'] [b,c]=false := by with_unfolding_all rfl):PT X (.Compare a [op,op'] [b,c] pos) (cT X.K W (mB (mChain f f' ma mb mc))) :=
 PT.weak (pt_chain ho ho' ha hb hc hm) fun σ H Q h=>tTest_mono (c_chain os os') σ H Q (c_tTest σ H Q h)
def mAnd (t u:MT):MT := fun s A Q E=>t s A (fun b A1=>if b=true then u s A1 Q E else Q false A1) E
def mOr (t u:MT):MT := fun s A Q E=>t s A (fun b A1=>if b=true then Q true A1 else u s A1 Q E) E
def mNot (t:MT):MT := fun s A Q E=>t s A (fun b A1=>Q (!b) A1) E
section
variable {K:PySem.W.Frag} {t u:MT}
theorem c_and:∀ σ H Q,cT K W (mAnd t u) σ H Q→tAnd (cT K W t) (cT K W u) σ H Q := fun σ H Q ⟨g,s,A,Qa,Ea,w,r,h,q,qx⟩ =>
 ⟨g,s,A,_,Ea,w,r,h,fun g1 A1 H1 b st1 w1 h1=>by
  cases b with
  | true=>exact iteT ⟨g1,s,A1,Qa,Ea,w1,r.mono st1.le,h1,fun g2 A2 H2 b st2 w2 h2=>q g2 A2 H2 b (st1.trans st2) w2 h2,qx.step st1⟩
  | false=>exact iteF (q g1 A1 H1 false st1 w1 h1),qx⟩
theorem c_or:∀ σ H Q,cT K W (mOr t u) σ H Q→tOr (cT K W t) (cT K W u) σ H Q := fun σ H Q ⟨g,s,A,Qa,Ea,w,r,h,q,qx⟩ =>
 ⟨g,s,A,_,Ea,w,r,h,fun g1 A1 H1 b st1 w1 h1=>by
  cases b with
  | true=>exact iteT (q g1 A1 H1 true st1 w1 h1)
  | false=>exact iteF ⟨g1,s,A1,Qa,Ea,w1,r.mono st1.le,h1,fun g2 A2 H2 b st2 w2 h2=>q g2 A2 H2 b (st1.trans st2) w2 h2,qx.step st1⟩,qx⟩
theorem c_not:∀ σ H Q,cT K W (mNot t) σ H Q→tNot (cT K W t) σ H Q := fun σ H Q ⟨g,s,A,Qa,Ea,w,r,h,q,qx⟩ =>
 ⟨g,s,A,_,Ea,w,r,h,fun g1 A1 H1 b st1 w1 h1=>q g1 A1 H1 (!b) st1 w1 h1,qx⟩
end
theorem PW.weak {t t':TT} (h:PW X e t) (k:∀ σ H Q,t' σ H Q→t σ H Q):PW X e t' := ⟨fun wh pins s σ H Q I q=>h.run wh pins s σ H Q I (k σ H Q q)⟩
section
variable {t u:MT} {rest:List Expr}
theorem aw_and (ha:PT X a (cT X.K W t)) (hb:PW X (.BoolOp .And (b :: rest) pos) (cT X.K W u)):PW X (.BoolOp .And (a :: b :: rest) pos) (cT X.K W (mAnd t u)) := PW.weak (pw_and ha hb) c_and
theorem aw_or (ha:PT X a (cT X.K W t)) (hb:PW X (.BoolOp .Or (b :: rest) pos) (cT X.K W u)):PW X (.BoolOp .Or (a :: b :: rest) pos) (cT X.K W (mOr t u)) := PW.weak (pw_or ha hb) c_or
theorem at_not (ha:PT X a (cT X.K W t)):PT X (.UnaryOp .Not a pos) (cT X.K W (mNot t)) := PT.weak (pt_not ha) c_not
end
def mAndV (ma mb:ME):ME := fun s A Q E=>ma s A (fun x A1=>∃ c,x = .bl c∧if c=true then mb s A1 Q E else Q (.bl false) A1) E
def mIf (t:MT) (ma mb:ME):ME := fun s A Q E=>t s A (fun b A1=>if b=true then ma s A1 Q E else mb s A1 Q E) E
section
variable {rest:List Expr} {t:MT}
theorem ae_and (ha:PE X a (cE X.K W ma)) (hb:PE X (.BoolOp .And (b :: rest) pos) (cE X.K W mb)):PE X (.BoolOp .And (a :: b :: rest) pos) (cE X.K W (mAndV ma mb)) := PE.weak (pe_and ha hb) fun σ H Q ⟨g,s,A,Qa,Ea,w,r,h,q,qx⟩ =>
 ⟨g,s,A,_,Ea,w,r,h,fun g1 A1 H1 x dx st1 w1 rx ⟨k,ek,h1⟩=>⟨k,by rw [ek] at rx; exact rx.bl_,by
  cases k with
  | true=>exact iteT ⟨g1,s,A1,Qa,Ea,w1,r.mono st1.le,h1,q.step st1,qx.step st1⟩
  | false=>exact iteF (q _ _ _ _ _ st1 w1 (.bl false) h1)⟩,qx⟩
theorem ae_ifExp (hc:PT X c (cT X.K W t)) (ha:PE X a (cE X.K W ma)) (hb:PE X b (cE X.K W mb)):PE X (.IfExp c a b pos) (cE X.K W (mIf t ma mb)) := PE.weak (pe_ifExp hc ha hb) fun σ H Q ⟨g,s,A,Qa,Ea,w,r,h,q,qx⟩ =>
 ⟨g,s,A,_,Ea,w,r,h,fun g1 A1 H1 k st1 w1 h1=>by
  cases k with
  | true=>exact iteT ⟨g1,s,A1,Qa,Ea,w1,r.mono st1.le,h1,q.step st1,qx.step st1⟩
  | false=>exact iteF ⟨g1,s,A1,Qa,Ea,w1,r.mono st1.le,h1,q.step st1,qx.step st1⟩,qx⟩
end
def mNil:MA := fun _ A Q _=>Q [] A
def mCons (m:ME) (r:MA):MA := fun s A Q E=>m s A (fun x A1=>r s A1 (fun xs A2=>Q (x :: xs) A2) E) E
theorem aa_nil:PA X [] (cA X.K W mNil) := PA.weak pa_nil fun σ H Q ⟨g,s,A,Qa,Ea,w,r,h,q,qx⟩=>q g A H [] [] .refl w .nil h
theorem aa_cons {es:List Expr} {mr:MA} (he:PE X e (cE X.K W m)) (hs:PA X es (cA X.K W mr)) (h1:starEach (e :: es) X.env=(false,eval e X.env) :: starEach es X.env := by rfl):PA X (e :: es) (cA X.K W (mCons m mr)) := PA.weak (pa_cons he hs h1) fun σ H Q ⟨g,s,A,Qa,Ea,w,r,h,q,qx⟩ =>
 ⟨g,s,A,_,Ea,w,r,h,fun g1 A1 H1 x dx st1 w1 rx h1=>⟨g1,s,A1,_,Ea,w1,r.mono st1.le,h1,fun g2 A2 H2 xs ds st2 w2 rs h2=>q g2 A2 H2 _ _ (st1.trans st2) w2 (.cons (rx.mono st2.le) rs) h2,qx.step st1⟩,qx⟩
def itL (A:AH):D→Option (List D)
 | .lst xs=>some xs
 | .ref n=>match A n with
  | some (.lst xs)=>some xs
  | _=>none
 | _=>none
def itS (A:AH):D→Option (List D)
 | .tup xs=>some xs
 | .ktup xs=>some xs
 | d=>itL A d
theorem Wr.getL {K:PySem.W.Frag} {g:Sg} {A:AH} {H:Hp} {v:V} {d:D} {xs:List D} (w:Wr K g A H) (r:Rep K g v d) (h:itL A d=some xs):∃ a vs,v = .ref a∧Rd H a (.lst vs)∧Reps K g vs xs := by
 cases r with
 | lst h1 h2=>cases h; exact ⟨_,_,rfl,w.sub.rd h1,h2⟩
 | ref h1 =>
  rename_i a n
  unfold itL at h
  simp only at h
  split at h
  ·rename_i ys e
   cases h
   obtain ⟨b,q1,q2,vs,q3,q4⟩ := w.nd n _ e
   rw [h1] at q1; cases q1
   exact ⟨a,vs,rfl, .inl q3,q4⟩
  ·cases h
 | _=>cases h
theorem Wr.getS {K:PySem.W.Frag} {g:Sg} {A:AH} {H:Hp} {v:V} {d:D} {xs:List D} (w:Wr K g A H) (r:Rep K g v d) (h:itS A d=some xs):∃ a vs,v = .ref a∧(SqL K H a vs∨SqT K H a vs)∧Reps K g vs xs := by
 cases r with
 | tup h1 h2=>cases h; exact ⟨_,_,rfl, .inr (w.sub.sqt (.inl (.inl h1))),h2⟩
 | ktup h1 h2=>cases h; exact ⟨_,_,rfl, .inr (w.sub.sqt h1),h2⟩
 | lst h1 h2=>obtain ⟨a,vs,h3,h4,h5⟩ := w.getL (.lst h1 h2) h; exact ⟨a,vs,h3, .inl (.inl h4),h5⟩
 | ref h1=>obtain ⟨a,vs,h3,h4,h5⟩ := w.getL (.ref h1) h; exact ⟨a,vs,h3, .inl (.inl h4),h5⟩
 | _=>cases h
def mStar (m:ME) (r:MA):MA := fun s A Q E=>m s A (fun x A1=>∃ xs,itS A1 x=some xs∧r s A1 (fun ys A2=>Q (xs ++ ys) A2) E) E
theorem aa_star {es:List Expr} {p:Pos} {mr:MA} (he:PE X e (cE X.K W m)) (hs:PA X es (cA X.K W mr)) (h1:starEach (.Starred e p :: es) X.env=(true,eval e X.env) :: starEach es X.env := by rfl):PA X (.Starred e p :: es) (cA X.K W (mStar m mr)) := PA.weak (StX.pa_star he hs h1) fun σ H Q ⟨g,s,A,Qa,Ea,w,r,h,q,qx⟩ =>
 ⟨g,s,A,_,Ea,w,r,h,fun g1 A1 H1 x dx st1 w1 rx ⟨xs,h0,h1⟩=>by
  obtain ⟨a,vs,e1,e2,e3⟩ := w1.getS rx h0
  exact ⟨a,vs,e1,e2.symm,g1,s,A1,_,Ea,w1,r.mono st1.le,h1,fun g2 A2 H2 ys ds st2 w2 rs h2=>q g2 A2 H2 _ _ (st1.trans st2) w2 ((e3.mono st2.le).app rs) h2,qx.step st1⟩,qx⟩
def mTup (r:MA):ME := fun s A Q E=>r s A (fun ds A1=>ds.length≤sizeLine∧Q (.tup ds) A1) E
def mLst (r:MA):ME := fun s A Q E=>r s A (fun ds A1=>ds.length≤sizeLine∧Q (.lst ds) A1) E
def newL (ds:List D) (A:AH) (Q:QE):Prop := ∀ n,A n=none→Q (.ref n) (put A n (.lst ds))
def mLstM (r:MA):ME := fun s A Q E=>r s A (fun ds A1=>ds.length≤sizeLine∧newL ds A1 Q) E
section
variable {es:List Expr} {mr:MA}
theorem ae_tup {k:Nat} (h:PA X es (cA X.K W mr)):PE X (.Tuple es k pos) (cE X.K W (mTup mr)) := PE.weak (pe_tup h) fun σ H Q ⟨g,s,A,Qa,Ea,w,r,h,q,qx⟩ =>
 ⟨g,s,A,_,Ea,w,r,h,fun g1 A1 H1 xs ds st1 w1 rs ⟨hl,h1⟩=>⟨by rw [rs.len]; exact hl,fun p np=>by
  obtain ⟨w2,st2⟩ := w1.new (o := .tup xs) np
  exact q _ _ _ _ _ (st1.trans st2) w2 (.tup upd_same (rs.mono st2.le)) h1⟩,qx⟩
theorem ae_lst (h:PA X es (cA X.K W mr)):PE X (.List es pos) (cE X.K W (mLst mr)) := PE.weak (pe_lst h) fun σ H Q ⟨g,s,A,Qa,Ea,w,r,h,q,qx⟩ =>
 ⟨g,s,A,_,Ea,w,r,h,fun g1 A1 H1 xs ds st1 w1 rs ⟨hl,h1⟩=>⟨by rw [rs.len]; exact hl,fun p np=>by
  obtain ⟨w2,st2⟩ := w1.new (o := .lst xs) np
  exact q _ _ _ _ _ (st1.trans st2) w2 (.lst (.inl upd_same) (rs.mono st2.le)) h1⟩,qx⟩
end
theorem newL_ok {K:PySem.W.Frag} {g:Sg} {A:AH} {H:Hp} {p:Addr} {vs:List V} {ds:List D} {Qa:QE} {Q:VK} (w:Wr K g A H) (np:H p=none) (r:Reps K g vs ds) (h:newL ds A Qa) (q:Post K g A H Qa Q):Q (.ref p) (upd H p (.lst vs)) := by
 obtain ⟨n,h1,h2,w2,st2⟩ := w.node (o := .lst vs) (x := .lst ds) np fun g' e=>⟨vs,upd_same,r.mono e⟩
 exact q _ _ _ _ _ st2 w2 (.ref (if_pos rfl)) (h n h1)
theorem ae_lstM {es:List Expr} {mr:MA} (h:PA X es (cA X.K W mr)):PE X (.List es pos) (cE X.K W (mLstM mr)) := PE.weak (pe_lst h) fun σ H Q ⟨g,s,A,Qa,Ea,w,r,h,q,qx⟩ =>
 ⟨g,s,A,_,Ea,w,r,h,fun g1 A1 H1 xs ds st1 w1 rs ⟨hl,h1⟩=>⟨by rw [rs.len]; exact hl,fun p np=>newL_ok w1 np rs h1 (q.step st1)⟩,qx⟩
end
end Am
namespace Am
open PySem PySem.Spec PyProof.Rows L2
open Fm (same_new rEqP rNeP rInP rCatR rAddA rSlA rIsNA rNotNA rListOf rTupOf rAllA rLenA rInt1 rSubI rMulA rDivA rModA rPowA rLeA rGtA rGeA rNegA rJoinA)
section
variable {K:PySem.W.Frag} {g:Sg} {A:AH} {H:Hp} {v:V} {d:D}
def fI (C:Int→Int→Prop) (h:Int→Int→D):F2 := fun x y A Q=>∃ i j,x = .int i∧y = .int j∧C i j∧Q (h i j) A
def fI0 (h:Int→Int→D):F2 := fun x y A Q=>∃ i j,x = .int i∧y = .int j∧Q (h i j) A
theorem os_I {C:Int→Int→Prop} {hV:Int→Int→V} {h:Int→Int→D} (r:∀ g i j,Rep K g (hV i j) (h i j)):OpS K (rI C hV) (fI C h) := fun g A H x y dx dy Qa Q w rx ry ⟨i,j,e1,e2,hc,q⟩ p=>by
 subst e1; subst e2
 exact ⟨i,j,rx.int_,ry.int_,hc,p.now w (r g i j) q⟩
theorem os_I0 {hV:Int→Int→V} {h:Int→Int→D} (r:∀ g i j,Rep K g (hV i j) (h i j)):OpS K (rI0 hV) (fI0 h) := fun g A H x y dx dy Qa Q w rx ry ⟨i,j,e1,e2,q⟩ p=>by
 subst e1; subst e2
 exact ⟨i,j,rx.int_,ry.int_,p.now w (r g i j) q⟩
def fSub:F2 := fI0 fun i j=>.int (i - j)
def fPow:F2 := fI CPow fun i j=>.int (i ^ j.toNat)
def fLe:F2 := fI0 fun i j=>.bl (decide (i≤j))
def fGt:F2 := fI0 fun i j=>.bl (decide (j < i))
theorem os_sub:OpS K rSubI fSub := os_I0 fun _ _ _=>.int _
theorem os_pow:OpS K rPowA fPow := os_I fun _ _ _=>.int _
theorem os_le:OpS K rLeA fLe := os_I0 fun _ _ _=>.bl _
theorem os_gt:OpS K rGtA fGt := os_I0 fun _ _ _=>.bl _
def fNeg:F1 := fun x A Q=>∃ i,x = .int i∧Q (.int (-i)) A
theorem us_neg:UnS K rNegA fNeg := fun g A H x dx Qa Q w rx ⟨i,e,q⟩ p=>by
 subst e
 exact ⟨i,rx.int_,p.now w (.int _) q⟩
def fAddG (cat:List D→AH→QE→Prop):F2 := fun x y A Q=>match x with
 | .int i=>∃ j,y = .int j∧Q (.int (i + j)) A
 | .str a=>∃ b,y = .str b∧a.length + b.length≤sizeLine∧Q (.str (a ++ b)) A
 | x=>∃ xs ys,itL A x=some xs∧itL A y=some ys∧xs.length + ys.length≤sizeLine∧cat (xs ++ ys) A Q
def oldL (ds:List D) (A:AH) (Q:QE):Prop := Q (.lst ds) A
def MkL (K:PySem.W.Frag) (f:List D→AH→QE→Prop):Prop := ∀ g A H p vs ds Qa Q,Wr K g A H→H p=none→Reps K g vs ds→f ds A Qa→Post K g A H Qa Q→Q (.ref p) (upd H p (.lst vs))
theorem mk_old:MkL K oldL := fun g A H p vs ds Qa Q w np r h q=>by
 obtain ⟨w2,st2⟩ := w.new (o := .lst vs) np
 exact q _ _ _ _ _ st2 w2 (.lst (.inl upd_same) (r.mono st2.le)) h
theorem mk_new:MkL K newL := fun g A H p vs ds Qa Q w np r h q=>newL_ok w np r h q
def fAdd:F2 := fAddG oldL
theorem os_addG {cat:List D→AH→QE→Prop} (mk:MkL K cat):OpS K (rAddA) (fAddG cat) := fun g A H x y dx dy Qa Q w rx ry h p=>by
 have fin:(∃ xs ys,itL A dx=some xs∧itL A dy=some ys∧xs.length + ys.length≤sizeLine∧cat (xs ++ ys) A Qa)→rAddA x y H Q := fun ⟨xs,ys,e1,e2,hl,q⟩=>by
  obtain ⟨a,vs,rfl,h1,h2⟩ := w.getL rx e1
  obtain ⟨b,us,rfl,h3,h4⟩ := w.getL ry e2
  exact .inr (.inr ⟨a,b,vs,us,rfl,rfl,h1,h3,by rw [h2.len,h4.len]; exact hl,fun q' nq=>mk g A H q' _ _ Qa Q w nq (h2.app h4) q p⟩)
 cases dx with
 | int i=>obtain ⟨j,e,q⟩ := h; subst e; exact .inl ⟨i,j,rx.int_,ry.int_,p.now w (.int _) q⟩
 | str i=>obtain ⟨j,e,hl,q⟩ := h; subst e; exact .inr (.inl ⟨i,j,rx.str_,ry.str_,hl,p.now w (.str _) q⟩)
 | _=>exact fin h
theorem os_add:OpS K (rAddA) fAdd := os_addG mk_old
mutual
def toP:D→Option PyData
 | .non=>some .none
 | .bl b=>some (.bool b)
 | .int i=>some (.int i)
 | .str x=>some (.str x)
 | .tup xs=>(toPs xs).map .tuple
 | .ktup xs=>(toPs xs).map .tuple
 | .lst xs=>(toPs xs).map .list
 | _=>none
def toPs:List D→Option (List PyData)
 | []=>some []
 | x :: xs=>(toP x).bind fun p=>(toPs xs).map fun ps=>p :: ps
end
def toPA (A:AH):D→Option PyData
 | .ref n=>match A n with
  | some (.lst xs)=>(toPs xs).map .list
  | _=>none
 | d=>toP d
mutual
theorem Rep.dp (s:Sub g.S H):∀ {v:V} {d:D} {p:PyData},Rep K g v d→toP d=some p→Dp K H v p
 | _,_,_, .non,e=>by cases e; exact .non
 | _,_,_, .bl b,e=>by cases e; exact .bl b
 | _,_,_, .int b,e=>by cases e; exact .int b
 | _,_,_, .str b,e=>by cases e; exact .str b
 | _,_,_, .ty b,e=>by cases e
 | _,_,_, .cls b,e=>by cases e
 | _,_,_, .tup (ds := ds) h r,e=>by
  unfold toP at e
  cases q:toPs ds with
  | none=>rw [q] at e; cases e
  | some ps=>rw [q] at e; cases e; exact .tup (s.sqt (.inl (.inl h))) (Reps.dp s r q)
 | _,_,_, .ktup (ds := ds) h r,e=>by
  unfold toP at e
  cases q:toPs ds with
  | none=>rw [q] at e; cases e
  | some ps=>rw [q] at e; cases e; exact .tup (s.sqt h) (Reps.dp s r q)
 | _,_,_, .lst (ds := ds) h r,e=>by
  unfold toP at e
  cases q:toPs ds with
  | none=>rw [q] at e; cases e
  | some ps=>rw [q] at e; cases e; exact .lst (.inl (s.rd h)) (Reps.dp s r q)
 | _,_,_, .dK _ _ _,e=>by cases e
 | _,_,_, .dT _ _ _,e=>by cases e
 | _,_,_, .ins _ _ _,e=>by cases e
 | _,_,_, .exn _ _ _,e=>by cases e
 | _,_,_, .scr _,e=>by cases e
 | _,_,_, .ref _,e=>by cases e
theorem Reps.dp (s:Sub g.S H):∀ {vs:List V} {ds:List D} {ps:List PyData},Reps K g vs ds→toPs ds=some ps→DpAll K H vs ps
 | _,_,_, .nil,e=>by cases e; exact .nil
 | _,_,_, .cons (d := d) (ds := ds) h r,e=>by
  unfold toPs at e
  cases q:toP d with
  | none=>rw [q] at e; cases e
  | some p =>
   rw [q] at e
   cases q2:toPs ds with
   | none=>rw [q2] at e; cases e
   | some ps=>rw [q2] at e; cases e; exact .cons (Rep.dp s h q) (Reps.dp s r q2)
end
theorem Wr.dp {p:PyData} (w:Wr K g A H) (r:Rep K g v d) (h:toPA A d=some p):Dp K H v p := by
 cases d with
 | ref n =>
  unfold toPA at h
  simp only at h
  split at h
  ·rename_i xs e
   obtain ⟨a,vs,rfl,h1,h2⟩ := w.getL (xs := xs) r (by unfold itL; simp only [e])
   cases q:toPs xs with
   | none=>rw [q] at h; cases h
   | some ps=>rw [q] at h; cases h; exact .lst (.inl h1) (Reps.dp w.sub h2 q)
  ·cases h
 | _=>exact Rep.dp w.sub r h
def fEq (neg:Bool):F2 := fun x y A Q=>∃ p q,toPA A x=some p∧toPA A y=some q∧p.plain=true∧q.plain=true∧min p.depth q.depth≤60∧Q (.bl (PyData.eqv p q != neg)) A
theorem os_eq:OpS K (rEqP K) (fEq false) := fun g A H x y dx dy Qa Q w rx ry ⟨p,q,h1,h2,h3,h4,h5,h6⟩ po=>⟨p,q,w.dp rx h1,w.dp ry h2,h3,h4,h5,po.now w (.bl _) (by simpa using h6)⟩
theorem os_ne:OpS K (rNeP K) (fEq true) := fun g A H x y dx dy Qa Q w rx ry ⟨p,q,h1,h2,h3,h4,h5,h6⟩ po=>⟨p,q,w.dp rx h1,w.dp ry h2,h3,h4,h5,po.now w (.bl _) (by simpa using h6)⟩
def fIn (neg:Bool):F2 := fun x y A Q=>match y with
 | .str z=>∃ c,x = .str ⟨#[c]⟩∧Q (.bl (decide (c∈z.cps.toList) != neg)) A
 | y=>∃ ys p ps,itS A y=some ys∧toPA A x=some p∧toPs ys=some ps∧p.plain=true∧PyData.plainAll ps=true∧p.depth≤60∧Q (.bl (ps.any (fun z=>PyData.eqv z p) != neg)) A
theorem os_in {neg:Bool}:OpS K (rInP K neg) (fIn neg) := fun g A H x y dx dy Qa Q w rx ry h po=>by
 have fin:(∃ ys p ps,itS A dy=some ys∧toPA A dx=some p∧toPs ys=some ps∧p.plain=true∧PyData.plainAll ps=true∧p.depth≤60∧Qa (.bl (ps.any (fun z=>PyData.eqv z p) != neg)) A)→rInP K neg x y H Q := fun ⟨ys,p,ps,h1,h2,h3,h4,h5,h6,h7⟩=>by
  obtain ⟨a,vs,rfl,hs,hr⟩ := w.getS ry h1
  refine .inl ⟨p,ps,w.dp rx h2, ?_,h4,h5,h6,po.now w (.bl _) (by cases neg <;> simpa using h7)⟩
  rcases hs with hs | hs
  ·exact .inl (.lst hs (Reps.dp w.sub hr h3))
  ·exact .inr (.tup hs (Reps.dp w.sub hr h3))
 cases dy with
 | str z =>
  obtain ⟨c,e,q⟩ := h
  subst e
  exact .inr ⟨c,z,rx.str_,ry.str_,po.now w (.bl _) (by cases neg <;> simpa using q)⟩
 | _=>exact fin h
def isNon:D→Bool
 | .non=>true
 | _=>false
theorem isNon_ok (r:Rep K g v d):decide (v = .non)=isNon d := by cases r <;> rfl
def fIsN:F2 := fun x y A Q=>y = .non∧Q (.bl (isNon x)) A
def fNotN:F2 := fun x y A Q=>y = .non∧Q (.bl (!isNon x)) A
theorem os_isN:OpS K rIsNA fIsN := fun g A H x y dx dy Qa Q w rx ry ⟨e,q⟩ po=>by subst e; exact ⟨ry.non_,po.now w (.bl _) (by rw [isNon_ok rx]; exact q)⟩
theorem os_notN:OpS K rNotNA fNotN := fun g A H x y dx dy Qa Q w rx ry ⟨e,q⟩ po=>by subst e; exact ⟨ry.non_,po.now w (.bl _) (by rw [isNon_ok rx]; exact q)⟩
theorem Reps.atI {vs:List V} {ds:List D} {i:Int} {d:D} (h:Reps K g vs ds) (e:L2.atI ds i=some d):∃ v,L2.atI vs i=some v∧Rep K g v d := by
 unfold L2.atI at e ⊢
 rw [h.len]
 cases q:ixN ds.length i with
 | none=>rw [q] at e; cases e
 | some j=>rw [q] at e; exact h.at_ e
def fIx:F2 := fun x y A Q=>match x with
 | .str z=>∃ i c,y = .int i∧z.length≤sizeLine∧L2.atI z.cps.toList i=some c∧Q (.str ⟨#[c]⟩) A
 | x=>∃ xs i d,itS A x=some xs∧y = .int i∧L2.atI xs i=some d∧Q d A
theorem os_ix:OpS K (rIx K) fIx := fun g A H x y dx dy Qa Q w rx ry h po=>by
 have fin:(∃ xs i d,itS A dx=some xs∧dy = .int i∧L2.atI xs i=some d∧Qa d A)→rIx K x y H Q := fun ⟨xs,i,d,h1,h2,h3,h4⟩=>by
  subst h2
  obtain ⟨a,vs,rfl,hs,hr⟩ := w.getS rx h1
  obtain ⟨v,e1,e2⟩ := hr.atI h3
  rcases hs with hs | hs
  ·exact .inl ⟨a,vs,i,v,rfl,ry.int_,hs,e1,po.now w e2 h4⟩
  ·exact .inr (.inl ⟨a,vs,i,v,rfl,ry.int_,hs,e1,po.now w e2 h4⟩)
 cases dx with
 | str z =>
  obtain ⟨i,c,e,hz,h1,q⟩ := h
  subst e
  exact .inr (.inr ⟨z,i,c,rx.str_,ry.int_,hz,h1,po.now w (.str _) q⟩)
 | _=>exact fin h
def fLen:List D→AH→QE→Prop := fun ds A Q=>∃ x,ds=[x]∧match x with
 | .str z=>z.length≤sizeLine∧Q (.int z.length) A
 | x=>∃ xs,itS A x=some xs∧Q (.int xs.length) A
theorem Reps.one {vs:List V} (h:Reps K g vs [d]):∃ v,vs=[v]∧Rep K g v d := by
 cases h with
 | cons h r=>cases r; exact ⟨_,rfl,h⟩
theorem cs_len:CallS K (rLenA K) fLen := fun g A H xs ds Qa Q w rs ⟨x,e,h⟩ po=>by
 subst e
 obtain ⟨v,rfl,r⟩ := rs.one
 have fin:(∃ xs,itS A x=some xs∧Qa (.int xs.length) A)→rLenA K [v] H Q := fun ⟨xs,h1,h2⟩=>by
  obtain ⟨a,vs,rfl,hs,hr⟩ := w.getS r h1
  refine ⟨_,xs.length,rfl, ?_,po.now w (.int _) h2⟩
  rcases hs with hs | hs
  ·exact .inl ⟨vs,hs,hr.len.symm⟩
  ·exact .inr ⟨vs,hs,hr.len.symm⟩
 cases x with
 | str z=>rw [r.str_]; exact ⟨_,z.length,rfl,⟨h.1,rfl⟩,po.now w (.int _) h.2⟩
 | _=>exact fin h
def fListG (mk:List D→AH→QE→Prop):List D→AH→QE→Prop := fun ds A Q=>∃ x xs,ds=[x]∧itS A x=some xs∧mk xs A Q
def fList := fListG oldL
def fListM := fListG newL
theorem cs_listG {mk:List D→AH→QE→Prop} (m:MkL K mk):CallS K (rListOf K) (fListG mk) := fun g A H xs ds Qa Q w rs ⟨x,ys,e,h1,h2⟩ po=>by
 subst e
 obtain ⟨v,rfl,r⟩ := rs.one
 obtain ⟨a,vs,rfl,hs,hr⟩ := w.getS r h1
 exact ⟨a,vs,rfl,hs,fun l nl=>m g A H l vs ys Qa Q w nl hr h2 po⟩
theorem cs_list:CallS K (rListOf K) fList := cs_listG mk_old
theorem cs_listM:CallS K (rListOf K) fListM := cs_listG mk_new
def fTupOf:List D→AH→QE→Prop := fun ds A Q=>∃ x,ds=[x]∧match x with
 | .tup xs=>Q (.tup xs) A
 | x=>∃ xs,itL A x=some xs∧Q (.tup xs) A
theorem cs_tup:CallS K (rTupOf K) fTupOf := fun g A H xs ds Qa Q w rs ⟨x,e,h⟩ po=>by
 subst e
 obtain ⟨v,rfl,r⟩ := rs.one
 have fin:(∃ xs,itL A x=some xs∧Qa (.tup xs) A)→rTupOf K [v] H Q := fun ⟨xs,h1,h2⟩=>by
  obtain ⟨a,vs,rfl,hs,hr⟩ := w.getL r h1
  refine ⟨a,vs,rfl, .inl ⟨.inl hs,fun l nl=>?_⟩⟩
  obtain ⟨w2,st2⟩ := w.new (o := .tup vs) nl
  exact po _ _ _ _ _ st2 w2 (.tup upd_same (hr.mono st2.le)) h2
 cases x with
 | tup ys =>
  cases r with
  | tup h1 h2=>exact ⟨_,_,rfl, .inr ⟨w.sub.sqt (.inl (.inl h1)),po.now w (.tup h1 h2) h⟩⟩
 | _=>exact fin h
def allBD:List D→Option Bool
 | []=>some true
 | .bl b :: r=>(allBD r).map fun c=>b && c
 | _=>none
theorem allBD_ok:∀ {vs:List V} {ds:List D} {b:Bool},Reps K g vs ds→allBD ds=some b→∃ bs:List Bool,vs=bs.map V.bl∧bs.all id=b
 | _,_,_, .nil,e=>by cases e; exact ⟨[],rfl,rfl⟩
 | _,_,_, .cons (d := d) (ds := ds) h r,e=>by
  cases d with
  | bl c =>
   unfold allBD at e
   cases q:allBD ds with
   | none=>rw [q] at e; cases e
   | some b' =>
    rw [q] at e; cases e
    obtain ⟨bs,e1,e2⟩ := allBD_ok r q
    exact ⟨c :: bs,by rw [h.bl_,e1]; rfl,by rw [List.all_cons,e2]; rfl⟩
  | _=>cases e
def fAll:List D→AH→QE→Prop := fun ds A Q=>∃ x xs b,ds=[x]∧itL A x=some xs∧allBD xs=some b∧Q (.bl b) A
theorem cs_all:CallS K (rAllA K) fAll := fun g A H xs ds Qa Q w rs ⟨x,ys,b,e,h1,h2,h3⟩ po=>by
 subst e
 obtain ⟨v,rfl,r⟩ := rs.one
 obtain ⟨a,vs,rfl,hs,hr⟩ := w.getL r h1
 obtain ⟨bs,rfl,rfl⟩ := allBD_ok hr h2
 exact ⟨a,bs,rfl, .inl hs,po.now w (.bl _) h3⟩
end
section
variable {X:Cx} {e:Expr} {es:List Expr} {W:WX} {p pos:Pos} {x:Str} {mr:MA}
def mCB (f:List D→AH→QE→Prop) (r:MA):ME := fun s A Q E=>r s A (fun ds A1=>f ds A1 Q) E
theorem c_cb {K:PySem.W.Frag} {r:List V→Hp→VK→Prop} {f:List D→AH→QE→Prop} (cs:CallS K r f):∀ σ H Q,cE K W (mCB f mr) σ H Q→tCB r (cA K W mr) σ H Q := fun σ H Q ⟨g,s,A,Qa,Ea,w,rs,h,q,qx⟩ =>
 ⟨g,s,A,_,Ea,w,rs,h,fun g1 A1 H1 vs ds st1 w1 r1 h1=>cs g1 A1 H1 vs ds Qa Q w1 r1 h1 (q.step st1),qx⟩
end
end Am
namespace Am
open PySem PySem.Spec PyProof.Rows L2
open Fm (same_new rSlA rJoinA)
section
variable {K:PySem.W.Frag} {g g':Sg} {A:AH} {H:Hp} {v:V} {d:D} {W:WX} {m ma mb mc:ME} {κ:Type} [DecidableEq κ]
def KReps (K:PySem.W.Frag) (g:Sg) (kvs:List (κ × V)) (ds:List (κ × D)):Prop := kvs.map (·.1)=ds.map (·.1)∧Reps K g (kvs.map (·.2)) (ds.map (·.2))
theorem KReps.nil:KReps K g ([]:List (κ × V)) [] := ⟨rfl, .nil⟩
theorem KReps.ind:∀ {kvs:List (κ × V)} {ds:List (κ × D)},KReps K g kvs ds→(kvs=[]∧ds=[])∨∃ k v d kr dr,kvs=(k,v) :: kr∧ds=(k,d) :: dr∧Rep K g v d∧KReps K g kr dr
 | [],[],_=>.inl ⟨rfl,rfl⟩
 | [],_ :: _,h=>by cases h.1
 | _ :: _,[],h=>by cases h.1
 | (k,v) :: kr,(k',d) :: dr,⟨h1,h2⟩=>by
  simp only [List.map_cons,List.cons.injEq] at h1
  obtain ⟨e,h1⟩ := h1
  subst e
  cases h2 with
  | cons h r=>exact .inr ⟨k,v,d,kr,dr,rfl,rfl,h,h1,r⟩
theorem KReps.cons {k:κ} {kvs:List (κ × V)} {ds:List (κ × D)} (r:Rep K g v d) (h:KReps K g kvs ds):KReps K g ((k,v) :: kvs) ((k,d) :: ds) := ⟨by simp [h.1], .cons r h.2⟩
theorem KReps.mono {kvs:List (κ × V)} {ds:List (κ × D)} (e:g.le g') (h:KReps K g kvs ds):KReps K g' kvs ds := ⟨h.1,h.2.mono e⟩
theorem KReps.len {kvs:List (κ × V)} {ds:List (κ × D)} (h:KReps K g kvs ds):kvs.length=ds.length := by
 have := congrArg List.length h.1
 simpa using this
theorem KReps.look {f:Str} {d:D}:∀ {kvs:List (Str × V)} {ds:List (Str × D)},KReps K g kvs ds→ds.lookup f=some d→∃ v,kvs.lookup f=some v∧Rep K g v d
 | kvs,ds,h,e=>by
  rcases h.ind with ⟨e1,e2⟩ | ⟨k,v,d',kr,dr,e1,e2,hr,ht⟩
  ·subst e2; cases e
  ·subst e1; subst e2
   rw [List.lookup_cons] at e ⊢
   cases q:(f == k) with
   | true=>rw [q] at e; cases e; exact ⟨v,rfl,hr⟩
   | false=>rw [q] at e; simp only at e ⊢; exact KReps.look ht e
 termination_by kvs=>kvs.length
 decreasing_by subst e1; simp
def valD (kvs:List (κ × D)) (k:κ):Option D := (kvs.find? fun kv=>decide (kv.1=k)).map (·.2)
def putD (kvs:List (κ × D)) (k:κ) (v:D):List (κ × D) :=
 if (kvs.any fun kv=>decide (kv.1=k))=true then kvs.map (fun kv=>if kv.1=k then (kv.1,v) else kv) else kvs ++ [(k,v)]
def dropD (kvs:List (κ × D)) (k:κ):List (κ × D) := kvs.filter fun kv=>decide (kv.1≠k)
theorem KReps.val {k:κ}:∀ {kvs:List (κ × V)} {ds:List (κ × D)},KReps K g kvs ds→Fm.Orel (fun d v=>Rep K g v d) (valD ds k) (valV kvs k)
 | kvs,ds,h=>by
  rcases h.ind with ⟨e1,e2⟩ | ⟨k',v,d',kr,dr,e1,e2,hr,ht⟩
  ·subst e1; subst e2; exact .no
  ·subst e1; subst e2
   unfold valD valV
   rw [List.find?_cons,List.find?_cons]
   by_cases q:k' = k
   ·simp only [q,decide_true,Option.map_some]; exact .yes hr
   ·simp only [q,decide_false]; exact KReps.val ht
 termination_by kvs=>kvs.length
 decreasing_by subst e1; simp
theorem KReps.any {k:κ}:∀ {kvs:List (κ × V)} {ds:List (κ × D)},KReps K g kvs ds→(kvs.any fun kv=>decide (kv.1=k))=(ds.any fun kv=>decide (kv.1=k))
 | kvs,ds,h=>by
  rcases h.ind with ⟨e1,e2⟩ | ⟨k',v,d',kr,dr,e1,e2,hr,ht⟩
  ·subst e1; subst e2; rfl
  ·subst e1; subst e2
   rw [List.any_cons,List.any_cons,KReps.any ht]
 termination_by kvs=>kvs.length
 decreasing_by subst e1; simp
theorem KReps.app:∀ {kvs kvs':List (κ × V)} {ds ds':List (κ × D)},KReps K g kvs ds→KReps K g kvs' ds'→KReps K g (kvs ++ kvs') (ds ++ ds') := fun h h'=>⟨by rw [List.map_append,List.map_append,h.1,h'.1],by rw [List.map_append,List.map_append]; exact h.2.app h'.2⟩
theorem KReps.put {k:κ} {kvs:List (κ × V)} {ds:List (κ × D)} (h:KReps K g kvs ds) (r:Rep K g v d):KReps K g (putK kvs k v) (putD ds k d) := by
 have mp:∀ {kvs:List (κ × V)} {ds:List (κ × D)},KReps K g kvs ds→KReps K g (kvs.map fun kv=>if kv.1=k then (kv.1,v) else kv) (ds.map fun kv=>if kv.1=k then (kv.1,d) else kv) := by
  intro kvs
  induction kvs with
  | nil =>
   intro ds h
   rcases h.ind with ⟨e1,e2⟩ | ⟨k',v',d',kr,dr,e1,e2,hr,ht⟩
   ·subst e2; exact .nil
   ·cases e1
  | cons p t ih =>
   intro ds h
   rcases h.ind with ⟨e1,e2⟩ | ⟨k',v',d',kr,dr,e1,e2,hr,ht⟩
   ·cases e1
   ·cases e1; subst e2
    rw [List.map_cons,List.map_cons]
    by_cases q:k' = k
    ·simp only [q,if_true]; exact (ih ht).cons r
    ·simp only [q,if_false]; exact (ih ht).cons hr
 unfold putK putD
 rw [h.any]
 split
 ·exact mp h
 ·exact h.app (KReps.nil.cons r)
theorem KReps.drop {k:κ} {kvs:List (κ × V)} {ds:List (κ × D)} (h:KReps K g kvs ds):KReps K g (dropK kvs k) (dropD ds k) := by
 unfold dropK dropD
 induction kvs generalizing ds with
 | nil =>
  rcases h.ind with ⟨e1,e2⟩ | ⟨k',v',d',kr,dr,e1,e2,hr,ht⟩
  ·subst e2; exact .nil
  ·cases e1
 | cons p t ih =>
  rcases h.ind with ⟨e1,e2⟩ | ⟨k',v',d',kr,dr,e1,e2,hr,ht⟩
  ·cases e1
  ·cases e1; subst e2
   rw [List.filter_cons,List.filter_cons]
   by_cases q:k' = k
   ·simp only [q,ne_eq,not_true_eq_false,decide_false,Bool.false_eq_true,if_false]; exact ih ht
   ·simp only [q,ne_eq,not_false_eq_true,decide_true,if_true]; exact (ih ht).cons hr
def insOf (A:AH):D→Option (Str × List (Str × D))
 | .ins c fs=>some (c,fs)
 | .ref n=>match A n with
  | some (.ins c fs)=>some (c,fs)
  | _=>none
 | _=>none
theorem Wr.ins {c:Str} {fs:List (Str × D)} (w:Wr K g A H) (r:Rep K g v d) (h:insOf A d=some (c,fs)):∃ a dx fvs,v = .ref a∧H a=some (.ins (He.ga K c) dx fvs)∧KReps K g fvs fs := by
 cases r with
 | ins h1 h2 h3=>cases h; exact ⟨_,_,_,rfl,w.sub.ins h1,h2,h3⟩
 | ref h1 =>
  rename_i a n
  unfold insOf at h
  simp only at h
  split at h
  ·rename_i c fs e
   cases h
   obtain ⟨b,q1,q2,dx,fvs,q3,q4,q5⟩ := w.nd n _ e
   rw [h1] at q1; cases q1
   exact ⟨a,dx,fvs,rfl,q3,q4,q5⟩
  ·cases h
 | _=>cases h
def mFld (cs:List Str) (f:Str) (m:ME):ME := fun s A Q E=>m s A (fun d A1=>∃ c fs v,insOf A1 d=some (c,fs)∧c∈cs∧fs.lookup f=some v∧Q v A1) E
theorem c_fld {cs:List Str} {f:Str} (hc:∀ c∈cs,Cls K (He.ga K c)∧NoAttr K (He.ga K c) f):∀ σ H Q,cE K W (mFld cs f m) σ H Q→tFld K (cE K W m) f σ H Q := fun σ H Q ⟨g,s,A,Qa,Ea,w,rs,h,q,qx⟩ =>
 ⟨g,s,A,_,Ea,w,rs,h,fun g1 A1 H1 x dx st1 w1 r1 ⟨c,fs,u,h1,h2,h3,h4⟩=>by
  obtain ⟨a,dd,fvs,rfl,q1,q2⟩ := w1.ins r1 h1
  obtain ⟨v,q3,q4⟩ := q2.look h3
  exact ⟨a,_,dd,fvs,v,rfl,q1,(hc c h2).1,(hc c h2).2,q3,q _ _ _ _ _ st1 w1 q4 h4⟩,qx⟩
abbrev MO := Sl→AH→(Option Int→AH→Prop)→QX→Prop
def cO (K:PySem.W.Frag) (W:WX) (m:MO):TO := fun σ H Q=>∃ g s A Qa Ea,Wr K g A H∧RepS K g σ s∧m s A Qa Ea∧(∀ g' A' H' o,Stp g A H g' A' H'→Wr K g' A' H'→Qa o A'→Q o H')∧PostX K g A H Ea (fun c d H'=>W c d σ H')
def mNoPart:MO := fun _ A Q _=>Q none A
def mPart (m:ME):MO := fun s A Q E=>m s A (fun d A1=>∃ i,d = .int i∧Q (some i) A1) E
theorem c_noPart:∀ σ H Q,cO K W mNoPart σ H Q→tNoPart σ H Q := fun σ H Q ⟨g,s,A,Qa,Ea,w,rs,h,q,qx⟩=>q g A H none .refl w h
theorem c_part:∀ σ H Q,cO K W (mPart m) σ H Q→tPart (cE K W m) σ H Q := fun σ H Q ⟨g,s,A,Qa,Ea,w,rs,h,q,qx⟩ =>
 ⟨g,s,A,_,Ea,w,rs,h,fun g1 A1 H1 x dx st1 w1 r1 ⟨i,e,h1⟩=>⟨i,by subst e; exact r1.int_,q g1 A1 H1 _ st1 w1 h1⟩,qx⟩
theorem PO.weak {X:Cx} {e:Option Expr} {t t':TO} (h:PO X e t) (k:∀ σ H Q,t' σ H Q→t σ H Q):PO X e t' := ⟨fun pins s σ H Q I q=>h.run pins s σ H Q I (k σ H Q q)⟩
def cutD (xs:List D) (lo hi:Option Int):List D := (xs.drop (HT.sIx xs.length 0 lo)).take (HT.sIx xs.length xs.length hi - HT.sIx xs.length 0 lo)
theorem Reps.cut {vs:List V} {ds:List D} {lo hi:Option Int} (h:Reps K g vs ds):Reps K g (cutV vs lo hi) (cutD ds lo hi) := by
 unfold cutV cutD
 rw [h.len]
 exact (h.drop_ _).take_ _
def fSlG (mk:List D→AH→QE→Prop) (x:D) (lo hi:Option Int) (A:AH) (Q:QE):Prop := match x with
 | .str z=>z.length≤sizeLine∧Q (.str (cutS z lo hi)) A
 | x=>∃ xs,itL A x=some xs∧mk (cutD xs lo hi) A Q
def mSlG (mk:List D→AH→QE→Prop) (m:ME) (lo hi:MO):ME := fun s A Q E=>m s A (fun x A1=>lo s A1 (fun l A2=>hi s A2 (fun h A3=>fSlG mk x l h A3 Q) E) E) E
def mSl := mSlG oldL
theorem c_slG {mk:List D→AH→QE→Prop} {lo hi:MO} (k:MkL K mk):∀ σ H Q,cE K W (mSlG mk m lo hi) σ H Q→tSl (Fm.rSlA K) (cE K W m) (cO K W lo) (cO K W hi) σ H Q := fun σ H Q ⟨g,s,A,Qa,Ea,w,rs,h,q,qx⟩ =>
 ⟨g,s,A,_,Ea,w,rs,h,fun g1 A1 H1 x dx st1 w1 r1 h1=>⟨g1,s,A1,_,Ea,w1,rs.mono st1.le,h1,fun g2 A2 H2 l st2 w2 h2=>⟨g2,s,A2,_,Ea,w2,rs.mono (st1.trans st2).le,h2,fun g3 A3 H3 hh st3 w3 h3=>by
  have r3 := r1.mono (st2.trans st3).le
  have st := (st1.trans st2).trans st3
  have fin:(∃ xs,itL A3 dx=some xs∧mk (cutD xs l hh) A3 Qa)→Fm.rSlA K x l hh H3 Q := fun ⟨xs,e1,e2⟩=>by
   obtain ⟨a,vs,rfl,q1,q2⟩ := w3.getL r3 e1
   exact .inl ⟨a,vs,rfl, .inl q1,fun p np=>k g3 A3 H3 p _ _ Qa Q w3 np q2.cut e2 (q.step st)⟩
  cases dx with
  | str z=>exact .inr ⟨z,r3.str_,h3.1,q _ _ _ _ _ st w3 (.str _) h3.2⟩
  | _=>exact fin h3,qx.step (st1.trans st2)⟩,qx.step st1⟩,qx⟩
theorem c_sl {lo hi:MO}:∀ σ H Q,cE K W (mSl m lo hi) σ H Q→tSl (Fm.rSlA K) (cE K W m) (cO K W lo) (cO K W hi) σ H Q := c_slG mk_old
def mRev (m:ME):ME := fun s A Q E=>m s A (fun x A1=>∃ xs,itL A1 x=some xs∧Q (.lst xs.reverse) A1) E
theorem c_rev:∀ σ H Q,cE K W (mRev m) σ H Q→tRevL K (cE K W m) σ H Q := fun σ H Q ⟨g,s,A,Qa,Ea,w,rs,h,q,qx⟩ =>
 ⟨g,s,A,_,Ea,w,rs,h,fun g1 A1 H1 x dx st1 w1 r1 ⟨xs,e1,e2⟩=>by
  obtain ⟨a,vs,rfl,q1,q2⟩ := w1.getL r1 e1
  exact ⟨a,vs,rfl, .inl q1,fun p np=>mk_old g1 A1 H1 p _ _ Qa Q w1 np q2.rev e2 (q.step st1)⟩,qx⟩
abbrev FM := D→List D→AH→QE→Prop
def MtS (K:PySem.W.Frag) (r:V→List V→Hp→VK→Prop) (f:FM):Prop := ∀ g A H x xs dx ds Qa Q,Wr K g A H→Rep K g x dx→Reps K g xs ds→f dx ds A Qa→Post K g A H Qa Q→r x xs H Q
def mBM (f:FM) (m:ME) (r:MA):ME := fun s A Q E=>m s A (fun x A1=>(∃ xs,itL A1 x=some xs)∧r s A1 (fun ds A2=>f x ds A2 Q) E) E
theorem c_bm {r:V→List V→Hp→VK→Prop} {f:FM} {mr:MA} (ms:MtS K r f):∀ σ H Q,cE K W (mBM f m mr) σ H Q→tBM K "list" r (cE K W m) (cA K W mr) σ H Q := fun σ H Q ⟨g,s,A,Qa,Ea,w,rs,h,q,qx⟩ =>
 ⟨g,s,A,_,Ea,w,rs,h,fun g1 A1 H1 x dx st1 w1 r1 ⟨⟨xs,e1⟩,h1⟩=>by
  obtain ⟨a,vs,rfl,q1,q2⟩ := w1.getL r1 e1
  exact ⟨.inl ⟨rfl,vs, .inl q1⟩,g1,s,A1,_,Ea,w1,rs.mono st1.le,h1,fun g2 A2 H2 ys ds st2 w2 rys h2=>ms g2 A2 H2 _ ys dx ds Qa Q w2 (r1.mono st2.le) rys h2 (q.step (st1.trans st2)),qx.step st1⟩,qx⟩
theorem Wr.nodeL {n:Nat} {xs:List D} (w:Wr K g A H) (r:Rep K g v (.ref n)) (h:A n=some (.lst xs)):∃ a vs,v = .ref a∧g.i n=some a∧H a=some (.lst vs)∧Reps K g vs xs := by
 cases r with
 | ref h1 =>
  obtain ⟨a,q1,q2,vs,q3,q4⟩ := w.nd n _ h
  rw [h1] at q1; cases q1
  exact ⟨_,vs,rfl,h1,q3,q4⟩
def fAppend:FM := fun x ys A Q=>∃ n xs y,x = .ref n∧ys=[y]∧A n=some (.lst xs)∧xs.length < sizeLine∧Q .non (put A n (.lst (xs ++ [y])))
theorem ms_append:MtS K rAppend fAppend := fun g A H x ys dx ds Qa Q w rx rs ⟨n,xs,y,e1,e2,e3,e4,h⟩ po=>by
 subst e1; subst e2
 obtain ⟨a,vs,rfl,q1,q2,q3⟩ := w.nodeL rx e3
 obtain ⟨u,rfl,ru⟩ := rs.one
 obtain ⟨w2,st2⟩ := w.set (o := .lst (vs ++ [u])) (y := .lst (xs ++ [y])) q1 e3 ⟨_,upd_same,q3.app (.cons ru .nil)⟩
 exact ⟨a,vs,u,rfl,rfl,q2,by rw [q3.len]; exact e4,po _ _ _ _ _ st2 w2 .non h⟩
def strsOf:List D→Option (List Str)
 | []=>some []
 | .str x :: r=>(strsOf r).map fun ys=>x :: ys
 | _=>none
theorem strsOf_ok:∀ {vs:List V} {ds:List D} {zs:List Str},Reps K g vs ds→strsOf ds=some zs→vs=zs.map V.str
 | _,_,_, .nil,e=>by cases e; rfl
 | _,_,_, .cons (d := d) (ds := ds) h r,e=>by
  cases d with
  | str x =>
   unfold strsOf at e
   cases q:strsOf ds with
   | none=>rw [q] at e; cases e
   | some ys=>rw [q] at e; cases e; rw [h.str_,strsOf_ok r q]; rfl
  | _=>cases e
def mJoin (ma mb:ME):ME := fun s A Q E=>ma s A (fun x A1=>∃ a,x = .str a∧mb s A1 (fun y A2=>∃ ys zs,itS A2 y=some ys∧strsOf ys=some zs∧(zs.map (·.length)).sum + zs.length * a.length≤16777216∧Q (.str (Txt.join a zs)) A2) E) E
theorem c_join:∀ σ H Q,cE K W (mJoin ma mb) σ H Q→tM1 (rJoinA K) (cE K W ma) (cE K W mb) σ H Q := fun σ H Q ⟨g,s,A,Qa,Ea,w,rs,h,q,qx⟩ =>
 ⟨g,s,A,_,Ea,w,rs,h,fun g1 A1 H1 x dx st1 w1 r1 ⟨a,e,h1⟩=>by
  subst e
  refine ⟨⟨a,r1.str_⟩,g1,s,A1,_,Ea,w1,rs.mono st1.le,h1,fun g2 A2 H2 y dy st2 w2 r2 ⟨ys,zs,e1,e2,e3,h2⟩=>?_,qx.step st1⟩
  obtain ⟨p,vs,rfl,q1,q2⟩ := w2.getS r2 e1
  have := strsOf_ok q2 e2
  subst this
  exact ⟨a,p,zs,r1.str_,rfl,q1,e3,q _ _ _ _ _ (st1.trans st2) w2 (.str _) h2⟩,qx⟩
def dcK (A:AH):D→Option (List (Key × D))
 | .dK kvs=>some kvs
 | .ref n=>match A n with
  | some (.dK kvs)=>some kvs
  | some (.lkK _ _ kvs)=>some kvs
  | _=>none
 | _=>none
def dcT (A:AH):D→Option (List (List Key × D))
 | .dT kvs=>some kvs
 | .ref n=>match A n with
  | some (.dT kvs)=>some kvs
  | some (.lkT _ _ kvs)=>some kvs
  | _=>none
 | _=>none
def kyK:D→Option Key
 | .int i=>some (.inl i)
 | .str x=>some (.inr x)
 | _=>none
def kysK:List D→Option (List Key)
 | []=>some []
 | d :: r=>(kyK d).bind fun k=>(kysK r).map fun ks=>k :: ks
def kyT:D→Option (List Key)
 | .tup ds=>kysK ds
 | _=>none
def dval (A:AH) (x y:D) (o:Option D):Prop := (∃ kvs k,dcK A x=some kvs∧kyK y=some k∧o=valD kvs k)∨∃ kvs k,dcT A x=some kvs∧kyT y=some k∧o=valD kvs k
theorem Wr.dcK {kvs:List (Key × D)} (w:Wr K g A H) (r:Rep K g v d) (h:dcK A d=some kvs):∃ a ks,v = .ref a∧Rd H a (.dK ks)∧KReps K g ks kvs := by
 cases r with
 | dK h1 h2 h3=>cases h; exact ⟨_,_,rfl,w.sub.rd h1,h2,h3⟩
 | ref h1 =>
  rename_i a n
  unfold Am.dcK at h
  simp only at h
  split at h
  ·rename_i ys e
   cases h
   obtain ⟨b,q1,q2,vs,q3,q4,q5⟩ := w.nd n _ e
   rw [h1] at q1; cases q1
   exact ⟨a,vs,rfl, .inl q3,q4,q5⟩
  ·rename_i o us ys e
   cases h
   obtain ⟨b,q1,q2,q3,q4,q5⟩ := w.nd n _ e
   rw [h1] at q1; cases q1
   exact ⟨a,us,rfl, .inr ⟨o,q3⟩,q4,q5⟩
  ·cases h
 | _=>cases h
theorem Wr.dcT {kvs:List (List Key × D)} (w:Wr K g A H) (r:Rep K g v d) (h:dcT A d=some kvs):∃ a ks,v = .ref a∧Rd H a (.dT ks)∧KReps K g ks kvs := by
 cases r with
 | dT h1 h2 h3=>cases h; exact ⟨_,_,rfl,w.sub.rd h1,h2,h3⟩
 | ref h1 =>
  rename_i a n
  unfold Am.dcT at h
  simp only at h
  split at h
  ·rename_i ys e
   cases h
   obtain ⟨b,q1,q2,vs,q3,q4,q5⟩ := w.nd n _ e
   rw [h1] at q1; cases q1
   exact ⟨a,vs,rfl, .inl q3,q4,q5⟩
  ·rename_i o us ys e
   cases h
   obtain ⟨b,q1,q2,q3,q4,q5⟩ := w.nd n _ e
   rw [h1] at q1; cases q1
   exact ⟨a,us,rfl, .inr ⟨o,q3⟩,q4,q5⟩
  ·cases h
 | _=>cases h
theorem kyK_ok {k:Key} (r:Rep K g v d) (h:kyK d=some k):v=kV k := by
 cases d with
 | int i=>cases h; exact r.int_
 | str i=>cases h; exact r.str_
 | _=>cases h
theorem kysK_ok:∀ {vs:List V} {ds:List D} {ks:List Key},Reps K g vs ds→kysK ds=some ks→vs=ks.map kV
 | _,_,_, .nil,e=>by cases e; rfl
 | _,_,_, .cons (d := d) (ds := ds) h r,e=>by
  unfold kysK at e
  cases q1:kyK d with
  | none=>rw [q1] at e; cases e
  | some k =>
   rw [q1] at e
   cases q:kysK ds with
   | none=>rw [q] at e; cases e
   | some ys=>rw [q] at e; cases e; rw [kyK_ok h q1,kysK_ok r q]; rfl
theorem kyT_ok {k:List Key} (w:Wr K g A H) (r:Rep K g v d) (h:kyT d=some k):∃ b,v = .ref b∧H b=some (.tup (k.map kV)) := by
 cases r with
 | tup h1 h2 =>
  have := kysK_ok h2 h
  subst this
  exact ⟨_,rfl,w.sub.at_ h1 (by constructor <;> intro _ z <;> cases z)⟩
 | _=>cases h
theorem Wr.dval {x y:V} {dx dy:D} {o:Option D} (w:Wr K g A H) (rx:Rep K g x dx) (ry:Rep K g y dy) (h:dval A dx dy o):∃ a o',x = .ref a∧DGet H a y o'∧Fm.Orel (fun d v=>Rep K g v d) o o' := by
 rcases h with ⟨kvs,k,h1,h2,h3⟩ | ⟨kvs,k,h1,h2,h3⟩
 ·obtain ⟨a,ks,e,q1,q2⟩ := w.dcK rx h1
  exact ⟨a,_,e, .inl ⟨ks,k,q1,kyK_ok ry h2,rfl⟩,by rw [h3]; exact q2.val⟩
 ·obtain ⟨a,ks,e,q1,q2⟩ := w.dcT rx h1
  obtain ⟨b,q3,q4⟩ := kyT_ok w ry h2
  exact ⟨a,_,e, .inr ⟨ks,k,b,q1,q3,q4,rfl⟩,by rw [h3]; exact q2.val⟩
def mDGet (ma mb:ME):ME := fun s A Q E=>ma s A (fun x A1=>mb s A1 (fun y A2=>∃ d,dval A2 x y (some d)∧Q d A2) E) E
theorem c_dget:∀ σ H Q,cE K W (mDGet ma mb) σ H Q→tDGet (cE K W ma) (cE K W mb) σ H Q := fun σ H Q ⟨g,s,A,Qa,Ea,w,rs,h,q,qx⟩ =>
 ⟨g,s,A,_,Ea,w,rs,h,fun g1 A1 H1 x dx st1 w1 r1 h1=>⟨g1,s,A1,_,Ea,w1,rs.mono st1.le,h1,fun g2 A2 H2 y dy st2 w2 r2 ⟨d,h2,h3⟩=>by
  obtain ⟨a,o,e,q1,q2⟩ := w2.dval (r1.mono st2.le) r2 h2
  cases q2 with
  | yes z=>exact ⟨a,_,e,q1,q _ _ _ _ _ (st1.trans st2) w2 z h3⟩,qx.step st1⟩,qx⟩
theorem dv_isD {x y:V} {dx dy:D} {o:Option D} (w:Wr K g A H) (rx:Rep K g x dx) (h:(∃ k,dcK A dx=some k)∨∃ k,dcT A dx=some k):∃ a,x = .ref a∧IsD H a := by
 rcases h with ⟨k,h⟩ | ⟨k,h⟩
 ·obtain ⟨a,ks,e,q1,q2⟩ := w.dcK rx h; exact ⟨a,e, .inl ⟨ks,q1⟩⟩
 ·obtain ⟨a,ks,e,q1,q2⟩ := w.dcT rx h; exact ⟨a,e, .inr ⟨ks,q1⟩⟩
def mDGet2 (ma mb mc:ME):ME := fun s A Q E=>ma s A (fun x A1=>((∃ k,dcK A1 x=some k)∨∃ k,dcT A1 x=some k)∧mb s A1 (fun y A2=>mc s A2 (fun z A3=>∃ o,dval A3 x y o∧Q (o.getD z) A3) E) E) E
theorem c_dget2:∀ σ H Q,cE K W (mDGet2 ma mb mc) σ H Q→tDGet2 (cE K W ma) (cE K W mb) (cE K W mc) σ H Q := fun σ H Q ⟨g,s,A,Qa,Ea,w,rs,h,q,qx⟩ =>
 ⟨g,s,A,_,Ea,w,rs,h,fun g1 A1 H1 x dx st1 w1 r1 ⟨hd,h1⟩=>by
  obtain ⟨a,ea,ha⟩ := dv_isD (y := x) (dy := dx) (o := none) w1 r1 hd
  refine ⟨a,ea,ha,g1,s,A1,_,Ea,w1,rs.mono st1.le,h1,fun g2 A2 H2 y dy st2 w2 r2 h2=>⟨g2,s,A2,_,Ea,w2,rs.mono (st1.trans st2).le,h2,fun g3 A3 H3 z dz st3 w3 r3 ⟨o,h3,h4⟩=>?_,qx.step (st1.trans st2)⟩,qx.step st1⟩
  obtain ⟨a',o',e,q1,q2⟩ := w3.dval (r1.mono (st2.trans st3).le) (r2.mono st3.le) h3
  rw [ea] at e; cases e
  refine ⟨o',q1, ?_⟩
  cases q2 with
  | no=>exact q _ _ _ _ _ ((st1.trans st2).trans st3) w3 r3 h4
  | yes zz=>exact q _ _ _ _ _ ((st1.trans st2).trans st3) w3 zz h4,qx⟩
def mDIn (neg:Bool) (ma mb:ME):ME := fun s A Q E=>ma s A (fun y A1=>mb s A1 (fun x A2=>∃ o,dval A2 x y o∧Q (.bl (o.isSome != neg)) A2) E) E
theorem orel_some {α β:Type} {F:α→β→Prop} {o:Option α} {o':Option β} (h:Fm.Orel F o o'):o'.isSome=o.isSome := by cases h <;> rfl
theorem c_din:∀ σ H Q,cE K W (mDIn false ma mb) σ H Q→tDIn (cE K W ma) (cE K W mb) σ H Q := fun σ H Q ⟨g,s,A,Qa,Ea,w,rs,h,q,qx⟩ =>
 ⟨g,s,A,_,Ea,w,rs,h,fun g1 A1 H1 y dy st1 w1 r1 h1=>⟨g1,s,A1,_,Ea,w1,rs.mono st1.le,h1,fun g2 A2 H2 x dx st2 w2 r2 ⟨o,h2,h3⟩=>by
  obtain ⟨a,o',e,q1,q2⟩ := w2.dval r2 (r1.mono st2.le) h2
  exact ⟨a,o',e,q1,q _ _ _ _ _ (st1.trans st2) w2 (.bl _) (by rw [orel_some q2]; simpa using h3)⟩,qx.step st1⟩,qx⟩
theorem c_dnotin:∀ σ H Q,cE K W (mDIn true ma mb) σ H Q→tDNotIn (cE K W ma) (cE K W mb) σ H Q := fun σ H Q ⟨g,s,A,Qa,Ea,w,rs,h,q,qx⟩ =>
 ⟨g,s,A,_,Ea,w,rs,h,fun g1 A1 H1 y dy st1 w1 r1 h1=>⟨g1,s,A1,_,Ea,w1,rs.mono st1.le,h1,fun g2 A2 H2 x dx st2 w2 r2 ⟨o,h2,h3⟩=>by
  obtain ⟨a,o',e,q1,q2⟩ := w2.dval r2 (r1.mono st2.le) h2
  exact ⟨a,o',e,q1,q _ _ _ _ _ (st1.trans st2) w2 (.bl _) (by rw [orel_some q2]; simpa using h3)⟩,qx.step st1⟩,qx⟩
def mDNew (x:Nd):ME := fun _ A Q _=>∀ n,A n=none→Q (.ref n) (put A n x)
theorem c_dnewK:∀ σ H Q,cE K W (mDNew (.dK [])) σ H Q→tDNewK σ H Q := fun σ H Q ⟨g,s,A,Qa,Ea,w,rs,h,q,qx⟩ p np=>by
 obtain ⟨n,h1,h2,w2,st2⟩ := w.node (o := .dK []) (x := .dK []) np fun g' e=>⟨[],upd_same,rfl, .nil⟩
 exact q _ _ _ _ _ st2 w2 (.ref (if_pos rfl)) (h n h1)
end
end Am
namespace Am
open PySem PySem.Spec PyProof.Rows L2
open Fm (same_new iSeq)
abbrev MG := D→Sl→AH→(Sl→AH→Prop)→Prop
abbrev MGs := List D→Sl→AH→(Sl→AH→Prop)→Prop
abbrev MI := Sl→AH→(List D→(AH→Prop)→AH→Prop)→QX→Prop
structure WalkD (K:PySem.W.Frag) (J:It) (g:Sg) (items:List D) (ck:AH→Prop):Prop where
 go:∀ i g2 A2 H2,g.le g2→Wr K g2 A2 H2→ck A2→i < items.length→J.go i H2
 yl:∀ i g2 A2 H2 x H' d,g.le g2→Wr K g2 A2 H2→ck A2→items[i]? = some d→J.yld i H2 x H'→∃ g3,Stp g2 A2 H2 g3 A2 H'∧Wr K g3 A2 H'∧Rep K g3 x d
 st:∀ i g2 A2 H2,g.le g2→Wr K g2 A2 H2→ck A2→items.length≤i→J.stop i H2
def cI (K:PySem.W.Frag) (W:WX) (m:MI):TI := fun σ H R=>∃ g s A Ra Ea,Wr K g A H∧RepS K g σ s∧m s A Ra Ea∧(∀ g' A' H' J items ck,Stp g A H g' A' H'→Wr K g' A' H'→WalkD K J g' items ck→Ra items ck A'→R J H')∧PostX K g A H Ea (fun c d H'=>W c d σ H')
theorem PI.weak {X:Cx} {tg e:Expr} {t t':TI} (h:PI X tg e t) (k:∀ σ H Q,t' σ H Q→t σ H Q):PI X tg e t' := ⟨fun pins s σ H Q I q=>h.run pins s σ H Q I (k σ H Q q)⟩
section
variable {K:PySem.W.Frag} {g g':Sg} {A:AH} {H:Hp} {v:V} {d:D} {W:WX} {m ma mb mc:ME}
abbrev ckT:AH→Prop := fun _=>True
def chars (z:Str):List D := z.cps.toList.map fun c=>.str ⟨#[c]⟩
def fSeq (d:D) (A:AH) (R:List D→(AH→Prop)→AH→Prop):Prop := match d with
 | .str z=>R (chars z) ckT A
 | .ref n=>∃ xs,A n=some (.lst xs)∧R xs (fun A2=>A2 n=some (.lst xs)) A
 | d=>∃ xs,itS A d=some xs∧R xs ckT A
def mSeq (m:ME):MI := fun s A R E=>m s A (fun d A1=>fSeq d A1 R) E
theorem walk_fr {a:Addr} {vs:List V} {items:List D} (h:Rd g.S a (.lst vs)) (r:Reps K g vs items):WalkD K (Itl K a) g items ckT where
 go := fun i g2 A2 H2 le w _ hi=>by
  have := (w.sub.rd (Fm.Same.rd le.s h))
  have hi':i < vs.length := by rw [r.len]; exact hi
  exact ⟨vs,vs[i], .inl this,List.getElem?_eq_getElem hi'⟩
 yl := fun i g2 A2 H2 x H' d le w _ hd y=>by
  obtain ⟨e,hy⟩ := y
  subst e
  obtain ⟨u,h1,h2⟩ := r.at_ hd
  have := hy vs (.inl (w.sub.rd (Fm.Same.rd le.s h)))
  rw [h1] at this; cases this
  exact ⟨g2, .refl,w,h2.mono le⟩
 st := fun i g2 A2 H2 le w _ hi=>⟨vs, .inl (w.sub.rd (Fm.Same.rd le.s h)),by rw [r.len]; exact hi⟩
theorem walk_frT {a:Addr} {vs:List V} {items:List D} (h:SqT K g.S a vs) (r:Reps K g vs items):WalkD K (Itt K a) g items ckT where
 go := fun i g2 A2 H2 le w _ hi=>by
  have := (w.sub.sqt (Fm.Same.tup le.s h))
  have hi':i < vs.length := by rw [r.len]; exact hi
  exact ⟨vs,vs[i],this,List.getElem?_eq_getElem hi'⟩
 yl := fun i g2 A2 H2 x H' d le w _ hd y=>by
  obtain ⟨e,hy⟩ := y
  subst e
  obtain ⟨u,h1,h2⟩ := r.at_ hd
  have := hy vs (w.sub.sqt (Fm.Same.tup le.s h))
  rw [h1] at this; cases this
  exact ⟨g2, .refl,w,h2.mono le⟩
 st := fun i g2 A2 H2 le w _ hi=>⟨vs,w.sub.sqt (Fm.Same.tup le.s h),by rw [r.len]; exact hi⟩
theorem walk_nd {a:Addr} {n:Nat} {items:List D} (h:g.i n=some a):WalkD K (Itl K a) g items (fun A2=>A2 n=some (.lst items)) where
 go := fun i g2 A2 H2 le w ck hi=>by
  obtain ⟨b,vs,e,q1,q2,q3⟩ := w.nodeL (v := .ref a) (.ref (le.i _ _ h)) ck
  cases e
  have hi':i < vs.length := by rw [q3.len]; exact hi
  exact ⟨vs,vs[i], .inl (.inl q2),List.getElem?_eq_getElem hi'⟩
 yl := fun i g2 A2 H2 x H' d le w ck hd y=>by
  obtain ⟨e,hy⟩ := y
  subst e
  obtain ⟨b,vs,e,q1,q2,q3⟩ := w.nodeL (v := .ref a) (.ref (le.i _ _ h)) ck
  cases e
  obtain ⟨u,h1,h2⟩ := q3.at_ hd
  have := hy vs (.inl (.inl q2))
  rw [h1] at this; cases this
  exact ⟨g2, .refl,w,h2⟩
 st := fun i g2 A2 H2 le w ck hi=>by
  obtain ⟨b,vs,e,q1,q2,q3⟩ := w.nodeL (v := .ref a) (.ref (le.i _ _ h)) ck
  cases e
  exact ⟨vs, .inl (.inl q2),by rw [q3.len]; exact hi⟩
theorem walk_str {z:Str}:WalkD K (Its z) g (chars z) ckT where
 go := fun i g2 A2 H2 le w _ hi=>by
  have:i < z.cps.size := by simpa [chars] using hi
  exact this
 yl := fun i g2 A2 H2 x H' d le w _ hd y=>by
  obtain ⟨e,c,h1,h2⟩ := y
  subst e
  subst h2
  unfold chars at hd
  rw [List.getElem?_map] at hd
  have h1':z.cps.toList[i]? = some c := by simpa using h1
  rw [h1'] at hd
  cases hd
  exact ⟨g2, .refl,w, .str _⟩
 st := fun i g2 A2 H2 le w _ hi=>by
  have:z.cps.size≤i := by simpa [chars] using hi
  exact this
def intsD (lo:Int) (n:Nat):List D := (List.range n).map fun i=>.int (lo + (i:Nat))
theorem walk_rng {lo : Int} {n : Nat} : WalkD K (Itr lo n) g (intsD lo n) ckT where
  go := fun i g2 A2 H2 le w _ hi => by
    have : i < n := by simpa [intsD] using hi
    exact this
  yl := fun i g2 A2 H2 x H' d le w _ hd y => by
    obtain ⟨e, h2⟩ := y
    subst e
    subst h2
    unfold intsD at hd
    rw [List.getElem?_map] at hd
    cases q : (List.range n)[i]? with
    | none => rw [q] at hd; cases hd
    | some j =>
      rw [q] at hd
      have : j = i := by
        rw [List.getElem?_range] at q
        · exact (Option.some.inj q).symm
        · exact Classical.byContradiction fun z => by rw [List.getElem?_eq_none (by simpa using z)] at q; cases q
      subst this
      cases hd
      exact ⟨g2, .refl, w, .int _⟩
  st := fun i g2 A2 H2 le w _ hi => by
    have : n ≤ i := by simpa [intsD] using hi
    exact this
theorem c_seq:∀ σ H R,cI K W (mSeq m) σ H R→iSeq K (cE K W m) σ H R := fun σ H R ⟨g,s,A,Ra,Ea,w,rs,h,q,qx⟩ =>
 ⟨g,s,A,_,Ea,w,rs,h,fun g1 A1 H1 x dx st1 w1 r1 h1=>by
  cases r1 with
  | str z=>exact .inr (.inr ⟨z,rfl,q g1 A1 H1 _ _ _ st1 w1 walk_str h1⟩)
  | ref hi =>
   obtain ⟨xs,e1,e2⟩ := h1
   obtain ⟨a,vs,e,q1,q2,q3⟩ := w1.nodeL (.ref hi) e1
   cases e
   exact .inl ⟨_,rfl,⟨vs, .inl (.inl q2)⟩,q g1 A1 H1 _ _ _ st1 w1 (walk_nd hi) e2⟩
  | lst h2 h3 =>
   obtain ⟨xs,e1,e2⟩ := h1
   cases e1
   exact .inl ⟨_,rfl,⟨_, .inl (w1.sub.rd h2)⟩,q g1 A1 H1 _ _ _ st1 w1 (walk_fr h2 h3) e2⟩
  | tup h2 h3 =>
   obtain ⟨xs,e1,e2⟩ := h1
   cases e1
   exact .inr (.inl ⟨_,rfl,⟨_,w1.sub.sqt (.inl (.inl h2))⟩,q g1 A1 H1 _ _ _ st1 w1 (walk_frT (.inl (.inl h2)) h3) e2⟩)
  | ktup h2 h3 =>
   obtain ⟨xs,e1,e2⟩ := h1
   cases e1
   exact .inr (.inl ⟨_,rfl,⟨_,w1.sub.sqt h2⟩,q g1 A1 H1 _ _ _ st1 w1 (walk_frT h2 h3) e2⟩)
  | _=>exact (by obtain ⟨xs,e1,_⟩ := h1; cases e1),qx⟩
def mRng1 (r:MA):MI := fun s A R E=>r s A (fun ds A1=>∃ j:Int,ds=[.int j] ∧ -(2 ^ 62)≤j∧j < 2 ^ 62∧R (intsD 0 j.toNat) ckT A1) E
theorem c_rng1 {mr:MA}:∀ σ H R,cI K W (mRng1 mr) σ H R→iRng1 (cA K W mr) σ H R := fun σ H R ⟨g,s,A,Ra,Ea,w,rs,h,q,qx⟩ =>
 ⟨g,s,A,_,Ea,w,rs,h,fun g1 A1 H1 xs ds st1 w1 r1 ⟨j,e,h0,h1,h2⟩=>by
  subst e
  obtain ⟨v,rfl,r⟩ := r1.one
  exact ⟨j,by rw [r.int_],h0,h1,q g1 A1 H1 _ _ _ st1 w1 walk_rng h2⟩,qx⟩
def pairs (items:List D):List D := (List.range items.length).map fun i=>.tup [.int (i:Nat),items.getD i .non]
theorem pairs_at {items:List D} {i:Nat} {d:D} (h:(pairs items)[i]? = some d):∃ y,items[i]? = some y∧d = .tup [.int (i:Nat),y] := by
 unfold pairs at h
 rw [List.getElem?_map] at h
 cases q:(List.range items.length)[i]? with
 | none=>rw [q] at h; cases h
 | some j =>
  have hlt:i < items.length := Classical.byContradiction fun z=>by rw [List.getElem?_eq_none (by simpa using z)] at q; cases q
  rw [List.getElem?_range hlt] at q
  rw [List.getElem?_range hlt] at h
  cases q
  cases h
  refine ⟨items[i],List.getElem?_eq_getElem hlt, ?_⟩
  show D.tup [D.int ↑i,items.getD i D.non]=_
  rw [List.getD_eq_getElem?_getD,List.getElem?_eq_getElem hlt]
  rfl
theorem pairs_len {items:List D}:(pairs items).length=items.length := by simp [pairs]
theorem WalkD.enum {a:Addr} {items:List D} {ck:AH→Prop} (h:WalkD K (Itl K a) g items ck) (hq:∀ g2 A2 H2,g.le g2→Wr K g2 A2 H2→ck A2→∃ vs,SqL K H2 a vs∧Reps K g2 vs items):WalkD K (Ite K a) g (pairs items) ck where
 go := fun i g2 A2 H2 le w c hi=>h.go i g2 A2 H2 le w c (by rw [pairs_len] at hi; exact hi)
 yl := fun i g2 A2 H2 x H' d le w c hd y=>by
  obtain ⟨T,u,e1,e2,e3,hy⟩ := y
  subst e1; subst e3
  obtain ⟨z,h1,h2⟩ := pairs_at hd
  subst h2
  obtain ⟨vs,h3,h4⟩ := hq g2 A2 H2 le w c
  obtain ⟨u',h5,h6⟩ := h4.at_ h1
  have := hy vs h3
  rw [h5] at this; cases this
  obtain ⟨w3,st3⟩ := w.new (o := .tup [.int (i:Nat),u]) e2
  exact ⟨_,st3,w3, .tup upd_same (.cons (.int _) (.cons (h6.mono st3.le) .nil))⟩
 st := fun i g2 A2 H2 le w c hi=>h.st i g2 A2 H2 le w c (by rw [pairs_len] at hi; exact hi)
def fEnum (d:D) (A:AH) (R:List D→(AH→Prop)→AH→Prop):Prop := match d with
 | .ref n=>∃ xs,A n=some (.lst xs)∧R (pairs xs) (fun A2=>A2 n=some (.lst xs)) A
 | .lst xs=>R (pairs xs) ckT A
 | _=>False
def mEnum (r:MA):MI := fun s A R E=>r s A (fun ds A1=>∃ d,ds=[d]∧fEnum d A1 R) E
theorem c_enum {mr:MA}:∀ σ H R,cI K W (mEnum mr) σ H R→iEnum K (cA K W mr) σ H R := fun σ H R ⟨g,s,A,Ra,Ea,w,rs,h,q,qx⟩ =>
 ⟨g,s,A,_,Ea,w,rs,h,fun g1 A1 H1 vs ds st1 w1 r1 ⟨d,e,h1⟩=>by
  subst e
  obtain ⟨v,rfl,r⟩ := r1.one
  cases r with
  | ref hi =>
   obtain ⟨xs,e1,e2⟩ := h1
   obtain ⟨a,vs,e,q1,q2,q3⟩ := w1.nodeL (.ref hi) e1
   cases e
   exact ⟨_,vs,rfl, .inl (.inl q2),q g1 A1 H1 _ _ _ st1 w1 ((walk_nd hi).enum fun g2 A2 H2 le w2 ck=>by
    obtain ⟨b,us,e,p1,p2,p3⟩ := w2.nodeL (v := .ref _) (.ref (le.i _ _ hi)) ck
    cases e
    exact ⟨us, .inl (.inl p2),p3⟩) e2⟩
  | lst h2 h3=>exact ⟨_,_,rfl, .inl (w1.sub.rd h2),q g1 A1 H1 _ _ _ st1 w1 ((walk_fr h2 h3).enum fun g2 A2 H2 le w2 ck=>⟨_, .inl (w2.sub.rd (Fm.Same.rd le.s h2)),h3.mono le⟩) h1⟩
  | _=>exact h1.elim,qx⟩
end
def TgS (K:PySem.W.Frag) (t:TG) (mg:MG) (vs:List Nat):Prop := ∀ g A H v d σ s Qa Q,Wr K g A H→Rep K g v d→RepS K g σ s→mg d s A Qa →
 (∀ σ' s',RepS K g σ' s'→(∀ us:List Nat,(∀ i∈vs,i∈us)→wipe σ' us=wipe σ us)→Qa s' A→Q σ' H)→t v σ H Q
def TgsS (K:PySem.W.Frag) (t:TGs) (mg:MGs) (vs:List Nat):Prop := ∀ g A H xs ds σ s Qa Q,Wr K g A H→Reps K g xs ds→RepS K g σ s→mg ds s A Qa →
 (∀ σ' s',RepS K g σ' s'→(∀ us:List Nat,(∀ i∈vs,i∈us)→wipe σ' us=wipe σ us)→Qa s' A→Q σ' H)→t xs σ H Q
theorem wipe_at:∀ (us:List Nat) (σ:L2.St) (n:Nat),(wipe σ us)[n]? = if n∈us∧n < σ.length then some none else σ[n]?
 | [],σ,n=>by simp [wipe]
 | u :: us,σ,n=>by
  show ((wipe σ us).set u none)[n]? = _
  rw [List.getElem?_set,wipe_at us σ n,wipe_length]
  by_cases h1:u=n
  ·subst h1
   by_cases h2:u < σ.length
   ·simp [h2]
   ·simp [h2,List.getElem?_eq_none (Nat.le_of_not_lt h2)]
  ·have h1':¬ n=u := fun e=>h1 e.symm
   simp [h1,h1']
theorem wipe_set {σ:L2.St} {i:Nat} {v:Option V} {us:List Nat} (h:i∈us):wipe (σ.set i v) us=wipe σ us := by
 apply List.ext_getElem?
 intro n
 rw [wipe_at,wipe_at,List.length_set,List.getElem?_set]
 by_cases h1:n∈us∧n < σ.length
 ·rw [if_pos h1,if_pos h1]
 ·rw [if_neg h1,if_neg h1]
  by_cases h2:i=n
  ·subst h2
   have:¬ i < σ.length := fun z=>h1 ⟨h,z⟩
   rw [if_pos rfl,if_neg this,List.getElem?_eq_none (Nat.le_of_not_lt this)]
  ·rw [if_neg h2]
section
variable {K:PySem.W.Frag}
def gN (i:Nat):MG := fun d s A Q=>Q (s.set i (some d)) A
theorem tg_name {i:Nat}:TgS K (gName i) (gN i) [i] := fun g A H v d σ s Qa Q w r rs h q=>q _ _ (rs.set r) (fun us hu=>wipe_set (hu i (by simp))) h
def gNl:MGs := fun ds s A Q=>ds=[]∧Q s A
def gCs (t:MG) (u:MGs):MGs := fun ds s A Q=>∃ d r,ds=d :: r∧t d s A fun s' A'=>u r s' A' Q
theorem tgs_nil:TgsS K gNil gNl [] := fun g A H xs ds σ s Qa Q w r rs ⟨e,h⟩ q=>by
 subst e
 cases r
 exact ⟨rfl,q σ s rs (fun _ _=>rfl) h⟩
theorem tgs_cons {t:TG} {mt:MG} {u:TGs} {mu:MGs} {vs us:List Nat} (h1:TgS K t mt vs) (h2:TgsS K u mu us):TgsS K (gCons t u) (gCs mt mu) (vs ++ us) := fun g A H xs ds σ s Qa Q w r rs ⟨d,rd,e,h⟩ q=>by
 subst e
 cases r with
 | cons r0 rr=>exact ⟨_,_,rfl,h1 g A H _ _ σ s _ _ w r0 rs h fun σ1 s1 rs1 e1 h=>h2 g A H _ _ σ1 s1 _ _ w rr rs1 h fun σ2 s2 rs2 e2 h=>q σ2 s2 rs2 (fun ws hw=>(e2 ws fun i hi=>hw i (List.mem_append_right _ hi)).trans (e1 ws fun i hi=>hw i (List.mem_append_left _ hi))) h⟩
def gTp (n:Nat) (u:MGs):MG := fun d s A Q=>∃ ds,(d = .tup ds∨d = .ktup ds)∧ds.length=n∧u ds s A Q
theorem tg_tup {n:Nat} {u:TGs} {mu:MGs} {us:List Nat} (h2:TgsS K u mu us):TgS K (gTup K n u) (gTp n mu) us := fun g A H v d σ s Qa Q w r rs ⟨ds,e,hl,h⟩ q=>by
 rcases e with e | e
 ·subst e
  cases r with
  | tup h3 h4=>exact ⟨_,_,rfl,w.sub.sqt (.inl (.inl h3)),by rw [h4.len]; exact hl,h2 g A H _ _ σ s Qa Q w h4 rs h q⟩
 ·subst e
  cases r with
  | ktup h3 h4=>exact ⟨_,_,rfl,w.sub.sqt h3,by rw [h4.len]; exact hl,h2 g A H _ _ σ s Qa Q w h4 rs h q⟩
end
abbrev NX:QX := fun _ _=>False
def wipeD (s:Sl):List Nat→Sl
 | []=>s
 | v :: vs=>(wipeD s vs).set v none
def lcL (ck:AH→Prop) (tg:MG) (tt:MT) (te:ME) (s:Sl):List D→AH→(List D→AH→Prop)→Prop
 | [],A,Q=>ck A∧Q [] A
 | d :: ds,A,Q=>ck A∧tg d s A fun s1 A1=>tt s1 A1 (fun b A2=>if b=true then te s1 A2 (fun y A3=>lcL ck tg tt te s ds A3 fun ys A4=>Q (y :: ys) A4) NX else lcL ck tg tt te s ds A2 Q) NX
def mYes:MT := fun _ A Q _=>Q true A
def mLcG (mk:List D→AH→QE→Prop) (mi:MI) (tg:MG) (tt:MT) (te:ME) (vs:List Nat):ME := fun s A Q E=>mi s A (fun items ck A1=>items.length≤sizeLine∧lcL ck tg tt te (wipeD s vs) items A1 fun ds A2=>mk ds A2 Q) E
def mLc := mLcG oldL
def mLcM := mLcG newL
section
variable {K:PySem.W.Frag} {W:WX}
theorem c_yes:∀ σ H Q,cT K W mYes σ H Q→tYes σ H Q := fun σ H Q ⟨g,s,A,Qa,Ea,w,rs,h,q,qx⟩=>q g A H true .refl w h
theorem RepS.wipe {g:Sg} {σ:L2.St} {s:Sl} (h:RepS K g σ s):∀ vs:List Nat,RepS K g (L2.wipe σ vs) (wipeD s vs)
 | []=>h
 | v :: vs=>(RepS.wipe h vs).unset
theorem wipe_wipe {σ:L2.St} (vs:List Nat):L2.wipe (L2.wipe σ vs) vs=L2.wipe σ vs := by
 apply List.ext_getElem?
 intro n
 rw [wipe_at,wipe_at,wipe_length]
 by_cases h:n∈vs∧n < σ.length
 ·rw [if_pos h,if_pos h]
 ·rw [if_neg h,if_neg h]
def MkX (K:PySem.W.Frag) (mk:List D→AH→QE→Prop):Prop := ∀ g A H p vs ds Qa (Q:VK),Wr K g A H→H p=some (.lst vs)→g.S p=none→(∀ n,g.i n≠some p)→Reps K g vs ds→mk ds A Qa →
 (∀ g' A' v d,g.le g'→(∀ a,Own g' A' a→Own g A a∨a=p)→(∀ a,a≠p→g.S a=none→g'.S a=none)→(∀ n a,g'.i n=some a→g.i n=some a∨a=p)→Wr K g' A' H→Rep K g' v d→Qa d A'→Q v H)→Q (.ref p) H
theorem mx_old:MkX K oldL := fun g A H p vs ds Qa Q w hp hS hi r h q=>by
 have le:g.le ⟨upd g.S p (.lst vs),g.i⟩ := ⟨same_new hS,fun _ _ h=>h⟩
 refine q ⟨upd g.S p (.lst vs),g.i⟩ A (.ref p) (.lst ds) le (fun a h=>.inl h) (fun a ha hs=>by show upd g.S p (.lst vs) a=none; rw [upd_ne ha]; exact hs) (fun _ _ h=>.inl h) ⟨fun b o e=>?_,w.inj,w.ex,w.fin,fun n x h=>?_⟩ (.lst (.inl upd_same) (r.mono le)) h
 ·by_cases hb:b=p
  ·subst hb; have e':upd g.S b (.lst vs) b=some o := e; rw [upd_same] at e'; cases e'; exact ⟨_,hp, .inl rfl⟩
  ·have e':upd g.S p (.lst vs) b=some o := e; rw [upd_ne hb] at e'; exact w.sub b o e'
 ·obtain ⟨a,h1,h2,h3⟩ := w.nd n x h
  have hn:a≠p := fun z=>hi n (by rw [← z]; exact h1)
  exact ⟨a,h1,by show upd g.S p (.lst vs) a=none; rw [upd_ne hn]; exact h2,h3.mono le rfl⟩
theorem mx_new : MkX K newL := fun g A H p vs ds Qa Q w hp hS hi r h q => by
  obtain ⟨N, hN⟩ := w.fin
  have hiN : g.i N = none := hN N (Nat.le_refl _)
  have hA : A N = none := by
    cases e : A N with
    | none => rfl
    | some x => obtain ⟨a, h, _⟩ := w.nd N x e; rw [hiN] at h; cases h
  have le : g.le ⟨g.S, fun m => if m = N then some p else g.i m⟩ := ⟨Same.refl _, fun m a h => by
    have : m ≠ N := fun e => by rw [e, hiN] at h; cases h
    show (if m = N then some p else g.i m) = some a
    rw [if_neg this]; exact h⟩
  have old : ∀ m a, (if m = N then some p else g.i m) = some a → (m = N ∧ a = p) ∨ (m ≠ N ∧ g.i m = some a ∧ a ≠ p) := fun m a h => by
    by_cases e : m = N
    · rw [if_pos e] at h; exact .inl ⟨e, (Option.some.inj h).symm⟩
    · rw [if_neg e] at h; exact .inr ⟨e, h, fun z => hi m (by rw [← z]; exact h)⟩
  refine q ⟨g.S, fun m => if m = N then some p else g.i m⟩ (put A N (.lst ds)) (.ref p) (.ref N) le (fun a ⟨m, x, h1, h2⟩ => ?_) (fun _ _ h => h) (fun n a h => ?_) ⟨w.sub, fun n m a h1 h2 => ?_, fun n a h => ?_, ⟨N + 1, fun n h => ?_⟩, fun n y h => ?_⟩ (.ref (if_pos rfl)) (h N hA)
  · rcases old m a h2 with ⟨e1, e2⟩ | ⟨e1, e2, e3⟩
    · exact .inr e2
    · rw [put_ne e1] at h1; exact .inl ⟨m, x, h1, e2⟩
  · rcases old n a h with ⟨e1, e2⟩ | ⟨e1, e2, e3⟩
    · exact .inr e2
    · exact .inl e2
  · rcases old n a h1 with ⟨e1, e2⟩ | ⟨e1, e2, e3⟩ <;> rcases old m a h2 with ⟨f1, f2⟩ | ⟨f1, f2, f3⟩
    · rw [e1, f1]
    · exact absurd e2 f3
    · exact absurd f2 e3
    · exact w.inj n m a e2 f2
  · rcases old n a h with ⟨e1, e2⟩ | ⟨e1, e2, e3⟩
    · rw [e2, hp]; simp
    · exact w.ex n a e2
  · show (if n = N then some p else g.i n) = none
    rw [if_neg (by omega)]; exact hN n (by omega)
  · by_cases e : n = N
    · subst e
      rw [put_same] at h; cases h
      exact ⟨p, if_pos rfl, hS, vs, hp, r.mono le⟩
    · rw [put_ne e] at h
      obtain ⟨a, h1, h2, h3⟩ := w.nd n y h
      exact ⟨a, by show (if n = N then some p else g.i n) = some a; rw [if_neg e]; exact h1, h2, h3.mono le rfl⟩
end
end Am
namespace Am
open PySem PySem.Spec PyProof.Rows L2
open Fm (same_new iSeq)
section
variable {K:PySem.W.Frag} {W:WX}
theorem c_lcG {mk:List D→AH→QE→Prop} {mi:MI} {t:TG} {tg:MG} {tt:MT} {te:ME} {vs ws:List Nat} (hk:MkX K mk) (ht:TgS K t tg ws) (hw:∀ i∈ws,i∈vs) :
  ∀ σ H Q,cE K W (mLcG mk mi tg tt te vs) σ H Q→tLc (cI K W mi) t (cT K WF tt) (cE K WF te) vs σ H Q := fun σ H Q ⟨g,s,A,Qa,Ea,w,rs,h,q,qx⟩ =>
 ⟨g,s,A,_,Ea,w,rs,h,fun g1 A1 H1 J items ck st1 w1 wk ⟨hz,h1⟩ D nD=>by
  have nS:g1.S D=none := w1.sub.free nD
  have nI:∀ n,g1.i n≠some D := fun n e=>w1.ex n D e nD
  obtain ⟨w1',st1'⟩ := w1.tmp (o := .lst []) nD
  refine ⟨fun i m H=>m=items.length - i∧i≤items.length∧∃ g2 A2 acc ds,Stp g1 A1 H1 g2 A2 H∧Wr K g2 A2 H∧H D=some (.lst acc)∧g2.S D=none∧(∀ n,g2.i n≠some D)∧Reps K g2 acc ds∧acc.length≤i∧lcL ck tg tt te (wipeD s vs) (items.drop i) A2 fun ys A3=>mk (ds ++ ys) A3 Qa,
   ⟨items.length,by omega,by omega,g1,A1,[],[],st1',w1',upd_same,nS,nI, .nil,Nat.le_refl _,by simpa using h1⟩, ?_⟩
  rintro i m H2 ⟨rfl,hin,g2,A2,acc,ds,st2,w2,hD,hS,hI,ra,hl,h2⟩
  have rs2 := (rs.mono (st1.trans st2).le).wipe vs
  by_cases hlt:i < items.length
  ·have ed:items.drop i=items[i] :: items.drop (i + 1) := List.drop_eq_getElem_cons hlt
   rw [ed] at h2
   obtain ⟨hck,h2⟩ := h2
   refine .inr ⟨wk.go i g2 A2 H2 st2.le w2 hck hlt,fun H'=>∃ g3 A3 acc ds,Stp g1 A1 H1 g3 A3 H'∧Wr K g3 A3 H'∧H' D=some (.lst acc)∧g3.S D=none∧(∀ n,g3.i n≠some D)∧Reps K g3 acc ds∧acc.length≤i + 1∧lcL ck tg tt te (wipeD s vs) (items.drop (i + 1)) A3 fun ys A4=>mk (ds ++ ys) A4 Qa,
    fun H' h=>⟨items.length - (i + 1),by omega,rfl,hlt,h⟩,fun x H' y=>?_⟩
   obtain ⟨g3,st3,w3,rx⟩ := wk.yl i g2 A2 H2 x H' _ st2.le w2 hck (List.getElem?_eq_getElem hlt) y
   have keep:∀ {g4 A4 H4},Stp g2 A2 H2 g4 A4 H4→H4 D=some (.lst acc)∧g4.S D=none∧∀ n,g4.i n≠some D := fun st=>st.beside hD hS hI
   refine ht g3 A2 H' x _ _ _ _ _ w3 rx (rs2.mono st3.le) h2 fun σ4 s4 rs4 e4 h4=>⟨by rw [e4 vs hw,wipe_wipe],g3,s4,A2,_,NX,w3,rs4,h4,fun g5 A5 H5 b st5 w5 h5=>?_,fun _ _ _ _ _ _ _ _ _ z=>z⟩
   have st25 := st3.trans st5
   cases b with
   | false =>
    obtain ⟨k1,k2,k3⟩ := keep st25
    exact iteF ⟨g5,A5,acc,ds,st2.trans st25,w5,k1,k2,k3,ra.mono st25.le,by omega,h5⟩
   | true =>
    refine iteT ⟨g5,s4,A5,_,NX,w5,rs4.mono st5.le,h5,fun g6 A6 H6 y6 d6 st6 w6 r6 h6=>?_,fun _ _ _ _ _ _ _ _ _ z=>z⟩
    have st26 := st25.trans st6
    obtain ⟨k1,k2,k3⟩ := keep st26
    refine ⟨acc,k1,by omega, ?_⟩
    have w7 := w6.own (o := .lst (acc ++ [y6])) k2 k3
    refine ⟨g6,A6,acc ++ [y6],ds ++ [d6], ?_,w7,upd_same,k2,k3,(ra.mono st26.le).app (.cons r6 .nil),by simpa using hl,by simpa [List.append_assoc] using h6⟩
    exact (st2.trans st26).put nD
  ·have e:i=items.length := by omega
   subst e
   rw [List.drop_length] at h2
   obtain ⟨hck,h2⟩ := h2
   refine .inl ⟨wk.st _ g2 A2 H2 st2.le w2 hck (Nat.le_refl _),hk g2 A2 H2 D acc ds Qa Q w2 hD hS hI ra (by simpa using h2) fun g' A' v d le own sn inw w' r' h'=>?_⟩
   refine q g' A' H2 v d (st1.trans ⟨st2.le.trans le,st2.kp,fun a ha=>?_,st2.ex,fun a o h1 h0 h2 h3=>?_,fun n a e=>?_⟩) w' r' h'
   ·rcases own a ha with z | z
    ·exact st2.nw a z
    ·exact .inr (by rw [z]; exact nD)
   ·exact sn a (ne_of_none h1 nD) (st2.sn a o h1 h0 h2 h3)
   ·rcases inw n a e with z | z
    ·exact st2.inw n a z
    ·exact .inr (by rw [z]; exact nD),qx⟩
end
end Am
namespace Am
open PySem PySem.Spec PyProof.Rows L2
open Fm (same_new iSeq)
section
variable {K:PySem.W.Frag} {W:WX}
theorem c_lc {mi:MI} {t:TG} {tg:MG} {tt:MT} {te:ME} {vs ws:List Nat} (ht:TgS K t tg ws) (hw:∀ i∈ws,i∈vs):∀ σ H Q,cE K W (mLc mi tg tt te vs) σ H Q→tLc (cI K W mi) t (cT K WF tt) (cE K WF te) vs σ H Q := c_lcG mx_old ht hw
theorem c_lcM {mi:MI} {t:TG} {tg:MG} {tt:MT} {te:ME} {vs ws:List Nat} (ht:TgS K t tg ws) (hw:∀ i∈ws,i∈vs):∀ σ H Q,cE K W (mLcM mi tg tt te vs) σ H Q→tLc (cI K W mi) t (cT K WF tt) (cE K WF te) vs σ H Q := c_lcG mx_new ht hw
def dcL (ck:AH→Prop) (tg:MG) (tt:MT) (tk tv:ME) (s:Sl):List D→List (Key × D)→AH→(List (Key × D)→AH→Prop)→Prop
 | [],acc,A,Q=>ck A∧Q acc A
 | d :: ds,acc,A,Q=>ck A∧tg d s A fun s1 A1=>tt s1 A1 (fun b A2=>if b=true then tk s1 A2 (fun y A3=>tv s1 A3 (fun z A4=>∃ k,kyK y=some k∧dcL ck tg tt tk tv s ds (putD acc k z) A4 Q) NX) NX else dcL ck tg tt tk tv s ds acc A2 Q) NX
def mDc (mi:MI) (tg:MG) (tt:MT) (tk tv:ME) (vs:List Nat):ME := fun s A Q E=>mi s A (fun items ck A1=>items.length≤sizeLine∧dcL ck tg tt tk tv (wipeD s vs) items [] A1 fun kvs A2=>Q (.dK kvs) A2) E
theorem length_putK {κ:Type} [DecidableEq κ] (kvs:List (κ × V)) (k:κ) (v:V):(putK kvs k v).length≤kvs.length + 1 := by
 unfold putK
 split
 ·rw [List.length_map]; omega
 ·rw [List.length_append]; simp
theorem c_dc {mi:MI} {t:TG} {tg:MG} {tt:MT} {tk tv:ME} {vs ws:List Nat} (ht:TgS K t tg ws) (hw:∀ i∈ws,i∈vs) :
  ∀ σ H Q,cE K W (mDc mi tg tt tk tv vs) σ H Q→tDc (cI K W mi) t (cT K WF tt) (cE K WF tk) (cE K WF tv) vs σ H Q := fun σ H Q ⟨g,s,A,Qa,Ea,w,rs,h,q,qx⟩ =>
 ⟨g,s,A,_,Ea,w,rs,h,fun g1 A1 H1 J items ck st1 w1 wk ⟨hz,h1⟩ D nD=>by
  have nS:g1.S D=none := w1.sub.free nD
  have nI:∀ n,g1.i n≠some D := fun n e=>w1.ex n D e nD
  obtain ⟨w1',st1'⟩ := w1.tmp (o := .dK []) nD
  refine ⟨fun i m H=>m=items.length - i∧i≤items.length∧∃ g2 A2 acc ds,Stp g1 A1 H1 g2 A2 H∧Wr K g2 A2 H∧H D=some (.dK acc)∧g2.S D=none∧(∀ n,g2.i n≠some D)∧KReps K g2 acc ds∧acc.length≤i∧dcL ck tg tt tk tv (wipeD s vs) (items.drop i) ds A2 fun kvs A2=>Qa (.dK kvs) A2,
   ⟨items.length,by omega,by omega,g1,A1,[],[],st1',w1',upd_same,nS,nI, .nil,Nat.le_refl _,by simpa using h1⟩, ?_⟩
  rintro i m H2 ⟨rfl,hin,g2,A2,acc,ds,st2,w2,hD,hS,hI,ra,hl,h2⟩
  have rs2 := (rs.mono (st1.trans st2).le).wipe vs
  by_cases hlt:i < items.length
  ·have ed:items.drop i=items[i] :: items.drop (i + 1) := List.drop_eq_getElem_cons hlt
   rw [ed] at h2
   obtain ⟨hck,h2⟩ := h2
   refine .inr ⟨wk.go i g2 A2 H2 st2.le w2 hck hlt,fun H'=>∃ g3 A3 acc ds,Stp g1 A1 H1 g3 A3 H'∧Wr K g3 A3 H'∧H' D=some (.dK acc)∧g3.S D=none∧(∀ n,g3.i n≠some D)∧KReps K g3 acc ds∧acc.length≤i + 1∧dcL ck tg tt tk tv (wipeD s vs) (items.drop (i + 1)) ds A3 fun kvs A2=>Qa (.dK kvs) A2,
    fun H' h=>⟨items.length - (i + 1),by omega,rfl,hlt,h⟩,fun x H' y=>?_⟩
   obtain ⟨g3,st3,w3,rx⟩ := wk.yl i g2 A2 H2 x H' _ st2.le w2 hck (List.getElem?_eq_getElem hlt) y
   have keep:∀ {g4 A4 H4},Stp g2 A2 H2 g4 A4 H4→H4 D=some (.dK acc)∧g4.S D=none∧∀ n,g4.i n≠some D := fun st=>st.beside hD hS hI
   refine ht g3 A2 H' x _ _ _ _ _ w3 rx (rs2.mono st3.le) h2 fun σ4 s4 rs4 e4 h4=>⟨by rw [e4 vs hw,wipe_wipe],g3,s4,A2,_,NX,w3,rs4,h4,fun g5 A5 H5 b st5 w5 h5=>?_,fun _ _ _ _ _ _ _ _ _ z=>z⟩
   have st25 := st3.trans st5
   cases b with
   | false =>
    obtain ⟨k1,k2,k3⟩ := keep st25
    exact iteF ⟨g5,A5,acc,ds,st2.trans st25,w5,k1,k2,k3,ra.mono st25.le,by omega,h5⟩
   | true =>
    refine iteT ⟨g5,s4,A5,_,NX,w5,rs4.mono st5.le,h5,fun g6 A6 H6 y6 d6 st6 w6 r6 h6=>⟨g6,s4,A6,_,NX,w6,rs4.mono (st5.trans st6).le,h6,fun g7 A7 H7 y7 d7 st7 w7 r7 ⟨k,hk,h7⟩=>?_,fun _ _ _ _ _ _ _ _ _ z=>z⟩,fun _ _ _ _ _ _ _ _ _ z=>z⟩
    have st27 := (st25.trans st6).trans st7
    obtain ⟨k1,k2,k3⟩ := keep st27
    refine ⟨acc,k,kyK_ok r6 hk,k1,by omega, ?_⟩
    have w8 := w7.own (o := .dK (putK acc k y7)) k2 k3
    refine ⟨g7,A7,putK acc k y7,putD ds k d7,(st2.trans st27).put nD,w8,upd_same,k2,k3,(ra.mono st27.le).put r7, ?_,h7⟩
    exact Nat.le_trans (length_putK _ _ _) (by omega)
  ·have e:i=items.length := by omega
   subst e
   rw [List.drop_length] at h2
   obtain ⟨hck,h2⟩ := h2
   have le:g2.le ⟨upd g2.S D (.dK acc),g2.i⟩ := ⟨same_new hS,fun _ _ h=>h⟩
   have w':Wr K ⟨upd g2.S D (.dK acc),g2.i⟩ A2 H2 := by
    refine ⟨fun b o e=>?_,w2.inj,w2.ex,w2.fin,fun n x h=>?_⟩
    ·by_cases hb:b=D
     ·subst hb; have e':upd g2.S b (.dK acc) b=some o := e; rw [upd_same] at e'; cases e'; exact ⟨_,hD, .inl rfl⟩
     ·have e':upd g2.S D (.dK acc) b=some o := e; rw [upd_ne hb] at e'; exact w2.sub b o e'
    ·obtain ⟨a,h1,h2,h3⟩ := w2.nd n x h
     have hn:a≠D := fun z=>hI n (by rw [← z]; exact h1)
     exact ⟨a,h1,by show upd g2.S D (.dK acc) a=none; rw [upd_ne hn]; exact h2,h3.mono le rfl⟩
   refine .inl ⟨wk.st _ g2 A2 H2 st2.le w2 hck (Nat.le_refl _),q _ _ _ _ _ (st1.trans ⟨st2.le.trans le,st2.kp,st2.nw,st2.ex,fun a o h1 h0 h2 h3=>?_,st2.inw⟩) w' (.dK (.inl upd_same) (ra.mono le).1 (ra.mono le).2) h2⟩
   show upd g2.S D (.dK acc) a=none
   rw [upd_ne (ne_of_none h1 nD)]
   exact st2.sn a o h1 h0 h2 h3,qx⟩
end
structure AEnds where
 nx:Sl→AH→Prop
 rt:QE
 bk:Sl→AH→Prop
 ct:Sl→AH→Prop
 ex:Xc→Sl→AH→Prop
abbrev MS := AEnds→Sl→AH→Prop
def PostN (K:PySem.W.Frag) (g:Sg) (A:AH) (H:Hp) (Qa:Sl→AH→Prop) (Q:L2.St→Hp→Prop):Prop := ∀ g' A' H' σ' s',Stp g A H g' A' H'→Wr K g' A' H'→RepS K g' σ' s'→Qa s' A'→Q σ' H'
def PostW (K:PySem.W.Frag) (g:Sg) (A:AH) (H:Hp) (Ea:Xc→Sl→AH→Prop) (W:WX):Prop := ∀ g' A' H' σ' s' x cls dd,Stp g A H g' A' H'→Wr K g' A' H'→RepS K g' σ' s'→RepX K g' cls dd x→Ea x s' A'→W cls dd σ' H'
structure PostS (K:PySem.W.Frag) (g:Sg) (A:AH) (H:Hp) (Da:AEnds) (D:Ends) (W:WX):Prop where
 nx:PostN K g A H Da.nx D.nx
 rt:Post K g A H Da.rt D.rt
 bk:PostN K g A H Da.bk D.bk
 ct:PostN K g A H Da.ct D.ct
 ex:PostW K g A H Da.ex W
def cS (K:PySem.W.Frag) (W:WX) (m:MS):TS := fun D σ H=>∃ g s A Da,Wr K g A H∧RepS K g σ s∧m Da s A∧PostS K g A H Da D W
theorem PS.weak {X:Cx} {st:Stmt} {t t':TS} (h:PS X st t) (k:∀ D σ H,t' D σ H→t D σ H):PS X st t' := ⟨fun pins s σ H D I q=>h.run pins s σ H D I (k D σ H q)⟩
theorem PSs.weak {X:Cx} {st:List Stmt} {t t':TS} (h:PSs X st t) (k:∀ D σ H,t' D σ H→t D σ H):PSs X st t' := ⟨fun pins s σ H D I q=>h.run pins s σ H D I (k D σ H q)⟩
section
variable {K:PySem.W.Frag} {W:WX} {g g1:Sg} {A A1:AH} {H H1:Hp} {m ma mb mc:ME}
theorem PostN.step {Qa:Sl→AH→Prop} {Q:L2.St→Hp→Prop} (q:PostN K g A H Qa Q) (s:Stp g A H g1 A1 H1):PostN K g1 A1 H1 Qa Q := fun g' A' H' σ s2 s' w r h=>q g' A' H' σ s2 (s.trans s') w r h
theorem PostW.step {Ea:Xc→Sl→AH→Prop} (q:PostW K g A H Ea W) (s:Stp g A H g1 A1 H1):PostW K g1 A1 H1 Ea W := fun g' A' H' σ s2 x c d s' w r rx h=>q g' A' H' σ s2 x c d (s.trans s') w r rx h
theorem PostS.step {Da:AEnds} {D:Ends} (q:PostS K g A H Da D W) (s:Stp g A H g1 A1 H1):PostS K g1 A1 H1 Da D W := ⟨q.nx.step s,q.rt.step s,q.bk.step s,q.ct.step s,q.ex.step s⟩
theorem PostW.at_ {Ea:Xc→Sl→AH→Prop} {σ:L2.St} {s:Sl} (q:PostW K g A H Ea W) (rs:RepS K g σ s):PostX K g A H (fun x A'=>Ea x s A') (fun c d H'=>W c d σ H') := fun g' A' H' x c d st w rx h=>q g' A' H' σ s x c d st w (rs.mono st.le) rx h
def mNext:MS := fun D s A=>D.nx s A
def mSq (t u:MS):MS := fun D s A=>t { D with nx := fun s' A'=>u D s' A' } s A
theorem c_next:∀ D σ H,cS K W mNext D σ H→tNext D σ H := fun D σ H ⟨g,s,A,Da,w,rs,h,q⟩=>q.nx g A H σ s .refl w rs h
theorem c_sq {t u:MS}:∀ D σ H,cS K W (mSq t u) D σ H→tSeq (cS K W t) (cS K W u) D σ H := fun D σ H ⟨g,s,A,Da,w,rs,h,q⟩ =>
 ⟨g,s,A,_,w,rs,h,⟨fun g1 A1 H1 σ1 s1 st1 w1 r1 h1=>⟨g1,s1,A1,Da,w1,r1,h1,q.step st1⟩,q.rt,q.bk,q.ct,q.ex⟩⟩
def mSet (m:ME) (tg:MG):MS := fun D s A=>m s A (fun d A1=>tg d s A1 D.nx) fun x A1=>D.ex x s A1
theorem c_set {t:TG} {tg:MG} {ws:List Nat} (ht:TgS K t tg ws):∀ D σ H,cS K W (mSet m tg) D σ H→tAsg (cE K W m) t D σ H := fun D σ H ⟨g,s,A,Da,w,rs,h,q⟩ =>
 ⟨g,s,A,_,_,w,rs,h,fun g1 A1 H1 x dx st1 w1 r1 h1=>ht g1 A1 H1 x dx σ s _ _ w1 r1 (rs.mono st1.le) h1 fun σ' s' rs' _ h'=>q.nx g1 A1 H1 σ' s' st1 w1 rs' h',q.ex.at_ rs⟩
def mDrop (m:ME):MS := fun D s A=>m s A (fun _ A1=>D.nx s A1) fun x A1=>D.ex x s A1
theorem c_drop:∀ D σ H,cS K W (mDrop m) D σ H→tDrop (cE K W m) D σ H := fun D σ H ⟨g,s,A,Da,w,rs,h,q⟩ =>
 ⟨g,s,A,_,_,w,rs,h,fun g1 A1 H1 x dx st1 w1 r1 h1=>q.nx g1 A1 H1 σ s st1 w1 (rs.mono st1.le) h1,q.ex.at_ rs⟩
def mRet (m:ME):MS := fun D s A=>m s A D.rt fun x A1=>D.ex x s A1
theorem c_ret:∀ D σ H,cS K W (mRet m) D σ H→tRet (cE K W m) D σ H := fun D σ H ⟨g,s,A,Da,w,rs,h,q⟩=>⟨g,s,A,_,_,w,rs,h,q.rt,q.ex.at_ rs⟩
def frz1 (A:AH) (d:D) (Q:QE):Prop := match d with
 | .ref n=>match A n with
  | some (.lst xs)=>Q (.lst xs) (rem A n)
  | some (.dK kvs)=>Q (.dK kvs) (rem A n)
  | some (.dT kvs)=>Q (.dT kvs) (rem A n)
  | some (.ins c fs)=>Q (.ins c fs) (rem A n)
  | _=>Q d A
 | d=>Q d A
theorem frz1_ok {v:V} {d:D} {Qa:QE} {Q:VK} (w:Wr K g A H) (r:Rep K g v d) (h:frz1 A d Qa) (q:Post K g A H Qa Q):Q v H := by
 unfold frz1 at h
 cases d with
 | ref n =>
  obtain ⟨a,rfl,hi⟩:∃ a,v = .ref a∧g.i n=some a := by cases r with | ref h=>exact ⟨_,rfl,h⟩
  simp only at h
  cases e:A n with
  | none=>rw [e] at h; exact q.now w (.ref hi) h
  | some x =>
   rw [e] at h
   obtain ⟨b,q1,q2,q3⟩ := w.nd n x e
   rw [hi] at q1; cases q1
   cases x with
   | lst xs =>
    obtain ⟨vs,z1,z2⟩ := q3
    obtain ⟨w2,st2⟩ := w.freeze hi e z1
    exact q _ _ _ _ _ st2 w2 (.lst (.inl upd_same) (z2.mono st2.le)) h
   | dK xs =>
    obtain ⟨vs,z1,z2,z3⟩ := q3
    obtain ⟨w2,st2⟩ := w.freeze hi e z1
    exact q _ _ _ _ _ st2 w2 (.dK (.inl upd_same) z2 (z3.mono st2.le)) h
   | dT xs =>
    obtain ⟨vs,z1,z2,z3⟩ := q3
    obtain ⟨w2,st2⟩ := w.freeze hi e z1
    exact q _ _ _ _ _ st2 w2 (.dT (.inl upd_same) z2 (z3.mono st2.le)) h
   | ins c fs =>
    obtain ⟨dx,vs,z1,z2,z3⟩ := q3
    obtain ⟨w2,st2⟩ := w.freeze hi e z1
    exact q _ _ _ _ _ st2 w2 (.ins upd_same z2 (z3.mono st2.le)) h
   | pool=>exact q.now w (.ref hi) h
   | lkK o us ds=>exact q.now w (.ref hi) h
   | lkT o us ds=>exact q.now w (.ref hi) h
 | _=>exact q.now w r h
def mFz (m:ME):ME := fun s A Q E=>m s A (fun d A1=>frz1 A1 d Q) E
theorem c_fz:∀ σ H Q,cE K W (mFz m) σ H Q→cE K W m σ H Q := fun σ H Q ⟨g,s,A,Qa,Ea,w,rs,h,q,qx⟩ =>
 ⟨g,s,A,_,Ea,w,rs,h,fun g1 A1 H1 x dx st1 w1 r1 h1=>frz1_ok w1 r1 h1 (q.step st1),qx⟩
def mIfS (t:MT) (u v:MS):MS := fun D s A=>t s A (fun b A1=>if b=true then u D s A1 else v D s A1) fun x A1=>D.ex x s A1
theorem c_ifS {t:MT} {u v:MS}:∀ D σ H,cS K W (mIfS t u v) D σ H→tIfS (cT K W t) (cS K W u) (cS K W v) D σ H := fun D σ H ⟨g,s,A,Da,w,rs,h,q⟩ =>
 ⟨g,s,A,_,_,w,rs,h,fun g1 A1 H1 b st1 w1 h1=>by
  cases b with
  | true=>exact iteT ⟨g1,s,A1,Da,w1,rs.mono st1.le,h1,q.step st1⟩
  | false=>exact iteF ⟨g1,s,A1,Da,w1,rs.mono st1.le,h1,q.step st1⟩,q.ex.at_ rs⟩
def forL (ck:AH→Prop) (tg:MG) (tb:MS):List D→MS
 | [],D,s,A=>ck A∧D.nx s A
 | d :: ds,D,s,A=>ck A∧tg d s A fun s1 A1=>tb { D with nx := fun s2 A2=>forL ck tg tb ds D s2 A2,ct := fun s2 A2=>forL ck tg tb ds D s2 A2,bk := D.nx } s1 A1
def mFor (mi:MI) (tg:MG) (tb:MS):MS := fun D s A=>mi s A (fun items ck A1=>forL ck tg tb items D s A1) fun x A1=>D.ex x s A1
theorem c_for {mi:MI} {t:TG} {tg:MG} {tb:MS} {ws:List Nat} (ht:TgS K t tg ws):∀ D σ H,cS K W (mFor mi tg tb) D σ H→tFor (cI K W mi) t (cS K W tb) D σ H := fun D σ H ⟨g,s,A,Da,w,rs,h,q⟩ =>
 ⟨g,s,A,_,_,w,rs,h,fun g1 A1 H1 J items ck st1 w1 wk h1=>by
  refine ⟨fun i m σ H=>m=items.length - i∧i≤items.length∧∃ g2 A2 s2,Stp g1 A1 H1 g2 A2 H∧Wr K g2 A2 H∧RepS K g2 σ s2∧forL ck tg tb (items.drop i) Da s2 A2,⟨items.length,by omega,by omega,g1,A1,s, .refl,w1,rs.mono st1.le,by simpa using h1⟩, ?_⟩
  rintro i m σ2 H2 ⟨rfl,hin,g2,A2,s2,st2,w2,rs2,h2⟩
  have st12 := st1.trans st2
  by_cases hlt:i < items.length
  ·have ed:items.drop i=items[i] :: items.drop (i + 1) := List.drop_eq_getElem_cons hlt
   rw [ed] at h2
   obtain ⟨hck,h2⟩ := h2
   refine .inr ⟨wk.go i g2 A2 H2 st2.le w2 hck hlt,fun σ' H'=>∃ g3 A3 s3,Stp g1 A1 H1 g3 A3 H'∧Wr K g3 A3 H'∧RepS K g3 σ' s3∧forL ck tg tb (items.drop (i + 1)) Da s3 A3,fun σ' H' h=>⟨items.length - (i + 1),by omega,rfl,hlt,h⟩,fun x H' y=>?_⟩
   obtain ⟨g3,st3,w3,rx⟩ := wk.yl i g2 A2 H2 x H' _ st2.le w2 hck (List.getElem?_eq_getElem hlt) y
   refine ht g3 A2 H' x _ _ _ _ _ w3 rx (rs2.mono st3.le) h2 fun σ4 s4 rs4 _ h4=>⟨g3,s4,A2,_,w3,rs4,h4, ?_⟩
   have st13 := st12.trans st3
   have n5:PostN K g3 A2 H' (fun s2 A2=>forL ck tg tb (items.drop (i + 1)) Da s2 A2) (fun σ' H'=>∃ g3 A3 s3,Stp g1 A1 H1 g3 A3 H'∧Wr K g3 A3 H'∧RepS K g3 σ' s3∧forL ck tg tb (items.drop (i + 1)) Da s3 A3) := fun g5 A5 H5 σ5 s5 st5 w5 rs5 h5=>⟨g5,A5,s5,(st2.trans st3).trans st5,w5,rs5,h5⟩
   exact ⟨n5,q.rt.step st13,q.nx.step st13,n5,q.ex.step st13⟩
  ·have e:i=items.length := by omega
   subst e
   rw [List.drop_length] at h2
   obtain ⟨hck,h2⟩ := h2
   exact .inl ⟨wk.st _ g2 A2 H2 st2.le w2 hck (Nat.le_refl _),q.nx g2 A2 H2 σ2 s2 st12 w2 rs2 h2⟩,q.ex.at_ rs⟩
end
end Am
namespace Am
open PySem PySem.Spec PyProof.Rows L2
open Fm (same_new iSeq rOwn rOwnT rOwnIn tClS tStatS tMakeS tOpS ClsX)
section
variable {K:PySem.W.Frag} {W:WX} {g g1:Sg} {A A1:AH} {H H1:Hp} {m ma mb mc:ME} {v:V} {d:D}
def putFD (f:Str) (v:D):List (Str × D)→List (Str × D)
 | []=>[(f,v)]
 | (g,x) :: r=>if g=f then (g,v) :: r else (g,x) :: putFD f v r
theorem KReps.putF {f:Str} (r:Rep K g v d):∀ {kvs:List (Str × V)} {ds:List (Str × D)},KReps K g kvs ds→KReps K g (putF f v kvs) (putFD f d ds)
 | kvs,ds,h=>by
  rcases h.ind with ⟨e1,e2⟩ | ⟨k,v',d',kr,dr,e1,e2,hr,ht⟩
  ·subst e1; subst e2; exact KReps.nil.cons r
  ·subst e1; subst e2
   unfold L2.putF putFD
   by_cases q:k=f
   ·rw [if_pos q,if_pos q]; exact ht.cons r
   ·rw [if_neg q,if_neg q]; exact (KReps.putF r ht).cons hr
 termination_by kvs=>kvs.length
 decreasing_by subst e1; simp
theorem Wr.nodeI {n:Nat} {c:Str} {fs:List (Str × D)} (w:Wr K g A H) (r:Rep K g v (.ref n)) (h:A n=some (.ins c fs)):∃ a dx fvs,v = .ref a∧g.i n=some a∧H a=some (.ins (He.ga K c) dx fvs)∧KReps K g fvs fs := by
 cases r with
 | ref h1 =>
  obtain ⟨a,q1,q2,dx,vs,q3,q4,q5⟩ := w.nd n _ h
  rw [h1] at q1; cases q1
  exact ⟨_,dx,vs,rfl,h1,q3,q4,q5⟩
def mSFld (cs:List Str) (f:Str) (mo mv:ME):MS := fun D s A=>mv s A (fun y A1=>mo s A1 (fun x A2=>∃ n c fs,x = .ref n∧A2 n=some (.ins c fs)∧c∈cs∧fs.length < 1000∧D.nx s (put A2 n (.ins c (putFD f y fs)))) fun e A2=>D.ex e s A2) fun e A1=>D.ex e s A1
theorem c_sfld {cs:List Str} {f:Str} {mo mv:ME} (hc:∀ c∈cs,Cls K (He.ga K c)∧NoAttr K (He.ga K c) f):∀ D σ H,cS K W (mSFld cs f mo mv) D σ H→sFld K (cE K W mo) (cE K W mv) f D σ H := fun D σ H ⟨g,s,A,Da,w,rs,h,q⟩ =>
 ⟨g,s,A,_,_,w,rs,h,fun g1 A1 H1 y dy st1 w1 r1 h1=>⟨g1,s,A1,_,_,w1,rs.mono st1.le,h1,fun g2 A2 H2 x dx st2 w2 r2 ⟨n,c,fs,e1,e2,e3,e4,h2⟩=>by
  subst e1
  obtain ⟨a,ddx,fvs,rfl,q1,q2,q3⟩ := w2.nodeI r2 e2
  have hp := KReps.putF (f := f) (r1.mono st2.le) q3
  obtain ⟨w3,st3⟩ := w2.set (o := .ins (He.ga K c) ddx (L2.putF f y fvs)) (y := .ins c (putFD f dy fs)) q1 e2 ⟨_,_,upd_same,hp.1,hp.2⟩
  have st := (st1.trans st2).trans st3
  exact ⟨a,_,ddx,fvs,rfl,q2,(hc c e3).1,(hc c e3).2,by rw [q3.len]; exact e4,q.nx _ _ _ σ s st w3 (rs.mono st.le) h2⟩,(q.step st1).ex.at_ (rs.mono st1.le)⟩,q.ex.at_ rs⟩
def dput (A:AH) (x y v:D) (Q:AH→Prop):Prop := ∃ n,x = .ref n∧((∃ kvs k,A n=some (.dK kvs)∧kyK y=some k∧kvs.length < sizeLine∧Q (put A n (.dK (putD kvs k v))))∨∃ kvs k,A n=some (.dT kvs)∧kyT y=some k∧kvs.length < sizeLine∧Q (put A n (.dT (putD kvs k v))))
theorem dput_ok {x y u:V} {dx dy du:D} {Qa:AH→Prop} {Q:Hp→Prop} (w:Wr K g A H) (rx:Rep K g x dx) (ry:Rep K g y dy) (ru:Rep K g u du) (h:dput A dx dy du Qa) (q:∀ A' H',Stp g A H g A' H'→Wr K g A' H'→Qa A'→Q H'):∃ a H',x = .ref a∧DPut H a y u H'∧Q H' := by
 obtain ⟨n,e,h⟩ := h
 subst e
 obtain ⟨a,rfl,hi⟩:∃ a,x = .ref a∧g.i n=some a := by cases rx with | ref h=>exact ⟨_,rfl,h⟩
 rcases h with ⟨kvs,k,h1,h2,h3,h4⟩ | ⟨kvs,k,h1,h2,h3,h4⟩
 ·obtain ⟨a',q1,q2,ks,q3,q4,q5⟩ := w.nd n _ h1
  rw [hi] at q1; cases q1
  have hp:KReps K g (putK ks k u) (putD kvs k du) := KReps.put ⟨q4,q5⟩ ru
  have hl:ks.length=kvs.length := KReps.len (K := K) (g := g) ⟨q4,q5⟩
  obtain ⟨w3,st3⟩ := w.set (o := .dK (putK ks k u)) (y := .dK (putD kvs k du)) hi h1 ⟨_,upd_same,hp.1,hp.2⟩
  exact ⟨a,_,rfl, .inl ⟨ks,k,q3,kyK_ok ry h2,by omega,rfl⟩,q _ _ st3 w3 h4⟩
 ·obtain ⟨a',q1,q2,ks,q3,q4,q5⟩ := w.nd n _ h1
  rw [hi] at q1; cases q1
  have hp:KReps K g (putK ks k u) (putD kvs k du) := KReps.put ⟨q4,q5⟩ ru
  have hl:ks.length=kvs.length := KReps.len (K := K) (g := g) ⟨q4,q5⟩
  obtain ⟨b,eb,hb⟩ := kyT_ok w ry h2
  obtain ⟨w3,st3⟩ := w.set (o := .dT (putK ks k u)) (y := .dT (putD kvs k du)) hi h1 ⟨_,upd_same,hp.1,hp.2⟩
  exact ⟨a,_,rfl, .inr ⟨ks,k,b,q3,eb,hb,by omega,rfl⟩,q _ _ st3 w3 h4⟩
def mDPut (mo mi mv:ME):MS := fun D s A=>mv s A (fun z A1=>mo s A1 (fun x A2=>mi s A2 (fun y A3=>dput A3 x y z fun A4=>D.nx s A4) fun e A=>D.ex e s A) fun e A=>D.ex e s A) fun e A=>D.ex e s A
theorem c_dput {mo mi mv:ME}:∀ D σ H,cS K W (mDPut mo mi mv) D σ H→sDPut (cE K W mo) (cE K W mi) (cE K W mv) D σ H := fun D σ H ⟨g,s,A,Da,w,rs,h,q⟩ =>
 ⟨g,s,A,_,_,w,rs,h,fun g1 A1 H1 z dz st1 w1 r1 h1=>⟨g1,s,A1,_,_,w1,rs.mono st1.le,h1,fun g2 A2 H2 x dx st2 w2 r2 h2=>⟨g2,s,A2,_,_,w2,rs.mono (st1.trans st2).le,h2,fun g3 A3 H3 y dy st3 w3 r3 h3=>by
  have st := (st1.trans st2).trans st3
  exact dput_ok w3 (r2.mono st3.le) r3 (r1.mono (st2.trans st3).le) h3 fun A4 H4 st4 w4 h4=>q.nx _ _ _ σ s (st.trans st4) w4 (rs.mono (st.trans st4).le) h4,(q.step (st1.trans st2)).ex.at_ (rs.mono (st1.trans st2).le)⟩,(q.step st1).ex.at_ (rs.mono st1.le)⟩,q.ex.at_ rs⟩
def lput (A:AH) (x y v:D) (Q:AH→Prop):Prop := ∃ n xs i j,x = .ref n∧A n=some (.lst xs)∧y = .int i∧ixN xs.length i=some j∧Q (put A n (.lst (xs.set j v)))
def mLPut (mo mi mv:ME):MS := fun D s A=>mv s A (fun z A1=>mo s A1 (fun x A2=>mi s A2 (fun y A3=>lput A3 x y z fun A4=>D.nx s A4) fun e A=>D.ex e s A) fun e A=>D.ex e s A) fun e A=>D.ex e s A
theorem lput_ok {x y u:V} {dx dy du:D} {Qa:AH→Prop} {Q:Hp→Prop} (w:Wr K g A H) (rx:Rep K g x dx) (ry:Rep K g y dy) (ru:Rep K g u du) (h:lput A dx dy du Qa) (q:∀ A' H',Stp g A H g A' H'→Wr K g A' H'→Qa A'→Q H'):rSetL x y u H Q := by
 obtain ⟨n,xs,i,j,e1,e2,e3,e4,h⟩ := h
 subst e1; subst e3
 obtain ⟨a,vs,rfl,q1,q2,q3⟩ := w.nodeL rx e2
 obtain ⟨w3,st3⟩ := w.set (o := .lst (vs.set j u)) (y := .lst (xs.set j du)) q1 e2 ⟨_,upd_same,q3.set_ j ru⟩
 exact ⟨a,vs,i,j,rfl,ry.int_,q2,by rw [q3.len]; exact e4,q _ _ st3 w3 h⟩
theorem c_lput {mo mi mv:ME}:∀ D σ H,cS K W (mLPut mo mi mv) D σ H→tAsg (cE K W mv) (gSub (cE K W mo) (cE K W mi) rSetL) D σ H := fun D σ H ⟨g,s,A,Da,w,rs,h,q⟩ =>
 ⟨g,s,A,_,_,w,rs,h,fun g1 A1 H1 z dz st1 w1 r1 h1=>⟨g1,s,A1,_,_,w1,rs.mono st1.le,h1,fun g2 A2 H2 x dx st2 w2 r2 h2=>⟨g2,s,A2,_,_,w2,rs.mono (st1.trans st2).le,h2,fun g3 A3 H3 y dy st3 w3 r3 h3=>by
  have st := (st1.trans st2).trans st3
  exact lput_ok w3 (r2.mono st3.le) r3 (r1.mono (st2.trans st3).le) h3 fun A4 H4 st4 w4 h4=>q.nx _ _ _ σ s (st.trans st4) w4 (rs.mono (st.trans st4).le) h4,(q.step (st1.trans st2)).ex.at_ (rs.mono (st1.trans st2).le)⟩,(q.step st1).ex.at_ (rs.mono st1.le)⟩,q.ex.at_ rs⟩
def mPar (i j:Nat) (r:MA):MS := fun D s A=>r s A (fun ds A1=>∃ a b,ds=[a,b]∧D.nx ((s.set i (some a)).set j (some b)) A1) fun e A=>D.ex e s A
theorem c_par {i j:Nat} {mr:MA}:∀ D σ H,cS K W (mPar i j mr) D σ H→tPar i j (cA K W mr) D σ H := fun D σ H ⟨g,s,A,Da,w,rs,h,q⟩ =>
 ⟨g,s,A,_,_,w,rs,h,fun g1 A1 H1 xs ds st1 w1 r1 ⟨a,b,e,h1⟩=>by
  subst e
  cases r1 with
  | cons ra r1=>cases r1 with
   | cons rb r1 =>
    cases r1
    exact ⟨_,_,rfl,q.nx _ _ _ _ _ st1 w1 (((rs.mono st1.le).set ra).set rb) h1⟩,q.ex.at_ rs⟩
abbrev FN := List D→AH→QE→QX→Prop
def spM (K:PySem.W.Frag) (f:FN):Sp := fun vs H Q E=>∃ g A ds Qa Ea,Wr K g A H∧Reps K g vs ds∧f ds A Qa Ea∧Post K g A H Qa Q∧PostX K g A H Ea E
def Fg (A:AH) (P:AH→Prop):Prop := ∃ A',Les A' A∧P A'
def mFn (k n:Nat) (body:MS):FN := fun ds A Q E=>ds.length=k∧body { nx := fun _ A'=>Fg A' (Q .non),rt := fun d A'=>Fg A' (Q d),bk := fun _ _=>False,ct := fun _ _=>False,ex := fun x _ A'=>Fg A' (E x) } (ds.map some ++ List.replicate (n - k) none) A
abbrev WD (E:XK):WX := fun c d _ H=>E c d H
theorem Reps.slots {vs:List V} {ds:List D} (n:Nat) (h:Reps K g vs ds):RepS K g (vs.map some ++ List.replicate n none) (ds.map some ++ List.replicate n none) := by
 refine ⟨by simp [h.len],fun i d e=>?_⟩
 have hi:i < ds.length := Classical.byContradiction fun z=>by
  rw [List.getElem?_append_right (by simpa using z),List.getElem?_replicate] at e
  split at e <;> cases e
 rw [List.getElem?_append_left (by simpa using hi),List.getElem?_map] at e
 cases q:ds[i]? with
 | none=>rw [q] at e; cases e
 | some d' =>
  rw [q] at e; cases e
  obtain ⟨v,h1,h2⟩ := h.at_ q
  exact ⟨v,by rw [List.getElem?_append_left (by rw [List.length_map,h.len]; exact hi),List.getElem?_map,h1]; rfl,h2⟩
theorem fn_ok {k:Nat} {N:List Str} {body:MS} {vs:List V} {Q:VK} {E:XK} (h:spM K (mFn k N.length body) vs H Q E):cS K (WD E) body { nx := fun _ H'=>Q .non H',rt := Q } (start N vs) H := by
 obtain ⟨g,A,ds,Qa,Ea,w,r,⟨hk,h⟩,q,qx⟩ := h
 have hl:vs.length=k := by rw [r.len]; exact hk
 refine ⟨g,_,A,_,w, ?_,h,⟨fun g' A' H' σ' s' st w' _ ⟨A2,l2,h'⟩=>q _ _ _ _ _ (st.forget l2) (w'.forget l2) .non h',fun g' A' H' v d st w' r' ⟨A2,l2,h'⟩=>q _ _ _ _ _ (st.forget l2) (w'.forget l2) r' h',fun _ _ _ _ _ _ _ _ z=>z,fun _ _ _ _ _ _ _ _ z=>z,fun g' A' H' σ' s' x c d st w' _ rx ⟨A2,l2,h'⟩=>qx _ _ _ _ _ _ (st.forget l2) (w'.forget l2) rx h'⟩⟩
 unfold L2.start
 rw [hl]
 exact r.slots _
theorem fn_len {k n:Nat} {body:MS} {vs:List V} {Q:VK} {E:XK} (h:spM K (mFn k n body) vs H Q E):vs.length=k := by
 obtain ⟨g,A,ds,Qa,Ea,w,r,⟨hk,h⟩,q,qx⟩ := h
 rw [r.len]; exact hk
def mCall (f:FN) (r:MA):ME := fun s A Q E=>r s A (fun ds A1=>f ds A1 Q E) E
theorem c_cl {f:FN} {mr:MA}:∀ σ H Q,cE K W (mCall f mr) σ H Q→tClS (spM K f) (WE W) (cA K W mr) σ H Q := fun σ H Q ⟨g,s,A,Qa,Ea,w,rs,h,q,qx⟩ =>
 ⟨g,s,A,_,Ea,w,rs,h,fun g1 A1 H1 vs ds st1 w1 r1 h1=>⟨g1,A1,ds,Qa,Ea,w1,r1,h1,q.step st1,qx.step st1⟩,qx⟩
theorem c_stat {f:FN} {mr:MA} {C:Addr}:∀ σ H Q,cE K W (mCall f mr) σ H Q→tStatS C (spM K f) (WE W) (tC (.ref C)) (cA K W mr) σ H Q := fun σ H Q h=>⟨rfl,c_cl σ H Q h⟩
def mMakeG (fin:AH→D→QE→Prop) (c:Str) (f:FN) (r:MA):ME := fun s A Q E=>r s A (fun ds A1=>∀ n,A1 n=none→f (.ref n :: ds) (put A1 n (.ins c [])) (fun d A2=>d = .non∧fin A2 (.ref n) Q) E) E
def FinS (K:PySem.W.Frag) (fin:AH→D→QE→Prop):Prop := ∀ g A H v d Qa Q,Wr K g A H→Rep K g v d→fin A d Qa→Post K g A H Qa Q→Q v H
theorem c_makeG {fin:AH→D→QE→Prop} {f:FN} {mr:MA} {c:Str} (hf:FinS K fin):∀ σ H Q,cE K W (mMakeG fin c f mr) σ H Q→tMakeS (He.ga K c) (spM K f) (WE W) (cA K W mr) σ H Q := fun σ H Q ⟨g,s,A,Qa,Ea,w,rs,h,q,qx⟩ =>
 ⟨g,s,A,_,Ea,w,rs,h,fun g1 A1 H1 vs ds st1 w1 r1 h1 x dx nx ndx hne=>by
  obtain ⟨w2,st2⟩ := w1.tmp (o := .own x) ndx
  have nx2:upd H1 dx (.own x) x=none := by rw [upd_ne (Ne.symm hne)]; exact nx
  obtain ⟨n,hA,hi,w3,st3⟩ := w2.node (o := .ins (He.ga K c) dx []) (x := .ins c []) nx2 fun g' e=>⟨dx,[],upd_same,rfl, .nil⟩
  have st := (st1.trans st2).trans st3
  have hn := h1 n hA
  refine ⟨_,_,_,_,_,w3, .cons (.ref (if_pos rfl)) (r1.mono (st2.trans st3).le),hn,fun g4 A4 H4 v d st4 w4 r4 ⟨e,h4⟩=>?_,qx.step st⟩
  subst e
  exact ⟨r4.non_,hf g4 A4 H4 (.ref x) (.ref n) Qa Q w4 (.ref (st4.le.i _ _ (if_pos rfl))) h4 (q.step (st.trans st4))⟩,qx⟩
def mOwn (c:Str) (f:FN) (ma mb:ME):ME := fun s A Q E=>ma s A (fun x A1=>mb s A1 (fun y A2=>(∃ fs,insOf A2 x=some (c,fs))∧(∃ fs,insOf A2 y=some (c,fs))∧f [x,y] A2 Q E) E) E
theorem c_own {f:FN} {c:Str}:∀ σ H Q,cE K W (mOwn c f ma mb) σ H Q→tOpS (fun σ=>rOwn (He.ga K c) (spM K f) (WE W σ)) (cE K W ma) (cE K W mb) σ H Q := fun σ H Q ⟨g,s,A,Qa,Ea,w,rs,h,q,qx⟩ =>
 ⟨g,s,A,_,Ea,w,rs,h,fun g1 A1 H1 x dx st1 w1 r1 h1=>⟨g1,s,A1,_,Ea,w1,rs.mono st1.le,h1,fun g2 A2 H2 y dy st2 w2 r2 ⟨⟨fs,h3⟩,⟨gs,h4⟩,h2⟩=>by
  have r1' := r1.mono st2.le
  have st := st1.trans st2
  obtain ⟨a,d1,f1,e1,q1,_⟩ := w2.ins r1' h3
  obtain ⟨b,d2,f2,e2,q2,_⟩ := w2.ins r2 h4
  exact ⟨a,b,d1,d2,f1,f2,e1,e2,q1,q2,g2,A2,_,Qa,Ea,w2, .cons r1' (.cons r2 .nil),h2,q.step st,qx.step st⟩,qx.step st1⟩,qx⟩
def mOwnT (c:Str) (f:FN) (ma mb:ME):ME := fun s A Q E=>ma s A (fun x A1=>mb s A1 (fun y A2=>(∃ fs,insOf A2 x=some (c,fs))∧(∃ ds,y = .tup ds)∧f [x,y] A2 Q E) E) E
theorem c_ownT {f:FN} {c:Str}:∀ σ H Q,cE K W (mOwnT c f ma mb) σ H Q→tOpS (fun σ=>rOwnT K (He.ga K c) (spM K f) (WE W σ)) (cE K W ma) (cE K W mb) σ H Q := fun σ H Q ⟨g,s,A,Qa,Ea,w,rs,h,q,qx⟩ =>
 ⟨g,s,A,_,Ea,w,rs,h,fun g1 A1 H1 x dx st1 w1 r1 h1=>⟨g1,s,A1,_,Ea,w1,rs.mono st1.le,h1,fun g2 A2 H2 y dy st2 w2 r2 ⟨⟨fs,h3⟩,⟨ds,h4⟩,h2⟩=>by
  have r1' := r1.mono st2.le
  have st := st1.trans st2
  obtain ⟨a,d1,f1,e1,q1,_⟩ := w2.ins r1' h3
  subst h4
  obtain ⟨b,vs,rfl,hb⟩:∃ b vs,y = .ref b∧g2.S b=some (.tup vs) := by cases r2 with | tup h _=>exact ⟨_,_,rfl,h⟩
  exact ⟨a,b,d1,f1,vs,e1,rfl,q1,w2.sub.sqt (.inl (.inl hb)),g2,A2,_,Qa,Ea,w2, .cons r1' (.cons r2 .nil),h2,q.step st,qx.step st⟩,qx.step st1⟩,qx⟩
theorem nox {A0:AH} {E:XK}:PostX K g A0 H NX E := fun _ _ _ _ _ _ _ _ _ z=>z.elim
def mOwnIn (neg:Bool) (c:Str) (f:FN) (ma mb:ME):ME := fun s A Q E=>ma s A (fun x A1=>mb s A1 (fun y A2=>(∃ fs,insOf A2 y=some (c,fs))∧f [y,x] A2 (fun d A3=>∃ b,d = .bl b∧Q (.bl (if neg then !b else b)) A3) NX) E) E
theorem c_ownIn {f:FN} {c:Str} {neg:Bool} {E:XK}:∀ σ H Q,cE K W (mOwnIn neg c f ma mb) σ H Q→tOp (rOwnIn (He.ga K c) (spM K f) E neg) (cE K W ma) (cE K W mb) σ H Q := fun σ H Q ⟨g,s,A,Qa,Ea,w,rs,h,q,qx⟩ =>
 ⟨g,s,A,_,Ea,w,rs,h,fun g1 A1 H1 x dx st1 w1 r1 h1=>⟨g1,s,A1,_,Ea,w1,rs.mono st1.le,h1,fun g2 A2 H2 y dy st2 w2 r2 ⟨⟨fs,h3⟩,h2⟩=>by
  have st := st1.trans st2
  obtain ⟨a,d1,f1,e1,q1,_⟩ := w2.ins r2 h3
  exact ⟨a,d1,f1,e1,q1,g2,A2,_,_,_,w2, .cons r2 (.cons (r1.mono st2.le) .nil),h2,fun g3 A3 H3 z dz st3 w3 r3 ⟨b,eb,h3⟩=>⟨b,by subst eb; exact r3.bl_,q _ _ _ _ _ (st.trans st3) w3 (.bl _) h3⟩,nox⟩,qx.step st1⟩,qx⟩
end
end Am
namespace Am
open PySem PySem.Spec PyProof.Rows L2
open Fm (same_new iSeq ClsX tRz spE1 spE2)
inductive TyN where
 | b (n:String) | c (n:Str)
 deriving DecidableEq
def tyD (A:AH):D→Option TyN
 | .non=>some (.b "NoneType")
 | .bl _=>some (.b "bool")
 | .int _=>some (.b "int")
 | .str _=>some (.b "str")
 | .tup _=>some (.b "tuple")
 | .ktup _=>some (.b "tuple")
 | .lst _=>some (.b "list")
 | .ins c _=>some (.c c)
 | .ref n=>match A n with
  | some (.lst _)=>some (.b "list")
  | some (.dK _)=>some (.b "dict")
  | some (.dT _)=>some (.b "dict")
  | some (.ins c _)=>some (.c c)
  | _=>none
 | _=>none
def TyN.val (K:PySem.W.Frag):TyN→Value
 | .b n=>.type n
 | .c n=>.ref (He.ga K n)
section
variable {K:PySem.W.Frag} {W:WX} {g g1:Sg} {A A1:AH} {H H1:Hp} {m ma mb mc:ME} {v:V} {d:D}
def CsOk (K:PySem.W.Frag) (cs:List Str):Prop := ∀ c∈cs,Cls K (He.ga K c)∧ClsX K (He.ga K c)
def inCs (cs:List Str):TyN→Prop
 | .b _=>True
 | .c n=>n∈cs
theorem tyD_ok {cs:List Str} {t:TyN} (hc:CsOk K cs) (w:Wr K g A H) (r:Rep K g v d) (h:tyD A d=some t) (ht:inCs cs t):TyX K H v (t.val K) := by
 cases r with
 | non=>cases h; exact .base .non
 | bl b=>cases h; exact .base (.bl b)
 | int b=>cases h; exact .base (.int b)
 | str b=>cases h; exact .base (.str b)
 | tup h1 h2=>cases h; exact Fm.ty_tup (w.sub.sqt (.inl (.inl h1)))
 | ktup h1 h2=>cases h; exact Fm.ty_tup (w.sub.sqt h1)
 | lst h1 h2 =>
  cases h
  rcases w.sub.rd h1 with h3 | ⟨o,h3⟩
  ·exact .base (.lst h3)
  ·exact .base (.frz h3)
 | ins h1 h2 h3 =>
  cases h
  obtain ⟨q1,q2⟩ := hc _ ht
  exact Fm.ty_ins q1 q2 (w.sub.ins h1)
 | ref h1 =>
  rename_i a n
  unfold tyD at h
  simp only at h
  cases e:A n with
  | none=>rw [e] at h; cases h
  | some x =>
   rw [e] at h
   obtain ⟨b,q1,q2,q3⟩ := w.nd n x e
   rw [h1] at q1; cases q1
   cases x with
   | lst xs=>cases h; obtain ⟨vs,z,_⟩ := q3; exact .base (.lst z)
   | dK xs=>cases h; obtain ⟨vs,z,_⟩ := q3; exact .base (.dK z)
   | dT xs=>cases h; obtain ⟨vs,z,_⟩ := q3; exact .base (.dT z)
   | ins c fs =>
    cases h
    obtain ⟨dx,vs,z,_⟩ := q3
    obtain ⟨z1,z2⟩ := hc _ ht
    exact Fm.ty_ins z1 z2 z
   | pool=>cases h
   | lkK o us ds=>cases h
   | lkT o us ds=>cases h
 | _=>cases h
def mIsi (tab:List (TyN × Bool)) (m:ME):ME := fun s A Q E=>m s A (fun d A1=>∃ t b,tyD A1 d=some t∧tab.lookup t=some b∧Q (.bl b) A1) E
theorem lookup_mem {α β:Type} [BEq α] [LawfulBEq α] {a:α} {b:β}:∀ {l:List (α × β)},l.lookup a=some b→(a,b)∈l
 | (k,x) :: r,h=>by
  rw [List.lookup_cons] at h
  cases q:(a == k) with
  | true=>rw [q] at h; cases h; rw [eq_of_beq q]; exact List.mem_cons_self ..
  | false=>rw [q] at h; exact List.mem_cons_of_mem _ (lookup_mem h)
theorem c_isi {cs:List Str} {tab:List (TyN × Bool)} {c:V} {u:Value} (hcs:CsOk K cs) (hu:ClsV c u) (ht:∀ p∈tab,inCs cs p.1∧PySem.W.kitOne K (p.1.val K) u=some p.2):∀ σ H Q,cE K W (mIsi tab m) σ H Q→tCB (rIsi K) (tCons (cE K W m) (tCons (tC c) tNil)) σ H Q := fun σ H Q ⟨g,s,A,Qa,Ea,w,rs,h,q,qx⟩ =>
 ⟨g,s,A,_,Ea,w,rs,h,fun g1 A1 H1 x dx st1 w1 r1 ⟨t,b,h1,h2,h3⟩=>by
  obtain ⟨z1,z2⟩ := ht _ (lookup_mem h2)
  exact ⟨x,c,_,u,b,rfl,hu,tyD_ok hcs w1 r1 h1 z1,z2,q _ _ _ _ _ st1 w1 (.bl _) h3⟩,qx⟩
def mRz1 (c f:Str) (m:ME):MS := fun D s A=>m s A (fun v A1=>D.ex ⟨c,[(f,v)]⟩ s A1) fun e A=>D.ex e s A
theorem c_rz1 {c f:Str}:∀ D σ H,cS K W (mRz1 c f m) D σ H→tRz (He.ga K c) (spE1 (He.ga K c) f) (tCons (cE K W m) tNil) W D σ H := fun D σ H ⟨g,s,A,Da,w,rs,h,q⟩ =>
 ⟨g,s,A,_,_,w,rs,h,fun g1 A1 H1 v dv st1 w1 r1 h1=>⟨by simp,fun a na=>⟨a,v,rfl,upd_same,fun dx nx hne=>by
  have hda:H1 dx=none := by rw [upd_ne hne] at nx; exact nx
  refine ⟨rfl,dx,[(f,v)],upd_same,by rw [upd_ne hne,upd_same],hda, ?_⟩
  have e:upd (L2.del (upd (upd (upd H1 a (exo a (He.ga K c) none)) dx (exd dx [(f,v)])) a (exo a (He.ga K c) (some dx))) a) dx (.xd [(f,v)])=upd H1 dx (.xd [(f,v)]) := by
   funext b
   by_cases h1:b=dx
   ·subst h1; rw [upd_same,upd_same]
   ·rw [upd_ne h1,upd_ne h1]
    by_cases h2:b=a
    ·subst h2; rw [L2.del_same,na]
    ·rw [L2.del_ne h2,upd_ne h2,upd_ne h1,upd_ne h2]
  rw [e]
  obtain ⟨w2,st2⟩ := w1.new (o := .xd [(f,v)]) hda
  exact q.ex _ _ _ σ s ⟨c,[(f,dv)]⟩ _ _ (st1.trans st2) w2 (rs.mono (st1.trans st2).le) ⟨rfl, .inl ⟨dx,_,rfl,upd_same,rfl, .cons (r1.mono st2.le) .nil⟩⟩ h1⟩⟩,q.ex.at_ rs⟩
def mRz2 (c f1 f2:Str) (ma mb:ME):MS := fun D s A=>ma s A (fun v A1=>mb s A1 (fun u A2=>D.ex ⟨c,[(f2,u),(f1,v)]⟩ s A2) fun e A=>D.ex e s A) fun e A=>D.ex e s A
theorem c_rz2 {c f1 f2:Str}:∀ D σ H,cS K W (mRz2 c f1 f2 ma mb) D σ H→tRz (He.ga K c) (spE2 (He.ga K c) f1 f2) (tCons (cE K W ma) (tCons (cE K W mb) tNil)) W D σ H := fun D σ H ⟨g,s,A,Da,w,rs,h,q⟩ =>
 ⟨g,s,A,_,_,w,rs,h,fun g0 A0 H0 v dv st0 w0 r0 h0=>⟨g0,s,A0,_,_,w0,rs.mono st0.le,h0,fun g1 A1 H1 u du st1 w1 r1 h1=>⟨by simp,fun a na=>⟨a,v,u,rfl,upd_same,fun dx nx hne=>by
  have hda:H1 dx=none := by rw [upd_ne hne] at nx; exact nx
  refine ⟨rfl,dx,[(f2,u),(f1,v)],by rw [upd_ne (Ne.symm hne),upd_same],by rw [upd_same],hda, ?_⟩
  have e:upd (L2.del (upd (upd (upd (upd H1 a (exo a (He.ga K c) none)) dx (exd dx [(f1,v)])) a (exo a (He.ga K c) (some dx))) dx (exd dx [(f2,u),(f1,v)])) a) dx (.xd [(f2,u),(f1,v)])=upd H1 dx (.xd [(f2,u),(f1,v)]) := by
   funext b
   by_cases h1:b=dx
   ·subst h1; rw [upd_same,upd_same]
   ·rw [upd_ne h1,upd_ne h1]
    by_cases h2:b=a
    ·subst h2; rw [L2.del_same,na]
    ·rw [L2.del_ne h2,upd_ne h1,upd_ne h2,upd_ne h1,upd_ne h2]
  rw [e]
  obtain ⟨w2,st2⟩ := w1.new (o := .xd [(f2,u),(f1,v)]) hda
  have st := (st0.trans st1).trans st2
  exact q.ex _ _ _ σ s ⟨c,[(f2,du),(f1,dv)]⟩ _ _ st w2 (rs.mono st.le) ⟨rfl, .inl ⟨dx,_,rfl,upd_same,rfl, .cons (r1.mono st2.le) (.cons (r0.mono (st1.trans st2).le) .nil)⟩⟩ h1⟩⟩,(q.step st0).ex.at_ (rs.mono st0.le)⟩,q.ex.at_ rs⟩
end
end Am
namespace Am
open PySem PySem.Spec PyProof.Rows L2
open Fm (same_new iSeq ClsX tRz spE1 spE2 run_fnRS getst_ok)
section
variable {X:Cx} {W:WX} {e:Expr} {m ma mb:ME} {t:TE}
theorem passF (σ:L2.St):PassesAt (L2.CX X.prog X.w) X σ (WE WF σ) := fun _ _ _ _ _ _ h=>by
 obtain ⟨_,_,_,_,_,_,_,_,_,_,_,_,z⟩ := h
 exact z.elim
theorem passF0:Passes (L2.CX X.prog X.w) X E0 := fun _ _ _ _ _ _ _ h=>by
 obtain ⟨_,_,_,_,_,_,_,_,_,_,_,_,z⟩ := h
 exact z.elim
theorem at_cmpX (h:PT X e (tTest t)) (c:∀ σ H Q,cE X.K W m σ H Q→t σ H Q):PT X e (cT X.K W (mB m)) := PT.weak h fun σ H Q q=>tTest_mono c σ H Q (c_tTest σ H Q q)
theorem at_pc (h:PT X e (tB t)) (c:∀ σ H Q,cE X.K W m σ H Q→t σ H Q):PT X e (cT X.K W (mB m)) := PT.weak h fun σ H Q q=>c σ H _ (c_tB σ H Q q)
theorem PTs.weak {es:List Expr} {t t':TT} (h:PTs X es t) (k:∀ σ H Q,t' σ H Q→t σ H Q):PTs X es t' := ⟨fun pins s σ H Q I q=>h.run pins s σ H Q I (k σ H Q q)⟩
theorem c_setX {K:PySem.W.Frag} {tg:TG} {mg:MG} {ws:List Nat} (c:∀ σ H Q,cE K W m σ H Q→t σ H Q) (ht:TgS K tg mg ws):∀ D σ H,cS K W (mSet m mg) D σ H→tAsg t tg D σ H := fun D σ H h=>c σ H _ (c_set ht D σ H h)
def fTru (d:D) (A:AH) (Q:Bool→AH→Prop):Prop := match d with
 | .non=>Q false A
 | .bl b=>Q b A
 | .int i=>Q (i != 0) A
 | .str z=>z.length≤sizeLine∧Q ((z.length:Int) != 0) A
 | d=>∃ xs,itS A d=some xs∧Q (!xs.isEmpty) A
def mTru (m:ME):MT := fun s A Q E=>m s A (fun d A1=>fTru d A1 Q) E
theorem isEmpty_len {α β:Type} {xs:List α} {ys:List β} (h:xs.length=ys.length):xs.isEmpty=ys.isEmpty := by
 cases xs <;> cases ys <;> simp_all
theorem at_tru (h:PE X e (cE X.K W m)) (he:∀ whole,isTrue e X.env whole=(do let v ← whole; standAt e.pos; holding [v] (truthy v)) := by intro _; rfl):PT X e (cT X.K W (mTru m)) := PT.weak (pt_truth h he) fun σ H Q ⟨g,s,A,Qa,Ea,w,rs,h,q,qx⟩ =>
 ⟨g,s,A,_,Ea,w,rs,h,fun g1 A1 H1 x dx st1 w1 r1 h1=>by
  have fin:(∃ xs,itS A1 dx=some xs∧Qa (!xs.isEmpty) A1)→∃ k,TruV X.K x H1 k∧Q k H1 := fun ⟨xs,e1,e2⟩=>by
   obtain ⟨a,vs,rfl,q1,q2⟩ := w1.getS r1 e1
   refine ⟨_, ?_,q _ _ _ _ st1 w1 e2⟩
   rcases q1 with q1 | q1
   ·exact .inl ⟨vs,q1,by rw [isEmpty_len q2.len]⟩
   ·exact .inr (.inl ⟨vs,q1,by rw [isEmpty_len q2.len]⟩)
  cases dx with
  | non=>rw [r1.non_]; exact ⟨_,rfl,q _ _ _ _ st1 w1 h1⟩
  | bl b=>rw [r1.bl_]; exact ⟨_,rfl,q _ _ _ _ st1 w1 h1⟩
  | int i=>rw [r1.int_]; exact ⟨_,rfl,q _ _ _ _ st1 w1 h1⟩
  | str z=>rw [r1.str_]; exact ⟨_,⟨h1.1,rfl⟩,q _ _ _ _ st1 w1 h1.2⟩
  | _=>exact fin h1,qx⟩
def fIndex:FM := fun x ys A Q=>∃ y p ps xs j z,ys=[y]∧toPA A y=some p∧itL A x=some xs∧toPs xs=some ps∧SeqAt.shaped (.list ps)=true∧SeqAt.shaped p=true∧ps[j]? = some z∧PyData.eqv z p=true∧(∀ (m:Nat) (z':PyData),m < j→ps[m]? = some z'→PyData.eqv z' p=false)∧Q (.int (j:Nat)) A
theorem ms_index {K:PySem.W.Frag}:MtS K (rIndexD K) fIndex := fun g A H x ys dx ds Qa Q w rx rs ⟨y,p,ps,xs,j,z,e1,e2,e3,e4,e5,e6,e7,e8,e9,h⟩ po=>by
 subst e1
 obtain ⟨u,rfl,ru⟩ := rs.one
 obtain ⟨a,vs,rfl,q1,q2⟩ := w.getL rx e3
 exact ⟨a,u,p,ps,j,z,rfl,rfl, .lst (.inl q1) (Reps.dp w.sub q2 e4),w.dp ru e2,e5,e6,e7,e8,e9,po.now w (.int _) h⟩
end
def fPool:FN := fun ds A Q _=>∃ ns,ds=[.scr ns]∧ns.length≤63∧∀ n,A n=none→Q (.ref n) (put A n .pool)
def fDraw:FN := fun ds A Q _=>∃ n k,ds=[.ref n, .int k]∧A n=some .pool∧0 < k∧k.natAbs.log2 < 9000∧∀ r,0≤r→r < k→Q (.int r) A
theorem FnR.up {P:Program} {w:World} {K:PySem.W.Frag} {mg:Str→Option Value} {base:Heap} {CX:CXT} {k:Nat} {f:Addr} {sp:Sp} (F:FnR P w K mg base CX0 k f sp):FnR P w K mg base CX k f sp := fun A outer s H us vs Q E hr e0 r h =>
 codeAny_mono (F A outer s H us vs Q E hr e0 r h) fun r s' hq=>by
  cases r with
  | error e=>exact False.elim hq
  | ok fl=>cases fl <;> exact hq
section
variable {K:PySem.W.Frag} {cs:List Str}
def inCsB (cs:List Str):TyN→Bool
 | .b _=>true
 | .c n=>cs.contains n
theorem inCsB_ok {t:TyN} (h:inCsB cs t=true):inCs cs t := by
 cases t with
 | b n=>trivial
 | c n=>exact List.contains_iff_mem.mp h
def isTab (K:PySem.W.Frag) (u:Value) (tab:List (TyN × Bool)):Bool := tab.all fun p=>decide (PySem.W.kitOne K (p.1.val K) u=some p.2)
theorem isTab_ok {u:Value} {tab:List (TyN × Bool)} (hi:(tab.all fun p=>inCsB cs p.1)=true) (h:isTab K u tab=true):∀ p∈tab,inCs cs p.1∧PySem.W.kitOne K (p.1.val K) u=some p.2 := fun p hp =>
 ⟨inCsB_ok (List.all_eq_true.mp hi p hp),of_decide_eq_true (List.all_eq_true.mp h p hp)⟩
def nfTab (K:PySem.W.Frag) (C:Addr) (ts:List TyN):Bool := ts.all fun t=>PySem.W.notFirst K C (t.val K)
theorem nfTab_ok {C:Addr} {ts:List TyN} (hi:(ts.all fun t=>inCsB cs t)=true) (h:nfTab K C ts=true):∀ t∈ts,inCs cs t∧PySem.W.notFirst K C (t.val K)=true := fun t ht =>
 ⟨inCsB_ok (List.all_eq_true.mp hi t ht),List.all_eq_true.mp h t ht⟩
end
end Am
namespace Am
open PySem PySem.Spec PyProof.Rows L2
theorem Les.trans {A B C:AH} (h:Les A B) (h':Les B C):Les A C := fun n x e=>h' n x (h n x e)
theorem fg {A:AH} {P:AH→Prop} (h:P A):Fg A P := ⟨A, .refl,h⟩
theorem fg_les {A B:AH} {P:AH→Prop} (l:Les A B) (h:P A):Fg B P := ⟨A,l,h⟩
theorem law_start {K:PySem.W.Frag} {N:List Str} {body:MS} {H:Hp} {a:Addr} {ns:List Int} {Q:VK} (hS:SqL K H a (ns.map V.int)) (h:body { nx := fun _ _=>False,rt := fun d _=>d = .bl true,bk := fun _ _=>False,ct := fun _ _=>False,ex := fun _ _ _=>False } ([some (.scr ns)] ++ List.replicate (N.length - 1) none) (fun _=>none)) (q:∀ H',Q (.bl true) H') :
  cS K WF body { nx := fun _ H'=>Q .non H',rt := Q } (start N [.ref a]) H := by
 obtain ⟨S,eS⟩:∃ S:Hp,S=fun b=>if b=a then H a else none := ⟨_,rfl⟩
 have sub:Sub S H := fun b o e=>by
  rw [eS] at e
  by_cases hb:b=a
  ·simp only [hb,if_true] at e; exact ⟨o,by rw [hb]; exact e, .inl rfl⟩
  ·simp only [hb,if_false] at e; cases e
 have hS':SqL K S a (ns.map V.int) := by
  rcases hS with (e | ⟨o,e⟩) | e
  ·exact .inl (.inl (by rw [eS]; simpa using e))
  ·exact .inl (.inr ⟨o,by rw [eS]; simpa using e⟩)
  ·exact .inr e
 refine ⟨⟨S,fun _=>none⟩,_,fun _=>none,_,⟨sub,fun _ _ _ z=>(by cases z),fun _ _ z=>(by cases z),⟨0,fun _ _=>rfl⟩,fun _ _ z=>(by cases z)⟩, ?_,h,⟨fun _ _ _ _ _ _ _ _ z=>z.elim,fun _ _ _ v d _ _ r e=>by subst e; rw [r.bl_]; exact q _,fun _ _ _ _ _ _ _ _ z=>z.elim,fun _ _ _ _ _ _ _ _ z=>z.elim,fun _ _ _ _ _ _ _ _ _ _ _ _ z=>z.elim⟩⟩
 exact Reps.slots (vs := [.ref a]) (ds := [.scr ns]) _ (.cons (.scr hS') .nil)
end Am
namespace Am
open PySem PySem.Spec PyProof.Rows L2
def mStarFn (k:Nat) (f:FN):FN := fun ds A Q E=>k≤ds.length∧(ds.drop k).length≤sizeLine∧f (ds.take k ++ [.tup (ds.drop k)]) A Q E
theorem star_sp {K:PySem.W.Frag} {k:Nat} {f:FN} {vs:List V} {H:Hp} {Q:VK} {E:XK} (h:spM K (mStarFn k f) vs H Q E):∃ ws rest,vs=ws ++ rest∧ws.length=k∧rest.length≤sizeLine∧∀ p,H p=none→spM K f (ws ++ [V.ref p]) (upd H p (.tup rest)) Q E := by
 obtain ⟨g,A,ds,Qa,Ea,w,r,⟨hk,hz,h⟩,q,qx⟩ := h
 have hl := r.len
 refine ⟨vs.take k,vs.drop k,(List.take_append_drop k vs).symm,by rw [List.length_take]; omega,by rw [(r.drop_ k).len]; exact hz,fun p np=>?_⟩
 obtain ⟨w2,st2⟩ := w.new (o := .tup (vs.drop k)) np
 exact ⟨_,A,_,Qa,Ea,w2,((r.take_ k).mono st2.le).app (.cons (.tup upd_same ((r.drop_ k).mono st2.le)) .nil),h,q.step st2,qx.step st2⟩
theorem FnR.imp' {P:Program} {w:World} {K:PySem.W.Frag} {mg:Str→Option Value} {base:Heap} {CX:CXT} {k:Nat} {f:Addr} {sp sp':Sp} (F:FnR P w K mg base CX k f sp) (h:∀ vs H Q E,sp' vs H Q E→sp vs H Q E):FnR P w K mg base CX k f sp' := fun A outer s H us vs Q E hr e0 r q=>F A outer s H us vs Q E hr e0 r (h vs H Q E q)
theorem fnR_star {P:Program} {w:World} {K:PySem.W.Frag} {mg:Str→Option Value} {base:Heap} {k:Nat} {f:Addr} {x qual:Str} {st:Stmt} {N ps:List Str} {pv:Str} {n:Nat} {body:MS} (F:∃ fd,Fun K x qual st f fd) (S:FnScope N (ps ++ [pv]) (defScope st))
  (hb:∀ (kV doc pm:Value) (an:Option Addr) (cdv ct:Value) (us rest:List Value),us.length=ps.length→bindArgs (PySem.W.fnOf x qual (defArgs st) (defBody st) (defScope st) .none kV doc pm an cdv ct) ⟨us ++ rest,[]⟩=(newTuple rest >>= fun t=>pure (ps.zip us ++ [(pv,t)])))
  (hn:ps.length=n)
  (hw:∀ (cdv:Value) (A:Around) (outer:List Env) (s:Shared) (H:Hp) (E:XK),Room k (A.deeper (envOfC qual (defScope st) s.heap.objs.size f cdv))→PSs (cxOf (L2.CX P w) P w K mg base N qual (defScope st) f cdv A outer s H E) (defBody st) (cS K (WD E) body)) :
  FnR P w K mg base (L2.CX P w) (k + 1) f (spM K (mStarFn n (mFn (n + 1) N.length body))) := by
 obtain ⟨fd,F⟩ := F
 obtain ⟨oc,od,kV,doc,pm,an,cdv,ct,osl,rfl,lk,hcd⟩ := F.ex
 subst hn
 exact FnR.imp' (StX.fn_star (sp := spM K (mFn (ps.length + 1) N.length body)) lk hcd S StX.cxUp (fun us rest hl=>hb kV doc pm an cdv ct us rest hl) fun A outer s H vs Q E hr h=>⟨cS K (WD E) body,hw cdv A outer s H E hr,fn_ok h⟩) fun vs H Q E h=>star_sp h
end Am
namespace Am
open PySem PySem.Spec PyProof.Rows L2
open Fm (same_new IteT iEnumT pi_enumT)
section
variable {K:PySem.W.Frag} {W:WX} {g:Sg}
theorem WalkD.enumT {a:Addr} {items:List D} {ck:AH→Prop} (h:WalkD K (Itt K a) g items ck) (hq:∀ g2 A2 H2,g.le g2→Wr K g2 A2 H2→ck A2→∃ vs,SqT K H2 a vs∧Reps K g2 vs items):WalkD K (IteT K a) g (pairs items) ck where
 go := fun i g2 A2 H2 le w c hi=>h.go i g2 A2 H2 le w c (by rw [pairs_len] at hi; exact hi)
 yl := fun i g2 A2 H2 x H' d le w c hd y=>by
  obtain ⟨T,u,e1,e2,e3,hy⟩ := y
  subst e1; subst e3
  obtain ⟨z,h1,h2⟩ := pairs_at hd
  subst h2
  obtain ⟨vs,h3,h4⟩ := hq g2 A2 H2 le w c
  obtain ⟨u',h5,h6⟩ := h4.at_ h1
  have := hy vs h3
  rw [h5] at this; cases this
  obtain ⟨w3,st3⟩ := w.new (o := .tup [.int (i:Nat),u]) e2
  exact ⟨_,st3,w3, .tup upd_same (.cons (.int _) (.cons (h6.mono st3.le) .nil))⟩
 st := fun i g2 A2 H2 le w c hi=>h.st i g2 A2 H2 le w c (by rw [pairs_len] at hi; exact hi)
def mEnumT (r:MA):MI := fun s A R E=>r s A (fun ds A1=>∃ xs,ds=[.tup xs]∧R (pairs xs) ckT A1) E
theorem c_enumT {mr:MA}:∀ σ H R,cI K W (mEnumT mr) σ H R→iEnumT K (cA K W mr) σ H R := fun σ H R ⟨g,s,A,Ra,Ea,w,rs,h,q,qx⟩ =>
 ⟨g,s,A,_,Ea,w,rs,h,fun g1 A1 H1 vs ds st1 w1 r1 ⟨xs,e,h1⟩=>by
  subst e
  obtain ⟨v,rfl,r⟩ := r1.one
  cases r with
  | tup h2 h3=>exact ⟨_,_,rfl, .inl (w1.sub.rd (.inl h2)),q g1 A1 H1 _ _ _ st1 w1 ((walk_frT (.inl (.inl h2)) h3).enumT fun g2 A2 H2 le w2 ck=>⟨_, .inl (w2.sub.rd (Fm.Same.rd le.s (.inl h2))),h3.mono le⟩) h1⟩,qx⟩
theorem dx_new {g : Sg} {A : AH} {H : Hp} {p : Addr} {vs : List (Key × V)} {ds : List (Key × D)} {Qa : QE} {Q : VK} (w : Wr K g A H) (hp : H p = some (.dK vs)) (hS : g.S p = none) (hi : ∀ n, g.i n ≠ some p) (r : KReps K g vs ds) (h : ∀ n, A n = none → Qa (.ref n) (put A n (.dK ds)))
    (q : ∀ g' A' v d, g.le g' → (∀ a, Own g' A' a → Own g A a ∨ a = p) → (∀ a, a ≠ p → g.S a = none → g'.S a = none) → (∀ n a, g'.i n = some a → g.i n = some a ∨ a = p) → Wr K g' A' H → Rep K g' v d → Qa d A' → Q v H) : Q (.ref p) H := by
  obtain ⟨N, hN⟩ := w.fin
  have hiN : g.i N = none := hN N (Nat.le_refl _)
  have hA : A N = none := by
    cases e : A N with
    | none => rfl
    | some x => obtain ⟨a, h, _⟩ := w.nd N x e; rw [hiN] at h; cases h
  have le : g.le ⟨g.S, fun m => if m = N then some p else g.i m⟩ := ⟨Same.refl _, fun m a h => by
    have : m ≠ N := fun e => by rw [e, hiN] at h; cases h
    show (if m = N then some p else g.i m) = some a
    rw [if_neg this]; exact h⟩
  have old : ∀ m a, (if m = N then some p else g.i m) = some a → (m = N ∧ a = p) ∨ (m ≠ N ∧ g.i m = some a ∧ a ≠ p) := fun m a h => by
    by_cases e : m = N
    · rw [if_pos e] at h; exact .inl ⟨e, (Option.some.inj h).symm⟩
    · rw [if_neg e] at h; exact .inr ⟨e, h, fun z => hi m (by rw [← z]; exact h)⟩
  refine q ⟨g.S, fun m => if m = N then some p else g.i m⟩ (put A N (.dK ds)) (.ref p) (.ref N) le (fun a ⟨m, x, h1, h2⟩ => ?_) (fun _ _ h => h) (fun n a h => ?_) ⟨w.sub, fun n m a h1 h2 => ?_, fun n a h => ?_, ⟨N + 1, fun n h => ?_⟩, fun n y h => ?_⟩ (.ref (if_pos rfl)) (h N hA)
  · rcases old m a h2 with ⟨e1, e2⟩ | ⟨e1, e2, e3⟩
    · exact .inr e2
    · rw [put_ne e1] at h1; exact .inl ⟨m, x, h1, e2⟩
  · rcases old n a h with ⟨e1, e2⟩ | ⟨e1, e2, e3⟩
    · exact .inr e2
    · exact .inl e2
  · rcases old n a h1 with ⟨e1, e2⟩ | ⟨e1, e2, e3⟩ <;> rcases old m a h2 with ⟨f1, f2⟩ | ⟨f1, f2, f3⟩
    · rw [e1, f1]
    · exact absurd e2 f3
    · exact absurd f2 e3
    · exact w.inj n m a e2 f2
  · rcases old n a h with ⟨e1, e2⟩ | ⟨e1, e2, e3⟩
    · rw [e2, hp]; simp
    · exact w.ex n a e2
  · show (if n = N then some p else g.i n) = none
    rw [if_neg (by omega)]; exact hN n (by omega)
  · by_cases e : n = N
    · subst e
      rw [put_same] at h; cases h
      exact ⟨p, if_pos rfl, hS, vs, hp, r.mono le⟩
    · rw [put_ne e] at h
      obtain ⟨a, h1, h2, h3⟩ := w.nd n y h
      exact ⟨a, by show (if n = N then some p else g.i n) = some a; rw [if_neg e]; exact h1, h2, h3.mono le rfl⟩
def mDcM (mi:MI) (tg:MG) (tt:MT) (tk tv:ME) (vs:List Nat):ME := fun s A Q E=>mi s A (fun items ck A1=>items.length≤sizeLine∧dcL ck tg tt tk tv (wipeD s vs) items [] A1 fun kvs A2=>∀ n,A2 n=none→Q (.ref n) (put A2 n (.dK kvs))) E
theorem c_dcM {mi:MI} {t:TG} {tg:MG} {tt:MT} {tk tv:ME} {vs ws:List Nat} (ht:TgS K t tg ws) (hw:∀ i∈ws,i∈vs) :
  ∀ σ H Q,cE K W (mDcM mi tg tt tk tv vs) σ H Q→tDc (cI K W mi) t (cT K WF tt) (cE K WF tk) (cE K WF tv) vs σ H Q := fun σ H Q ⟨g,s,A,Qa,Ea,w,rs,h,q,qx⟩ =>
 ⟨g,s,A,_,Ea,w,rs,h,fun g1 A1 H1 J items ck st1 w1 wk ⟨hz,h1⟩ D nD=>by
  have nS:g1.S D=none := w1.sub.free nD
  have nI:∀ n,g1.i n≠some D := fun n e=>w1.ex n D e nD
  obtain ⟨w1',st1'⟩ := w1.tmp (o := .dK []) nD
  refine ⟨fun i m H=>m=items.length - i∧i≤items.length∧∃ g2 A2 acc ds,Stp g1 A1 H1 g2 A2 H∧Wr K g2 A2 H∧H D=some (.dK acc)∧g2.S D=none∧(∀ n,g2.i n≠some D)∧KReps K g2 acc ds∧acc.length≤i∧dcL ck tg tt tk tv (wipeD s vs) (items.drop i) ds A2 fun kvs A2=>∀ n,A2 n=none→Qa (.ref n) (put A2 n (.dK kvs)),
   ⟨items.length,by omega,by omega,g1,A1,[],[],st1',w1',upd_same,nS,nI, .nil,Nat.le_refl _,by simpa using h1⟩, ?_⟩
  rintro i m H2 ⟨rfl,hin,g2,A2,acc,ds,st2,w2,hD,hS,hI,ra,hl,h2⟩
  have rs2 := (rs.mono (st1.trans st2).le).wipe vs
  by_cases hlt:i < items.length
  ·have ed:items.drop i=items[i] :: items.drop (i + 1) := List.drop_eq_getElem_cons hlt
   rw [ed] at h2
   obtain ⟨hck,h2⟩ := h2
   refine .inr ⟨wk.go i g2 A2 H2 st2.le w2 hck hlt,fun H'=>∃ g3 A3 acc ds,Stp g1 A1 H1 g3 A3 H'∧Wr K g3 A3 H'∧H' D=some (.dK acc)∧g3.S D=none∧(∀ n,g3.i n≠some D)∧KReps K g3 acc ds∧acc.length≤i + 1∧dcL ck tg tt tk tv (wipeD s vs) (items.drop (i + 1)) ds A3 fun kvs A2=>∀ n,A2 n=none→Qa (.ref n) (put A2 n (.dK kvs)),
    fun H' h=>⟨items.length - (i + 1),by omega,rfl,hlt,h⟩,fun x H' y=>?_⟩
   obtain ⟨g3,st3,w3,rx⟩ := wk.yl i g2 A2 H2 x H' _ st2.le w2 hck (List.getElem?_eq_getElem hlt) y
   have keep:∀ {g4 A4 H4},Stp g2 A2 H2 g4 A4 H4→H4 D=some (.dK acc)∧g4.S D=none∧∀ n,g4.i n≠some D := fun st=>st.beside hD hS hI
   refine ht g3 A2 H' x _ _ _ _ _ w3 rx (rs2.mono st3.le) h2 fun σ4 s4 rs4 e4 h4=>⟨by rw [e4 vs hw,wipe_wipe],g3,s4,A2,_,NX,w3,rs4,h4,fun g5 A5 H5 b st5 w5 h5=>?_,fun _ _ _ _ _ _ _ _ _ z=>z⟩
   have st25 := st3.trans st5
   cases b with
   | false =>
    obtain ⟨k1,k2,k3⟩ := keep st25
    exact iteF ⟨g5,A5,acc,ds,st2.trans st25,w5,k1,k2,k3,ra.mono st25.le,by omega,h5⟩
   | true =>
    refine iteT ⟨g5,s4,A5,_,NX,w5,rs4.mono st5.le,h5,fun g6 A6 H6 y6 d6 st6 w6 r6 h6=>⟨g6,s4,A6,_,NX,w6,rs4.mono (st5.trans st6).le,h6,fun g7 A7 H7 y7 d7 st7 w7 r7 ⟨k,hk,h7⟩=>?_,fun _ _ _ _ _ _ _ _ _ z=>z⟩,fun _ _ _ _ _ _ _ _ _ z=>z⟩
    have st27 := (st25.trans st6).trans st7
    obtain ⟨k1,k2,k3⟩ := keep st27
    refine ⟨acc,k,kyK_ok r6 hk,k1,by omega, ?_⟩
    have w8 := w7.own (o := .dK (putK acc k y7)) k2 k3
    refine ⟨g7,A7,putK acc k y7,putD ds k d7,(st2.trans st27).put nD,w8,upd_same,k2,k3,(ra.mono st27.le).put r7, ?_,h7⟩
    exact Nat.le_trans (length_putK _ _ _) (by omega)
  ·have e:i=items.length := by omega
   subst e
   rw [List.drop_length] at h2
   obtain ⟨hck,h2⟩ := h2
   refine .inl ⟨wk.st _ g2 A2 H2 st2.le w2 hck (Nat.le_refl _),dx_new w2 hD hS hI ra h2 fun g' A' v d le own sn inw w' r' h'=>?_⟩
   refine q g' A' H2 v d (st1.trans ⟨st2.le.trans le,st2.kp,fun a ha=>?_,st2.ex,fun a o h1 h0 h2 h3=>?_,fun n a e=>?_⟩) w' r' h'
   ·rcases own a ha with z | z
    ·exact st2.nw a z
    ·exact .inr (by rw [z]; exact nD)
   ·exact sn a (ne_of_none h1 nD) (st2.sn a o h1 h0 h2 h3)
   ·rcases inw n a e with z | z
    ·exact st2.inw n a z
    ·exact .inr (by rw [z]; exact nD),qx⟩
end
end Am
namespace Am
open PySem PySem.Spec PyProof.Rows L2
open PySem.W (Datum Tup T3 T4)
mutual
def ofP:PyData→D
 | .none=>.non
 | .bool b=>.bl b
 | .int i=>.int i
 | .str x=>.str x
 | .list xs=>.lst (ofPs xs)
 | .tuple xs=>.tup (ofPs xs)
 | .dict _=>.non
def ofPs:List PyData→List D
 | []=>[]
 | x :: xs=>ofP x :: ofPs xs
end
mutual
theorem toP_ofP:∀ (p:PyData),p.plain=true→toP (ofP p)=some p
 | .none,_=>rfl
 | .bool b,_=>rfl
 | .int i,_=>rfl
 | .str x,_=>rfl
 | .list xs,h=>by
  unfold ofP toP
  rw [toPs_ofPs xs (by unfold PyData.plain at h; exact h)]
  rfl
 | .tuple xs,h=>by
  unfold ofP toP
  rw [toPs_ofPs xs (by unfold PyData.plain at h; exact h)]
  rfl
 | .dict _,h=>by unfold PyData.plain at h; cases h
theorem toPs_ofPs:∀ (ps:List PyData),PyData.plainAll ps=true→toPs (ofPs ps)=some ps
 | [],_=>rfl
 | p :: ps,h=>by
  unfold PyData.plainAll at h
  obtain ⟨h1,h2⟩ := Bool.and_eq_true_iff.mp h
  unfold ofPs toPs
  rw [toP_ofP p h1,toPs_ofPs ps h2]
  rfl
end
theorem ofPs_map:∀ ps:List PyData,ofPs ps=ps.map ofP
 | []=>rfl
 | p :: ps=>by rw [ofPs,ofPs_map ps]; rfl
section
variable {α β γ δ:Type} [DecidableEq α] [Datum α] [DecidableEq β] [Datum β] [DecidableEq γ] [Datum γ] [DecidableEq δ] [Datum δ] {A:AH}
def en (a:α):D := ofP (Datum.toD a)
@[simp] theorem en_int (i:Int):en i = .int i := rfl
@[simp] theorem en_bl (b:Bool):en b = .bl b := rfl
@[simp] theorem en_str (z:Str):en z = .str z := rfl
theorem en_list (xs:List α):en xs = .lst (xs.map en) := by
 show D.lst (ofPs (xs.map Datum.toD))=_
 rw [ofPs_map,List.map_map]
 rfl
theorem en_tup (xs:List α):en (Tup.mk xs) = .tup (xs.map en) := by
 show D.tup (ofPs (xs.map Datum.toD))=_
 rw [ofPs_map,List.map_map]
 rfl
@[simp] theorem toP_en (a:α):toP (en a)=some (Datum.toD a) := toP_ofP _ (Datum.plain a)
theorem toPs_map (xs:List α):toPs (xs.map en)=some (xs.map Datum.toD) := by
 have:xs.map en=ofPs (xs.map Datum.toD) := by rw [ofPs_map,List.map_map]; rfl
 rw [this]
 exact toPs_ofPs _ (PySem.W.plainAll_map xs)
theorem toPA_en (a:α):toPA A (en a)=some (Datum.toD a) := by
 have h := toP_en a
 cases e:en a with
 | ref n=>rw [e] at h; cases h
 | _=>rw [e] at h; exact h
def LsD (A:AH) (d:D) (xs:List α):Prop := itL A d=some (xs.map en)
def SqD (A:AH) (d:D) (xs:List α):Prop := itS A d=some (xs.map en)
theorem LsD.sq {d:D} {xs:List α} (h:LsD A d xs):SqD A d xs := by
 unfold LsD at h
 unfold SqD
 cases d <;> first | exact h | cases h
theorem LsD.toPA {d:D} {xs:List α} (h:LsD A d xs):toPA A d=some (.list (xs.map Datum.toD)) := by
 unfold LsD itL at h
 unfold Am.toPA
 cases d with
 | lst ys=>cases h; show toP (.lst (xs.map en))=_; unfold toP; rw [toPs_map]; rfl
 | ref n =>
  simp only at h
  split at h
  ·rename_i ys e
   cases h
   simp only [e]
   rw [toPs_map]
   rfl
  ·cases h
 | _=>cases h
theorem w_eq {neg:Bool} {a b:α} {Q:QE} (q:Q (.bl (decide (a=b) != neg)) A) (hd:Datum.depth α≤60 := by decide):fEq neg (en a) (en b) A Q :=
 ⟨_,_,toPA_en a,toPA_en b,Datum.plain a,Datum.plain b,Nat.le_trans (Nat.min_le_left _ _) (Nat.le_trans (Datum.depth_le a) hd),by rw [Datum.eqv]; exact q⟩
theorem w_eqL {neg:Bool} {x y:D} {xs ys:List α} {Q:QE} (hx:LsD A x xs) (hy:LsD A y ys) (q:Q (.bl (decide (xs=ys) != neg)) A) (hd:Datum.depth (List α)≤60 := by decide):fEq neg x y A Q :=
 ⟨_,_,hx.toPA,hy.toPA,Datum.plain xs,Datum.plain ys,Nat.le_trans (Nat.min_le_left _ _) (Nat.le_trans (Datum.depth_le xs) hd),by
  have := Datum.eqv xs ys
  have e:PyData.eqv (.list (xs.map Datum.toD)) (.list (ys.map Datum.toD))=decide (xs=ys) := this
  rw [e]; exact q⟩
theorem w_in {neg:Bool} {a:α} {y:D} {xs:List α} {Q:QE} (hy:SqD A y xs) (q:Q (.bl (decide (a∈xs) != neg)) A) (hd:Datum.depth α≤60 := by decide):fIn neg (en a) y A Q := by
 have fin:∃ ys p ps,itS A y=some ys∧toPA A (en a)=some p∧toPs ys=some ps∧p.plain=true∧PyData.plainAll ps=true∧p.depth≤60∧Q (.bl (ps.any (fun z=>PyData.eqv z p) != neg)) A :=
  ⟨_,_,_,hy,toPA_en a,toPs_map xs,Datum.plain a,PySem.W.plainAll_map xs,Nat.le_trans (Datum.depth_le a) hd,by rw [PySem.W.any_datum]; exact q⟩
 unfold fIn
 cases y with
 | str z=>cases hy
 | _=>exact fin
theorem w_ix {x:D} {xs:List α} {i:Nat} {j:Int} {a:α} {Q:QE} (hx:SqD A x xs) (hj:j=(i:Int)) (h:xs[i]? = some a) (q:Q (en a) A):fIx x (.int j) A Q := by
 have fin:∃ ys i d,itS A x=some ys∧D.int j = .int i∧L2.atI ys i=some d∧Q d A := ⟨_,j,en a,hx,rfl,by rw [hj]; exact atI_nat (by rw [List.getElem?_map,h]; rfl),q⟩
 unfold fIx
 cases x with
 | str z=>cases hx
 | _=>exact fin
theorem w_ixS {z:Str} {i c:Nat} {j:Int} {Q:QE} (hj:j=(i:Int)) (hz:z.length≤sizeLine) (h:z.cps.toList[i]? = some c) (q:Q (.str ⟨#[c]⟩) A):fIx (.str z) (.int j) A Q := ⟨j,c,rfl,hz,by rw [hj]; exact atI_nat h,q⟩
end
section
variable {α:Type} {ck:AH→Prop} {tg:MG} {tt:MT} {te tk tv:ME} {s:Sl} {A:AH}
theorem lc_map {xs:List α} {e:α→D} {p:α→Bool} {f:α→D} {Q:List D→AH→Prop} (hc:ck A)
  (hb:∀ x∈xs,∀ (R:D→AH→Prop) (R':AH→Prop),(p x=true→R (f x) A)→(p x=false→R' A)→tg (e x) s A fun s1 A1=>tt s1 A1 (fun b A2=>if b=true then te s1 A2 R NX else R' A2) NX)
  (q:Q ((xs.filter p).map f) A):lcL ck tg tt te s (xs.map e) A Q := by
 induction xs generalizing Q with
 | nil=>exact ⟨hc,q⟩
 | cons x xs ih =>
  refine ⟨hc,hb x (List.mem_cons_self ..) _ _ (fun hp=>?_) (fun hp=>?_)⟩
  ·refine ih (fun y hy=>hb y (List.mem_cons_of_mem _ hy)) ?_
   rw [List.filter_cons,hp] at q
   exact q
  ·refine ih (fun y hy=>hb y (List.mem_cons_of_mem _ hy)) ?_
   rw [List.filter_cons,hp] at q
   exact q
theorem lc_each {xs:List α} {e:α→D} {E:α→D→Prop} {Q:List D→AH→Prop} (hc:ck A)
  (hb:∀ x∈xs,∀ (R:D→AH→Prop) (R':AH→Prop),(∀ y,E x y→R y A)→tg (e x) s A fun s1 A1=>tt s1 A1 (fun b A2=>if b=true then te s1 A2 R NX else R' A2) NX)
  (q:∀ ys,Paired E xs ys→Q ys A):lcL ck tg tt te s (xs.map e) A Q := by
 induction xs generalizing Q with
 | nil=>exact ⟨hc,q [] .nil⟩
 | cons x xs ih=>exact ⟨hc,hb x (List.mem_cons_self ..) _ _ fun y hy=>ih (fun y hy=>hb y (List.mem_cons_of_mem _ hy)) fun ys hys=>q (y :: ys) (.cons hy hys)⟩
end
theorem for_inv {ck:AH→Prop} {tg:MG} {tb:MS} {D0:AEnds} (items:List D) (J:Nat→Sl→AH→Prop) {s:Sl} {A:AH} (h0:J 0 s A) (hck:∀ i s A,J i s A→ck A)
  (step:∀ i d s A (N:Sl→AH→Prop),items[i]? = some d→J i s A→(∀ s' A',J (i + 1) s' A'→N s' A')→tg d s A fun s1 A1=>tb { D0 with nx := N,ct := N,bk := D0.nx } s1 A1)
  (fin:∀ s A,J items.length s A→D0.nx s A):forL ck tg tb items D0 s A := by
 have go:∀ (ds pre:List D) (s:Sl) (A:AH),items=pre ++ ds→J pre.length s A→forL ck tg tb ds D0 s A := by
  intro ds
  induction ds with
  | nil =>
   intro pre s A e h
   rw [List.append_nil] at e
   subst e
   exact ⟨hck _ _ _ h,fin _ _ h⟩
  | cons d ds ih =>
   intro pre s A e h
   refine ⟨hck _ _ _ h,step pre.length d s A _ (by rw [e]; simp) h fun s' A' h'=>ih (pre ++ [d]) s' A' (by rw [e]; simp) (by rw [List.length_append]; exact h')⟩
 exact go items [] s A rfl h0
end Am
namespace Am
open PySem PySem.Spec PyProof.Rows L2
open PySem.W (Datum Tup T3 T4)
def Pv (m:ME) (s:Sl) (A:AH) (d:D):Prop := ∀ Q E,Q d A→m s A Q E
def Pt (m:MT) (s:Sl) (A:AH) (b:Bool):Prop := ∀ Q E,Q b A→m s A Q E
def Pa (m:MA) (s:Sl) (A:AH) (ds:List D):Prop := ∀ Q E,Q ds A→m s A Q E
def Po (m:MO) (s:Sl) (A:AH) (o:Option Int):Prop := ∀ Q E,Q o A→m s A Q E
def Fv (f:FN) (ds:List D) (A:AH) (d:D):Prop := ∀ Q E,Q d A→f ds A Q E
section
variable {s:Sl} {A:AH} {m ma mb mc:ME} {d x y z:D} {ds:List D} {a b:Bool} {t u:MT} {mr:MA} {α β γ δ:Type} [DecidableEq α] [Datum α] [DecidableEq β] [Datum β] [DecidableEq γ] [Datum γ] [DecidableEq δ] [Datum δ]
theorem pv_var {i:Nat} (h:s[i]? = some (some d)):Pv (mVar i) s A d := fun Q E q=>⟨d,h,q⟩
theorem pv_c:Pv (mC d) s A d := fun Q E q=>q
theorem pv_op {f:F2} (ha:Pv ma s A x) (hb:Pv mb s A y) (hf:∀ Q:QE,Q d A→f x y A Q):Pv (mOp f ma mb) s A d := fun Q E q=>ha _ E (hb _ E (hf Q q))
theorem pv_un {f:F1} (ha:Pv ma s A x) (hf:∀ Q:QE,Q d A→f x A Q):Pv (mUn f ma) s A d := fun Q E q=>ha _ E (hf Q q)
theorem Pv.is (h:Pv m s A x) (e:x=y):Pv m s A y := e ▸ h
theorem Pt.is (h:Pt t s A a) (e:a=b):Pt t s A b := e ▸ h
theorem pv_in {neg:Bool} {a:α} {xs:List α} (ha:Pv ma s A (en a)) (hb:Pv mb s A y) (hy:SqD A y xs) (hd:Datum.depth α≤60 := by decide):Pv (mOp (fIn neg) ma mb) s A (.bl (decide (a∈xs) != neg)) := pv_op ha hb fun Q q=>w_in hy q hd
theorem pv_inS {neg:Bool} {a:Str} {xs:List Str} (ha:Pv ma s A (.str a)) (hb:Pv mb s A y) (hy:SqD A y xs):Pv (mOp (fIn neg) ma mb) s A (.bl (decide (a∈xs) != neg)) := pv_in (α := Str) ha hb hy
theorem pv_sign {neg:Bool} {c:Nat} {z:Str} (ha:Pv ma s A (.str ⟨#[c]⟩)) (hb:Pv mb s A (.str z)):Pv (mOp (fIn neg) ma mb) s A (.bl (decide (c∈z.cps.toList) != neg)) := pv_op ha hb fun Q q=>⟨c,rfl,q⟩
theorem pv_ix {xs:List α} {i:Nat} {j:Int} {a:α} (ha:Pv ma s A x) (hb:Pv mb s A (.int j)) (hx:SqD A x xs) (hj:j=(i:Int)) (h:xs[i]? = some a):Pv (mOp fIx ma mb) s A (en a) := pv_op ha hb fun Q q=>w_ix hx hj h q
theorem pv_addI {i j:Int} (ha:Pv ma s A (.int i)) (hb:Pv mb s A (.int j)):Pv (mOp fAdd ma mb) s A (.int (i + j)) := pv_op ha hb fun Q q=>⟨j,rfl,q⟩
theorem pv_addS {i j:Str} (ha:Pv ma s A (.str i)) (hb:Pv mb s A (.str j)) (h:i.length + j.length≤sizeLine):Pv (mOp fAdd ma mb) s A (.str (i ++ j)) := pv_op ha hb fun Q q=>⟨j,rfl,h,q⟩
theorem pv_neg {i:Int} (ha:Pv ma s A (.int i)):Pv (mUn fNeg ma) s A (.int (-i)) := pv_un ha fun Q q=>⟨i,rfl,q⟩
theorem pv_chain {i j k:Int} (ha:Pv ma s A (.int i)) (hb:Pv mb s A (.int j)) (hc:Pv mc s A (.int k)):Pv (mChain fLe fLe ma mb mc) s A (.bl (decide (i≤j) && decide (j≤k))) := fun Q E q=>ha _ E (hb _ E ⟨i,j,rfl,rfl,_,rfl,by
 cases e:decide (i≤j) with
 | true=>exact iteT (hc _ E ⟨j,k,rfl,rfl,by rw [e] at q; exact q⟩)
 | false=>exact iteF (by rw [e] at q; exact q)⟩)
theorem pv_andV (ha:Pv ma s A (.bl a)) (hb:a=true→Pv mb s A (.bl b)):Pv (mAndV ma mb) s A (.bl (a && b)) := fun Q E q=>ha _ E ⟨a,rfl,by
 cases a with
 | true=>exact iteT (hb rfl _ E q)
 | false=>exact iteF q⟩
theorem pv_if (ht:Pt t s A a) (h1:a=true→Pv ma s A d) (h2:a=false→Pv mb s A d):Pv (mIf t ma mb) s A d := fun Q E q=>ht _ E (by
 cases a with
 | true=>exact iteT (h1 rfl _ E q)
 | false=>exact iteF (h2 rfl _ E q))
theorem pt_b (h:Pv m s A (.bl a)):Pt (mB m) s A a := fun Q E q=>h _ E ⟨a,rfl,q⟩
theorem pt_and (h1:Pt t s A a) (h2:a=true→Pt u s A b):Pt (mAnd t u) s A (a && b) := fun Q E q=>h1 _ E (by
 cases a with
 | true=>exact iteT (h2 rfl _ E q)
 | false=>exact iteF q)
theorem pt_or (h1:Pt t s A a) (h2:a=false→Pt u s A b):Pt (mOr t u) s A (a || b) := fun Q E q=>h1 _ E (by
 cases a with
 | true=>exact iteT q
 | false=>exact iteF (h2 rfl _ E q))
theorem pt_not (h:Pt t s A a):Pt (mNot t) s A (!a) := fun Q E q=>h _ E q
theorem pt_yes:Pt mYes s A true := fun Q E q=>q
theorem pa_nil':Pa mNil s A [] := fun Q E q=>q
theorem pa_cons' (h:Pv m s A d) (hr:Pa mr s A ds):Pa (mCons m mr) s A (d :: ds) := fun Q E q=>h _ E (hr _ E q)
theorem pa_1 (h:Pv m s A x):Pa (mCons m mNil) s A [x] := pa_cons' h pa_nil'
theorem pa_2 (h:Pv ma s A x) (h2:Pv mb s A y):Pa (mCons ma (mCons mb mNil)) s A [x,y] := pa_cons' h (pa_1 h2)
theorem pa_3 (h:Pv ma s A x) (h2:Pv mb s A y) (h3:Pv mc s A z):Pa (mCons ma (mCons mb (mCons mc mNil))) s A [x,y,z] := pa_cons' h (pa_2 h2 h3)
theorem pa_star' {xs:List D} (h:Pv m s A d) (hx:itS A d=some xs) (hr:Pa mr s A ds):Pa (mStar m mr) s A (xs ++ ds) := fun Q E q=>h _ E ⟨xs,hx,hr _ E q⟩
theorem sz {n:Nat} (h:n≤1000):n≤sizeLine := Fm.small_size h
theorem pv_tup (h:Pa mr s A ds) (hz:ds.length≤sizeLine := by exact sz (by simp)):Pv (mTup mr) s A (.tup ds) := fun Q E q=>h _ E ⟨hz,q⟩
theorem pv_lst (h:Pa mr s A ds) (hz:ds.length≤sizeLine := by exact sz (by simp)):Pv (mLst mr) s A (.lst ds) := fun Q E q=>h _ E ⟨hz,q⟩
theorem pv_cb {f:List D→AH→QE→Prop} (h:Pa mr s A ds) (hf:∀ Q:QE,Q d A→f ds A Q):Pv (mCB f mr) s A d := fun Q E q=>h _ E (hf Q q)
theorem pv_lenS {z:Str} (h:Pv m s A (.str z)) (hz:z.length≤sizeLine):Pv (mCB fLen (mCons m mNil)) s A (.int z.length) := pv_cb (pa_1 h) fun Q q=>⟨_,rfl,hz,q⟩
theorem pv_fld {cs:List Str} {f c:Str} {fs:List (Str × D)} (h:Pv m s A x) (hx:insOf A x=some (c,fs)) (hc:c∈cs) (hf:fs.lookup f=some d):Pv (mFld cs f m) s A d := fun Q E q=>h _ E ⟨c,fs,d,hx,hc,hf,q⟩
theorem pv_isi {tab:List (TyN × Bool)} {t:TyN} (h:Pv m s A x) (ht:tyD A x=some t) (hb:tab.lookup t=some b):Pv (mIsi tab m) s A (.bl b) := fun Q E q=>h _ E ⟨t,b,ht,hb,q⟩
theorem pv_call {f:FN} (h:Pa mr s A ds) (hf:Fv f ds A d):Pv (mCall f mr) s A d := fun Q E q=>h _ E (hf Q E q)
theorem pv_ownIn {f:FN} {c:Str} {fs:List (Str × D)} {neg:Bool} (h1:Pv ma s A x) (h2:Pv mb s A y) (hy:insOf A y=some (c,fs)) (hf:Fv f [y,x] A (.bl b)):Pv (mOwnIn neg c f ma mb) s A (.bl (if neg then !b else b)) := fun Q E q=>h1 _ E (h2 _ E ⟨⟨fs,hy⟩,hf _ NX ⟨b,rfl,q⟩⟩)
theorem strsOf_map:∀ zs:List Str,strsOf (zs.map en)=some zs
 | []=>rfl
 | z :: zs=>by rw [List.map_cons,en_str]; unfold strsOf; rw [strsOf_map zs]; rfl
theorem pv_dget {o:D} (h1:Pv ma s A x) (h2:Pv mb s A y) (h:dval A x y (some o)):Pv (mDGet ma mb) s A o := fun Q E q=>h1 _ E (h2 _ E ⟨o,h,q⟩)
theorem pv_din {o:Option D} {neg:Bool} (h1:Pv ma s A y) (h2:Pv mb s A x) (h:dval A x y o):Pv (mDIn neg ma mb) s A (.bl (o.isSome != neg)) := fun Q E q=>h1 _ E (h2 _ E ⟨o,h,q⟩)
theorem po_no:Po mNoPart s A none := fun Q E q=>q
theorem po_so {i:Int} (h:Pv m s A (.int i)):Po (mPart m) s A (some i) := fun Q E q=>h _ E ⟨i,rfl,q⟩
theorem pv_sl {lo hi:MO} {l h:Option Int} {xs:List D} (hx:Pv m s A x) (h1:Po lo s A l) (h2:Po hi s A h) (hl:itL A x=some xs):Pv (mSl m lo hi) s A (.lst (cutD xs l h)) := fun Q E q=>hx _ E (h1 _ E (h2 _ E (by
 cases x with
 | str z=>cases hl
 | _=>exact ⟨xs,hl,q⟩)))
theorem pv_slS {lo hi:MO} {l h:Option Int} {z:Str} (hx:Pv m s A (.str z)) (h1:Po lo s A l) (h2:Po hi s A h) (hz:z.length≤sizeLine):Pv (mSl m lo hi) s A (.str (cutS z l h)) := fun Q E q=>hx _ E (h1 _ E (h2 _ E ⟨hz,q⟩))
theorem pv_rev {xs:List D} (hx:Pv m s A x) (hl:itL A x=some xs):Pv (mRev m) s A (.lst xs.reverse) := fun Q E q=>hx _ E ⟨xs,hl,q⟩
theorem cutD_map {ι:Type} (e:ι→D) (xs:List ι) (lo hi:Option Int):cutD (xs.map e) lo hi=((xs.drop (HT.sIx xs.length 0 lo)).take (HT.sIx xs.length xs.length hi - HT.sIx xs.length 0 lo)).map e := by
 unfold cutD
 rw [List.length_map,List.map_take,List.map_drop]
theorem pv_lcS {tg:MG} {te:ME} {vs:List Nat} {z:Str} {p:Nat→Bool} {f:Nat→D} (hx:Pv m s A (.str z)) (hz:z.length≤sizeLine)
  (hb:∀ c∈z.cps.toList,∀ (R:Sl→AH→Prop),(∀ s1,Pt t s1 A (p c)→(p c=true→Pv te s1 A (f c))→R s1 A)→tg (.str ⟨#[c]⟩) (wipeD s vs) A R):Pv (mLc (mSeq m) tg t te vs) s A (.lst ((z.cps.toList.filter p).map f)) := fun Q E q=>hx _ E ⟨by unfold chars; rw [List.length_map,Array.length_toList]; exact hz,lc_map (ck := ckT) True.intro (fun a ha R R' h1 h2=>hb a ha _ fun s1 ht he=>ht _ _ (by
 cases e:p a with
 | true=>exact iteT (he e _ _ (h1 e))
 | false=>exact iteF (h2 e))) q⟩
variable {D0:AEnds}
theorem s_set {i:Nat} (h:Pv m s A d) (q:D0.nx (s.set i (some d)) A):mSet m (gN i) D0 s A := h _ _ q
theorem s_ret (h:Pv m s A d) (q:D0.rt d A):mRet m D0 s A := h _ _ q
theorem s_if {u v:MS} (h:Pt t s A a) (h1:a=true→u D0 s A) (h2:a=false→v D0 s A):mIfS t u v D0 s A := h _ _ (by
 cases a with
 | true=>exact iteT (h1 rfl)
 | false=>exact iteF (h2 rfl))
theorem w_draw {n:Nat} {k:Int} {ma mb:ME} {Q:QE} {E:QX} (ha:Pv ma s A (.ref n)) (hb:Pv mb s A (.int k)) (hA:A n=some .pool) (hk:0 < k) (hl:k.natAbs.log2 < 9000) (q:∀ r,0≤r→r < k→Q (.int r) A):mCall fDraw (mCons ma (mCons mb mNil)) s A Q E := (pa_2 ha hb) _ _ ⟨n,k,rfl,hA,hk,hl,q⟩
end
end Am
namespace Am
open PySem PySem.Spec PyProof.Rows L2
open PySem.W (Datum Tup T3 T4)
def Px (m:ME) (s:Sl) (A:AH) (R:D→Prop):Prop := ∀ Q E,(∀ d,R d→Q d A)→m s A Q E
def Pxt (m:MT) (s:Sl) (A:AH):Prop := ∀ Q E,(∀ b,Q b A)→m s A Q E
def Fx (f:FN) (ds:List D) (A:AH) (R:D→Prop):Prop := ∀ Q E,(∀ d,R d→Q d A)→f ds A Q E
section
variable {s:Sl} {A:AH} {m ma mb mc:ME} {d x y z:D} {ds:List D} {a b:Bool} {t u:MT} {mr:MA} {R R1 R2:D→Prop} {α β:Type} [DecidableEq α] [Datum α] [DecidableEq β] [Datum β]
theorem Pv.px (h:Pv m s A d):Px m s A fun e=>e=d := fun Q E q=>h Q E (q d rfl)
theorem Px.imp (h:Px m s A R) (k:∀ d,R d→R1 d):Px m s A R1 := fun Q E q=>h Q E fun d r=>q d (k d r)
theorem Pt.px (h:Pt t s A a):Pxt t s A := fun Q E q=>h Q E (q a)
theorem px_op {f:F2} (ha:Px ma s A R1) (hb:Px mb s A R2) (hf:∀ x y,R1 x→R2 y→∀ Q:QE,(∀ d,R d→Q d A)→f x y A Q):Px (mOp f ma mb) s A R := fun Q E q=>ha _ E fun x rx=>hb _ E fun y ry=>hf x y rx ry Q q
theorem px_op' {f:F2} (ha:Px ma s A R1) (hb:Px mb s A R2) (hf:∀ x y,R1 x→R2 y→Px (mOp f (mC x) (mC y)) s A R):Px (mOp f ma mb) s A R := px_op ha hb fun x y rx ry Q q=>hf x y rx ry Q NX q
def DrN (k:Int):D→Prop := fun d=>∃ r,d = .int r∧0≤r∧r < k
theorem px_draw {n:Nat} {k:Int} (hA:A n=some .pool) (ha:Pv ma s A (.ref n)) (hb:Pv mb s A (.int k)) (hk:0 < k := by decide) (hl:k.natAbs.log2 < 9000 := by decide):Px (mCall fDraw (mCons ma (mCons mb mNil))) s A (DrN k) := fun Q E q=>w_draw ha hb hA hk hl fun r h0 h1=>q _ ⟨r,rfl,h0,h1⟩
theorem DrN.i {k:Int} (d:D) (h:DrN k d):∃ i,d = .int i := by obtain ⟨r,e,_⟩ := h; exact ⟨r,e⟩
theorem px_addD {k j:Int} (ha:Px ma s A (DrN k)):Px (mOp fAdd (mC (.int j)) ma) s A fun d=>∃ r,d = .int r∧j≤r∧r < j + k := px_op' (Pv.px pv_c) ha fun u v e ⟨r,e2,q0,q1⟩=>by
 subst e e2
 exact (pv_addI pv_c pv_c).px.imp fun d e=>⟨_,e,by omega,by omega⟩
variable {D0:AEnds}
theorem s_setX {i:Nat} (h:Px m s A R) (q:∀ d,R d→D0.nx (s.set i (some d)) A):mSet m (gN i) D0 s A := h _ _ q
theorem len_intsD {lo:Int} {n:Nat}:(intsD lo n).length=n := by unfold intsD; simp
theorem px_lcR {tg:MG} {te:ME} {vs:List Nat} {j:Int} {E0:Nat→D→Prop} (hx:Pv m s A (.int j)) (h0:0≤j) (hz:j≤1000)
  (hb:∀ i:Nat,i < j.toNat→∀ (R:Sl→AH→Prop),(∀ s1,Px te s1 A (E0 i)→R s1 A)→tg (.int i) (wipeD s vs) A R):Px (mLc (mRng1 (mCons m mNil)) tg mYes te vs) s A fun d=>∃ ys,d = .lst ys∧Paired E0 (List.range j.toNat) ys := fun Q E q =>
 hx (fun d A1=>∃ k:Int,[d]=[.int k] ∧ -(2 ^ 62)≤k∧k < 2 ^ 62∧(intsD 0 k.toNat).length≤sizeLine∧lcL ckT tg mYes te (wipeD s vs) (intsD 0 k.toNat) A1 fun ys A2=>Q (.lst ys) A2) _ ⟨j,rfl,by omega,by omega,by rw [len_intsD]; exact sz (by omega),by
  have e:intsD 0 j.toNat=(List.range j.toNat).map fun i:Nat=>D.int i := by unfold intsD; simp
  rw [e]
  exact lc_each (ck := ckT) (E := E0) True.intro (fun i hi R R' k=>hb i (List.mem_range.mp hi) _ fun s1 h=>(show (if true=true then te s1 A R NX else R' A) from iteT (B := R' A) (h _ _ k))) fun ys hys=>q _ ⟨ys,rfl,hys⟩⟩
end
theorem s_ifF {s:Sl} {A:AH} {t:MT} {u:MS} {D0:AEnds} (h:Pt t s A false) (q:D0.nx s A):mIfS t u mNext D0 s A := h _ _ (iteF q)
theorem s_ifT {s:Sl} {A:AH} {t:MT} {u v:MS} {D0:AEnds} (h:Pt t s A true) (q:u D0 s A):mIfS t u v D0 s A := h _ _ (iteT q)
section
variable {s:Sl} {A:AH} {Q:QE} {E:QX} {i n:Nat}
theorem w_fzL {xs:List D} (hi:s[i]? = some (some (.ref n))) (h:A n=some (.lst xs)) (q:Q (.lst xs) (rem A n)):mFz (mVar i) s A Q E := ⟨_,hi,by unfold frz1; simp only [h]; exact q⟩
end
theorem Les.put' {A A':AH} {n:Nat} {x:Nd} (h:Les A A') (hn:A n=none):Les A (put A' n x) := fun k y e=>by
 rw [put_ne (fun z=>by rw [z,hn] at e; cases e)]
 exact h k y e
theorem Les.rem' {A A':AH} {n:Nat} (h:Les A A') (hn:A n=none):Les A (rem A' n) := fun k y e=>by
 unfold rem
 have:k≠n := fun z=>by rw [z,hn] at e; cases e
 simp only [this,if_false]
 exact h k y e
theorem LsD.put {α:Type} [DecidableEq α] [Datum α] {A:AH} {x:D} {xs:List α} {n:Nat} {Z:Nd} (h:LsD A x xs) (hn:A n=none):LsD (put A n Z) x xs := by
 cases x with
 | ref k =>
  unfold LsD itL at h ⊢
  simp only at h ⊢
  have:k≠n := fun e=>by rw [e,hn] at h; cases h
  rw [put_ne this]
  exact h
 | _=>exact h
end Am
namespace Am
open PySem PySem.Spec PyProof.Rows L2
open PySem.W (Datum Tup T3 T4)
def P2 (f:F2) (x y:D) (A:AH) (d:D):Prop := ∀ Q:QE,Q d A→f x y A Q
def P1 (f:F1) (x:D) (A:AH) (d:D):Prop := ∀ Q:QE,Q d A→f x A Q
def PB (f:List D→AH→QE→Prop) (ds:List D) (A:AH) (d:D):Prop := ∀ Q:QE,Q d A→f ds A Q
def UE {α:Type} [DecidableEq α] [Datum α] (d:D) (a:α):Prop := d=en a
section
variable {α β γ δ:Type} {i1:DecidableEq α} {j1:Datum α} {i2:DecidableEq β} {j2:Datum β} {i3:DecidableEq γ} {j3:Datum γ} {i4:DecidableEq δ} {j4:Datum δ}
theorem ue_t3 {x y z:D} {a:α} {b:β} {c:γ} (h1:UE x a) (h2:UE y b) (h3:UE z c):UE (.tup [x,y,z]) (T3.mk a b c) := by rw [h1,h2,h3]; rfl
variable {A:AH} {x y d:D} {xs ys:List α} {a b:α}
theorem p2_eq (hx:UE x a) (hy:UE y b) (hd:Datum.depth α≤60):P2 (fEq false) x y A (.bl (decide (a=b))) := fun Q q=>by
 rw [hx,hy]; exact w_eq (by rw [Bool.bne_false]; exact q) hd
theorem p2_ne (hx:UE x a) (hy:UE y b) (hd:Datum.depth α≤60):P2 (fEq true) x y A (.bl (!decide (a=b))) := fun Q q=>by
 rw [hx,hy]; exact w_eq (by rw [Bool.bne_true]; exact q) hd
theorem p2_eqL (hx:LsD A x xs) (hy:LsD A y ys) (hd:Datum.depth (List α)≤60):P2 (fEq false) x y A (.bl (decide (xs=ys))) := fun Q q=>w_eqL hx hy (by rw [Bool.bne_false]; exact q) hd
theorem p2_neL (hx:LsD A x xs) (hy:LsD A y ys) (hd:Datum.depth (List α)≤60):P2 (fEq true) x y A (.bl (!decide (xs=ys))) := fun Q q=>w_eqL hx hy (by rw [Bool.bne_true]; exact q) hd
theorem p2_in (hx:UE x a) (hy:SqD A y xs) (hd:Datum.depth α≤60):P2 (fIn false) x y A (.bl (decide (a∈xs))) := fun Q q=>by
 rw [hx]; exact w_in hy (by rw [Bool.bne_false]; exact q) hd
theorem p2_nin (hx:UE x a) (hy:SqD A y xs) (hd:Datum.depth α≤60):P2 (fIn true) x y A (.bl (!decide (a∈xs))) := fun Q q=>by
 rw [hx]; exact w_in hy (by rw [Bool.bne_true]; exact q) hd
theorem p2_addI {i j:Int}:P2 fAdd (.int i) (.int j) A (.int (i + j)) := fun Q q=>⟨j,rfl,q⟩
theorem p2_subI {i j:Int}:P2 fSub (.int i) (.int j) A (.int (i - j)) := fun Q q=>⟨i,j,rfl,rfl,q⟩
theorem p2_le {i j:Int}:P2 fLe (.int i) (.int j) A (.bl (decide (i≤j))) := fun Q q=>⟨i,j,rfl,rfl,q⟩
theorem p2_gt {i j:Int}:P2 fGt (.int i) (.int j) A (.bl (decide (j < i))) := fun Q q=>⟨i,j,rfl,rfl,q⟩
theorem p2_ixT {ds:List D} {i:Int} (hx:x = .tup ds) (h:L2.atI ds i=some d):P2 fIx x (.int i) A d := fun Q q=>by rw [hx]; exact ⟨ds,i,d,rfl,rfl,h,q⟩
theorem p1_neg {i:Int}:P1 fNeg (.int i) A (.int (-i)) := fun Q q=>⟨i,rfl,q⟩
theorem pb_list {ds:List D} (h:itS A x=some ds):PB fList [x] A (.lst ds) := fun Q q=>⟨x,ds,rfl,h,q⟩
theorem pb_tup {ds:List D} (h:itL A x=some ds):PB fTupOf [x] A (.tup ds) := fun Q q=>⟨x,rfl,by
 cases x with
 | tup ys=>cases h
 | _=>exact ⟨ds,h,q⟩⟩
theorem allBD_map {ι:Type} (f:ι→Bool):∀ zs:List ι,allBD (zs.map fun c=>.bl (f c))=some (zs.all f)
 | []=>rfl
 | z :: zs=>by rw [List.map_cons,allBD,allBD_map f zs]; rfl
def ItL (A:AH) (x:D) {ι:Type} (xs:List ι) (e:ι→D):Prop := itL A x=some (xs.map e)
def ItS (A:AH) (x:D) {ι:Type} (xs:List ι) (e:ι→D):Prop := itS A x=some (xs.map e)
theorem it_l {ι:Type} {xs:List ι} {e:ι→D}:ItS A (.lst (xs.map e)) xs e := rfl
theorem it_t {ι:Type} {xs:List ι} {e:ι→D}:ItS A (.tup (xs.map e)) xs e := rfl
theorem it_n {ι:Type} {xs:List ι} {e:ι→D} {n:Nat} (h:A n=some (.lst (xs.map e))):ItS A (.ref n) xs e := by unfold ItS itS itL; simp only [h]
theorem itL_ref {n:Nat} {ds:List D} (h:A n=some (.lst ds)):itL A (.ref n)=some ds := by unfold itL; simp only [h]
theorem ins_n {n:Nat} {c:Str} {fs:List (Str × D)} (h:A n=some (.ins c fs)):insOf A (.ref n)=some (c,fs) := by unfold insOf; simp only [h]
end
section
variable {s s':Sl} {A:AH} {m ma mb mc:ME} {d x y z:D} {ds:List D} {a b:Bool} {t u:MT} {mr:MA} {Q:QE} {E:QX}
theorem pv_op2 {f:F2} (ha:Pv ma s A x) (hb:Pv mb s A y) (hf:P2 f x y A d):Pv (mOp f ma mb) s A d := pv_op ha hb hf
theorem pv_un1 {f:F1} (ha:Pv ma s A x) (hf:P1 f x A d):Pv (mUn f ma) s A d := pv_un ha hf
theorem pv_cbB {f:List D→AH→QE→Prop} (h:Pa mr s A ds) (hf:PB f ds A d):Pv (mCB f mr) s A d := pv_cb h hf
theorem pv_chainB {f f':F2} {b1 b2:Bool} (ha:Pv ma s A x) (hb:Pv mb s A y) (h1:P2 f x y A (.bl b1)) (hc:b1=true→Pv mc s A z) (h2:P2 f' y z A (.bl b2)):Pv (mChain f f' ma mb mc) s A (.bl (b1 && b2)) := fun Q E q=>ha _ E (hb _ E (h1 _ ⟨b1,rfl,by
 cases b1 with
 | true=>exact iteT (hc rfl _ E (h2 _ q))
 | false=>exact iteF q⟩))
theorem Pv.wp (q:Q d A) (h:Pv m s A d):m s A Q E := h Q E q
theorem P2.wp {f:F2} (q:Q d A) (h:P2 f x y A d):f x y A Q := h Q q
theorem PB.wp {f:List D→AH→QE→Prop} (q:Q d A) (h:PB f ds A d):f ds A Q := h Q q
theorem w_opW {f:F2} (h:ma s A (fun x A1=>mb s A1 (fun y A2=>f x y A2 Q) E) E):mOp f ma mb s A Q E := h
theorem w_callW {f:FN} (q:f ds A Q E) (h:Pa mr s A ds):mCall f mr s A Q E := h _ _ q
theorem w_callX {f:FN} (h:mr s A (fun ds A1=>f ds A1 Q E) E):mCall f mr s A Q E := h
theorem w_consX {R:List D→AH→Prop} (h:m s A (fun x A1=>mr s A1 (fun xs A2=>R (x :: xs) A2) E) E):mCons m mr s A R E := h
theorem w_nilX {R:List D→AH→Prop} (h:R [] A):mNil s A R E := h
theorem w_tupX (h:mr s A (fun ds A1=>ds.length≤sizeLine∧Q (.tup ds) A1) E):mTup mr s A Q E := h
theorem w_lstX (h:mr s A (fun ds A1=>ds.length≤sizeLine∧Q (.lst ds) A1) E):mLst mr s A Q E := h
theorem w_cbX {f:List D→AH→QE→Prop} (h:mr s A (fun ds A1=>f ds A1 Q) E):mCB f mr s A Q E := h
def Tg (tg:MG) (d:D) (s:Sl) (s':Sl):Prop := ∀ A (R:Sl→AH→Prop),R s' A→tg d s A R
def Tgs (tg:MGs) (ds:List D) (s:Sl) (s':Sl):Prop := ∀ A (R:Sl→AH→Prop),R s' A→tg ds s A R
theorem tg_n {i:Nat} (h:s.set i (some d)=s'):Tg (gN i) d s s' := fun A R r=>by unfold gN; rw [h]; exact r
theorem tg_tp {n:Nat} {g:MGs} (hd:d = .tup ds) (hn:ds.length=n) (h:Tgs g ds s s'):Tg (gTp n g) d s s' := fun A R r=>⟨ds, .inl hd,hn,h A R r⟩
theorem tgz_nil:Tgs gNl [] s s := fun A R r=>⟨rfl,r⟩
theorem tgz_cons {g:MG} {gs:MGs} {s1:Sl} (h:Tg g d s s1) (hs:Tgs gs ds s1 s'):Tgs (gCs g gs) (d :: ds) s s' := fun A R r=>⟨d,ds,rfl,h A _ (hs A R r)⟩
def LcB (tg:MG) (t:MT) (te:ME) (s:Sl) (A:AH) (d:D) (b:Bool) (y:D):Prop := ∃ s1,Tg tg d s s1∧Pt t s1 A b∧(b=true→Pv te s1 A y)
theorem lcb {tg:MG} {te:ME} (h:Tg tg d s s') (ht:Pt t s' A b) (he:b=true→Pv te s' A y):LcB tg t te s A d b y := ⟨s',h,ht,he⟩
theorem ItS.seq {ι:Type} {xs:List ι} {e:ι→D} {R:List D→(AH→Prop)→AH→Prop} (h:ItS A x xs e) (q:∀ ck:AH→Prop,ck A→(∀ A',(∀ n,x = .ref n→A' n=A n)→ck A')→R (xs.map e) ck A):fSeq x A R := by
 unfold ItS at h
 unfold fSeq
 cases x with
 | str z=>cases h
 | ref n =>
  unfold itS itL at h
  simp only at h
  split at h
  ·rename_i ys e
   cases h
   exact ⟨_,e,q _ e fun A' k=>by rw [k n rfl]; exact e⟩
  ·cases h
 | _=>exact ⟨_,h,q ckT True.intro fun _ _=>True.intro⟩
def fnE (Q:QE) (E:QX):AEnds := { nx := fun _ A'=>Fg A' (Q .non),rt := fun d A'=>Fg A' (Q d),bk := fun _ _=>False,ct := fun _ _=>False,ex := fun x _ A'=>Fg A' (E x) }
def sqE (u:MS) (D:AEnds):AEnds := { D with nx := fun s' A'=>u D s' A' }
def lpE (D:AEnds) (N:Sl→AH→Prop):AEnds := { D with nx := N,ct := N,bk := D.nx }
variable {D0:AEnds} {N:Sl→AH→Prop} {S U V:MS} {xc:Xc}
theorem fn_in {k n:Nat} {body:MS} (h:body (fnE Q E) s A) (h1:ds.length=k) (hs:ds.map some ++ List.replicate (n - k) none=s):mFn k n body ds A Q E := by subst hs; exact ⟨h1,h⟩
theorem fv_in {k n:Nat} {body:MS} (h:∀ Q E,Q d A→body (fnE Q E) s A) (h1:ds.length=k) (hs:ds.map some ++ List.replicate (n - k) none=s):Fv (mFn k n body) ds A d := fun Q E q=>fn_in (h Q E q) h1 hs
theorem s_sq (h:S (sqE U D0) s A):mSq S U D0 s A := h
theorem nx_sq (h:U D0 s A):(sqE U D0).nx s A := h
theorem rt_sq (h:D0.rt d A):(sqE U D0).rt d A := h
theorem ex_sq (h:D0.ex xc s A):(sqE U D0).ex xc s A := h
theorem nx_lp (h:N s A):(lpE D0 N).nx s A := h
theorem rt_lp (h:D0.rt d A):(lpE D0 N).rt d A := h
theorem ex_lp (h:D0.ex xc s A):(lpE D0 N).ex xc s A := h
theorem t_next (q:D0.nx s A):mNext D0 s A := q
end
end Am
namespace Am
open PySem PySem.Spec PyProof.Rows L2
open PySem.W (Datum Tup T3 T4)
structure Cells0 (B:AH) (cs:List (Nat × Nd)) (A:AH):Prop where
 nd:(cs.map (·.1)).Nodup
 get:∀ c∈cs,A c.1=some c.2
 fr:∀ c∈cs,B c.1=none
 le:Les B A
def Cells (B:AH) (sg:List (List (Nat × Nd))) (A:AH):Prop := Cells0 B sg.flatten A
def remL (A:AH) (ns:List Nat):AH := fun m=>if m∈ns then none else A m
theorem remL_no {A:AH} {ns:List Nat} {m:Nat} (h:m ∉ ns):remL A ns m=A m := if_neg h
theorem remL_in {A:AH} {ns:List Nat} {m:Nat} (h:m∈ns):remL A ns m=none := if_pos h
section
variable {B A A':AH} {cs ds ws ws' rest:List (Nat × Nd)} {sg:List (List (Nat × Nd))} {n i j:Nat} {X Y:Nd}
theorem Cells0.non (h:Cells0 B cs A) (hn:A n=none):B n=none := by
 cases e:B n with
 | none=>rfl
 | some x=>rw [h.le n x e] at hn; cases hn
theorem Cells0.perm (h:Cells0 B cs A) (p:cs.Perm ds):Cells0 B ds A := ⟨(p.map _).nodup_iff.mp h.nd,fun c hc=>h.get c (p.mem_iff.mpr hc),fun c hc=>h.fr c (p.mem_iff.mpr hc),h.le⟩
theorem Cells0.sub (h:Cells0 B cs A) (k:ds.Sublist cs):Cells0 B ds A := ⟨h.nd.sublist (k.map _),fun c hc=>h.get c (k.subset hc),fun c hc=>h.fr c (k.subset hc),h.le⟩
theorem Cells0.les (h:Cells0 B cs A) (l:Les A A'):Cells0 B cs A' := ⟨h.nd,fun c hc=>l _ _ (h.get c hc),h.fr,h.le.trans l⟩
theorem Cells0.focus (h:Cells0 B (ws ++ rest) A):Cells0 (remL A (ws.map (·.1))) ws A := by
 refine ⟨h.nd.sublist ((List.sublist_append_left ws rest).map _),fun c hc=>h.get c (List.mem_append.mpr (.inl hc)),fun c hc=>remL_in (List.mem_map.mpr ⟨c,hc,rfl⟩),fun m x e=>?_⟩
 unfold remL at e
 split at e
 ·cases e
 ·exact e
theorem Cells0.back (h:Cells0 B (ws ++ rest) A) (h':Cells0 (remL A (ws.map (·.1))) ws' A'):Cells0 B (ws' ++ rest) A' := by
 have nd := h.nd
 rw [List.map_append,List.nodup_append] at nd
 have out:∀ c∈rest,c.1 ∉ ws.map (·.1) := fun c hc hm=>nd.2.2 _ hm _ (List.mem_map.mpr ⟨c,hc,rfl⟩) rfl
 have new:∀ c∈ws',c.1∈ws.map (·.1)∨A c.1=none := fun c hc=>by
  have := h'.fr c hc
  unfold remL at this
  split at this
  ·rename_i e; exact .inl e
  ·exact .inr this
 have old:∀ c∈rest,A c.1=some c.2 := fun c hc=>h.get c (List.mem_append.mpr (.inr hc))
 refine ⟨?_,fun c hc=>?_,fun c hc=>?_,fun m x e=>?_⟩
 ·rw [List.map_append,List.nodup_append]
  refine ⟨h'.nd,nd.2.1,fun a ha b hb=>?_⟩
  obtain ⟨c,hc,rfl⟩ := List.mem_map.mp ha
  obtain ⟨d,hd,rfl⟩ := List.mem_map.mp hb
  intro e
  rcases new c hc with h1 | h1
  ·exact out d hd (e ▸ h1)
  ·rw [e,old d hd] at h1; cases h1
 ·rcases List.mem_append.mp hc with hc | hc
  ·exact h'.get c hc
  ·exact h'.le _ _ (by rw [remL_no (out c hc)]; exact old c hc)
 ·rcases List.mem_append.mp hc with hc | hc
  ·rcases new c hc with h1 | h1
   ·obtain ⟨d,hd,e⟩ := List.mem_map.mp h1
    rw [← e]; exact h.fr d (List.mem_append.mpr (.inl hd))
   ·exact h.non h1
  ·exact h.fr c (List.mem_append.mpr (.inr hc))
 ·refine h'.le m x ?_
  rw [remL_no]
  ·exact h.le m x e
  ·intro hm
   obtain ⟨d,hd,e2⟩ := List.mem_map.mp hm
   have := h.fr d (List.mem_append.mpr (.inl hd))
   rw [e2,e] at this; cases this
theorem flat_set (h:sg[i]? = some ws):sg.flatten.Perm (ws ++ (sg.set i []).flatten) := by
 induction sg generalizing i with
 | nil=>simp at h
 | cons s sg ih =>
  cases i with
  | zero=>simp at h; subst h; simp
  | succ i =>
   simp at h
   have := ih h
   simp only [List.flatten_cons,List.set_cons_succ]
   refine (this.append_left s).trans ?_
   rw [← List.append_assoc,← List.append_assoc]
   exact List.perm_append_comm.append_right _
theorem flat_put (h:i < sg.length):(sg.set i ws).flatten.Perm (ws ++ (sg.set i []).flatten) := by
 have := flat_set (sg := sg.set i ws) (i := i) (ws := ws) (by rw [List.getElem?_set_self h])
 rw [List.set_set] at this
 exact this
theorem Cells.focus (h:Cells B sg A) (i:Nat) (e:sg[i]? = some ws):Cells0 (remL A (ws.map (·.1))) ws A := (Cells0.perm h (flat_set e)).focus
theorem Cells.back (h:Cells B sg A) (i:Nat) (e:sg[i]? = some ws) (h':Cells0 (remL A (ws.map (·.1))) ws' A'):Cells B (sg.set i ws') A' := ((Cells0.perm h (flat_set e)).back h').perm (flat_put (List.getElem?_eq_some_iff.mp e).1).symm
theorem Cells.nil_ {A:AH}:Cells A [] A where
 nd := .nil
 get := fun _ h=>nomatch h
 fr := fun _ h=>nomatch h
 le := Les.refl
theorem Cells.le (h:Cells B sg A):Les B A := Cells0.le h
theorem Cells.at (h:Cells B sg A) (i:Nat) (e:sg[i]? = some [(n,X)]):A n=some X := (h.focus i e).get _ (List.mem_singleton.mpr rfl)
theorem Cells0.put1 (h:Cells0 B [(n,X)] A) (Y:Nd):Cells0 B [(n,Y)] (put A n Y) := by
 have hb := h.fr _ (List.mem_singleton.mpr rfl)
 refine ⟨by simp,fun c hc=>?_,fun c hc=>?_,h.le.put' hb⟩
 ·rw [List.mem_singleton.mp hc]; exact put_same
 ·rw [List.mem_singleton.mp hc]; exact hb
theorem Cells.put (h:Cells B sg A) (i:Nat) (e:sg[i]? = some [(n,X)]) (Y:Nd):Cells B (sg.set i [(n,Y)]) (put A n Y) := h.back i e ((h.focus i e).put1 Y)
theorem Cells.new (h:Cells B sg A) (X:Nd) (hn:A n=none):Cells B (sg ++ [[(n,X)]]) (Am.put A n X) := by
 have h0:Cells0 B sg.flatten A := h
 have ne:∀ c∈sg.flatten,c.1≠n := fun c hc e=>by have := h0.get c hc; rw [e,hn] at this; cases this
 show Cells0 B (sg ++ [[(n,X)]]).flatten _
 rw [List.flatten_append]
 show Cells0 B (sg.flatten ++ [(n,X)]) _
 refine ⟨?_,fun c hc=>?_,fun c hc=>?_,h0.le.put' (h0.non hn)⟩
 ·rw [List.map_append,List.nodup_append]
  refine ⟨h0.nd,by simp,fun a ha b hb=>?_⟩
  obtain ⟨c,hc,rfl⟩ := List.mem_map.mp ha
  have:b=n := by simpa using hb
  rw [this]; exact ne c hc
 ·rcases List.mem_append.mp hc with hc | hc
  ·rw [put_ne (ne c hc)]; exact h0.get c hc
  ·rw [List.mem_singleton.mp hc]; exact put_same
 ·rcases List.mem_append.mp hc with hc | hc
  ·exact h0.fr c hc
  ·rw [List.mem_singleton.mp hc]; exact h0.non hn
theorem Cells.take (h:Cells B sg A) (k:Nat):Cells B (sg.take k) A := by
 have:sg.flatten=(sg.take k).flatten ++ (sg.drop k).flatten := by rw [← List.flatten_append,List.take_append_drop]
 have h':Cells0 B ((sg.take k).flatten ++ (sg.drop k).flatten) A := this ▸ h
 exact h'.sub (List.sublist_append_left _ _)
theorem Cells.les (h:Cells B sg A) (l:Les A A'):Cells B sg A' := Cells0.les h l
theorem flat_erase:∀ {sg:List (List (Nat × Nd))} {i:Nat},(sg.eraseIdx i).flatten=(sg.set i []).flatten
 | [],_=>by simp
 | s :: sg,0=>by simp
 | s :: sg,i + 1=>by simp [flat_erase (sg := sg) (i := i)]
theorem flat_set_sub:∀ {sg:List (List (Nat × Nd))} {i:Nat},(sg.set i []).flatten.Sublist sg.flatten
 | [],_=>by simp
 | s :: sg,0=>by simp
 | s :: sg,i + 1=>by simp only [List.set_cons_succ,List.flatten_cons]; exact (List.Sublist.refl s).append flat_set_sub
theorem Cells.erase (h:Cells B sg A) (k:Nat):Cells B (sg.eraseIdx k) A := by
 unfold Cells
 rw [flat_erase]
 exact Cells0.sub h flat_set_sub
theorem Cells.cut (h:Cells B sg A) (i:Nat) (e:sg[i]? = some [(n,X)]):Cells B (sg.eraseIdx i) (rem A n) := by
 have:Cells B (sg.set i []) (rem A n) := h.back i e (by
  refine ⟨.nil,fun _ h=>(nomatch h),fun _ h=>(nomatch h),fun m x e=>?_⟩
  unfold remL at e
  unfold rem
  simp only [List.map_cons,List.map_nil,List.mem_singleton] at e
  exact e)
 unfold Cells at this ⊢
 rw [flat_erase]; exact this
end
def Sz (n:Nat):Prop := n≤sizeLine
theorem Sz.of {n:Nat} (h:n≤1000000):Sz n := Nat.le_trans h (by decide)
def ixG {α:Type} (d0:α) (xs:List α) (i:Int):α := (xs[i.toNat]?).getD d0
def rng (j:Int):List Int := (List.range j.toNat).map fun i:Nat=>(i:Int)
def enu {α:Type} (xs:List α):List (Int × α) := xs.zipIdx.map fun p=>((p.2:Int),p.1)
def eE {α:Type} (e:α→D):Int × α→D := fun p=>.tup [.int p.1,e p.2]
def cutL {α:Type} (xs:List α) (lo hi:Option Int):List α := (xs.drop (HT.sIx xs.length 0 lo)).take (HT.sIx xs.length xs.length hi - HT.sIx xs.length 0 lo)
def letW {α:Type} (a:α) (k:α→Prop):Prop := k a
def joinW {σ:Type} (b:(σ→Prop)→Prop) (k:σ→Prop):Prop := b k
def forW {ι σ:Type}:List ι→σ→(ι→σ→(σ→Prop)→(σ→Prop)→Prop)→(σ→Prop)→Prop
 | [],st,_,K=>K st
 | x :: xs,st,b,K=>b x st (fun st'=>forW xs st' b K) K
def lcW {ι β:Type}:List ι→(ι→(Option β→Prop)→Prop)→(List β→Prop)→Prop
 | [],_,K=>K []
 | x :: xs,b,K=>b x fun o=>match o with
  | some y=>lcW xs b fun ys=>K (y :: ys)
  | none=>lcW xs b K
section
variable {ι α β:Type} {s s':Sl} {A B:AH} {m ma mb mc:ME} {d x y z:D} {xs:List ι} {e:ι→D}
theorem ItL.les (h:ItL B x xs e) (l:Les B A):ItL A x xs e := by
 unfold ItL at *
 cases x with
 | ref k =>
  unfold itL at *
  simp only at *
  cases q:B k with
  | none=>rw [q] at h; cases h
  | some z=>rw [l k z q]; rw [q] at h; exact h
 | _=>exact h
theorem ItL.toS (h:ItL A x xs e):ItS A x xs e := by
 unfold ItL ItS itS at *
 cases x <;> first | exact h | cases h
theorem ItS.les (h:ItS B x xs e) (l:Les B A):ItS A x xs e := by
 unfold ItS at *
 cases x with
 | ref k=>exact (ItL.les (x := .ref k) (xs := xs) (e := e) h l)
 | _=>exact h
theorem il_l:ItL A (.lst (xs.map e)) xs e := rfl
theorem il_n {n:Nat} (h:A n=some (.lst (xs.map e))):ItL A (.ref n) xs e := by unfold ItL itL; simp only [h]
theorem il_en {α:Type} {i1:DecidableEq α} {j1:Datum α} {xs:List α}:ItL A (en xs) xs en := by rw [en_list]; rfl
theorem ItL.same {A':AH} (h:ItL B x xs e) (l:Les B A) (l':Les B A'):∀ n,x = .ref n→A' n=A n := fun n ex=>by
 subst ex
 unfold ItL itL at h
 simp only at h
 cases q:B n with
 | none=>rw [q] at h; cases h
 | some z=>rw [l n z q,l' n z q]
theorem ItS.sq {α:Type} {i1:DecidableEq α} {j1:Datum α} {xs:List α} (h:ItS A x xs en):SqD A x xs := h
theorem ue_l {α:Type} {i1:DecidableEq α} {j1:Datum α} {xs:List α}:UE (.lst (xs.map en)) xs := (en_list xs).symm
theorem ue_t {α:Type} {i1:DecidableEq α} {j1:Datum α} {xs:List α}:UE (.tup (xs.map en)) (Tup.mk xs) := (en_tup xs).symm
theorem atI_G {d0:ι} {j:Int} (h:0≤j∧j < xs.length):L2.atI (xs.map e) j=some (e (ixG d0 xs j)) := by
 have hj:j.toNat < xs.length := by omega
 have e1:ixG d0 xs j=xs[j.toNat] := by unfold ixG; rw [List.getElem?_eq_getElem hj]; rfl
 have h2:L2.atI (xs.map e) ((j.toNat:Nat):Int)=some (e xs[j.toNat]) := atI_nat (by rw [List.getElem?_map,List.getElem?_eq_getElem hj]; rfl)
 have e2:((j.toNat:Nat):Int)=j := by omega
 rw [e1,← h2,e2]
theorem p2_ixG {d0:ι} {j:Int} (hx:ItS A x xs e) (h:0≤j∧j < xs.length):P2 fIx x (.int j) A (e (ixG d0 xs j)) := fun Q q=>by
 have fin:∃ ys i d,itS A x=some ys∧D.int j = .int i∧L2.atI ys i=some d∧Q d A := ⟨_,j,_,hx,rfl,atI_G h,q⟩
 unfold fIx
 cases x with
 | str z=>cases hx
 | _=>exact fin
theorem atI_L {d0:ι} (h:xs≠[]):L2.atI (xs.map e) (-1)=some (e (xs.getLast?.getD d0)) := by
 have hl:0 < xs.length := List.length_pos_iff.mpr h
 have e1:xs.getLast?.getD d0=xs[xs.length - 1] := by rw [List.getLast?_eq_getElem?,List.getElem?_eq_getElem (by omega)]; rfl
 rw [e1]
 unfold L2.atI ixN
 rw [List.length_map]
 simp only [show ¬ (0:Int) ≤ -1 by decide,if_false]
 rw [if_pos (by omega)]
 have:(-1 + (xs.length:Int)).toNat=xs.length - 1 := by omega
 rw [this,Option.bind_some,List.getElem?_map,List.getElem?_eq_getElem (by omega)]
 rfl
theorem p2_ixL {d0:ι} (hx:ItS A x xs e) (h:xs≠[]):P2 fIx x (.int (-1)) A (e (xs.getLast?.getD d0)) := fun Q q=>by
 have fin:∃ ys i d,itS A x=some ys∧D.int (-1) = .int i∧L2.atI ys i=some d∧Q d A := ⟨_,-1,_,hx,rfl,atI_L h,q⟩
 unfold fIx
 cases x with
 | str z=>cases hx
 | _=>exact fin
theorem pb_lenI (hx:ItS A x xs e):PB fLen [x] A (.int xs.length) := fun Q q=>by
 refine ⟨x,rfl, ?_⟩
 have fin:∃ ys,itS A x=some ys∧Q (.int ys.length) A := ⟨_,hx,by rw [List.length_map]; exact q⟩
 cases x with
 | str z=>cases hx
 | _=>exact fin
theorem pb_listI (hx:ItS A x xs e):PB fList [x] A (.lst (xs.map e)) := pb_list hx
theorem pb_tupI (hx:ItL A x xs e):PB fTupOf [x] A (.tup (xs.map e)) := pb_tup hx
theorem pv_slG {lo hi:MO} {l h:Option Int} (hx:Pv m s A x) (h1:Po lo s A l) (h2:Po hi s A h) (hl:ItL A x xs e):Pv (mSl m lo hi) s A (.lst ((cutL xs l h).map e)) := (pv_sl hx h1 h2 hl).is (by rw [cutD_map]; rfl)
theorem pv_revI (hx:Pv m s A x) (hl:ItL A x xs e):Pv (mRev m) s A (.lst (xs.reverse.map e)) := (pv_rev hx hl).is (by rw [List.map_reverse])
theorem p2_addLI {ys:List ι} (hx:ItL A x xs e) (hy:ItL A y ys e) (h:Sz (xs.length + ys.length)):P2 fAdd x y A (.lst ((xs ++ ys).map e)) := fun Q q=>by
 unfold fAdd fAddG
 have fin:∃ us vs,itL A x=some us∧itL A y=some vs∧us.length + vs.length≤sizeLine∧oldL (us ++ vs) A Q := ⟨_,_,hx,hy,by rw [List.length_map,List.length_map]; exact h,by rw [← List.map_append]; exact q⟩
 cases x with
 | int i=>cases hx
 | str z=>cases hx
 | tup ds=>cases hx
 | lst us=>exact fin
 | ref n=>exact fin
 | _=>cases hx
theorem pv_ifG {t:MT} {b:Bool} {f:α→D} {p q:α} (ht:Pt t s A b) (h1:b=true→Pv ma s A (f p)) (h2:b=false→Pv mb s A (f q)):Pv (mIf t ma mb) s A (f (if b=true then p else q)) := pv_if ht (fun h=>by rw [if_pos h]; exact h1 h) (fun h=>by rw [if_neg (by rw [h]; decide)]; exact h2 h)
theorem pt_truL {t:ι} (h:Pv m s A x) (hx:ItS A x xs e):Pt (mTru m) s A (!xs.isEmpty) := fun Q E q=>h _ E (by
 have fin:∃ ys,itS A x=some ys∧Q (!ys.isEmpty) A := ⟨_,hx,by rw [isEmpty_len (ys := xs) (by simp)]; exact q⟩
 unfold fTru
 cases x with
 | non=>cases hx
 | bl b=>cases hx
 | int b=>cases hx
 | str b=>cases hx
 | _=>exact fin)
end
def Mi (mi:MI) (s:Sl) (A:AH) (xs:List D) (P:AH→Prop):Prop := ∀ (R:List D→(AH→Prop)→AH→Prop) (E:QX),(∀ ck:AH→Prop,ck A→(∀ A',P A'→ck A')→R xs ck A)→mi s A R E
section
variable {ι α β σ:Type} {s s':Sl} {A B:AH} {m ma mb mc te:ME} {t:MT} {tg:MG} {d x y z:D} {xs:List ι} {e:ι→D} {mi:MI} {P:AH→Prop}
theorem mi_seq (h:Pv m s A x) (hl:ItS A x xs e):Mi (mSeq m) s A (xs.map e) (fun A'=>∀ n,x = .ref n→A' n=A n) := fun R E k=>h _ E (ItS.seq hl fun ck h1 h2=>k ck h1 h2)
theorem intsD_rng (j:Int):intsD 0 j.toNat=(rng j).map en := by unfold intsD rng; rw [List.map_map]; exact List.map_congr_left fun i _=>by show D.int _=D.int _; rw [Int.zero_add]
theorem mi_rng {j:Int} (h:Pv m s A (.int j)) (hb:-(2 ^ 62)≤j∧j < 2 ^ 62):Mi (mRng1 (mCons m mNil)) s A ((rng j).map en) (fun _=>True) := fun R E k=>(pa_1 h) (fun ds A1=>∃ i:Int,ds=[.int i] ∧ -(2 ^ 62)≤i∧i < 2 ^ 62∧R (intsD 0 i.toNat) ckT A1) E ⟨j,rfl,hb.1,hb.2,by rw [intsD_rng]; exact k ckT True.intro fun _ _=>True.intro⟩
theorem pairs_enu (xs:List ι) (e:ι→D):pairs (xs.map e)=(enu xs).map (eE e) := by
 apply List.ext_getElem?
 intro i
 unfold pairs enu
 rw [List.getElem?_map,List.getElem?_map,List.getElem?_map,List.getElem?_zipIdx,List.length_map]
 by_cases h:i < xs.length
 ·rw [List.getElem?_range h,List.getElem?_eq_getElem h,Option.map_some,Option.map_some,Option.map_some,Option.map_some,List.getD_eq_getElem?_getD,List.getElem?_map,List.getElem?_eq_getElem h]
  unfold eE
  simp
 ·rw [List.getElem?_eq_none (by simpa using h),List.getElem?_eq_none (by simpa using h)]
  rfl
theorem mi_enum (h:Pv m s A x) (hl:ItL A x xs e):Mi (mEnum (mCons m mNil)) s A ((enu xs).map (eE e)) (fun A'=>∀ n,x = .ref n→A' n=A n) := fun R E k=>by
 refine (pa_1 h) (fun ds A1=>∃ d,ds=[d]∧fEnum d A1 R) E ⟨x,rfl, ?_⟩
 rw [← pairs_enu] at k
 unfold ItL itL at hl
 unfold fEnum
 cases x with
 | ref n =>
  simp only at hl
  split at hl
  ·rename_i ys e1
   cases hl
   exact ⟨_,e1,k _ e1 fun A' q=>by rw [q n rfl]; exact e1⟩
  ·cases hl
 | lst ys=>cases hl; exact k ckT True.intro fun _ _=>True.intro
 | _=>cases hl
theorem mi_enumT (h:Pv m s A (.tup (xs.map e))):Mi (mEnumT (mCons m mNil)) s A ((enu xs).map (eE e)) (fun _=>True) := fun R E k=>(pa_1 h) (fun ds A1=>∃ xs,ds=[.tup xs]∧R (pairs xs) ckT A1) E ⟨_,rfl,by rw [pairs_enu]; exact k ckT True.intro fun _ _=>True.intro⟩
theorem v_lcFM {p:ι→Bool} {g:ι→β} {e':β→D} {vs:List Nat} (hm:Mi mi s A (xs.map e) P) (hw:wipeD s vs=s') (hz:Sz xs.length) (hb:∀ a∈xs,LcB tg t te s' A (e a) (p a) (e' (g a))):Pv (mLc mi tg t te vs) s A (.lst (((xs.filter p).map g).map e')) := fun Q E q=>hm _ _ fun ck hck _=>⟨by rw [List.length_map]; exact hz,by
 rw [hw]
 refine lc_map (f := fun a=>e' (g a)) hck (fun a ha R R' h1 h2=>?_) (by show Q (.lst _) A; rw [List.map_map] at q; exact q)
 obtain ⟨s1,k1,k2,k3⟩ := hb a ha
 refine k1 A _ (k2 _ _ ?_)
 cases e:p a with
 | true=>exact iteT (k3 e _ _ (h1 e))
 | false=>exact iteF (h2 e)⟩
theorem v_lcF {p:ι→Bool} {vs:List Nat} (hm:Mi mi s A (xs.map e) P) (hw:wipeD s vs=s') (hz:Sz xs.length) (hb:∀ a∈xs,LcB tg t te s' A (e a) (p a) (e a)):Pv (mLc mi tg t te vs) s A (.lst ((xs.filter p).map e)) := (v_lcFM (g := id) (e' := e) hm hw hz hb).is (by rw [List.map_id])
theorem v_lcM {g:ι→β} {e':β→D} {vs:List Nat} (hm:Mi mi s A (xs.map e) P) (hw:wipeD s vs=s') (hz:Sz xs.length) (hb:∀ a∈xs,LcB tg mYes te s' A (e a) true (e' (g a))):Pv (mLc mi tg mYes te vs) s A (.lst ((xs.map g).map e')) := (v_lcFM (p := fun _=>true) hm hw hz hb).is (by rw [List.filter_eq_self.mpr (fun _ _=>rfl)])
theorem lc_corr {f:β→D} {ck:AH→Prop} {b:ι→(Option β→Prop)→Prop} (hc:ck A) (hb:∀ a∈xs,∀ (K:Option β→Prop) (R:D→AH→Prop) (R':AH→Prop),b a K→(∀ y,K (some y)→R (f y) A)→(K none→R' A)→tg (e a) s A fun s1 A1=>t s1 A1 (fun b A2=>if b=true then te s1 A2 R NX else R' A2) NX) :
  ∀ {K:List β→Prop} {Q:List D→AH→Prop},lcW xs b K→(∀ ys,K ys→Q (ys.map f) A)→lcL ck tg t te s (xs.map e) A Q := by
 induction xs with
 | nil=>intro K Q h q; exact ⟨hc,q [] h⟩
 | cons a xs ih =>
  intro K Q h q
  refine ⟨hc,hb a (List.mem_cons_self ..) _ _ _ h (fun y hy=>?_) (fun hn=>?_)⟩
  ·exact ih (fun b hb'=>hb b (List.mem_cons_of_mem _ hb')) hy fun ys hys=>q (y :: ys) hys
  ·exact ih (fun b hb'=>hb b (List.mem_cons_of_mem _ hb')) hn q
theorem u_lc {f:β→D} {vs:List Nat} {b:ι→(Option β→Prop)→Prop} {K:List β→Prop} {Q:QE} {E:QX} (hm:Mi mi s A (xs.map e) P) (hw:wipeD s vs=s') (hz:Sz xs.length) (h:lcW xs b K) (hb:∀ a∈xs,∀ (K:Option β→Prop) (R:D→AH→Prop) (R':AH→Prop),b a K→(∀ y,K (some y)→R (f y) A)→(K none→R' A)→tg (e a) s' A fun s1 A1=>t s1 A1 (fun b A2=>if b=true then te s1 A2 R NX else R' A2) NX) (q:∀ ys,K ys→Q (.lst (ys.map f)) A):mLc mi tg t te vs s A Q E := hm _ _ fun ck hck _=>⟨by rw [List.length_map]; exact hz,by rw [hw]; exact lc_corr hck hb h q⟩
theorem u_lcM {f:β→D} {vs:List Nat} {b:ι→(Option β→Prop)→Prop} {K:List β→Prop} {Q:QE} {E:QX} (hm:Mi mi s A (xs.map e) P) (hw:wipeD s vs=s') (hz:Sz xs.length) (h:lcW xs b K) (hb:∀ a∈xs,∀ (K:Option β→Prop) (R:D→AH→Prop) (R':AH→Prop),b a K→(∀ y,K (some y)→R (f y) A)→(K none→R' A)→tg (e a) s' A fun s1 A1=>t s1 A1 (fun b A2=>if b=true then te s1 A2 R NX else R' A2) NX) (q:∀ ys,K ys→∀ n,A n=none→Q (.ref n) (put A n (.lst (ys.map f)))):mLcM mi tg t te vs s A Q E := hm _ _ fun ck hck _=>⟨by rw [List.length_map]; exact hz,by rw [hw]; exact lc_corr hck hb h q⟩
theorem lc_yes {R:D→AH→Prop} {R':AH→Prop} {s1:Sl} (h1:te s1 A R NX):mYes s1 A (fun b A2=>if b=true then te s1 A2 R NX else R' A2) NX := iteT (B := R' A) h1
variable {D0:AEnds} {U V S:MS} {Q:QE} {E:QX}
theorem at_s {M:MS} (e:s=s') (h:M D0 s' A):M D0 s A := e ▸ h
theorem at_n {N:Sl→AH→Prop} (e:s=s') (h:N s' A):N s A := e ▸ h
theorem u_set {i:Nat} (h:Pv m s A d) (hs:s.set i (some d)=s') (q:D0.nx s' A):mSet m (gN i) D0 s A := by subst hs; exact h _ _ q
theorem u_setE {i:Nat} (h:m s A (fun d A1=>D0.nx (s.set i (some d)) A1) (fun x A1=>D0.ex x s A1)):mSet m (gN i) D0 s A := h
theorem u_setG (h:Pv m s A d) (q:tg d s A D0.nx):mSet m tg D0 s A := h _ _ q
theorem u_setGE (h:m s A (fun d A1=>tg d s A1 D0.nx) (fun x A1=>D0.ex x s A1)):mSet m tg D0 s A := h
theorem u_if {b:Bool} {W1 W2:Prop} (ht:Pt t s A b) (h:if b=true then W1 else W2) (h1:b=true→W1→U D0 s A) (h2:b=false→W2→V D0 s A):mIfS t U V D0 s A := ht _ _ (by
 cases b with
 | true=>exact iteT (h1 rfl (by simpa using h))
 | false=>exact iteF (h2 rfl (by simpa using h)))
theorem u_ret (h:Pv m s A d) (q:D0.rt d A):mRet m D0 s A := h _ _ q
theorem u_retE (h:m s A D0.rt (fun x A1=>D0.ex x s A1)):mRet m D0 s A := h
theorem u_dropE (h:m s A (fun _ A1=>D0.nx s A1) (fun x A1=>D0.ex x s A1)):mDrop m D0 s A := h
theorem u_app {n:Nat} {ys:List D} (ho:Pv ma s A (.ref n)) (hA:A n=some (.lst ys)) (h:Pv m s A d) (hz:Sz (ys.length + 1)) (q:D0.nx s (put A n (.lst (ys ++ [d])))):mDrop (mBM fAppend ma (mCons m mNil)) D0 s A := ho _ _ ⟨⟨ys,itL_ref hA⟩,(pa_1 h) _ _ ⟨n,ys,d,rfl,rfl,hA,hz,q⟩⟩
theorem u_appS (h:ma s A (fun x A1=>(∃ xs,itL A1 x=some xs)∧m s A1 (fun d A2=>fAppend x [d] A2 fun _ A3=>D0.nx s A3) (fun x A1=>D0.ex x s A1)) (fun x A1=>D0.ex x s A1)):mDrop (mBM fAppend ma (mCons m mNil)) D0 s A := h
theorem u_it {n:Nat} {ys:List D} (hA:A n=some (.lst ys)):∃ xs,itL A (.ref n)=some xs := ⟨ys,itL_ref hA⟩
theorem u_rt {B:AH} {cs:List (List (Nat × Nd))} (hc:Cells B cs A) (h:Q d B):(fnE Q E).rt d A := fg_les hc.le h
theorem u_nxf {B:AH} {cs:List (List (Nat × Nd))} (hc:Cells B cs A) (h:Q .non B):(fnE Q E).nx s A := fg_les hc.le h
theorem u_exf {B:AH} {cs:List (List (Nat × Nd))} {x:Xc} (hc:Cells B cs A) (h:E x B):(fnE Q E).ex x s A := fg_les hc.le h
theorem u_rz1 {c f:Str} (h:Pv m s A d) (q:D0.ex ⟨c,[(f,d)]⟩ s A):mRz1 c f m D0 s A := h _ _ q
theorem u_rz2 {c f1 f2:Str} {d1 d2:D} (h1:Pv ma s A d1) (h2:Pv mb s A d2) (q:D0.ex ⟨c,[(f2,d2),(f1,d1)]⟩ s A):mRz2 c f1 f2 ma mb D0 s A := h1 _ _ (h2 _ _ q)
theorem u_lputS {mo mi mv:ME} (h:mv s A (fun z A1=>mo s A1 (fun x A2=>mi s A2 (fun y A3=>lput A3 x y z fun A4=>D0.nx s A4) fun e A=>D0.ex e s A) fun e A=>D0.ex e s A) fun e A=>D0.ex e s A):mLPut mo mi mv D0 s A := h
theorem ixN_nn {k:Nat} {i:Int} (h:0≤i∧i < k):ixN k i=some i.toNat := by unfold ixN; rw [if_pos h.1,if_pos (by omega)]
theorem set_map {xs:List ι} {e:ι→D} {j:Nat} {v:ι}:(xs.map e).set j (e v)=(xs.set j v).map e := by rw [List.map_set]
theorem app_map {xs:List ι} {e:ι→D} {v:ι}:xs.map e ++ [e v]=(xs ++ [v]).map e := by rw [List.map_append]; rfl
theorem u_lput1 {n:Nat} {xs:List ι} {e:ι→D} {i:Int} {v:ι} {Rn:AH→Prop} (hA:A n=some (.lst (xs.map e))) (hj:0≤i∧i < xs.length) (q:Rn (put A n (.lst ((xs.set i.toNat v).map e)))):lput A (.ref n) (.int i) (e v) Rn := ⟨n,_,i,i.toNat,rfl,hA,rfl,ixN_nn (by rw [List.length_map]; exact hj),by rw [set_map]; exact q⟩
theorem u_app2 {n:Nat} {xs:List ι} {e:ι→D} {v:ι} {Rn:AH→Prop} (hA:A n=some (.lst (xs.map e))) (hz:Sz (xs.length + 1)) (q:Rn (put A n (.lst ((xs ++ [v]).map e)))):fAppend (.ref n) [e v] A (fun _ A3=>Rn A3) := ⟨n,xs.map e,e v,rfl,rfl,hA,by rw [List.length_map]; exact hz,by rw [app_map]; exact q⟩
theorem u_for {Wb:Prop} (hm:Mi mi s A (xs.map e) P) (h:∀ ck:AH→Prop,ck A→(∀ A',P A'→ck A')→forL ck tg U (xs.map e) D0 s A):mFor mi tg U D0 s A := hm _ _ h
theorem for_corr {ck:AH→Prop} (Rl:σ→Sl→AH→Prop) {wb:ι→σ→(σ→Prop)→(σ→Prop)→Prop} {K:σ→Prop} {st:σ} (h:forW xs st wb K) (h0:Rl st s A) (hck:∀ st s A,Rl st s A→ck A)
  (step:∀ x∈xs,∀ st s A (N B:σ→Prop) (Nm:Sl→AH→Prop),wb x st N B→Rl st s A→(∀ st' s' A',N st'→Rl st' s' A'→Nm s' A')→(∀ st' s' A',B st'→Rl st' s' A'→D0.nx s' A')→tg (e x) s A (fun s1 A1=>U (lpE D0 Nm) s1 A1))
  (fin:∀ st s A,K st→Rl st s A→D0.nx s A):forL ck tg U (xs.map e) D0 s A := by
 induction xs generalizing st s A with
 | nil=>exact ⟨hck _ _ _ h0,fin _ _ _ h h0⟩
 | cons x xs ih =>
  refine ⟨hck _ _ _ h0, ?_⟩
  exact step x (List.mem_cons_self ..) st s A _ K (fun s2 A2=>forL ck tg U (xs.map e) D0 s2 A2) h h0 (fun st' s' A' hN hR=>ih hN hR fun y hy=>step y (List.mem_cons_of_mem _ hy)) fin
theorem u_forC (Rl:σ→Sl→AH→Prop) {wb:ι→σ→(σ→Prop)→(σ→Prop)→Prop} {K:σ→Prop} {st:σ} (hm:Mi mi s A (xs.map e) P) (h:forW xs st wb K) (h0:Rl st s A) (hck:∀ st s A,Rl st s A→P A)
 (step:∀ x∈xs,∀ st s A (N B:σ→Prop) (Nm:Sl→AH→Prop),wb x st N B→Rl st s A→(∀ st' s' A',N st'→Rl st' s' A'→Nm s' A')→(∀ st' s' A',B st'→Rl st' s' A'→D0.nx s' A')→tg (e x) s A (fun s1 A1=>U (lpE D0 Nm) s1 A1))
 (fin:∀ st s A,K st→Rl st s A→D0.nx s A):mFor mi tg U D0 s A := hm _ _ fun ck h1 h2=>for_corr Rl h h0 (fun st s A r=>h2 A (hck st s A r)) step fin
theorem u_join (Rl:σ→Sl→AH→Prop) {b:(σ→Prop)→Prop} {K:σ→Prop} {M:MS} (h:joinW b K) (hb:∀ N:σ→Prop,b N→(∀ st s A,N st→Rl st s A→V D0 s A)→M (sqE V D0) s A) (hk:∀ st s A,K st→Rl st s A→V D0 s A):mSq M V D0 s A := hb K h hk
end
theorem forW_inv {ι σ:Type} (J:List ι→σ→Prop) {xs:List ι} {st:σ} {b:ι→σ→(σ→Prop)→(σ→Prop)→Prop} {K:σ→Prop} (h0:J [] st)
  (step:∀ pre x post st (N:σ→Prop),xs=pre ++ x :: post→J pre st→(∀ st',J (pre ++ [x]) st'→N st')→b x st N K) (fin:∀ st,J xs st→K st):forW xs st b K := by
 have go:∀ (post pre:List ι) (st:σ),xs=pre ++ post→J pre st→forW post st b K := by
  intro post
  induction post with
  | nil=>intro pre st e h; rw [List.append_nil] at e; subst e; exact fin st h
  | cons x post ih=>intro pre st e h; exact step pre x post st _ e h fun st' h'=>ih (pre ++ [x]) st' (by rw [e]; simp) h'
 exact go xs [] st rfl h0
theorem forW_same {ι σ:Type} (J:σ→Prop) {xs:List ι} {st:σ} {b:ι→σ→(σ→Prop)→(σ→Prop)→Prop} {K:σ→Prop} (h0:J st)
 (step:∀ x∈xs,∀ st (N:σ→Prop),J st→(∀ st',J st'→N st')→b x st N K) (fin:∀ st,J st→K st):forW xs st b K := forW_inv (fun _=>J) h0 (fun pre x post st N e=>step x (by rw [e]; simp) st N) fin
theorem lcW_all {ι β:Type} (E:ι→β→Prop) {xs:List ι} {b:ι→(Option β→Prop)→Prop} {K:List β→Prop} (hb:∀ x∈xs,∀ N:Option β→Prop,(∀ y,E x y→N (some y))→b x N) (q:∀ ys,Paired E xs ys→K ys):lcW xs b K := by
 induction xs generalizing K with
 | nil=>exact q [] .nil
 | cons x xs ih=>exact hb x (List.mem_cons_self ..) _ fun y hy=>ih (fun z hz=>hb z (List.mem_cons_of_mem _ hz)) fun ys hys=>q (y :: ys) (.cons hy hys)
theorem letW_in {α:Type} {a:α} {k:α→Prop} (h:∀ v,v=a→k v):letW a k := h a rfl
end Am
namespace Am
open PySem PySem.Spec PyProof.Rows L2
open PySem.W (Datum Tup T3 T4)
section
variable {ι α β σ:Type} {s s':Sl} {A B:AH} {m ma mb mc te:ME} {t u:MT} {tg:MG} {d x y z:D} {ds:List D} {xs:List ι} {e:ι→D} {Q:QE} {E:QX} {D0:AEnds} {U Vv:MS} {mr:MA}
theorem w_nilM (h:∀ n,A n=none→Q (.ref n) (put A n (.lst []))):mLstM mNil s A Q E := ⟨sz (by simp),h⟩
theorem w_listM (hp:Pv m s A x) (hx:ItS A x xs e) (h:∀ n,A n=none→Q (.ref n) (put A n (.lst (xs.map e)))):mCB fListM (mCons m mNil) s A Q E := (pa_1 hp) _ _ ⟨x,_,rfl,hx,h⟩
theorem dr_small {k:Int} (h:0 < k∧k≤1000000000):k.natAbs.log2 < 9000 := by
 have h1:k.natAbs < 2 ^ 30 := by omega
 by_cases h0:k.natAbs=0
 ·rw [h0]; decide
 ·exact Nat.lt_of_lt_of_le ((Nat.log2_lt h0).mpr h1) (by decide)
theorem w_drawA {n:Nat} {k:Int} (h:Pa mr s A [.ref n, .int k]) (hA:A n=some .pool) (hk:0 < k) (hl:k.natAbs.log2 < 9000) (q:∀ r,0≤r→r < k→Q (.int r) A):mCall fDraw mr s A Q E := h _ _ ⟨n,k,rfl,hA,hk,hl,q⟩
theorem u_rngE (h:m s A (fun d A1=>∃ j:Int,[d]=[D.int j] ∧ -(2 ^ 62)≤j∧j < 2 ^ 62∧forL ckT tg U (intsD 0 j.toNat) D0 s A1) fun x A1=>D0.ex x s A1):mFor (mRng1 (mCons m mNil)) tg U D0 s A := h
theorem u_ifE (h:t s A (fun b A1=>if b=true then U D0 s A1 else Vv D0 s A1) fun x A1=>D0.ex x s A1):mIfS t U Vv D0 s A := h
theorem u_ifB {b:Bool} {W1 W2 P1 P2:Prop} (h:if b=true then W1 else W2) (h1:b=true→W1→P1) (h2:b=false→W2→P2):if b=true then P1 else P2 := by
 cases b with
 | true=>exact iteT (h1 rfl (by simpa using h))
 | false=>exact iteF (h2 rfl (by simpa using h))
theorem w_mB {R:Bool→AH→Prop} (h:m s A (fun d A1=>∃ b,d = .bl b∧R b A1) E):mB m s A R E := h
theorem Pt.wp {b:Bool} {R:Bool→AH→Prop} (q:R b A) (h:Pt t s A b):t s A R E := h R E q
theorem letW_out {a v:α} {k:α→Prop} (e:v=a) (h:letW a k):k v := by subst e; exact h
theorem isNon_en {o:Option Str}:isNon (en o)=o.isNone := by cases o <;> rfl
theorem p2_isNO {o:Option Str}:P2 fIsN (en o) .non A (.bl o.isNone) := fun Q q=>⟨rfl,by rw [isNon_en]; exact q⟩
theorem p2_notNO {o:Option Str}:P2 fNotN (en o) .non A (.bl (!o.isNone)) := fun Q q=>⟨rfl,by rw [isNon_en]; exact q⟩
theorem u_ifJ {f:α→D} {b:Bool} {w:(α→Prop)→Prop} {K:α→Prop} (h:joinW w K) (hb:∀ N:α→Prop,w N→(∀ v,N v→Q (f v) A)→if b=true then ma s A Q E else mb s A Q E) (hk:∀ v,K v→Q (f v) A):if b=true then ma s A Q E else mb s A Q E := hb K h hk
theorem w_ifX (h:t s A (fun b A1=>if b=true then ma s A1 Q E else mb s A1 Q E) E):mIf t ma mb s A Q E := h
theorem u_gN {i:Nat} {R:Sl→AH→Prop} (hs:s.set i (some d)=s') (h:R s' A):gN i d s A R := by subst hs; exact h
theorem il_r (h:itL A x=some (xs.map e)):ItL A x xs e := h
theorem is_r (h:itS A x=some (xs.map e)):ItS A x xs e := h
theorem w_poolA {ns:List Int} (hns:ns.length≤63) (hv:Pa mr s A [.scr ns]) (q:∀ n,A n=none→Q (.ref n) (put A n .pool)):mCall fPool mr s A Q E := hv _ _ ⟨ns,rfl,hns,q⟩
end
theorem ue_r {α:Type} {i1:DecidableEq α} {j1:Datum α} {d:D} {a:α} (h:d=en a):UE d a := h
section
variable {α:Type} [DecidableEq α] [Datum α] {A:AH} {x y:D} {a b:α} {xs ys:List α}
def eqB (a b:α):Bool := decide (a=b)
def inB (a:α) (xs:List α):Bool := decide (a∈xs)
theorem eqB_iff:eqB a b=true↔a=b := by unfold eqB; exact decide_eq_true_iff
theorem inB_iff:inB a xs=true↔a∈xs := by unfold inB; exact decide_eq_true_iff
theorem eqB_no:eqB a b=false↔a≠b := by unfold eqB; exact decide_eq_false_iff_not
theorem inB_no:inB a xs=false↔a ∉ xs := by unfold inB; exact decide_eq_false_iff_not
theorem q2_eq (hx:UE x a) (hy:UE y b) (hd:Datum.depth α≤60):P2 (fEq false) x y A (.bl (eqB a b)) := p2_eq hx hy hd
theorem q2_ne (hx:UE x a) (hy:UE y b) (hd:Datum.depth α≤60):P2 (fEq true) x y A (.bl (!eqB a b)) := p2_ne hx hy hd
theorem q2_eqL (hx:ItL A x xs en) (hy:ItL A y ys en) (hd:Datum.depth (List α)≤60):P2 (fEq false) x y A (.bl (eqB xs ys)) := p2_eqL hx hy hd
theorem q2_neL (hx:ItL A x xs en) (hy:ItL A y ys en) (hd:Datum.depth (List α)≤60):P2 (fEq true) x y A (.bl (!eqB xs ys)) := p2_neL hx hy hd
theorem q2_in (hx:UE x a) (hy:SqD A y xs) (hd:Datum.depth α≤60):P2 (fIn false) x y A (.bl (inB a xs)) := p2_in hx hy hd
theorem q2_nin (hx:UE x a) (hy:SqD A y xs) (hd:Datum.depth α≤60):P2 (fIn true) x y A (.bl (!inB a xs)) := p2_nin hx hy hd
end
theorem joinW_in {σ:Type} {b:(σ→Prop)→Prop} {k:σ→Prop} (h:b k):joinW b k := h
theorem joinW_by {σ:Type} (J:σ→Prop) {b:(σ→Prop)→Prop} {k:σ→Prop} (hk:∀ st,J st→k st) (h:∀ N:σ→Prop,(∀ st,J st→N st)→b N):joinW b k := h k hk
end Am
namespace Am
open PySem PySem.Spec PyProof.Rows L2
open Fm (same_new same_upd same_both Same.rd Same.tup Same.sql tMakeS)
open PySem.W (Datum Tup T3 T4)
def frzL (fz:D→AH→QE→Prop):List D→AH→(List D→AH→Prop)→Prop
 | [],A,Q=>Q [] A
 | d :: ds,A,Q=>fz d A fun d' A1=>frzL fz ds A1 fun ds' A2=>Q (d' :: ds') A2
def zipK {κ:Type} (ks:List (κ × D)) (ds:List D):List (κ × D) := (ks.map (·.1)).zip ds
def frzD:Nat→D→AH→QE→Prop
 | 0,d,A,Q=>Q d A
 | k + 1,d,A,Q=>match d with
  | .ref n=>match A n with
   | some (.lst xs)=>frzL (frzD k) xs (rem A n) fun xs' A'=>Q (.lst xs') A'
   | some (.dK kvs)=>frzL (frzD k) (kvs.map (·.2)) (rem A n) fun xs' A'=>Q (.dK (zipK kvs xs')) A'
   | some (.dT kvs)=>frzL (frzD k) (kvs.map (·.2)) (rem A n) fun xs' A'=>Q (.dT (zipK kvs xs')) A'
   | some (.ins c fs)=>frzL (frzD k) (fs.map (·.2)) (rem A n) fun xs' A'=>Q (.ins c (zipK fs xs')) A'
   | _=>Q d A
  | d=>Q d A
section
variable {K:PySem.W.Frag}
theorem zipK_1 {κ:Type} {ks:List (κ × D)} {ds:List D} (h:ks.length=ds.length):(zipK ks ds).map (·.1)=ks.map (·.1) := by
 unfold zipK
 rw [List.map_fst_zip]
 rw [List.length_map,h]; exact Nat.le_refl _
theorem zipK_2 {κ:Type} {ks:List (κ × D)} {ds:List D} (h:ks.length=ds.length):(zipK ks ds).map (·.2)=ds := by
 unfold zipK
 rw [List.map_snd_zip]
 rw [List.length_map,h]; exact Nat.le_refl _
theorem frzL_ok {fz:D→AH→QE→Prop} (hf:∀ {g:Sg} {A:AH} {H:Hp} {v:V} {d:D} {R:QE} {X:Prop},Wr K g A H→Rep K g v d→fz d A R→(∀ g' A' d',Stp g A H g' A' H→Wr K g' A' H→Rep K g' v d'→R d' A'→X)→X) :
  ∀ {ds:List D} {vs:List V} {g:Sg} {A:AH} {H:Hp} {R:List D→AH→Prop} {X:Prop},Wr K g A H→Reps K g vs ds→frzL fz ds A R→(∀ g' A' ds',Stp g A H g' A' H→Wr K g' A' H→Reps K g' vs ds'→R ds' A'→X)→X
 | [],_,g,A,H,R,X,w,r,h,q=>by cases r; exact q g A [] .refl w .nil h
 | d :: ds,_,g,A,H,R,X,w,r,h,q=>by
  cases r with
  | cons r1 r2=>exact hf w r1 h fun g1 A1 d1 st1 w1 q1 h1=>frzL_ok hf w1 (r2.mono st1.le) h1 fun g2 A2 ds2 st2 w2 q2 h2=>q g2 A2 _ (st1.trans st2) w2 (.cons (q1.mono st2.le) q2) h2
theorem frzD_ok:∀ (k:Nat) {g:Sg} {A:AH} {H:Hp} {v:V} {d:D} {R:QE} {X:Prop},Wr K g A H→Rep K g v d→frzD k d A R→(∀ g' A' d',Stp g A H g' A' H→Wr K g' A' H→Rep K g' v d'→R d' A'→X)→X
 | 0,g,A,H,v,d,R,X,w,r,h,q=>q g A d .refl w r h
 | k + 1,g,A,H,v,d,R,X,w,r,h,q=>by
  unfold frzD at h
  cases d with
  | ref n =>
   obtain ⟨a,rfl,hi⟩:∃ a,v = .ref a∧g.i n=some a := by cases r with | ref h=>exact ⟨_,rfl,h⟩
   simp only at h
   cases e:A n with
   | none=>rw [e] at h; exact q _ _ _ .refl w (.ref hi) h
   | some x =>
    rw [e] at h
    obtain ⟨b,q1,q2,q3⟩ := w.nd n x e
    rw [hi] at q1; cases q1
    cases x with
    | lst xs =>
     obtain ⟨vs,z1,z2⟩ := q3
     obtain ⟨w2,st2⟩ := w.freeze hi e z1
     exact frzL_ok (frzD_ok k) w2 (z2.mono st2.le) h fun g1 A1 ds st1 w1 r1 h3=>q _ _ _ (st2.trans st1) w1 (.lst (Fm.Same.rd st1.le.s (.inl upd_same)) r1) h3
    | dK xs =>
     obtain ⟨vs,z1,z2,z3⟩ := q3
     obtain ⟨w2,st2⟩ := w.freeze hi e z1
     exact frzL_ok (frzD_ok k) w2 (z3.mono st2.le) h fun g1 A1 ds st1 w1 r1 h3=>by
      have hl:xs.length=ds.length := by
       have l1 := r1.len
       have l2 := congrArg List.length z2
       simp only [List.length_map] at l1 l2
       omega
      exact q _ _ _ (st2.trans st1) w1 (.dK (Fm.Same.rd st1.le.s (.inl upd_same)) (by rw [zipK_1 hl]; exact z2) (by rw [zipK_2 hl]; exact r1)) h3
    | dT xs =>
     obtain ⟨vs,z1,z2,z3⟩ := q3
     obtain ⟨w2,st2⟩ := w.freeze hi e z1
     exact frzL_ok (frzD_ok k) w2 (z3.mono st2.le) h fun g1 A1 ds st1 w1 r1 h3=>by
      have hl:xs.length=ds.length := by
       have l1 := r1.len
       have l2 := congrArg List.length z2
       simp only [List.length_map] at l1 l2
       omega
      exact q _ _ _ (st2.trans st1) w1 (.dT (Fm.Same.rd st1.le.s (.inl upd_same)) (by rw [zipK_1 hl]; exact z2) (by rw [zipK_2 hl]; exact r1)) h3
    | ins c fs =>
     obtain ⟨dx,vs,z1,z2,z3⟩ := q3
     obtain ⟨w2,st2⟩ := w.freeze hi e z1
     exact frzL_ok (frzD_ok k) w2 (z3.mono st2.le) h fun g1 A1 ds st1 w1 r1 h3=>by
      have hl:fs.length=ds.length := by
       have l1 := r1.len
       have l2 := congrArg List.length z2
       simp only [List.length_map] at l1 l2
       omega
      exact q _ _ _ (st2.trans st1) w1 (.ins (st1.le.s _ _ upd_same) (by rw [zipK_1 hl]; exact z2) (by rw [zipK_2 hl]; exact r1)) h3
    | pool=>exact q _ _ _ .refl w (.ref hi) h
    | lkK o us ds=>exact q _ _ _ .refl w (.ref hi) h
    | lkT o us ds=>exact q _ _ _ .refl w (.ref hi) h
  | _=>exact q _ _ _ .refl w r h
def frzF (A:AH) (d:D) (Q:QE):Prop := frzD 3 d A Q
theorem fin_deep:FinS K frzF := fun g A H v d Qa Q w r h q=>frzD_ok 3 w r h fun g' A' d' st w' r' h'=>q g' A' H v d' st w' r' h'
def mMakeD := mMakeG frzF
variable {W:WX} {m:ME}
theorem c_makeD {f:FN} {mr:MA} {c:Str}:∀ σ H Q,cE K W (mMakeD c f mr) σ H Q→tMakeS (He.ga K c) (spM K f) (WE W) (cA K W mr) σ H Q := c_makeG fin_deep
end
def Tre (d:D):Prop := ∀ n,d≠.ref n
theorem frz_tre {k:Nat} {d:D} {A:AH} {Q:QE} (h:Tre d) (q:Q d A):frzD k d A Q := by
 cases k with
 | zero=>exact q
 | succ k =>
  unfold frzD
  cases d with
  | ref n=>exact absurd rfl (h n)
  | _=>exact q
theorem frzL_tre {k:Nat} {A:AH}:∀ {ds:List D} {R:List D→AH→Prop},(∀ d∈ds,Tre d)→R ds A→frzL (frzD k) ds A R
 | [],R,_,q=>q
 | d :: ds,R,h,q=>frz_tre (h d (List.mem_cons_self ..)) (frzL_tre (fun e he=>h e (List.mem_cons_of_mem _ he)) q)
theorem tre_ofP:∀ p:PyData,Tre (ofP p) := fun p n=>by cases p <;> (intro h; cases h)
theorem tre_en {α:Type} [DecidableEq α] [Datum α] (a:α):Tre (en a) := tre_ofP _
theorem frzL_nil {fz:D→AH→QE→Prop} {A:AH} {R:List D→AH→Prop} (q:R [] A):frzL fz [] A R := q
theorem frzL_cons {fz:D→AH→QE→Prop} {A:AH} {R:List D→AH→Prop} {d:D} {ds:List D} (h:fz d A fun d' A1=>frzL fz ds A1 fun ds' A2=>R (d' :: ds') A2):frzL fz (d :: ds) A R := h
theorem frz_ins {k n:Nat} {c:Str} {fs:List (Str × D)} {A:AH} {Q:QE} (hA:A n=some (.ins c fs)) (h:frzL (frzD k) (fs.map (·.2)) (rem A n) fun xs A'=>Q (.ins c (zipK fs xs)) A'):frzD (k + 1) (.ref n) A Q := by unfold frzD; simp only [hA]; exact h
theorem zipK_id {κ:Type}:∀ kvs:List (κ × D),zipK kvs (kvs.map (·.2))=kvs
 | []=>rfl
 | p :: r=>by
  have := zipK_id r
  unfold zipK at this ⊢
  rw [List.map_cons,List.map_cons,List.zip_cons_cons,this]
theorem frz_dK {k n:Nat} {kvs:List (Key × D)} {A:AH} {Q:QE} (hA:A n=some (.dK kvs)) (he:∀ p∈kvs,Tre p.2) (q:Q (.dK kvs) (rem A n)):frzD (k + 1) (.ref n) A Q := by
 unfold frzD
 simp only [hA]
 refine frzL_tre (fun d hd=>by obtain ⟨x,hx,e2⟩ := List.mem_map.mp hd; rw [← e2]; exact he x hx) ?_
 rw [zipK_id]; exact q
section
variable {κ α:Type} [DecidableEq κ]
def putA (l:List (κ × α)) (k:κ) (v:α):List (κ × α) := if (l.any fun p=>decide (p.1=k))=true then l.map (fun p=>if p.1=k then (p.1,v) else p) else l ++ [(k,v)]
def valA (l:List (κ × α)) (k:κ):Option α := (l.find? fun p=>decide (p.1=k)).map (·.2)
theorem putA_len {l:List (κ × α)} {k:κ} {v:α}:(putA l k v).length≤l.length + 1 := by
 unfold putA
 split
 ·rw [List.length_map]; omega
 ·rw [List.length_append]; simp
theorem valA_put {l:List (κ × α)} {k j:κ} {v:α}:valA (putA l k v) j=if j=k then some v else valA l j := by
 unfold putA
 split
 ·rename_i h
  induction l with
  | nil=>simp at h
  | cons p r ih =>
   rw [List.map_cons]
   unfold valA at ih ⊢
   rw [List.find?_cons,List.find?_cons]
   by_cases e:p.1=k
   ·simp only [e,if_true]
    by_cases e2:k=j
    ·simp [e2]
    ·have e2':¬ j=k := fun z=>e2 z.symm
     simp only [e2,decide_false,e2',if_false]
     by_cases h':(r.any fun kv=>decide (kv.1=k))=true
     ·rw [ih h',if_neg e2']
     ·have:r.map (fun kv=>if kv.1=k then (kv.1,v) else kv)=r := by
       conv=>rhs; rw [← List.map_id r]
       apply List.map_congr_left
       intro x hx
       have:¬ x.1=k := fun z=>h' (List.any_eq_true.mpr ⟨x,hx,by simp [z]⟩)
       simp [this]
      rw [this]
   ·simp only [e,if_false]
    have h':(r.any fun kv=>decide (kv.1=k))=true := by simpa [List.any_cons,e] using h
    by_cases e2:p.1=j
    ·have:¬ j=k := fun z=>e (e2.trans z)
     simp [e2,this]
    ·simp only [e2,decide_false]
     exact ih h'
 ·rename_i h
  unfold valA
  rw [List.find?_append]
  by_cases e:j=k
  ·subst e
   have:l.find? (fun kv=>decide (kv.1=j))=none := by
    rw [List.find?_eq_none]
    intro x hx z
    exact h (List.any_eq_true.mpr ⟨x,hx,z⟩)
   simp [this]
  ·have e':¬ k=j := fun z=>e z.symm
   simp [e,e']
theorem valA_none {l:List (κ × α)} {k:κ}:valA l k=none↔k ∉ l.map (·.1) := by
 unfold valA
 rw [Option.map_eq_none_iff,List.find?_eq_none,List.mem_map]
 constructor
 ·rintro h ⟨p,hp,e⟩; exact h p hp (by simpa using e)
 ·intro h p hp e; exact h ⟨p,hp,by simpa using e⟩
theorem putA_new {l:List (κ × α)} {k:κ} {v:α} (h:k ∉ l.map (·.1)):putA l k v=l ++ [(k,v)] := by
 unfold putA
 rw [if_neg]
 intro e
 obtain ⟨p,hp,e2⟩ := List.any_eq_true.mp e
 exact h (List.mem_map.mpr ⟨p,hp,by simpa using e2⟩)
end
def kS (z:Str):Key := .inr z
def kI (i:Int):Key := .inl i
theorem kS_inj {a b:Str} (h:kS a=kS b):a=b := Sum.inr.inj h
theorem kI_inj {a b:Int} (h:kI a=kI b):a=b := Sum.inl.inj h
def eD {κ κ' α:Type} (f:κ→κ') (e:α→D):κ × α→κ' × D := fun p=>(f p.1,e p.2)
section
variable {κ κ' α:Type} [DecidableEq κ] [DecidableEq κ'] {f:κ→κ'} {e:α→D} (hf:∀ a b,f a=f b→a=b) {l:List (κ × α)} {k:κ} {v:α}
include hf
theorem put_eD:putD (l.map (eD f e)) (f k) (e v)=(putA l k v).map (eD f e) := by
 unfold putD putA
 have h1:((l.map (eD f e)).any fun p=>decide (p.1=f k))=(l.any fun p=>decide (p.1=k)) := by
  rw [List.any_map]
  congr 1
  funext p
  show decide (f p.1=f k)=decide (p.1=k)
  rw [decide_eq_decide]
  exact ⟨fun h=>hf _ _ h,fun h=>by rw [h]⟩
 rw [h1]
 split
 ·rw [List.map_map,List.map_map]
  apply List.map_congr_left
  intro p hp
  show (if f p.1=f k then (f p.1,e v) else eD f e p)=eD f e (if p.1=k then (p.1,v) else p)
  by_cases h:p.1=k
  ·rw [if_pos h,if_pos (by rw [h])]; rfl
  ·rw [if_neg h,if_neg (fun z=>h (hf _ _ z))]
 ·rw [List.map_append]; rfl
theorem val_eD:valD (l.map (eD f e)) (f k)=(valA l k).map e := by
 unfold valD valA
 rw [List.find?_map,Option.map_map,Option.map_map]
 have:((fun kv:κ' × D=>decide (kv.1=f k)) ∘ eD f e)=fun p=>decide (p.1=k) := by
  funext p
  show decide (f p.1=f k)=decide (p.1=k)
  rw [decide_eq_decide]
  exact ⟨fun h=>hf _ _ h,fun h=>by rw [h]⟩
 rw [this]
 rfl
end
theorem tre_eD {κ κ' α:Type} {f:κ→κ'} {e:α→D} {l:List (κ × α)} (he:∀ x,Tre (e x)):∀ p∈l.map (eD f e),Tre p.2 := fun p hp=>by
 obtain ⟨x,_,e2⟩ := List.mem_map.mp hp
 rw [← e2]; exact he x.2
def DcK {κ α:Type} (A:AH) (x:D) (f:κ→Key) (e:α→D) (l:List (κ × α)):Prop := dcK A x=some (l.map (eD f e))
section
variable {κ α:Type} [DecidableEq κ] {A B:AH} {s:Sl} {x y z:D} {fk:κ→Key} {ft:κ→List Key} {e:α→D} {l:List (κ × α)} {k:κ} {d0:α} {ma mb mc:ME}
theorem dk_t:DcK A (.dK (l.map (eD fk e))) fk e l := rfl
theorem dk_n {n:Nat} (h:A n=some (.dK (l.map (eD fk e)))):DcK A (.ref n) fk e l := by unfold DcK dcK; simp only [h]
theorem pv_getK (hf:∀ a b,fk a=fk b→a=b) (h1:Pv ma s A x) (h2:Pv mb s A y) (hd:DcK A x fk e l) (hk:kyK y=some (fk k)) (hs:(valA l k).isSome=true):Pv (mDGet ma mb) s A (e ((valA l k).getD d0)) := by
 obtain ⟨v,hv⟩ := Option.isSome_iff_exists.mp hs
 exact pv_dget h1 h2 (.inl ⟨_,_,hd,hk,by rw [val_eD hf,hv]; rfl⟩)
theorem pv_get2K {w:α} (hf:∀ a b,fk a=fk b→a=b) (h1:Pv ma s A x) (h2:Pv mb s A y) (h3:Pv mc s A (e w)) (hd:DcK A x fk e l) (hk:kyK y=some (fk k)):Pv (mDGet2 ma mb mc) s A (e ((valA l k).getD w)) := fun Q E q=>h1 _ E ⟨.inl ⟨_,hd⟩,h2 _ E (h3 _ E ⟨(valA l k).map e, .inl ⟨_,_,hd,hk,(val_eD hf).symm⟩,by cases hv:valA l k <;> (rw [hv] at q; exact q)⟩)⟩
theorem pv_inK {neg:Bool} (hf:∀ a b,fk a=fk b→a=b) (h1:Pv ma s A y) (h2:Pv mb s A x) (hd:DcK A x fk e l) (hk:kyK y=some (fk k)):Pv (mDIn neg ma mb) s A (.bl ((valA l k).isSome != neg)) := (pv_din h1 h2 (.inl ⟨_,_,hd,hk,(val_eD hf).symm⟩)).is (by rw [Option.isSome_map])
theorem pv_inK0 (hf:∀ a b,fk a=fk b→a=b) (h1:Pv ma s A y) (h2:Pv mb s A x) (hd:DcK A x fk e l) (hk:kyK y=some (fk k)):Pv (mDIn false ma mb) s A (.bl (valA l k).isSome) := (pv_inK hf h1 h2 hd hk).is (by simp)
theorem pv_inK1 (hf:∀ a b,fk a=fk b→a=b) (h1:Pv ma s A y) (h2:Pv mb s A x) (hd:DcK A x fk e l) (hk:kyK y=some (fk k)):Pv (mDIn true ma mb) s A (.bl (!(valA l k).isSome)) := (pv_inK hf h1 h2 hd hk).is (by simp)
theorem u_dputK {n:Nat} {v:α} {Rn:AH→Prop} (hf:∀ a b,fk a=fk b→a=b) (hA:A n=some (.dK (l.map (eD fk e)))) (hk:kyK y=some (fk k)) (hz:Sz (l.length + 1)) (q:Rn (put A n (.dK ((putA l k v).map (eD fk e))))):dput A (.ref n) y (e v) Rn := ⟨n,rfl, .inl ⟨_,_,hA,hk,by rw [List.length_map]; exact hz,by rw [put_eD hf]; exact q⟩⟩
variable {D0:AEnds} {mo mi mv:ME}
theorem u_dputS (h:mv s A (fun z A1=>mo s A1 (fun x A2=>mi s A2 (fun y A3=>dput A3 x y z fun A4=>D0.nx s A4) fun e A=>D0.ex e s A) fun e A=>D0.ex e s A) fun e A=>D0.ex e s A):mDPut mo mi mv D0 s A := h
theorem w_dnK {Q:QE} {E:QX} (h:∀ n,A n=none→Q (.ref n) (put A n (.dK []))):mDNew (.dK []) s A Q E := h
end
section
variable {ι κ α:Type} [DecidableEq κ] {A:AH} {s s':Sl} {fk:κ→Key} {e':α→D} {tg:MG} {t:MT} {tk tv:ME} {xs:List ι} {e:ι→D} {mi:MI} {P:AH→Prop} {vs:List Nat} {g:ι→κ} {v:ι→α} {p:ι→Bool}
def DcB (tg:MG) (t:MT) (tk tv:ME) (s:Sl) (A:AH) (d:D) (b:Bool) (k:Key) (v:D):Prop := ∃ s1 y,Tg tg d s s1∧Pt t s1 A b∧(b=true→Pv tk s1 A y∧kyK y=some k∧Pv tv s1 A v)
theorem dcb {d y w:D} {b:Bool} {k:Key} {s1:Sl} (h:Tg tg d s s1) (ht:Pt t s1 A b) (hk:b=true→Pv tk s1 A y) (h2:kyK y=some k) (hv:b=true→Pv tv s1 A w):DcB tg t tk tv s A d b k w := ⟨s1,y,h,ht,fun z=>⟨hk z,h2,hv z⟩⟩
def dcA (g:ι→κ) (v:ι→α) (p:ι→Bool) (xs:List ι):List (κ × α) := (xs.filter p).foldl (fun acc x=>putA acc (g x) (v x)) []
theorem dc_walk (hf:∀ a b,fk a=fk b→a=b) {ck:AH→Prop} (hc:ck A) (hb:∀ a∈xs,DcB tg t tk tv s A (e a) (p a) (fk (g a)) (e' (v a))):∀ {acc:List (κ × α)} {Q:List (Key × D)→AH→Prop},Q (((xs.filter p).foldl (fun acc x=>putA acc (g x) (v x)) acc).map (eD fk e')) A→dcL ck tg t tk tv s (xs.map e) (acc.map (eD fk e')) A Q := by
 induction xs with
 | nil=>intro acc Q q; exact ⟨hc,q⟩
 | cons x xs ih =>
  intro acc Q q
  obtain ⟨s1,y,k1,k2,k3⟩ := hb x (List.mem_cons_self ..)
  refine ⟨hc,k1 A _ (k2 _ _ ?_)⟩
  cases hp:p x with
  | true =>
   obtain ⟨m1,m2,m3⟩ := k3 hp
   refine iteT (m1 _ _ (m3 _ _ ⟨_,m2, ?_⟩))
   rw [put_eD hf]
   exact ih (fun a ha=>hb a (List.mem_cons_of_mem _ ha)) (acc := putA acc (g x) (v x)) (Q := Q) (by rw [List.filter_cons,if_pos hp] at q; exact q)
  | false=>exact iteF (ih (fun a ha=>hb a (List.mem_cons_of_mem _ ha)) (acc := acc) (Q := Q) (by rw [List.filter_cons,if_neg (by rw [hp]; decide)] at q; exact q))
theorem v_dc (hf:∀ a b,fk a=fk b→a=b) (hm:Mi mi s A (xs.map e) P) (hw:wipeD s vs=s') (hz:Sz xs.length) (hb:∀ a∈xs,DcB tg t tk tv s' A (e a) (p a) (fk (g a)) (e' (v a))):Pv (mDc mi tg t tk tv vs) s A (.dK ((dcA g v p xs).map (eD fk e'))) := fun Q E q=>hm _ _ fun ck hck _=>⟨by rw [List.length_map]; exact hz,by rw [hw]; exact dc_walk (acc := []) hf hck hb q⟩
theorem w_dcM' {Q:QE} {E:QX} (hf:∀ a b,fk a=fk b→a=b) (hm:Mi mi s A (xs.map e) P) (hw:wipeD s vs=s') (hz:Sz xs.length) (hb:∀ a∈xs,DcB tg t tk tv s' A (e a) (p a) (fk (g a)) (e' (v a))) (q:∀ n,A n=none→Q (.ref n) (put A n (.dK ((dcA g v p xs).map (eD fk e'))))):mDcM mi tg t tk tv vs s A Q E := hm _ _ fun ck hck _=>⟨by rw [List.length_map]; exact hz,by rw [hw]; exact dc_walk (acc := []) hf hck hb q⟩
end
inductive Exv where
 | badSchema (a:Option Int) | unknown (z:Str) | noThing (i:Int) | wrongEnds (z:Str) | badPattern (z:Str) | misfit (i:Int) (z:Str) | otherSchema | badRow (i:Int) | undone (i:Int) (w:D) | notKept | tooWide (z:Option Str) | badEdit (i:Int) | badLine (i:Int)
abbrev encOI (o:Option Int):D := en o
def encX:Exv→Xc
 | .badSchema a=>⟨"BadSchema",[("at",encOI a)]⟩
 | .unknown z=>⟨"Unknown",[("name", .str z)]⟩
 | .noThing i=>⟨"NoThing",[("number", .int i)]⟩
 | .wrongEnds z=>⟨"WrongEnds",[("name", .str z)]⟩
 | .badPattern z=>⟨"BadPattern",[("name", .str z)]⟩
 | .misfit i z=>⟨"Misfit",[("part", .str z),("at", .int i)]⟩
 | .otherSchema=>⟨"OtherSchema",[]⟩
 | .badRow i=>⟨"BadRow",[("index", .int i)]⟩
 | .undone i w=>⟨"Undone",[("why",w),("index", .int i)]⟩
 | .notKept=>⟨"NotKept",[]⟩
 | .tooWide z=>⟨"TooWide",[("kind",en z)]⟩
 | .badEdit i=>⟨"BadEdit",[("index", .int i)]⟩
 | .badLine i=>⟨"BadLine",[("number", .int i)]⟩
theorem u_sfldS {cs:List Str} {f:Str} {mo mv:ME} {D0:AEnds} {s:Sl} {A:AH} (h:mv s A (fun y A1=>mo s A1 (fun x A2=>∃ n c fs,x = .ref n∧A2 n=some (.ins c fs)∧c∈cs∧fs.length < 1000∧D0.nx s (put A2 n (.ins c (putFD f y fs)))) fun e A2=>D0.ex e s A2) fun e A1=>D0.ex e s A1):mSFld cs f mo mv D0 s A := h
theorem u_sfld1 {cs:List Str} {f c:Str} {n:Nat} {fs fs':List (Str × D)} {y:D} {A:AH} {Rn:AH→Prop} (hA:A n=some (.ins c fs)) (hc:c∈cs) (hl:fs.length < 1000) (he:putFD f y fs=fs') (q:Rn (put A n (.ins c fs'))):∃ n' c' fs'',D.ref n = .ref n'∧A n' = some (.ins c' fs'')∧c'∈cs∧fs''.length < 1000∧Rn (put A n' (.ins c' (putFD f y fs''))) := ⟨n,c,fs,rfl,hA,hc,hl,by rw [he]; exact q⟩
theorem w_makeD {c:Str} {f:FN} {mr:MA} {s:Sl} {A:AH} {Q:QE} {E:QX} {ds:List D} (ha:Pa mr s A ds) (h:∀ n,A n=none→f (.ref n :: ds) (put A n (.ins c [])) (fun d A2=>d = .non∧frzF A2 (.ref n) Q) E):mMakeD c f mr s A Q E := ha _ _ h
theorem u_nxi {n:Nat} {Q:QE} {E:QX} {s:Sl} {A:AH} (h:frzD 3 (.ref n) A Q):(fnE (fun d A2=>d = .non∧frzF A2 (.ref n) Q) E).nx s A := fg ⟨rfl,h⟩
theorem nn_of {α:Type} {o:Option α} (h:(!Option.isNone o)=true):Option.isNone o=false := by simpa using h
theorem en_optS {o:Option Str} (h:Option.isNone o=false):en o=D.str (Option.getD o ("":Str)) := by cases o with
 | none=>cases h
 | some z=>rfl
end Am
namespace Am
open PySem PySem.Spec PyProof.Rows L2
end Am
namespace Am
open PySem PySem.Spec PyProof.Rows L2
open Fm
def propF (K:PySem.W.Frag) (C:Addr) (f:Str):Addr := match PySem.W.findIn K (.ref C) f with
 | some (some (.ref p))=>(match PySem.W.recIn K p "property" with
  | some (.ref g :: _)=>g
  | _=>0)
 | _=>0
def propB (K:PySem.W.Frag) (C:Addr) (f:Str):Bool := match PySem.W.findIn K (.ref C) f with
 | some (some (.ref p))=>He.eqO (PySem.W.specialIn K (.ref p) "__get__") (some (some (.builtin "property.__get__"))) && (decide (PySem.W.takesIn K (.ref p)=some true) && (match PySem.W.recIn K p "property" with
  | some (.ref _ :: _)=>true
  | _=>false))
 | _=>false
theorem propB_ok {K:PySem.W.Frag} {C:Addr} {f:Str} (h:propB K C f=true):∃ p,PropOf K C f p (propF K C f) := by
 unfold propB at h
 split at h
 ·rename_i p e
  simp only [Bool.and_eq_true,decide_eq_true_eq] at h
  obtain ⟨h1,h2,h3⟩ := h
  split at h3
  ·rename_i g r e2
   refine ⟨p,e,He.eqO_ok h1,h2,r, ?_⟩
   have:propF K C f=g := by
    unfold propF
    rw [e]
    simp only [e2]
   rw [this]; exact e2
  ·cases h3
 ·cases h
section
variable {X:Cx} {CX:CXT} {k:Nat} {C g a dx:Addr} {fs:List (Str × V)} {f:Str} {sp:Sp} {E:L2.St→XK} {e:Expr} {pos:Pos} {ta:TE}
def tPropS (C:Addr) (sp:Sp) (E:L2.St→XK) (ta:TE):TE := fun σ H Q=>ta σ H fun x H1=>∃ a dx fs,x = .ref a∧H1 a=some (.ins C dx fs)∧sp [.ref a] H1 Q (E σ)
theorem getpropS_ok {p:Addr} {pins:List (Addr × Obj)} {σ:L2.St} {H:Hp} {s:Shared} {Q:VK} {b:Bool} {E':Value→Shared→Prop} {E:XK} (I:Inv X pins σ H s) (ea:H a=some (.ins C dx fs)) (c:Cls X.K C) (hp:PropOf X.K C f p g)
  (F:FnR X.prog X.w X.K X.mg X.base CX k g sp) (hr:Room (k + 1) X.A) (hx:PassesAt CX X.nox σ E) (h:sp [.ref a] H Q E) :
  wpAny (model X.prog X.w) X.A (getAttr (.ref a) f b) (EP X pins σ Q) E' s := by
 obtain ⟨mA,O,_,_,_,_⟩ := ins_get I.hok ea
 obtain ⟨od,J,_⟩ := O.look
 obtain ⟨rest,hrec⟩ := hp.rec_
 have I1 := I.tok (s.toks + 1)
 have hc:(PySem.W.clsIn X.K C).isSome=true := by
  obtain ⟨cd,hc,_⟩ := PySem.W.any_some c.hd
  rw [hc]
  rfl
 refine PySem.W.get_bind I.kIn J (PySem.W.plainGet_of (c.get f)).1 (PySem.W.findObj_data hc hp.at_ hp.get hp.tak) (PySem.W.plainGet_of (c.get f)).2 (wpAny_call (PySem.W.prop_get (s := { s with toks := s.toks + 1 }) I.kIn hrec ?_))
 refine codeAny_mono (F X.A.in1 X.stack { s with toks := s.toks + 1 } H [.ref a] [.ref a] Q E hr.in1 I1.env0.in1 (.cons rfl .nil) h) fun r s' hq=>?_
 cases r with
 | error er=>exact False.elim (hx pins H { s with toks := s.toks + 1 } er s' (I1.wish _) hq)
 | ok fl =>
  cases fl with
  | ret u =>
   obtain ⟨v,H',I3,rv,q3⟩ := I1.after hq
   show wpAny _ _ (handedOut u) _ _ _
   rw [PySem.W.handedOut_of (handed_of rv)]
   exact wpAny_pure ⟨v,H',I3,rv,q3⟩
  | next=>exact False.elim hq
  | brk=>exact False.elim hq
  | cont=>exact False.elim hq
theorem pe_propS (he:PE X e ta) (c:Cls X.K C) (hp:∃ p,PropOf X.K C f p g) (F:FnR X.prog X.w X.K X.mg X.base CX k g sp) (hr:Room (k + 1) X.A) (hx:∀ σ,PassesAt CX X.nox σ (E σ))
  (hab:attributeBase e f X.env (eval e X.env)=eval e X.env := by rfl):PE X (.Attribute e f pos) (tPropS C sp E ta) := by
 obtain ⟨p,hp⟩ := hp
 refine ⟨fun pins s σ H Q I h=>?_⟩
 refine attr_of hab (thn (he.run pins s σ H _ I h) fun u s1 ⟨x,H1,I1,rx,a,dx,fs,ex,ea,q⟩=>?_)
 subst ex
 obtain rfl:u=Value.ref a := rx
 exact getpropS_ok I1 ea c hp F hr (hx σ) q
def mProp (c:Str) (f:FN) (m:ME):ME := fun s A Q E=>m s A (fun d A1=>(∃ fs,insOf A1 d=some (c,fs))∧f [d] A1 Q NX) E
theorem c_prop {K:PySem.W.Frag} {W:WX} {m:ME} {fn:FN} {c:Str}:∀ σ H Q,cE K W (mProp c fn m) σ H Q→tPropS (He.ga K c) (spM K fn) (WE WF) (cE K W m) σ H Q := fun σ H Q ⟨g,s,A,Qa,Ea,w,rs,h,q,qx⟩ =>
 ⟨g,s,A,_,Ea,w,rs,h,fun g1 A1 H1 x dx st1 w1 r1 ⟨⟨fs,h0⟩,h1⟩=>by
  obtain ⟨a,ddx,fvs,rfl,q1,q2⟩ := w1.ins r1 h0
  exact ⟨a,ddx,fvs,rfl,q1,g1,A1,_,Qa,_,w1, .cons r1 .nil,h1,q.step st1,nox⟩,qx⟩
theorem passFN (σ:L2.St):PassesAt (L2.CX X.prog X.w) X.nox σ (WE WF σ) := passF (X := X.nox) σ
end
end Am
namespace Am
open PySem PySem.Spec PyProof.Rows L2
def kD:Key→D
 | .inl i=>.int i
 | .inr s=>.str s
def ktD (k:List Key):D := .tup (k.map kD)
section
variable {K:PySem.W.Frag} {W:WX} {g g1:Sg} {A A1:AH} {H H1:Hp} {v:V} {d:D}
theorem rep_kD (k:Key):Rep K g (kV k) (kD k) := by cases k with
 | inl i=>exact .int i
 | inr s=>exact .str s
theorem reps_kD:∀ k:List Key,Reps K g (k.map kV) (k.map kD)
 | []=>.nil
 | k :: r=>.cons (rep_kD k) (reps_kD r)
def lkd (n:Nat) (A:AH) (R:AH→Nd→Nd→Prop):Prop := (∃ kvs,A n=some (.dK kvs)∧∀ o us,R (put A n (.lkK o us kvs)) (.lkK o us kvs) (.dK kvs))∨∃ kvs,A n=some (.dT kvs)∧∀ o us,R (put A n (.lkT o us kvs)) (.lkT o us kvs) (.dT kvs)
def mLock (m:MS):MS := fun D s A=>∃ n,lkd n A fun A1 x y=>m { nx := fun s' A'=>A' n=some x∧D.nx s' (put A' n y),rt := fun d A'=>A' n=some x∧D.rt d (put A' n y),bk := fun s' A'=>A' n=some x∧D.bk s' (put A' n y),ct := fun s' A'=>A' n=some x∧D.ct s' (put A' n y),ex := D.ex } s A1
def mLockE (m:ME):ME := fun s A Q E=>∃ n,lkd n A fun A1 x y=>m s A1 (fun d A'=>A' n=some x∧Q d (put A' n y)) E
theorem lkd_ok {n:Nat} {R:AH→Nd→Nd→Prop} {P:Prop} (w:Wr K g A H) (h:lkd n A R)
  (q:∀ a u,H a=some u→Mut (some u)→(∀ od,∃ (A1:AH) (x y:Nd),R A1 x y∧Wr K g A1 (upd H a (.frz od u))∧Stp g A H g A1 (upd H a (.frz od u)) ∧
   ∀ g' A' H',Stp g A1 (upd H a (.frz od u)) g' A' H'→Wr K g' A' H'→A' n=some x→H' a=some (.frz od u)∧Wr K g' (put A' n y) (upd H' a u)∧Stp g' A' H' g' (put A' n y) (upd H' a u))→P):P := by
 rcases h with ⟨kvs,h1,h2⟩ | ⟨kvs,h1,h2⟩
 ·obtain ⟨a,q1,q2,us,q3,q4,q5⟩ := w.nd n _ h1
  refine q a (.dK us) q3 trivial fun od=>?_
  obtain ⟨w2,st2⟩ := w.set (o := .frz od (.dK us)) (y := .lkK od us kvs) q1 h1 ⟨upd_same,q4,q5⟩
  refine ⟨_,_,_,h2 od us,w2,st2,fun g' A' H' st w' e=>?_⟩
  obtain ⟨b,z1,z2,z3,z4,z5⟩ := w'.nd n _ e
  have:b=a := by have := st.le.i n a q1; rw [z1] at this; exact Option.some.inj this
  subst this
  obtain ⟨w3,st3⟩ := w'.set (o := .dK us) (y := .dK kvs) z1 e ⟨us,upd_same,z4,z5⟩
  exact ⟨z3,w3,st3⟩
 ·obtain ⟨a,q1,q2,us,q3,q4,q5⟩ := w.nd n _ h1
  refine q a (.dT us) q3 trivial fun od=>?_
  obtain ⟨w2,st2⟩ := w.set (o := .frz od (.dT us)) (y := .lkT od us kvs) q1 h1 ⟨upd_same,q4,q5⟩
  refine ⟨_,_,_,h2 od us,w2,st2,fun g' A' H' st w' e=>?_⟩
  obtain ⟨b,z1,z2,z3,z4,z5⟩ := w'.nd n _ e
  have:b=a := by have := st.le.i n a q1; rw [z1] at this; exact Option.some.inj this
  subst this
  obtain ⟨w3,st3⟩ := w'.set (o := .dT us) (y := .dT kvs) z1 e ⟨us,upd_same,z4,z5⟩
  exact ⟨z3,w3,st3⟩
theorem c_lock {m:MS}:∀ D σ H,cS K W (mLock m) D σ H→tLock (cS K W m) D σ H := fun D σ H ⟨g,s,A,Da,w,rs,⟨n,h⟩,q⟩ =>
 lkd_ok w h fun a u ha mu h=>⟨a,u,ha,mu,fun od=>by
  obtain ⟨A1,x,y,h1,w1,st1,back⟩ := h od
  refine ⟨g,s,A1,_,w1,rs,h1,⟨fun g' A' H' σ' s' st w' rs' ⟨e,h'⟩=>?_,fun g' A' H' v d st w' r' ⟨e,h'⟩=>?_,fun g' A' H' σ' s' st w' rs' ⟨e,h'⟩=>?_,fun g' A' H' σ' s' st w' rs' ⟨e,h'⟩=>?_,q.ex.step st1⟩⟩
  ·obtain ⟨z1,z2,z3⟩ := back g' A' H' st w' e
   exact ⟨z1,q.nx _ _ _ _ _ ((st1.trans st).trans z3) z2 rs' h'⟩
  ·obtain ⟨z1,z2,z3⟩ := back g' A' H' st w' e
   exact ⟨z1,q.rt _ _ _ _ _ ((st1.trans st).trans z3) z2 r' h'⟩
  ·obtain ⟨z1,z2,z3⟩ := back g' A' H' st w' e
   exact ⟨z1,q.bk _ _ _ _ _ ((st1.trans st).trans z3) z2 rs' h'⟩
  ·obtain ⟨z1,z2,z3⟩ := back g' A' H' st w' e
   exact ⟨z1,q.ct _ _ _ _ _ ((st1.trans st).trans z3) z2 rs' h'⟩⟩
theorem c_lockE {m:ME}:∀ σ H Q,cE K W (mLockE m) σ H Q→tLockE (cE K W m) σ H Q := fun σ H Q ⟨g,s,A,Qa,Ea,w,rs,⟨n,h⟩,q,qx⟩ =>
 lkd_ok w h fun a u ha mu h=>⟨a,u,ha,mu,fun od=>by
  obtain ⟨A1,x,y,h1,w1,st1,back⟩ := h od
  refine ⟨g,s,A1,_,Ea,w1,rs,h1,fun g' A' H' v d st w' r' ⟨e,h'⟩=>?_,qx.step st1⟩
  obtain ⟨z1,z2,z3⟩ := back g' A' H' st w' e
  exact ⟨z1,q _ _ _ _ _ ((st1.trans st).trans z3) z2 r' h'⟩⟩
def fKeys (d:D) (A:AH) (R:List D→(AH→Prop)→AH→Prop):Prop := ∃ n,d = .ref n∧((∃ o us kvs,A n=some (.lkK o us kvs)∧R (kvs.map fun p=>kD p.1) (fun A2=>A2 n=some (.lkK o us kvs)) A)∨∃ o us kvs,A n=some (.lkT o us kvs)∧R (kvs.map fun p=>ktD p.1) (fun A2=>A2 n=some (.lkT o us kvs)) A)
def mKeys (m:ME):MI := fun s A R E=>m s A (fun d A1=>fKeys d A1 R) E
theorem fst_at {α β γ:Type} {us:List (α × β)} {kvs:List (α × γ)} {i:Nat} {k:α} {x:β} (h:us.map (·.1)=kvs.map (·.1)) (e:us[i]? = some (k,x)):∃ y,kvs[i]? = some (k,y) := by
 have h1:(us.map (·.1))[i]? = some k := by rw [List.getElem?_map,e]; rfl
 rw [h,List.getElem?_map] at h1
 cases q:kvs[i]? with
 | none=>rw [q] at h1; cases h1
 | some p=>rw [q] at h1; obtain ⟨a,b⟩ := p; cases h1; exact ⟨b,rfl⟩
theorem walk_keyK {a:Addr} {n:Nat} {o:Obj} {us:List (Key × V)} {kvs:List (Key × D)} (hi:g.i n=some a) (hk:us.map (·.1)=kvs.map (·.1)):WalkD K (Itk a o us) g (kvs.map fun p=>kD p.1) (fun A2=>A2 n=some (.lkK o us kvs)) where
 go := fun i g2 A2 H2 le w ck hlt=>by
  obtain ⟨b,q1,q2,q3,q4,q5⟩ := w.nd n _ ck
  have := le.i n a hi; rw [q1] at this; cases this
  have hl:us.length=kvs.length := by have := congrArg List.length hk; simpa using this
  exact ⟨q3,by rw [hl]; simpa using hlt⟩
 yl := fun i g2 A2 H2 x H' d le w ck hd y=>by
  obtain ⟨e,k,u,h1,h2⟩ := y
  subst e; subst h2
  obtain ⟨z,hz⟩ := fst_at hk h1
  rw [List.getElem?_map,hz] at hd
  cases hd
  exact ⟨g2, .refl,w,rep_kD k⟩
 st := fun i g2 A2 H2 le w ck hge=>by
  obtain ⟨b,q1,q2,q3,q4,q5⟩ := w.nd n _ ck
  have := le.i n a hi; rw [q1] at this; cases this
  have hl:us.length=kvs.length := by have := congrArg List.length hk; simpa using this
  exact ⟨q3,by rw [hl]; simpa using hge⟩
theorem walk_keyT {a:Addr} {n:Nat} {o:Obj} {us:List (List Key × V)} {kvs:List (List Key × D)} (hi:g.i n=some a) (hk:us.map (·.1)=kvs.map (·.1)):WalkD K (Itkt a o us) g (kvs.map fun p=>ktD p.1) (fun A2=>A2 n=some (.lkT o us kvs)) where
 go := fun i g2 A2 H2 le w ck hlt=>by
  obtain ⟨b,q1,q2,q3,q4,q5⟩ := w.nd n _ ck
  have := le.i n a hi; rw [q1] at this; cases this
  have hl:us.length=kvs.length := by have := congrArg List.length hk; simpa using this
  exact ⟨q3,by rw [hl]; simpa using hlt⟩
 yl := fun i g2 A2 H2 x H' d le w ck hd y=>by
  obtain ⟨e,k,u,b,h1,h2,h3⟩ := y
  subst e; subst h2
  obtain ⟨z,hz⟩ := fst_at hk h1
  rw [List.getElem?_map,hz] at hd
  cases hd
  obtain ⟨g3,w3,st3,h4⟩ := w.tupS h3
  exact ⟨g3,st3,w3, .tup h4 (reps_kD k)⟩
 st := fun i g2 A2 H2 le w ck hge=>by
  obtain ⟨b,q1,q2,q3,q4,q5⟩ := w.nd n _ ck
  have := le.i n a hi; rw [q1] at this; cases this
  have hl:us.length=kvs.length := by have := congrArg List.length hk; simpa using this
  exact ⟨q3,by rw [hl]; simpa using hge⟩
theorem c_keys {m:ME}:∀ σ H R,cI K W (mKeys m) σ H R→iKeys (cE K W m) σ H R := fun σ H R ⟨g,s,A,Ra,Ea,w,rs,h,q,qx⟩ =>
 ⟨g,s,A,_,Ea,w,rs,h,fun g1 A1 H1 x dx st1 w1 r1 ⟨n,e,h1⟩=>by
  subst e
  obtain ⟨a,rfl,hi⟩:∃ a,x = .ref a∧g1.i n=some a := by cases r1 with | ref h=>exact ⟨_,rfl,h⟩
  rcases h1 with ⟨o,us,kvs,e1,e2⟩ | ⟨o,us,kvs,e1,e2⟩
  ·obtain ⟨b,q1,q2,q3,q4,q5⟩ := w1.nd n _ e1
   rw [hi] at q1; cases q1
   exact ⟨a,o,rfl, .inl ⟨us,q3,q g1 A1 H1 _ _ _ st1 w1 (walk_keyK hi q4) e2⟩⟩
  ·obtain ⟨b,q1,q2,q3,q4,q5⟩ := w1.nd n _ e1
   rw [hi] at q1; cases q1
   exact ⟨a,o,rfl, .inr ⟨us,q3,q g1 A1 H1 _ _ _ st1 w1 (walk_keyT hi q4) e2⟩⟩,qx⟩
end
end Am
namespace Am
open PySem PySem.Spec PyProof.Rows L2 PySem.W PySem.Calls PyProof.V
end Am
namespace Am
open PySem PySem.Spec PyProof.Rows L2
section
variable {prog:Program} {w:World} {A:Around} {E:Value→Shared→Prop} {s:Shared} {Q:Bool→Shared→Prop}
def KTup (h:Heap) (v:Value) (k:List Key):Prop := ∃ a o its n,v = .ref a∧h.get? a=some o∧o.cls = .type "tuple" ∧ o.data = .seq its n∧Vals (k.map kV) its.toList
theorem KTup.keeps {h h':Heap} {v:Value} {k:List Key} (p:KTup h v k) (kp:∀ b o,h.get? b=some o→o.cls = .type "tuple" → h'.get? b=some o):KTup h' v k := by
 obtain ⟨a,o,its,n,e,ho,hc,r⟩ := p
 exact ⟨a,o,its,n,e,kp a o ho hc,hc,r⟩
end
end Am
namespace Am
open PySem PySem.Spec PyProof.Rows L2
section
variable {X:Cx}
def rCountP (K:PySem.W.Frag):V→List V→Hp→VK→Prop := fun x xs H Q=>∃ (a:Addr) (y:V) (d:PyData) (ds:List PyData),x=V.ref a∧xs=[y]∧Dp K H (V.ref a) (.list ds)∧Dp K H y d ∧
 PyData.plainAll ds=true∧d.plain=true∧d.depth≤60∧Q (.int (ds.countP (fun z=>PyData.eqv z d):Nat)) H
theorem mt_countP (hu:X.A.units + 65 < cLine):MtR X "list.count" (rCountP X.K) := by
 intro pins s σ H x xs v us Q I rx rxs h
 obtain ⟨a,y,d,ds,rfl,rfl,hl,hy,sl,sd,dp,q⟩ := h
 cases rx
 cases rxs with
 | cons ry rt =>
  rename_i uy ut
  cases rt
  obtain ⟨bs,r1⟩ := Dp.reads I d y uy hy ry
  have hr:X.A.units + 1 + min (PyData.depthAll ds) d.depth < cLine := by
   have := Nat.min_le_right (PyData.depthAll ds) d.depth
   omega
  cases hl with
  | lst hs ha =>
   obtain ⟨its,rv,⟨⟨cls,dd,data,sls⟩,n,ho,hc,hdn,hdt⟩,hlen⟩ := I.list hs
   simp only at hc hdt
   subst hc hdt
   obtain ⟨as,h4⟩ := Dp.readsAll I ds _ its ha rv
   have ec:its.toArray.toList.countP (fun u=>PyData.eqv (SeqAt.readOf s.heap u) d)=ds.countP (fun z=>PyData.eqv z d) := by
    have hm := SeqAt.readsAll_map_plain ds _ _ sl h4
    rw [← hm,List.countP_map]
    rfl
   refine call_meets PySem.F.slot_list_count ⟨_,ho,rfl⟩ PySem.F.entry_list_count (PySem.F.args_list_count_2 _ _)
    (SeqAt.list_countAt a its.toArray n dd sls uy (fun u=>PyData.eqv (SeqAt.readOf s.heap u) d)) ⟨ho,SeqAt.items_plain (vs := its.toArray) (show ReadsAll s.heap its.toArray.toList ds as from h4) r1 sl sd hr, ?_⟩
   refine ⟨.int (ds.countP (fun z=>PyData.eqv z d):Nat),H,I.tok _,⟨s.toks, ?_⟩,q⟩
   rw [ec]
end
section
variable {K:PySem.W.Frag}
def fCount:FM := fun x ys A Q=>∃ y p ps xs,ys=[y]∧toPA A y=some p∧itL A x=some xs∧toPs xs=some ps∧PyData.plainAll ps=true∧p.plain=true∧p.depth≤60∧Q (.int (ps.countP (fun z=>PyData.eqv z p):Nat)) A
theorem ms_count:MtS K (rCountP K) fCount := fun g A H x ys dx ds Qa Q w rx rs ⟨y,p,ps,xs,e1,e2,e3,e4,e5,e6,e7,h⟩ po=>by
 subst e1
 obtain ⟨u,rfl,ru⟩ := rs.one
 obtain ⟨a,vs,rfl,q1,q2⟩ := w.getL rx e3
 exact ⟨a,u,p,ps,rfl,rfl, .lst (.inl q1) (Reps.dp w.sub q2 e4),w.dp ru e2,e5,e6,e7,po.now w (.int _) h⟩
end
end Am
namespace Am
open PySem PySem.Spec PyProof.Rows L2
open PySem.W (Datum Tup)
section
variable {A:AH} {s:Sl} {ma m:ME} {x y:D} {α:Type} [DecidableEq α] [Datum α]
def cntL (a:α) (xs:List α):Nat := (xs.filter fun b=>decide (b=a)).length
theorem pv_count {a:α} {xs:List α} (ho:Pv ma s A x) (hx:ItL A x xs en) (h:Pv m s A y) (hy:UE y a) (hd:Datum.depth α≤60):Pv (mBM fCount ma (mCons m mNil)) s A (.int (cntL a xs)) := fun Q E q=>ho _ _ ⟨⟨_,hx⟩,(pa_1 h) _ _ (by
 have hy':y=en a := hy
 subst hy'
 refine ⟨_,_,_,_,rfl,toPA_en a,hx,toPs_map xs,PySem.W.plainAll_map xs,Datum.plain a,Nat.le_trans (Datum.depth_le a) hd, ?_⟩
 have e:(xs.map Datum.toD).countP (fun z=>PyData.eqv z (Datum.toD a))=cntL a xs := by
  rw [List.countP_map,List.countP_eq_length_filter]
  unfold cntL
  congr 1
  refine List.filter_congr fun b _=>?_
  exact Datum.eqv b a
 rw [e]; exact q)⟩
theorem p2_powI {i j:Int} (h:CPow i j):P2 fPow (.int i) (.int j) A (.int (i ^ j.toNat)) := fun Q q=>⟨i,j,rfl,rfl,h,q⟩
end
end Am
namespace Am
open PySem PySem.Spec PyProof.Rows L2
open PySem.W (Datum Tup)
end Am
namespace Am
open PySem PySem.Spec PyProof.Rows L2
end Am
namespace Am
open PySem PySem.Spec PyProof.Rows L2
end Am
namespace Am
open PySem PySem.Spec PyProof.Rows L2
section
variable {K:PySem.W.Frag} {g:Sg} {A:AH} {H:Hp}
def fMax:List D→AH→QE→Prop := fun ds A Q=>∃ (x:D) (ns:List Int),ds=[x]∧itL A x=some (ns.map D.int)∧0 < ns.length∧∀ m,m∈ns→(∀ y,y∈ns→y≤m)→Q (.int m) A
theorem reps_int:∀ {vs:List V} {ns:List Int},Reps K g vs (ns.map D.int)→vs=ns.map V.int
 | [],[],_=>rfl
 | [],n :: ns,h=>by cases h
 | v :: vs,[],h=>by cases h
 | v :: vs,n :: ns,h=>by
  cases h with
  | cons h r=>rw [h.int_,reps_int r]; rfl
theorem cs_max:CallS K (rMax K) fMax := fun g A H xs ds Qa Q w rs ⟨x,ns,e,h1,h2,h3⟩ po=>by
 subst e
 obtain ⟨v,rfl,r⟩ := rs.one
 obtain ⟨a,vs,rfl,hs,hr⟩ := w.getL r h1
 have := reps_int hr
 subst this
 exact ⟨a,ns,rfl, .inl hs,h2,fun m hm hy=>po.now w (.int _) (h3 m hm hy)⟩
variable {x:D}
theorem pb_max {ns:List Int} (hx:ItL A x ns en) (h:0 < ns.length) {k:Int} (hk:k∈ns) (hy:∀ y∈ns,y≤k):PB fMax [x] A (.int k) := fun Q q=>⟨x,ns,rfl,hx,h,fun m hm hy2=>by
 have:m=k := Int.le_antisymm (hy m hm) (hy2 k hk)
 rw [this]; exact q⟩
end
end Am
namespace Am
open PySem PySem.Spec PyProof.Rows L2
open Fm (fnR_of)
def tupEB (K:PySem.W.Frag) (a:Addr):Bool := match K.lookup a with
 | some ⟨.type n,_, .seq its _,_⟩=>n == "tuple" && its.size == 0
 | _=>false
theorem tupEB_ok {K:PySem.W.Frag} {H:Hp} {a:Addr} (h:tupEB K a=true):SqT K H a [] := by
 unfold tupEB at h
 split at h
 ·rename_i n od its m sl e
  rw [Bool.and_eq_true] at h
  have h1:n = "tuple" := by simpa using h.1
  have h2:its.size=0 := by simpa using h.2
  subst h1
  have:its.toList=[] := by rw [← List.length_eq_zero_iff,Array.length_toList]; exact h2
  exact .inr ⟨_,its,m,e,rfl,rfl,by rw [h2]; exact Nat.zero_le _,by rw [this]; exact .nil⟩
 ·cases h
def mDfl (f:FN):FN := fun ds A Q E=>f (ds ++ [.ktup []]) A Q E
section
variable {P:Program} {w:World} {K:PySem.W.Frag} {mg:Str→Option Value} {base:Heap} {k:Nat} {f:Addr} {x qual:Str} {st:Stmt} {N ps:List Str} {fn:FN} {dv:Addr} {sp:Sp}
theorem spM_dfl (h:SqT K (fun _=>none) dv []):∀ vs H Q E,spM K (mDfl fn) vs H Q E→spM K fn (vs ++ [V.ref dv]) H Q E := fun vs H Q E ⟨g,A,ds,Qa,Ea,w,r,h1,q,qx⟩=>by
 have hs:SqT K g.S dv [] := by
  rcases h with h | h
  ·rcases h with z | ⟨_,z⟩ <;> cases z
  ·exact .inr h
 exact ⟨g,A,ds ++ [.ktup []],Qa,Ea,w,r.app (.cons (.ktup hs .nil) .nil),(show fn (ds ++ [.ktup []]) A Qa Ea from h1),q,qx⟩
abbrev FunE (K:PySem.W.Frag) (x qual:Str) (st:Stmt) (dv f:Addr):Prop := ∃ fd,FunD K x qual (defArgs st) (defBody st) (defScope st) [V.ref dv] [] f fd
theorem fnR_d1 (F:FunE K x qual st dv f) (S:FnScope N ps (defScope st)) (hn:1≤ps.length) (e:tupEB K dv=true) (len:∀ vs H Q E,spM K fn vs H Q E→vs.length=ps.length)
  (hb:∀ (T:Addr) (kV doc pm:Value) (an:Option Addr) (cdv ct:Value) (us its:List Value),us.length=ps.length - 1→its.length=1→∃ k,bindArgs (PySem.W.fnOf x qual (defArgs st) (defBody st) (defScope st) (.ref T) kV doc pm an cdv ct) ⟨us,[]⟩=seqItems? (.ref T) >>= k∧k (some its.toArray)=pure (ps.zip (us ++ its)))
  (t:XK→TS) (hw:∀ (cdv:Value) (A:Around) (outer:List Env) (s:Shared) (H:Hp) (E:XK),Room k (A.deeper (envOfC qual (defScope st) s.heap.objs.size f cdv))→PSs (cxOf (L2.CX P w) P w K mg base N qual (defScope st) f cdv A outer s H E) (defBody st) (t E))
  (hq:∀ H vs Q E,spM K fn vs H Q E→t E { nx := fun _ H'=>Q .non H',rt := Q } (start N vs) H):FnR P w K mg base (L2.CX P w) (k + 1) f (spM K (mDfl fn)) := by
 obtain ⟨fd,F⟩ := F
 obtain ⟨ds,rv,hB⟩ := F.binds1 (ps := ps) (ps.length - 1) 0 (by simp) (by simp; omega) (fun T kV doc pm an cdv ct us its h1 h2=>hb T kV doc pm an cdv ct us its h1 h2)
 exact (FnOk.raw (F.ok S len fun cdv A outer s H vs Q E hr h=>⟨t E,hw cdv A outer s H E hr,hq H vs Q E h⟩) hB rv).imp (spM_dfl (tupEB_ok e))
end
end Am
namespace Am
open PySem PySem.Spec PyProof.Rows L2
open PySem.W (Datum Tup T3 T4)
open Fm (rTupOf)
section
variable {ι α κ:Type} {s s':Sl} {A A':AH} {ma mb m me:ME} {x y d:D} {ds:List D} {f:FN} {c:Str} {Q:QE} {E:QX} {D0:AEnds} {fs:List (Str × D)} {n:Nat} {mm:MS} {xc:Xc}
theorem w_ownX (h:ma s A (fun x A1=>mb s A1 (fun y A2=>(∃ fs,insOf A2 x=some (c,fs))∧(∃ gs,insOf A2 y=some (c,gs))∧f [x,y] A2 Q E) E) E):mOwn c f ma mb s A Q E := h
theorem w_ownTX (h:ma s A (fun x A1=>mb s A1 (fun y A2=>(∃ fs,insOf A2 x=some (c,fs))∧(∃ ds,y = .tup ds)∧f [x,y] A2 Q E) E) E):mOwnT c f ma mb s A Q E := h
theorem pv_propI (h:Pv m s A x) (hx:insOf A x=some (c,fs)) (hf:Fv f [x] A d):Pv (mProp c f m) s A d := fun Q E q=>h _ _ ⟨⟨fs,hx⟩,hf Q NX q⟩
def lkE (n:Nat) (x y:Nd) (D:AEnds):AEnds := { nx := fun s' A'=>A' n=some x∧D.nx s' (put A' n y),rt := fun d A'=>A' n=some x∧D.rt d (put A' n y),bk := fun s' A'=>A' n=some x∧D.bk s' (put A' n y),ct := fun s' A'=>A' n=some x∧D.ct s' (put A' n y),ex := D.ex }
theorem u_lockK {kvs:List (Key × D)} (hA:A n=some (.dK kvs)) (h:∀ o us,mm (lkE n (.lkK o us kvs) (.dK kvs) D0) s (put A n (.lkK o us kvs))):mLock mm D0 s A := ⟨n, .inl ⟨kvs,hA,h⟩⟩
theorem nx_lk {X Y:Nd} (h1:A n=some X) (h2:D0.nx s (put A n Y)):(lkE n X Y D0).nx s A := ⟨h1,h2⟩
theorem mi_keysK {fk:κ→Key} {e:ι→D} {ek:κ→D} {o:Obj} {us:List (Key × V)} {l:List (κ × ι)} (h:Pv me s A (.ref n)) (hA:A n=some (.lkK o us (l.map (eD fk e)))) (hk:∀ z,kD (fk z)=ek z):Mi (mKeys me) s A ((l.map (fun p=>p.1)).map ek) (fun A'=>A' n=A n) := fun R E q=>h _ E ⟨n,rfl, .inl ⟨o,us,l.map (eD fk e),hA,by
 have:((l.map (eD fk e)).map fun p=>kD p.1)=(l.map (fun p=>p.1)).map ek := by
  rw [List.map_map,List.map_map]
  exact List.map_congr_left fun p _=>hk p.1
 rw [this]
 exact q _ hA fun A' e=>e.trans hA⟩⟩
theorem dk_lk {fk:κ→Key} {e:ι→D} {o:Obj} {us:List (Key × V)} {l:List (κ × ι)} (hA:A n=some (.lkK o us (l.map (eD fk e)))):DcK A (.ref n) fk e l := by unfold DcK dcK; simp only [hA]
theorem pa_starI {mr:MA} {xs ys:List ι} {e:ι→D} (h:Pv m s A d) (hx:ItS A d xs e) (hr:Pa mr s A (ys.map e)):Pa (mStar m mr) s A ((xs ++ ys).map e) := by
 have := pa_star' h hx hr
 rw [← List.map_append] at this
 exact this
theorem pa_starN {xs:List ι} {e:ι→D} (h:Pv m s A d) (hx:ItS A d xs e):Pa (mStar m mNil) s A (xs.map e) := by
 have := pa_star' h hx (pa_nil' (s := s) (A := A))
 rw [List.append_nil] at this
 exact this
theorem pa_consI {mr:MA} {z:ι} {ys:List ι} {e:ι→D} (h:Pv m s A (e z)) (hr:Pa mr s A (ys.map e)):Pa (mCons m mr) s A ((z :: ys).map e) := pa_cons' h hr
theorem w_mAndJ {t u:MT} {T:Bool} {R:Bool→AH→Prop} {w:(Bool→Prop)→Prop} {K:Bool→Prop} (ht:Pt t s A T) (h:joinW w K) (hb:∀ N:Bool→Prop,w N→(∀ b A',Les A A'→N b→R b A')→if T=true then u s A R E else R false A) (hk:∀ b A',Les A A'→K b→R b A'):mAnd t u s A R E := ht _ _ (hb K h hk)
theorem u_appU {β:Type} [DecidableEq β] [Datum β] {xs:List β} {v:β} {Rn:AH→Prop} (hA:A n=some (.lst (xs.map en))) (hz:Sz (xs.length + 1)) (hd:UE d v) (q:Rn (put A n (.lst ((xs ++ [v]).map en)))):fAppend (.ref n) [d] A (fun _ A3=>Rn A3) := by
 have e:d=en v := hd
 subst e
 exact u_app2 hA hz q
def maxI:List Int→Int
 | []=>0
 | x :: xs=>xs.foldl max x
theorem foldl_max:∀ (xs:List Int) (x:Int),(xs.foldl max x=x∨xs.foldl max x∈xs)∧x≤xs.foldl max x∧∀ y∈xs,y≤xs.foldl max x
 | [],x=>⟨.inl rfl,Int.le_refl _,fun _ h=>nomatch h⟩
 | a :: xs,x=>by
  obtain ⟨h1,h2,h3⟩ := foldl_max xs (max x a)
  rw [List.foldl_cons]
  refine ⟨?_,by omega,fun y hy=>?_⟩
  ·rcases h1 with h1 | h1
   ·rw [h1]
    by_cases h:a≤x
    ·exact .inl (by omega)
    ·exact .inr (by rw [show max x a=a by omega]; exact List.mem_cons_self ..)
   ·exact .inr (List.mem_cons_of_mem _ h1)
  ·rcases List.mem_cons.mp hy with e | e
   ·subst e; omega
   ·exact h3 y e
theorem pb_maxI {xs:List Int} (hx:ItL A x xs en) (h:0 < xs.length):PB fMax [x] A (.int (maxI xs)) := by
 cases xs with
 | nil=>exact absurd h (by decide)
 | cons a xs =>
  obtain ⟨h1,h2,h3⟩ := foldl_max xs a
  refine pb_max hx h (k := maxI (a :: xs)) ?_ fun y hy=>?_
  ·show xs.foldl max a∈a :: xs
   rcases h1 with h1 | h1
   ·rw [h1]; exact List.mem_cons_self ..
   ·exact List.mem_cons_of_mem _ h1
  ·show y≤xs.foldl max a
   rcases List.mem_cons.mp hy with e | e
   ·subst e; exact h2
   ·exact h3 y e
end
section
variable {K:PySem.W.Frag} {A:AH}
def fTupK:List D→AH→QE→Prop := fun ds A Q=>∃ x,ds=[x]∧match x with
 | .ktup xs=>Q (.ktup xs) A
 | x=>fTupOf [x] A Q
theorem cs_tupK:CallS K (rTupOf K) fTupK := fun g A H xs ds Qa Q w rs ⟨x,e,h⟩ po=>by
 subst e
 obtain ⟨v,rfl,r⟩ := rs.one
 cases x with
 | ktup ys =>
  cases r with
  | ktup h1 h2=>exact ⟨_,_,rfl, .inr ⟨w.sub.sqt h1,po.now w (.ktup h1 h2) h⟩⟩
 | _=>exact cs_tup g A H _ _ Qa Q w (.cons r .nil) h po
structure KTs where
 k:Bool
 xs:List Str
def enKT (w:KTs):D := match w.k with
 | true=>.ktup (w.xs.map en)
 | false=>.tup (w.xs.map en)
theorem enKT_no {w:KTs} {n:Nat} (h:enKT w = .ref n):False := by
 obtain ⟨k,xs⟩ := w
 cases k <;> cases h
theorem pb_tupKK {w:KTs}:PB fTupK [enKT w] A (enKT w) := fun Q q=>by
 obtain ⟨k,xs⟩ := w
 cases k
 ·exact ⟨_,rfl,_,rfl,q⟩
 ·exact ⟨_,rfl,q⟩
end
end Am
namespace Am
open PySem PySem.Spec PyProof.Rows L2
open PySem.W (Datum Tup T3 T4)
end Am
namespace Am
open PySem PySem.Spec PyProof.Rows L2
open Fm (tOpS)
end Am
namespace Am
open PySem PySem.Spec PyProof.Rows L2
open PySem.W (Datum Tup T3 T4)
end Am
namespace Am
open PySem PySem.Spec PyProof.Rows L2
open PySem.W (Datum Tup T3 T4)
end Am
namespace Am
open PySem PySem.Spec PyProof.Rows L2
open PySem.W (Datum Tup T3 T4)
end Am
namespace Am
open PySem PySem.Spec PyProof.Rows L2
open PySem.W (Datum Tup T3 T4)
open Fm (uniq)
end Am
namespace Am
open PySem PySem.Spec PyProof.Rows L2
end Am
namespace Am
open PySem PySem.Spec PyProof.Rows L2
end Am
namespace Am
open PySem PySem.Spec PyProof.Rows L2
open Fm (same_new)
open RZ (ItzT iZipA)
section
variable {K:PySem.W.Frag} {W:WX} {g g1:Sg} {A A1:AH} {H H1:Hp} {m ma mb mc mo mi mv:ME} {v:V} {d:D}
def zipD (xs ys:List D):List D := (List.zip xs ys).map fun p=>.tup [p.1,p.2]
theorem zipD_at {xs ys:List D} {i:Nat} {d:D} (h:(zipD xs ys)[i]? = some d):∃ x y,xs[i]? = some x∧ys[i]? = some y∧d = .tup [x,y] := by
 unfold zipD at h
 rw [List.getElem?_map] at h
 cases e:(List.zip xs ys)[i]? with
 | none=>rw [e] at h; cases h
 | some p =>
  rw [e] at h
  cases h
  obtain ⟨h1,h2⟩ := List.getElem?_zip_eq_some.mp e
  exact ⟨_,_,h1,h2,rfl⟩
theorem zipD_len {xs ys:List D}:(zipD xs ys).length=min xs.length ys.length := by unfold zipD; rw [List.length_map,List.length_zip]
theorem walk_zipT {a b:Addr} {vs us:List V} {xs ys:List D} (h1:SqT K g.S a vs) (h2:SqT K g.S b us) (r1:Reps K g vs xs) (r2:Reps K g us ys):WalkD K (ItzT K a b) g (zipD xs ys) ckT where
 go := fun i g2 A2 H2 le w _ hi=>by
  rw [zipD_len] at hi
  have k1:i < vs.length := by rw [r1.len]; omega
  have k2:i < us.length := by rw [r2.len]; omega
  exact ⟨vs,us,vs[i],us[i],w.sub.sqt (Fm.Same.tup le.s h1),w.sub.sqt (Fm.Same.tup le.s h2),List.getElem?_eq_getElem k1,List.getElem?_eq_getElem k2⟩
 yl := fun i g2 A2 H2 x H' d le w _ hd y=>by
  obtain ⟨T,u,z,e1,e2,e3,hy1,hy2⟩ := y
  subst e1; subst e3
  obtain ⟨p,q,z1,z2,z3⟩ := zipD_at hd
  subst z3
  have j1 := hy1 vs (w.sub.sqt (Fm.Same.tup le.s h1))
  have j2 := hy2 us (w.sub.sqt (Fm.Same.tup le.s h2))
  obtain ⟨u',k1,k2⟩ := r1.at_ z1
  obtain ⟨z',k3,k4⟩ := r2.at_ z2
  rw [k1] at j1; cases j1
  rw [k3] at j2; cases j2
  obtain ⟨w3,st3⟩ := w.new (o := .tup [u,z]) e2
  have l3 := le.trans st3.le
  exact ⟨_,st3,w3, .tup upd_same (.cons (k2.mono l3) (.cons (k4.mono l3) .nil))⟩
 st := fun i g2 A2 H2 le w _ hi=>by
  rw [zipD_len] at hi
  refine ⟨vs,us,w.sub.sqt (Fm.Same.tup le.s h1),w.sub.sqt (Fm.Same.tup le.s h2), ?_⟩
  rw [r1.len,r2.len]
  omega
theorem walk_zipL {a b:Addr} {vs us:List V} {xs ys:List D} (h1:Rd g.S a (.lst vs)) (h2:Rd g.S b (.lst us)) (r1:Reps K g vs xs) (r2:Reps K g us ys):WalkD K (Itz K a b) g (zipD xs ys) ckT where
 go := fun i g2 A2 H2 le w _ hi=>by
  rw [zipD_len] at hi
  have k1:i < vs.length := by rw [r1.len]; omega
  have k2:i < us.length := by rw [r2.len]; omega
  exact ⟨vs,us,vs[i],us[i], .inl (w.sub.rd (Fm.Same.rd le.s h1)), .inl (w.sub.rd (Fm.Same.rd le.s h2)),List.getElem?_eq_getElem k1,List.getElem?_eq_getElem k2⟩
 yl := fun i g2 A2 H2 x H' d le w _ hd y=>by
  obtain ⟨T,u,z,e1,e2,e3,hy1,hy2⟩ := y
  subst e1; subst e3
  obtain ⟨p,q,z1,z2,z3⟩ := zipD_at hd
  subst z3
  have j1 := hy1 vs (.inl (w.sub.rd (Fm.Same.rd le.s h1)))
  have j2 := hy2 us (.inl (w.sub.rd (Fm.Same.rd le.s h2)))
  obtain ⟨u',k1,k2⟩ := r1.at_ z1
  obtain ⟨z',k3,k4⟩ := r2.at_ z2
  rw [k1] at j1; cases j1
  rw [k3] at j2; cases j2
  obtain ⟨w3,st3⟩ := w.new (o := .tup [u,z]) e2
  have l3 := le.trans st3.le
  exact ⟨_,st3,w3, .tup upd_same (.cons (k2.mono l3) (.cons (k4.mono l3) .nil))⟩
 st := fun i g2 A2 H2 le w _ hi=>by
  rw [zipD_len] at hi
  refine ⟨vs,us, .inl (w.sub.rd (Fm.Same.rd le.s h1)), .inl (w.sub.rd (Fm.Same.rd le.s h2)), ?_⟩
  rw [r1.len,r2.len]
  omega
def mZip (r:MA):MI := fun s A R E=>r s A (fun ds A1=>∃ xs ys,(ds=[.tup xs, .tup ys]∨ds=[.lst xs, .lst ys])∧R (zipD xs ys) ckT A1) E
theorem c_zip {mr:MA}:∀ σ H R,cI K W (mZip mr) σ H R→iZipA K (cA K W mr) σ H R := fun σ H R ⟨g,s,A,Ra,Ea,w,rs,h,q,qx⟩ =>
 ⟨g,s,A,_,Ea,w,rs,h,fun g1 A1 H1 vs ds st1 w1 r1 ⟨xs,ys,e,h1⟩=>by
  rcases e with e | e
  ·subst e
   cases r1 with
   | cons ra r1=>cases r1 with
    | cons rb r1 =>
     cases r1
     cases ra with
     | tup a1 a2=>cases rb with
      | tup b1 b2=>exact ⟨_,_,_,_,rfl, .inr ⟨w1.sub.sqt (.inl (.inl a1)),w1.sub.sqt (.inl (.inl b1)),q g1 A1 H1 _ _ _ st1 w1 (walk_zipT (.inl (.inl a1)) (.inl (.inl b1)) a2 b2) h1⟩⟩
  ·subst e
   cases r1 with
   | cons ra r1=>cases r1 with
    | cons rb r1 =>
     cases r1
     cases ra with
     | lst a1 a2=>cases rb with
      | lst b1 b2=>exact ⟨_,_,_,_,rfl, .inl ⟨.inl (w1.sub.rd a1), .inl (w1.sub.rd b1),q g1 A1 H1 _ _ _ st1 w1 (walk_zipL a1 b1 a2 b2) h1⟩⟩,qx⟩
theorem reps_rg {i:Int}:∀ ns:List Nat,Reps K g (ns.map fun n=>V.int (i + (n:Nat))) (ns.map fun n=>D.int (i + (n:Nat)))
 | []=>.nil
 | _ :: ns=>.cons (.int _) (reps_rg ns)
def fMax2 (ds:List D) (A:AH) (Q:QE):Prop := ∃ i j:Int,ds=[.int i, .int j]∧Q (.int (if j > i then j else i)) A
theorem cs_max2:CallS K (fun xs H Q=>∃ i j,xs=[.int i, .int j]∧Q (.int (if j > i then j else i)) H) fMax2 := fun g A H xs ds Qa Q w r ⟨i,j,e,h⟩ q=>by
 subst e
 cases r with
 | cons ra r=>cases r with
  | cons rb r =>
   cases r
   exact ⟨i,j,by rw [ra.int_,rb.int_],q.now w (.int _) h⟩
end
end Am
namespace Am
open PySem PySem.Spec PyProof.Rows L2
open Fm (fnR_of)
theorem one_of {P:Str→Prop} {cs:List Str} {c:Str} (h:∀ c∈cs,P c) (m:c∈cs):∀ d∈[c],P d := fun d hd=>by rw [List.mem_singleton.mp hd]; exact h c m
end Am
namespace Am
open PySem PySem.Spec PyProof.Rows L2
end Am
namespace Am
open PySem PySem.Spec PyProof.Rows L2
end Am
namespace Am
open PySem PySem.Spec PyProof.Rows L2
open Fm (rRepL rGetL)
section
variable {K:PySem.W.Frag}
def fRepL:F2 := fun x y A Q=>∃ xs i,itL A x=some xs∧y = .int i∧0≤i∧i < 2 ^ 62∧xs.length * i.toNat≤2 ^ 24∧Q (.lst (List.replicate i.toNat xs).flatten) A
theorem reps_rep {g:Sg} {vs:List V} {ds:List D} (h:Reps K g vs ds):∀ k:Nat,Reps K g (List.replicate k vs).flatten (List.replicate k ds).flatten
 | 0=>.nil
 | k + 1=>by
  rw [List.replicate_succ,List.replicate_succ,List.flatten_cons,List.flatten_cons]
  exact h.app (reps_rep h k)
theorem os_repL:OpS K rRepL fRepL := fun g A H x y dx dy Qa Q w rx ry ⟨xs,i,e1,e2,h0,h1,hl,q⟩ p=>by
 subst e2
 obtain ⟨a,vs,rfl,h3,h4⟩ := w.getL rx e1
 exact ⟨a,vs,i,rfl,ry.int_,h3,h0,h1,by rw [h4.len]; exact hl,fun q' nq=>mk_old g A H q' _ _ Qa Q w nq (reps_rep h4 _) q p⟩
theorem p2_repL {x:D} {A:AH} {xs:List D} {i:Int} (h:itL A x=some xs) (h0:0≤i) (h1:i < 2 ^ 62) (hl:xs.length * i.toNat≤2 ^ 24):P2 fRepL x (.int i) A (.lst (List.replicate i.toNat xs).flatten) := fun Q q=>⟨xs,i,h,rfl,h0,h1,hl,q⟩
end
end Am
namespace Am
open PySem PySem.Spec PyProof.Rows L2 Fm
section
variable {X:Cx} {W:WX} {e a b c:Expr} {es:List Expr} {m ma mb mc:ME} {pos:Pos} {x:Str}
theorem q0 (i:Nat) (hN:X.N[i]? = some x := by rfl) (hv:Vis X.env.scope x := by first | exact Or.inl rfl | exact Or.inr (Or.inl rfl) | exact Or.inr (Or.inr rfl)) (hd:(x == ("__debug__":Str))=false := by decide) (hc:(x == ("__classdict__":Str))=false := by decide):PE X (.Name x pos) (cE X.K W (mVar i)) := ae_var (pv i hN hv hd hc)
theorem q1 {i:Int} {j:Nat}:PE X (.Constant (.int i) j pos) (cE X.K W (mC (.int i))) := ae_c (fun _=>.int _) pe_int
theorem q2 {j:Nat}:PE X (.Constant (.str x) j pos) (cE X.K W (mC (.str x))) := ae_c (fun _=>.str _) pe_str
theorem qa (ha:PE X a (cE X.K W ma)) (h1:starEach [a] X.env=(false,eval a X.env) :: starEach [] X.env := by rfl):PA X [a] (cA X.K W (mCons ma mNil)) := aa_cons ha aa_nil h1
theorem qb (ha:PE X a (cE X.K W ma)) (hb:PE X b (cE X.K W mb)) (h1:starEach [a,b] X.env=(false,eval a X.env) :: starEach [b] X.env := by rfl) (h2:starEach [b] X.env=(false,eval b X.env) :: starEach [] X.env := by rfl):PA X [a,b] (cA X.K W (mCons ma (mCons mb mNil))) := aa_cons ha (aa_cons hb aa_nil h2) h1
theorem qc {mr:MA} (ha:PE X a (cE X.K W ma)) (hb:PE X b (cE X.K W mb)) (hs:PA X es (cA X.K W mr)) (h1:starEach (a :: b :: es) X.env=(false,eval a X.env) :: starEach (b :: es) X.env := by rfl) (h2:starEach (b :: es) X.env=(false,eval b X.env) :: starEach es X.env := by rfl):PA X (a :: b :: es) (cA X.K W (mCons ma (mCons mb mr))) := aa_cons ha (aa_cons hb hs h2) h1
theorem qi (ha:PE X a (cE X.K W ma)) (hb:PE X b (cE X.K W mb)) (h:PlainIx b := by exact fun _ _=>rfl):PE X (.Subscript a b pos) (cE X.K W (mOp fIx ma mb)) := PE.weak (pe_ix ix_seq ha hb h) (c_op os_ix)
theorem ql {p:Pos} {mr:MA} (hm:X.mg x=none) (ha:PA X (e :: es) (cA X.K W mr)) (hg:Gl X x := by rfl) (hv:bootBuiltins x=some (.builtin "len") := by decide +kernel) (hn:x ≠ "__name__" := by decide) (hdb:(x == ("__debug__":Str))=false := by decide)
 (he:starEach (e :: es) X.env=(false,eval e X.env) :: starEach es X.env := by rfl) (hpl:(backTo pos (starEach es X.env)).any (·.1)=false := by rfl):PE X (.Call (.Name x p) (e :: es) [] pos) (cE X.K W (mCB fLen mr)) := PE.weak (pe_callB call_lenA hg hm hv ha hn hdb he hpl) (c_cb cs_len)
theorem qf {f:Str} {cs:List Str} (h:PE X e (cE X.K W m)) (hc:∀ c∈cs,Cls X.K (He.ga X.K c)∧NoAttr X.K (He.ga X.K c) f) (hb:attributeBase e f X.env (eval e X.env)=eval e X.env := by rfl):PE X (.Attribute e f pos) (cE X.K W (mFld cs f m)) := PE.weak (pe_fld h hb) (c_fld hc)
theorem qk {p:Pos} {k:Nat} {f:Addr} {fn:FN} {mr:MA} (F:FnR X.prog X.w X.K X.mg X.base (L2.CX X.prog X.w) k f (spM X.K fn)) (hx:∀ σ,PassesAt (L2.CX X.prog X.w) X σ (WE W σ)) {K':Nat} (hr:Room K' X.A) (hm:X.mg x=some (.ref f)) (hk:PySem.W.keepIn X.K (.ref f)=true) (ha:PA X (e :: es) (cA X.K W mr)) (hl:k≤K' := by decide) (hg:Gl X x := by rfl) (hdb:(x == ("__debug__":Str))=false := by decide)
 (he:starEach (e :: es) X.env=(false,eval e X.env) :: starEach es X.env := by rfl) (hpl:(backTo pos (starEach es X.env)).any (·.1)=false := by rfl):PE X (.Call (.Name x p) (e :: es) [] pos) (cE X.K W (mCall fn mr)) := PE.weak (pe_clS F (hr.mono hl) hg hm hk hx ha hdb he hpl) c_cl
theorem qe (hu:X.A.units + 64 < cLine) (ha:PE X a (cE X.K W ma)) (hb:PE X b (cE X.K W mb)):PT X (.Compare a [.Eq] [b] pos) (cT X.K W (mB (mOp (fEq false) ma mb))) := at_cmp (op_eqP hu) os_eq ha hb (nomark _)
theorem qn (hu:X.A.units + 64 < cLine) (ha:PE X a (cE X.K W ma)) (hb:PE X b (cE X.K W mb)):PT X (.Compare a [.NotEq] [b] pos) (cT X.K W (mB (mOp (fEq true) ma mb))) := at_cmp (op_neP hu) os_ne ha hb (nomark _)
theorem qp {apos cpos:Pos} {mr:MA} (ho:PE X a (cE X.K W m)) (ha:PA X (e :: es) (cA X.K W mr)) (hbase:attributeBase a "append" X.env (eval a X.env)=eval a X.env := by rfl)
 (hfew:((backTo cpos (starEach (e :: es) X.env)).all (fun x=>!x.1) && (backToKw cpos (keywordEach [] X.env)).all (fun x=>x.1.isSome) && decide ((e :: es).length + ([]:List Keyword).length + (if ([]:List Keyword).isEmpty then 0 else 1) < 30))=true := by rfl)
 (hline:(apos.endLine == cpos.line)=true := by rfl) (hs:starEach (e :: es) X.env=(false,eval e X.env) :: starEach es X.env := by rfl) (hplain:(backTo cpos (starEach es X.env)).any (·.1)=false := by rfl) :
 PE X (.Call (.Attribute a "append" apos) (e :: es) [] cpos) (cE X.K W (mBM fAppend m mr)) := PE.weak (pe_bm PySem.F.plainAttrs_list PySem.F.slot_list_append PySem.F.type_list_append mt_append ho ha hbase hfew hline hs hplain) (c_bm ms_append)
theorem qg (i:Nat) {N ps:List Str} {sc:Scope} (S:FnScope N ps sc) (hi:N[i]? = some x) (hN:X.N=N := by rfl) (hx:L2.Loc X.env.scope x := by first | exact .inl rfl | exact .inr rfl) (hf:X.fn x=true∨X.env.scope.names.lookup x=some .local := by first | exact .inl rfl | exact .inr rfl | assumption):PG X (.Name x pos) (gName i) := pg_name (by rw [hN]; exact S.nd) (by rw [hN]; exact hi) hx hf
variable {st:Stmt} {rest u v:List Stmt} {t:MT} {ms mu mv:MS}
theorem ra {tt:TS} {tm:MS} (h:PS X st tt) (k:∀ D σ H,cS X.K W tm D σ H→tt D σ H) (r:PSs X rest (cS X.K W mu)):PSs X (st :: rest) (cS X.K W (mSq tm mu)) := PSs.weak (pss_cons (PS.weak h k) r) c_sq
theorem rb (h:PS X st (cS X.K W ms)) (r:PSs X rest (cS X.K W mu)):PSs X (st :: rest) (cS X.K W (mSq ms mu)) := PSs.weak (pss_cons h r) c_sq
theorem rz:PSs X [] (cS X.K W mNext) := PSs.weak pss_nil c_next
theorem ri {tc:Expr} (h:PT X tc (cT X.K W t)) (h1:PSs X u (cS X.K W mu)) (h2:PSs X v (cS X.K W mv)):PS X (.If tc u v pos) (cS X.K W (mIfS t mu mv)) := PS.weak (ps_if h h1 h2) c_ifS
theorem rj {tc:Expr} (h:PT X tc (cT X.K W t)) (h1:PSs X u (cS X.K W mu)):PS X (.If tc u [] pos) (cS X.K W (mIfS t mu mNext)) := ri h h1 rz
theorem rr (h:PE X e (cE X.K W m)):PS X (.Return (some e) pos) (cS X.K W (mRet m)) := PS.weak (ps_ret h) c_ret
theorem rd (h:PE X e (cE X.K W m)) (hs:swapsWith e none pos.line X.env=pure false := by rfl):PS X (.Expr e pos) (cS X.K W (mDrop m)) := PS.weak (ps_expr h hs) c_drop
theorem rs (i:Nat) {N ps:List Str} {sc:Scope} {pos':Pos} (S:FnScope N ps sc) (hi:N[i]? = some x) (h:PE X e (cE X.K W m)) (hN:X.N=N := by rfl) (hx:L2.Loc X.env.scope x := by first | exact .inl rfl | exact .inr rfl) (hs:swapsWith e (some (.Name x pos')) pos.line X.env=pure false := by rfl) (hf:X.fn x=true∨X.env.scope.names.lookup x=some .local := by first | exact .inl rfl | exact .inr rfl | assumption) :
 PS X (.Assign [.Name x pos'] e pos) (cS X.K W (mSet m (gN i))) := PS.weak (ps_set (by rw [hN]; exact S.nd) (by rw [hN]; exact hi) hx h hs hf) (c_set tg_name)
end
abbrev WkP (P:Program) (w:World) (K:PySem.W.Frag) (mg:Str→Option Value) (base:Heap) (N:List Str) (q:Str) (st:Stmt) (f:Addr) (k:Nat) (b:MS):Prop :=
 ∀ (cdv:Value) (A:Around) (outer:List Env) (s:Shared) (H:Hp) (E:XK),Room k (A.deeper (envOfC q (defScope st) s.heap.objs.size f cdv))→PSs (cxOf (L2.CX P w) P w K mg base N q (defScope st) f cdv A outer s H E) (defBody st) (cS K (WD E) b)
theorem wk_in {P:Program} {w:World} {K:PySem.W.Frag} {mg:Str→Option Value} {base:Heap} {N:List Str} {q:Str} {st:Stmt} {f:Addr} {k:Nat} {b:MS}
  (h:∀ (cdv:Value) (A:Around) (outer:List Env) (s:Shared) (H:Hp) (E:XK),Room k (A.deeper (envOfC q (defScope st) s.heap.objs.size f cdv))→Takes (cxOf (L2.CX P w) P w K mg base N q (defScope st) f cdv A outer s H E) (WD E)→(∀ σ,PassesAt (L2.CX P w) (cxOf (L2.CX P w) P w K mg base N q (defScope st) f cdv A outer s H E) σ (WE (WD E) σ))→PassesOwn (model P w) (cxOf (L2.CX P w) P w K mg base N q (defScope st) f cdv A outer s H E).A (cxOf (L2.CX P w) P w K mg base N q (defScope st) f cdv A outer s H E).env (cxOf (L2.CX P w) P w K mg base N q (defScope st) f cdv A outer s H E).xe →
   PSs (cxOf (L2.CX P w) P w K mg base N q (defScope st) f cdv A outer s H E) (defBody st) (cS K (WD E) b)):WkP P w K mg base N q st f k b := fun cdv A outer s H E hr =>
 have tk:Takes (cxOf (L2.CX P w) P w K mg base N q (defScope st) f cdv A outer s H E) (WD E) := takes_of rfl rfl rfl rfl
 h cdv A outer s H E hr tk (fun σ=>passAt tk σ) (passes_of rfl)
abbrev GX (P:Program) (w:World) (K:PySem.W.Frag) (mg:Str→Option Value) (base:Heap) (k:Nat) (f:Addr) (m:FN):Prop := FnR P w K mg base (L2.CX P w) k f (spM K m)
theorem fsc {N P:List Str} {sc:Scope} (a:sc.kind = .function := by rfl) (b:sc.isCoroutine=false := by rfl) (c:sc.isGenerator=false := by rfl) (d:N.Nodup := by decide +kernel) (e:N.take P.length=P := by rfl) (f:∀ x∈P,sc.names.lookup x=some .local∨sc.names.lookup x=some .cell := by decide +kernel) (g:∀ y∈sc.names,y.2≠.free := by decide +kernel):FnScope N P sc := ⟨a,b,c,d,e,f,g⟩
theorem okX {P:Program} {w:World} {K:PySem.W.Frag} {mg:Str→Option Value} {base:Heap} {k:Nat} {f:Addr} {fn:FN} {x qual:Str} {st:Stmt} {N ps:List Str} {b:MS} (F:∃ fd,Fun K x qual st f fd) (S:FnScope N ps (defScope st)) (W:WkP P w K mg base N qual st f k b) (len:∀ vs H Q E,spM K fn vs H Q E→vs.length=ps.length := by exact fun vs H Q E h=>fn_len h)
 (hb:∀ (kV doc pm:Value) (an:Option Addr) (cdv ct:Value) (us:List Value),us.length=ps.length→bindArgs (PySem.W.fnOf x qual (defArgs st) (defBody st) (defScope st) .none kV doc pm an cdv ct) ⟨us,[]⟩=pure (ps.zip us) := by first | exact (fun _ _ _ _ _ _ us hl=>match us,hl with | [_],_=>rfl) | exact (fun _ _ _ _ _ _ us hl=>match us,hl with | [_,_],_=>rfl) | exact (fun _ _ _ _ _ _ us hl=>match us,hl with | [_,_,_],_=>rfl) | exact (fun _ _ _ _ _ _ us hl=>match us,hl with | [_,_,_,_],_=>rfl) | exact (fun _ _ _ _ _ _ us hl=>match us,hl with | [_,_,_,_,_],_=>rfl) | exact (fun _ _ _ _ _ _ us hl=>match us,hl with | [_,_,_,_,_,_],_=>rfl) | exact (fun _ _ _ _ _ _ us hl=>match us,hl with | [_,_,_,_,_,_,_],_=>rfl) | exact (fun _ _ _ _ _ _ us hl=>match us,hl with | [_,_,_,_,_,_,_,_],_=>rfl))
 (hq:∀ H vs Q E,spM K fn vs H Q E→cS K (WD E) b { nx := fun _ H'=>Q .non H',rt := Q } (start N vs) H := by exact fun H vs Q E h=>fn_ok h):GX P w K mg base (k + 1) f fn := fnR_defX F S len hb (fun E=>cS K (WD E) b) W hq
end Am
namespace Am
open PySem PySem.Spec PyProof.Rows L2
section
variable {K:PySem.W.Frag} {W:WX} {ma mb:ME} {f:List D→AH→QE→Prop} {s:Sl} {A:AH}
def mLstRg1 (f:List D→AH→QE→Prop) (ma:ME):ME := fun s A Q E=>ma s A (fun y A2=>∃ j:Int,y = .int j∧RgOk 0 j∧f (intsD 0 (j - 0).toNat) A2 Q) E
theorem c_lstRg1 (mk:MkL K f):∀ σ H Q,cE K W (mLstRg1 f ma) σ H Q→tLstRg (tRg1 (cE K W ma)) σ H Q := fun σ H Q ⟨g,s,A,Qa,Ea,w,r,h,q,qx⟩ =>
 ⟨g,s,A,_,Ea,w,r,h,fun g2 A2 H2 y dy st2 w2 ry ⟨j,e2,e3,h2⟩=>by
  subst e2
  exact ⟨j,ry.int_,e3,fun p np=>mk g2 A2 H2 p _ _ Qa Q w2 np (reps_rg _) h2 (q.step st2)⟩,qx⟩
theorem pv_lstRg1 {j:Int} (h2:Pv mb s A (.int j)) (h:RgOk 0 j):Pv (mLstRg1 oldL mb) s A (.lst ((rng j).map en)) := fun Q E q=>h2 _ E ⟨j,rfl,h,by
 show Q (.lst (intsD 0 (j - 0).toNat)) A
 rw [Int.sub_zero,intsD_rng]
 exact q⟩
end
end Am
namespace Am
open PySem PySem.Spec PyProof.Rows L2
def strsB:List Value→List Str→Bool
 | [],[]=>true
 | .str y _ :: vs,x :: xs=>y == x && strsB vs xs
 | _,_=>false
theorem strsB_ok:∀ {vs:List Value} {xs:List Str},strsB vs xs=true→Vals (xs.map V.str) vs
 | [],[],_=>.nil
 | .str y t :: vs,x :: xs,h=>by
  unfold strsB at h
  rw [Bool.and_eq_true] at h
  have e:y=x := by simpa using h.1
  subst e
  exact .cons ⟨t,rfl⟩ (strsB_ok h.2)
def tupSB (K:PySem.W.Frag) (a:Addr) (xs:List Str):Bool := match K.lookup a with
 | some ⟨.type n,_, .seq its _,_⟩=>n == "tuple" && decide (its.size≤100) && strsB its.toList xs
 | _=>false
theorem tupSB_ok {K:PySem.W.Frag} {H:Hp} {a:Addr} {xs:List Str} (h:tupSB K a xs=true):SqT K H a (xs.map V.str) := by
 unfold tupSB at h
 split at h
 ·rename_i n od its m sl e
  rw [Bool.and_eq_true,Bool.and_eq_true] at h
  have h1:n = "tuple" := by simpa using h.1.1
  have h2:its.size≤100 := of_decide_eq_true h.1.2
  subst h1
  exact .inr ⟨_,its,m,e,rfl,rfl,Nat.le_trans h2 (by decide),strsB_ok h.2⟩
 ·cases h
def cvB (K:PySem.W.Frag) (C:Addr) (f:Str) (xs:List Str):Bool := PySem.W.readsIn K C (.type "type") && (PySem.W.specialIn K (.ref C) "__getattribute__" == some (some (.builtin "type.__getattribute__"))) && (match PySem.W.findCls K (.ref C) (.type "type") f with
 | some (.val (.ref a))=>tupSB K a xs
 | _=>false)
section
variable {X:Cx} {W:WX} {e:Expr} {f:Str} {pos:Pos} {C:Addr} {xs:List Str}
theorem reps_str {g:Sg}:∀ {xs:List Str},Reps X.K g (xs.map V.str) (xs.map D.str)
 | []=>.nil
 | x :: xs=>.cons (.str x) reps_str
theorem ae_cvT (he:PE X e (tC (V.ref C))) (h:cvB X.K C f xs=true) (hb:attributeBase e f X.env (eval e X.env)=eval e X.env := by rfl):PE X (.Attribute e f pos) (cE X.K W (mC (.ktup (xs.map D.str)))) := by
 unfold cvB at h
 rw [Bool.and_eq_true,Bool.and_eq_true,beq_iff_eq] at h
 obtain ⟨⟨h1,h2⟩,h3⟩ := h
 split at h3
 ·rename_i a e1
  refine ae_c (v := .ref a) (fun g=>.ktup (tupSB_ok h3) reps_str) (PE.weak (ClX.pe_cval he hb) fun σ H Q q=>?_)
  exact ⟨C, .type "type", .ref a, .ref a,rfl,⟨h1,h2⟩,⟨e1,rfl⟩,q⟩
 ·cases h3
end
end Am
namespace Am
open PySem PySem.Spec PyProof.Rows L2
end Am
namespace Am
open PySem PySem.Spec PyProof.Rows L2
end Am
namespace Am
open PySem PySem.Spec PyProof.Rows L2
end Am
namespace Am
open PySem PySem.Spec PyProof.Rows L2
end Am
namespace Am
open PySem PySem.Spec PyProof.Rows L2
section
variable {K:PySem.W.Frag}
def fExtend:FM := fun x ys A Q=>∃ n m xs zs,x = .ref n∧ys=[.ref m]∧A n=some (.lst xs)∧A m=some (.lst zs)∧xs.length + zs.length≤sizeLine∧Q .non (put A n (.lst (xs ++ zs)))
theorem ms_extend:MtS K rExtend fExtend := fun g A H x ys dx ds Qa Q w rx rs ⟨n,m,xs,zs,e1,e2,e3,e4,e5,h⟩ po=>by
 subst e1
 subst e2
 obtain ⟨a,vs,rfl,q1,q2,q3⟩ := w.nodeL rx e3
 obtain ⟨u,rfl,ru⟩ := rs.one
 obtain ⟨b,us,rfl,p1,p2,p3⟩ := w.nodeL ru e4
 obtain ⟨w2,st2⟩ := w.set (o := .lst (vs ++ us)) (y := .lst (xs ++ zs)) q1 e3 ⟨_,upd_same,q3.app p3⟩
 exact ⟨a,b,vs,us,rfl,rfl,q2,p2,by rw [q3.len,p3.len]; exact e5,po _ _ _ _ _ st2 w2 .non h⟩
end
end Am
namespace Am
open PySem PySem.Spec PyProof.Rows L2
end Am
namespace Am
open PySem PySem.Spec PyProof.Rows L2
end Am
namespace Am
open PySem PySem.Spec PyProof.Rows L2
section
variable {K:PySem.W.Frag} {W:WX} {s:Sl} {A:AH} {ma mb:ME}
def fMin2 (ds:List D) (A:AH) (Q:QE):Prop := ∃ i j:Int,ds=[.int i, .int j]∧Q (.int (if j < i then j else i)) A
theorem cs_min2:CallS K (fun xs H Q=>∃ i j,xs=[.int i, .int j]∧Q (.int (if j < i then j else i)) H) fMin2 := fun g A H xs ds Qa Q w r ⟨i,j,e,h⟩ q=>by
 subst e
 cases r with
 | cons ra r=>cases r with
  | cons rb r =>
   cases r
   exact ⟨i,j,by rw [ra.int_,rb.int_],q.now w (.int _) h⟩
theorem pb_min2 {i j:Int} {A:AH} {Q:QE} (q:Q (.int (if j < i then j else i)) A):fMin2 [.int i, .int j] A Q := ⟨i,j,rfl,q⟩
theorem pb_max2 {i j:Int} {A:AH} {Q:QE} (q:Q (.int (if j > i then j else i)) A):fMax2 [.int i, .int j] A Q := ⟨i,j,rfl,q⟩
end
end Am
namespace Fm
open PySem PySem.Spec PyProof.Rows L2
end Fm
namespace Am
open PySem PySem.Spec PyProof.Rows L2
end Am
namespace Fm
open PySem PySem.Spec PyProof.Rows L2
def FnG (P:Program) (w:World) (K:PySem.W.Frag) (mg:Str→Option Value) (base:Heap) (CX:CXT) (k:Nat) (f:Addr) (sp:Sp):Prop :=
 ∀ (A:Around) (fs:List Env) (s:Shared) (H:Hp) (us:List Value) (vs:List V) (Q:VK) (E:XK),A.guards=some []→Room k A→Env0 P w K mg base A fs s H→Vals vs us→sp vs H Q E →
  codeAny (model P w) A (.call (.ref f) { pos := us,kw := [] }) (CR CX fs P w H s Q E) s
section
variable {P:Program} {w:World} {K:PySem.W.Frag} {mg:Str→Option Value} {base:Heap} {CX:CXT} {j k:Nat} {f:Addr} {sp sp2:Sp}
theorem FnG.mono (F:FnG P w K mg base CX j f sp) (le:j≤k):FnG P w K mg base CX k f sp := fun A fs s H us vs Q E g hr=>F A fs s H us vs Q E g (hr.mono le)
end
end Fm
namespace Am
open PySem PySem.Spec PyProof.Rows L2 Fm
end Am
namespace Fm
open PySem PySem.Spec PyProof.Rows L2
end Fm
namespace Am
open PySem PySem.Spec PyProof.Rows L2
open Fm (rNeP rInt1)
section
variable {K:PySem.W.Frag} {s:Sl} {A:AH} {ma mb:ME} {b:Bool} {ns:List Int}
def fIntB (ds:List D) (A:AH) (Q:QE):Prop := ∃ b:Bool,ds=[.bl b]∧Q (.int (if b then 1 else 0)) A
theorem cs_intB:CallS K rInt1 fIntB := fun g A H xs ds Qa Q w rs ⟨b,e,h⟩ po=>by
 subst e
 obtain ⟨v,rfl,r⟩ := rs.one
 exact .inr ⟨b,by rw [r.bl_],po.now w (.int _) h⟩
theorem pb_intB:PB fIntB [.bl b] A (.int (if b then 1 else 0)) := fun Q q=>⟨b,rfl,q⟩
theorem dp_ints {H:Hp}:∀ {ns:List Int},DpAll K H (ns.map V.int) (ns.map PyData.int)
 | []=>.nil
 | n :: ns=>.cons (.int n) dp_ints
theorem plain_ints:∀ {ns:List Int},PyData.plainAll (ns.map PyData.int)=true
 | []=>rfl
 | n :: ns=>by
  rw [List.map_cons]
  unfold PyData.plainAll
  rw [plain_ints]
  rfl
def fNeS:F2 := fun x y A Q=>∃ ns,x = .scr ns∧y = .lst []∧Q (.bl (!ns.isEmpty)) A
theorem os_neS:OpS K (rNeP K) fNeS := fun g A H x y dx dy Qa Q w rx ry ⟨ns,e1,e2,h⟩ po=>by
 subst e1 e2
 refine ⟨.list (ns.map PyData.int), .list [], ?_,w.dp ry (p := .list []) rfl,plain_ints,rfl,Nat.le_trans (Nat.min_le_right _ _) (by decide),po.now w (.bl _) ?_⟩
 ·cases rx with
  | scr hS=>exact .lst (Sub.sql w.sub hS) dp_ints
 ·cases ns <;> exact h
theorem p2_neS:P2 fNeS (.scr ns) (.lst []) A (.bl (!ns.isEmpty)) := fun Q q=>⟨ns,rfl,rfl,q⟩
end
end Am
namespace Fm
open PySem PySem.Spec PyProof.Rows L2 ItX
end Fm
namespace Am
open PySem PySem.Spec PyProof.Rows L2
open PySem.W (Datum Tup T3 T4)
end Am
namespace Fm
open PySem PySem.Spec PyProof.Rows L2
def growI (acc:List Int) (z:Int):List Int := if z∈acc then acc else acc ++ [z]
def uniqI (zs:List Int):List Int := zs.foldl growI []
section
variable {prog:Program} {w:World} {A:Around} {R:Result→Shared→Prop} {it T:Addr} {fp wr:List Addr} {G:Array GenState→Array GenState→Prop} {n:Nat} {P:Nat→Value→Prop} {St:Nat→Shared→Prop} {zs:List Int}
def GotI (w:World) (zs:List Int) (T:Addr) (i:Nat) (h:Heap):Prop := SetR w h T (fun z=>decide (z∈zs.take i)) (uniqI (zs.take i)).length
theorem GotI.keep {i:Nat} {h h':Heap} (q:GotI w zs T i h) (k:∀ o,h.get? T=some o→h'.get? T=some o):GotI w zs T i h' := SetR.at q k
variable {l:Addr} {vs:Array Value} {s:Shared} {E:Value→Shared→Prop} {Q:Value→Shared→Prop}
end
def rSetL (K:PySem.W.Frag) (w:World):List V→Hp→VK→Prop := fun xs H Q=>∃ (l:Addr) (ns:List Int),xs=[.ref l]∧SqL K H l (ns.map V.int)∧ns.length≤100∧∀ p,H p=none→Q (.ref p) (upd H p (SetO w p (fun k=>decide (k∈ns)) (uniqI ns).length))
end Fm
namespace Am
open PySem PySem.Spec PyProof.Rows L2
open Fm (rSetL uniqI)
end Am
namespace Am
open PySem PySem.Spec PyProof.Rows L2
end Am
namespace Lw
open PySem PySem.Spec PyProof.Rows L2 Fm Am
open PySem.W (Datum Tup T3 T4)
abbrev css:List Str := ["Wishes","Schema","Pattern","Statement","Program"]
def ti_Schema:List (TyN × Bool) := [(.b "str",false),(.b "int",false),(.b "bool",false),(.b "NoneType",false),(.b "tuple",false),(.b "list",false),(.c "Wishes",false),(.c "Schema",true),(.c "Pattern",false),(.c "Statement",false),(.c "Program",false)]
def ti_str:List (TyN × Bool) := [(.b "str",true),(.b "int",false),(.b "bool",false),(.b "NoneType",false),(.b "tuple",false),(.b "list",false),(.c "Wishes",false),(.c "Schema",false),(.c "Pattern",false),(.c "Statement",false),(.c "Program",false)]
def ts_Schema:List TyN := [.b "str", .b "int", .b "bool", .b "NoneType", .b "tuple", .b "list", .c "Wishes", .c "Schema", .c "Pattern", .c "Statement", .c "Program"]
@[reducible] def b_is_word:MS :=
 (mRet (mAndV (mIsi ti_str (mVar 0)) (mAndV (mChain fLe fLe (mC (.int 1)) (mCB fLen (mCons (mVar 0) mNil)) (mC (.int 8))) (mCB fAll (mCons (mLc (mSeq (mVar 0)) (gN 1) mYes (mOp (fIn false) (mVar 1) (mC (.str "abcdefghijklmnopqrstuvwxyz"))) [1]) mNil)))))
def m_is_word:FN := mFn 1 2 b_is_word
@[reducible] def b_Schema_eq:MS :=
 (mRet (mAndV (mIsi ti_Schema (mVar 1)) (mAndV (mOp (fEq false) (mFld ["Schema"] "kind_entries" (mVar 0)) (mFld ["Schema"] "kind_entries" (mVar 1))) (mOp (fEq false) (mFld ["Schema"] "link_entries" (mVar 0)) (mFld ["Schema"] "link_entries" (mVar 1))))))
def m_Schema_eq:FN := mFn 2 2 b_Schema_eq
@[reducible] def b_clash:MS :=
 (mSq (mSet (mDc (mSeq (mFld ["Pattern"] "places" (mVar 0))) (gTp 3 (gCs (gN 4) (gCs (gN 5) (gCs (gN 6) gNl)))) mYes (mVar 4) (mTup (mCons (mVar 4) (mCons (mVar 5) (mCons (mVar 6) mNil)))) [4,5,6]) (gN 2))
  (mSq (mFor (mSeq (mFld ["Pattern"] "places" (mVar 1))) (gN 3) (mIfS (mB (mOp (fEq true) (mDGet2 (mVar 2) (mOp fIx (mVar 3) (mC (.int 0))) (mVar 3)) (mVar 3))) (mRet (mOp fIx (mVar 3) (mC (.int 0)))) mNext))
  (mRet (mC .non))))
def m_clash:FN := mFn 2 7 b_clash
@[reducible] def b_Pattern_init:MS :=
 (mSq (mSFld ["Pattern"] "places" (mVar 0) (mCB fTupOf (mCons (mVar 1) mNil)))
  (mSFld ["Schema","Pattern"] "links" (mVar 0) (mCB fTupOf (mCons (mVar 2) mNil))))
def m_Pattern_init:FN := mFn 3 3 b_Pattern_init
@[reducible] def b_Statement_init:MS :=
 (mSq (mSFld ["Statement"] "how" (mVar 0) (mVar 1))
  (mSFld ["Statement"] "pattern" (mVar 0) (mVar 2)))
def m_Statement_init:FN := mFn 3 3 b_Statement_init
@[reducible] def b_Program_placed:MS :=
 (mSq (mSet (mLst mNil) (gN 1))
  (mSq (mFor (mSeq (mFld ["Program"] "body" (mVar 0))) (gN 2) (mFor (mSeq (mFld ["Pattern"] "places" (mFld ["Statement"] "pattern" (mVar 2)))) (gN 3) (mIfS (mB (mOp (fIn true) (mVar 3) (mVar 1))) (mSet (mOp fAdd (mVar 1) (mLst (mCons (mVar 3) mNil))) (gN 1)) mNext)))
  (mRet (mCB fTupOf (mCons (mVar 1) mNil)))))
def m_Program_placed:FN := mFn 1 4 b_Program_placed
@[reducible] def b_Wishes_init:MS :=
 (mSFld ["Wishes"] "names" (mVar 0) (mCB fTupOf (mCons (mLc (mSeq (mC (.ktup [(.str "kept"),(.str "let"),(.str "clear"),(.str "full"),(.str "again"),(.str "order"),(.str "eager")]))) (gN 2) (mOr (mB (mOp (fEq false) (mVar 2) (mC (.str "kept")))) (mB (mOp (fIn false) (mVar 2) (mVar 1)))) (mVar 2) [2]) mNil)))
def m_Wishes_init:FN := mFn 2 3 b_Wishes_init
@[reducible] def b_Wishes_contains:MS :=
 (mRet (mOp (fIn false) (mVar 1) (mFld ["Wishes"] "names" (mVar 0))))
def m_Wishes_contains:FN := mFn 2 2 b_Wishes_contains
@[reducible] def b_column_groups:MS :=
 (mSq (mSet (mDcM (mSeq (mVar 0)) (gTp 3 (gCs (gN 2) (gCs (gN 3) (gCs (gN 4) gNl)))) mYes (mVar 4) (mVar 4) [2,3,4]) (gN 1))
  (mSq (mFor (mSeq (mVar 0)) (gTp 3 (gCs (gN 2) (gCs (gN 3) (gCs (gN 4) gNl)))) (mFor (mSeq (mVar 0)) (gTp 3 (gCs (gN 5) (gCs (gN 6) (gCs (gN 7) gNl)))) (mIfS (mAnd (mB (mOp (fEq false) (mVar 3) (mVar 6))) (mB (mOp (fEq true) (mDGet (mVar 1) (mVar 4)) (mDGet (mVar 1) (mVar 7))))) (mSq (mSet (mTup (mCons (mDGet (mVar 1) (mVar 4)) (mCons (mDGet (mVar 1) (mVar 7)) mNil))) (gTp 2 (gCs (gN 8) (gCs (gN 9) gNl))))
  (mSet (mLockE (mDcM (mKeys (mVar 1)) (gN 10) mYes (mVar 10) (mIf (mB (mOp (fEq false) (mDGet (mVar 1) (mVar 10)) (mVar 8))) (mVar 9) (mDGet (mVar 1) (mVar 10))) [10])) (gN 1))) mNext)))
  (mRet (mVar 1))))
def m_column_groups:FN := mFn 1 11 b_column_groups
@[reducible] def b_meet:MS :=
 (mSq (mLock (mFor (mKeys (mVar 0)) (gN 3) (mIfS (mB (mOp (fIn false) (mOp fIx (mVar 2) (mVar 3)) (mLc (mKeys (mVar 0)) (gN 4) (mB (mOp (fEq false) (mDGet (mVar 0) (mVar 4)) (mDGet (mVar 0) (mVar 3)))) (mOp fIx (mVar 1) (mVar 4)) [4]))) (mRet (mC (.bl true))) mNext)))
  (mRet (mC (.bl false))))
def m_meet:FN := mFn 3 5 b_meet
def m_law_pool:FN := fPool
def m_law_draw:FN := fDraw
@[reducible] def b_law_groups:MS :=
 (mSq (mSet (mDNew (.dK [])) (gN 1))
  (mSq (mFor (mSeq (mVar 0)) (gTp 3 (gCs (gN 2) (gCs (gN 3) (gCs (gN 4) gNl)))) (mDPut (mVar 1) (mVar 4) (mVar 4)))
  (mSq (mFor (mRng1 (mCons (mC (.int 4)) mNil)) (gN 5) (mFor (mSeq (mVar 0)) (gTp 3 (gCs (gN 2) (gCs (gN 3) (gCs (gN 4) gNl)))) (mFor (mSeq (mVar 0)) (gTp 3 (gCs (gN 6) (gCs (gN 7) (gCs (gN 8) gNl)))) (mIfS (mB (mOp (fEq false) (mVar 3) (mVar 7))) (mSq (mSet (mCB fMin2 (mCons (mDGet (mVar 1) (mVar 4)) (mCons (mDGet (mVar 1) (mVar 8)) mNil))) (gN 9))
  (mSq (mDPut (mVar 1) (mVar 4) (mVar 9))
  (mDPut (mVar 1) (mVar 8) (mVar 9)))) mNext))))
  (mRet (mVar 1)))))
def m_law_groups:FN := mFn 1 10 b_law_groups
@[reducible] def b_law_meets:MS :=
 (mSq (mLock (mFor (mKeys (mVar 0)) (gN 3) (mFor (mKeys (mVar 0)) (gN 4) (mIfS (mAnd (mB (mOp (fEq false) (mDGet (mVar 0) (mVar 3)) (mDGet (mVar 0) (mVar 4)))) (mB (mOp (fEq false) (mOp fIx (mVar 1) (mVar 4)) (mOp fIx (mVar 2) (mVar 3))))) (mRet (mC (.bl true))) mNext))))
  (mRet (mC (.bl false))))
def m_law_meets:FN := mFn 3 5 b_law_meets
@[reducible] def b_law_numbered:MS :=
 (mSq (mSet (mDNew (.dK [])) (gN 2))
  (mSq (mLock (mFor (mKeys (mVar 0)) (gN 3) (mDPut (mVar 2) (mDGet (mVar 0) (mVar 3)) (mLstM mNil))))
  (mSq (mSet (mLstM mNil) (gN 4))
  (mSq (mFor (mSeq (mVar 1)) (gN 5) (mSq (mSet (mLstM mNil) (gN 6))
  (mSq (mFor (mEnumT (mCons (mVar 5) mNil)) (gTp 2 (gCs (gN 3) (gCs (gN 7) gNl))) (mIfS (mB (mDIn false (mVar 3) (mVar 0))) (mSq (mSet (mDGet (mVar 2) (mDGet (mVar 0) (mVar 3))) (gN 8))
  (mSq (mIfS (mB (mOp (fIn true) (mVar 7) (mVar 8))) (mDrop (mBM fAppend (mVar 8) (mCons (mVar 7) mNil))) mNext)
  (mDrop (mBM fAppend (mVar 6) (mCons (mBM fIndex (mVar 8) (mCons (mVar 7) mNil)) mNil))))) (mDrop (mBM fAppend (mVar 6) (mCons (mC (.int 0)) mNil)))))
  (mDrop (mBM fAppend (mVar 4) (mCons (mCB fTupOf (mCons (mVar 6) mNil)) mNil))))))
  (mRet (mFz (mVar 4)))))))
def m_law_numbered:FN := mFn 2 9 b_law_numbered
@[reducible] def b_plain_lists_of:MS :=
 (mSq (mSet (mCall m_column_groups (mCons (mVar 0) mNil)) (gN 3))
  (mSq (mSet (mCB fMax2 (mCons (mC (.int 1)) (mCons (mVar 1) mNil))) (gN 4))
  (mSq (mSet (mOp fRepL (mLstRg1 oldL (mVar 4)) (mVar 2)) (gN 5))
  (mSq (mSet (mLstM (mCons (mLst mNil) mNil)) (gN 6))
  (mSq (mFor (mSeq (mVar 5)) (gN 7) (mSq (mSet (mLstM mNil) (gN 8))
  (mSq (mFor (mSeq (mCB fList (mCons (mVar 6) mNil))) (gN 9) (mSq (mSet (mLc (mZip (mCons (mVar 9) (mCons (mVar 5) mNil))) (gTp 2 (gCs (gN 13) (gCs (gN 14) gNl))) (mAnd (mB (mDIn false (mVar 14) (mVar 3))) (mAnd (mB (mDIn false (mVar 7) (mVar 3))) (mB (mOp (fEq false) (mDGet (mVar 3) (mVar 14)) (mDGet (mVar 3) (mVar 7)))))) (mVar 13) [13,14]) (gN 10))
  (mSq (mSet (mIf (mB (mDIn false (mVar 7) (mVar 3))) (mOp fAdd (mOp fAdd (mC (.int 1)) (mCB fMax (mCons (mOp fAdd (mLst (mCons (mUn fNeg (mC (.int 1))) mNil)) (mVar 10)) mNil))) (mC (.int 1))) (mC (.int 1))) (gN 11))
  (mDrop (mBM fExtend (mVar 8) (mCons (mLcM (mRng1 (mCons (mVar 11) mNil)) (gN 13) mYes (mOp fAdd (mVar 9) (mLst (mCons (mVar 13) mNil))) [13]) mNil))))))
  (mSet (mVar 8) (gN 6)))))
  (mSq (mIfS (mB (mOp (fEq false) (mVar 2) (mC (.int 1)))) (mRet (mLc (mSeq (mVar 6)) (gN 9) mYes (mTup (mCons (mCB fTupOf (mCons (mVar 9) mNil)) mNil)) [9])) mNext)
  (mSq (mSet (mLc (mSeq (mVar 6)) (gN 9) mYes (mTup (mCons (mCB fTupOf (mCons (mSl (mVar 9) mNoPart (mPart (mVar 4))) mNil)) (mCons (mCB fTupOf (mCons (mSl (mVar 9) (mPart (mVar 4)) mNoPart) mNil)) mNil))) [9]) (gN 12))
  (mRet (mLc (mSeq (mVar 12)) (gN 15) (mB (mCall m_meet (mCons (mVar 3) (mCons (mOp fIx (mVar 15) (mC (.int 0))) (mCons (mOp fIx (mVar 15) (mC (.int 1))) mNil))))) (mVar 15) [15])))))))))
def m_plain_lists_of:FN := mFn 3 16 b_plain_lists_of
@[reducible] def b_law_word:MS :=
 (mSq (mSet (mC (.str "abcdefghijklmnopqrstuvwxyz")) (gN 2))
  (mSq (mSet (mOp fAdd (mC (.int 1)) (mCall m_law_draw (mCons (mVar 0) (mCons (mC (.int 8)) mNil)))) (gN 3))
  (mSq (mSet (mJoin (mC (.str "")) (mLc (mRng1 (mCons (mVar 3) mNil)) (gN 5) mYes (mOp fIx (mVar 2) (mCall m_law_draw (mCons (mVar 0) (mCons (mC (.int 26)) mNil)))) [5])) (gN 4))
  (mSq (mIfS (mB (mOp (fIn false) (mVar 4) (mVar 1))) (mSet (mOp fIx (mLc (mSeq (mVar 2)) (gN 6) (mB (mOp (fIn true) (mOp fAdd (mSl (mVar 4) mNoPart (mPart (mC (.int 7)))) (mVar 6)) (mVar 1))) (mOp fAdd (mSl (mVar 4) mNoPart (mPart (mC (.int 7)))) (mVar 6)) [6]) (mC (.int 0))) (gN 4)) mNext)
  (mRet (mVar 4))))))
def m_law_word:FN := mFn 2 7 b_law_word
@[reducible] def b_law_keys:MS :=
 (mSq (mSet (mLstM mNil) (gN 1))
  (mSq (mFor (mRng1 (mCons (mOp fAdd (mC (.int 1)) (mCall m_law_draw (mCons (mVar 0) (mCons (mC (.int 4)) mNil)))) mNil)) (gN 2) (mSq (mSet (mCall m_law_draw (mCons (mVar 0) (mCons (mC (.int 2)) mNil))) (gN 3))
  (mDrop (mBM fAppend (mVar 1) (mCons (mIf (mB (mOp (fEq false) (mVar 3) (mC (.int 0)))) (mCall m_law_draw (mCons (mVar 0) (mCons (mC (.int 3)) mNil))) (mCall m_law_draw (mCons (mVar 0) (mCons (mOp fAdd (mOp fPow (mC (.int 10)) (mC (.int 18))) (mC (.int 1))) mNil)))) mNil)))))
  (mRet (mFz (mVar 1)))))
def m_law_keys:FN := mFn 1 4 b_law_keys
@[reducible] def b_law_statements:MS :=
 (mSq (mSet (mLstM mNil) (gN 4))
  (mSq (mFor (mRng1 (mCons (mOp fAdd (mC (.int 1)) (mCall m_law_draw (mCons (mVar 0) (mCons (mVar 3) mNil)))) mNil)) (gN 5) (mSq (mSet (mLc (mSeq (mVar 2)) (gN 14) (mB (mOp fGt (mCall m_law_draw (mCons (mVar 0) (mCons (mC (.int 3)) mNil))) (mC (.int 0)))) (mVar 14) [14]) (gN 6))
  (mSq (mIfS (mB (mOp (fEq false) (mVar 6) (mLst mNil))) (mSet (mLst (mCons (mOp fIx (mVar 2) (mCall m_law_draw (mCons (mVar 0) (mCons (mCB fLen (mCons (mVar 2) mNil)) mNil)))) mNil)) (gN 6)) mNext)
  (mSq (mIfS (mB (mOp (fEq false) (mCall m_law_draw (mCons (mVar 0) (mCons (mC (.int 2)) mNil))) (mC (.int 1)))) (mSet (mRev (mVar 6)) (gN 6)) mNext)
  (mSq (mSet (mLstM mNil) (gN 7))
  (mSq (mFor (mSeq (mVar 1)) (gTp 4 (gCs (gN 8) (gCs (gN 9) (gCs (gN 10) (gCs (gN 11) gNl))))) (mSq (mSet (mLc (mSeq (mVar 6)) (gN 14) (mB (mOp (fEq false) (mOp fIx (mVar 14) (mC (.int 1))) (mVar 9))) (mOp fIx (mVar 14) (mC (.int 0))) [14]) (gN 12))
  (mSq (mSet (mLc (mSeq (mVar 6)) (gN 14) (mB (mOp (fEq false) (mOp fIx (mVar 14) (mC (.int 1))) (mVar 10))) (mOp fIx (mVar 14) (mC (.int 0))) [14]) (gN 13))
  (mIfS (mAnd (mB (mOp (fEq true) (mVar 12) (mLst mNil))) (mAnd (mB (mOp (fEq true) (mVar 13) (mLst mNil))) (mB (mOp fGt (mCall m_law_draw (mCons (mVar 0) (mCons (mC (.int 3)) mNil))) (mC (.int 0)))))) (mDrop (mBM fAppend (mVar 7) (mCons (mTup (mCons (mVar 8) (mCons (mOp fIx (mVar 12) (mCall m_law_draw (mCons (mVar 0) (mCons (mCB fLen (mCons (mVar 12) mNil)) mNil)))) (mCons (mOp fIx (mVar 13) (mCall m_law_draw (mCons (mVar 0) (mCons (mCB fLen (mCons (mVar 13) mNil)) mNil)))) mNil)))) mNil))) mNext))))
  (mDrop (mBM fAppend (mVar 4) (mCons (mTup (mCons (mOp fIx (mLst (mCons (mC (.str "find")) (mCons (mC (.str "make")) (mCons (mC (.str "both")) (mCons (mC (.str "both")) mNil))))) (mCall m_law_draw (mCons (mVar 0) (mCons (mC (.int 4)) mNil)))) (mCons (mVar 6) (mCons (mFz (mVar 7)) mNil)))) mNil)))))))))
  (mRet (mFz (mVar 4)))))
def m_law_statements:FN := mFn 4 15 b_law_statements
@[reducible] def b_law_rows:MS :=
 (mSq (mSet (mCB fMax2 (mCons (mC (.int 1)) (mCons (mVar 2) mNil))) (gN 4))
  (mRet (mLc (mRng1 (mCons (mVar 3) mNil)) (gN 5) mYes (mCB fTupOf (mCons (mLc (mRng1 (mCons (mVar 4) mNil)) (gN 6) mYes (mOp fIx (mVar 1) (mCall m_law_draw (mCons (mVar 0) (mCons (mCB fLen (mCons (mVar 1) mNil)) mNil)))) [6]) mNil)) [5])))
def m_law_rows:FN := mFn 4 7 b_law_rows
@[reducible] def b_check_names:MS :=
 (mSq (mSet (mLstM mNil) (gN 2))
  (mSq (mFor (mEnum (mCons (mVar 0) mNil)) (gTp 2 (gCs (gN 3) (gCs (gTp 3 (gCs (gN 4) (gCs (gN 5) (gCs (gN 6) gNl)))) gNl))) (mSq (mIfS (mOr (mNot (mB (mCall m_is_word (mCons (mVar 4) mNil)))) (mB (mOp (fIn false) (mVar 4) (mVar 2)))) (mRz1 "BadSchema" "at" (mVar 3)) mNext)
  (mSq (mIfS (mOr (mB (mOp (fIn true) (mVar 5) (mTup (mCons (mC (.str "loose")) (mCons (mC (.str "once")) (mCons (mC (.str "under")) mNil)))))) (mB (mOp (fEq true) (mOp fIsN (mVar 6) (mC .non)) (mOp (fEq true) (mVar 5) (mC (.str "under")))))) (mRz1 "BadSchema" "at" (mVar 3)) mNext)
  (mDrop (mBM fAppend (mVar 2) (mCons (mVar 4) mNil))))))
  (mSq (mSet (mCB fList (mCons (mVar 2) mNil)) (gN 7))
  (mFor (mEnum (mCons (mVar 1) mNil)) (gTp 2 (gCs (gN 3) (gCs (gTp 4 (gCs (gN 4) (gCs (gN 8) (gCs (gN 9) (gCs (gN 5) gNl))))) gNl))) (mSq (mIfS (mOr (mNot (mB (mCall m_is_word (mCons (mVar 4) mNil)))) (mOr (mB (mOp (fIn false) (mVar 4) (mVar 2))) (mB (mOp (fIn true) (mVar 5) (mTup (mCons (mC (.str "loose")) (mCons (mC (.str "once")) mNil))))))) (mRz1 "BadSchema" "at" (mOp fAdd (mCB fLen (mCons (mVar 0) mNil)) (mVar 3))) mNext)
  (mSq (mIfS (mOr (mB (mOp (fIn true) (mVar 8) (mVar 7))) (mB (mOp (fIn true) (mVar 9) (mVar 7)))) (mRz1 "BadSchema" "at" (mOp fAdd (mCB fLen (mCons (mVar 0) mNil)) (mVar 3))) mNext)
  (mDrop (mBM fAppend (mVar 2) (mCons (mVar 4) mNil)))))))))
def m_check_names:FN := mFn 2 10 b_check_names
@[reducible] def b_check_owners:MS :=
 (mSq (mSet (mDc (mSeq (mVar 0)) (gTp 3 (gCs (gN 4) (gCs (gN 5) (gCs (gN 6) gNl)))) mYes (mVar 4) (mVar 5) [4,5,6]) (gN 2))
  (mFor (mEnum (mCons (mVar 0) mNil)) (gTp 2 (gCs (gN 3) (gCs (gTp 3 (gCs (gN 4) (gCs (gN 5) (gCs (gN 6) gNl)))) gNl))) (mIfS (mB (mOp (fEq false) (mVar 5) (mC (.str "under")))) (mSq (mSet (mLc (mSeq (mVar 1)) (gTp 4 (gCs (gN 8) (gCs (gN 9) (gCs (gN 10) (gCs (gN 11) gNl))))) (mAnd (mB (mOp (fEq false) (mVar 8) (mVar 6))) (mB (mOp (fEq false) (mVar 10) (mVar 4)))) (mVar 9) [8,9,10,11]) (gN 7))
  (mIfS (mOr (mNot (mTru (mVar 7))) (mB (mOp (fEq false) (mDGet (mVar 2) (mOp fIx (mVar 7) (mC (.int 0)))) (mC (.str "under"))))) (mRz1 "BadSchema" "at" (mVar 3)) mNext)) mNext)))
def m_check_owners:FN := mFn 2 12 b_check_owners
@[reducible] def b_Pattern_place:MS :=
 (mSq (mIfS (mOr (mNot (mB (mCall m_is_word (mCons (mVar 0) mNil)))) (mOr (mNot (mB (mCall m_is_word (mCons (mVar 1) mNil)))) (mNot (mB (mChain fLe fLe (mC (.int 0)) (mVar 2) (mC (.int 3))))))) (mRz1 "BadPattern" "name" (mVar 0)) mNext)
  (mRet (mMakeD "Pattern" m_Pattern_init (mCons (mLst (mCons (mTup (mCons (mVar 0) (mCons (mVar 1) (mCons (mVar 2) mNil)))) mNil)) (mCons (mLst mNil) mNil)))))
def m_Pattern_place:FN := mFn 3 3 b_Pattern_place
@[reducible] def b_Pattern_or:MS :=
 (mSq (mSet (mCall m_clash (mCons (mVar 0) (mCons (mVar 1) mNil))) (gN 2))
  (mSq (mIfS (mB (mOp fNotN (mVar 2) (mC .non))) (mRz1 "BadPattern" "name" (mVar 2)) mNext)
  (mSq (mSet (mLc (mSeq (mFld ["Pattern"] "places" (mVar 1))) (gN 5) (mB (mOp (fIn true) (mVar 5) (mFld ["Pattern"] "places" (mVar 0)))) (mVar 5) [5]) (gN 3))
  (mSq (mSet (mLc (mSeq (mFld ["Schema","Pattern"] "links" (mVar 1))) (gN 6) (mB (mOp (fIn true) (mVar 6) (mFld ["Pattern"] "links" (mVar 0)))) (mVar 6) [6]) (gN 4))
  (mRet (mMakeD "Pattern" m_Pattern_init (mCons (mLst (mStar (mFld ["Pattern"] "places" (mVar 0)) (mStar (mVar 3) mNil))) (mCons (mLst (mStar (mFld ["Pattern"] "links" (mVar 0)) (mStar (mVar 4) mNil))) mNil))))))))
def m_Pattern_or:FN := mFn 2 7 b_Pattern_or
@[reducible] def b_check_statements:MS :=
 (mSq (mSet (mDNew (.dK [])) (gN 2))
  (mFor (mEnum (mCons (mVar 1) mNil)) (gTp 2 (gCs (gN 3) (gCs (gN 4) gNl))) (mSq (mSet (mDNew (.dK [])) (gN 5))
  (mSq (mFor (mSeq (mFld ["Pattern"] "places" (mFld ["Statement"] "pattern" (mVar 4)))) (gN 6) (mSq (mIfS (mOr (mB (mDIn true (mOp fIx (mVar 6) (mC (.int 1))) (mFld ["Schema"] "kind_codes" (mVar 0)))) (mB (mOp (fEq true) (mDGet2 (mVar 2) (mOp fIx (mVar 6) (mC (.int 0))) (mVar 6)) (mVar 6)))) (mRz2 "Misfit" "at" "part" (mVar 3) (mOp fIx (mVar 6) (mC (.int 0)))) mNext)
  (mDPut (mVar 5) (mOp fIx (mVar 6) (mC (.int 0))) (mVar 6))))
  (mSq (mFor (mSeq (mFld ["Schema","Pattern"] "links" (mFld ["Statement"] "pattern" (mVar 4)))) (gTp 3 (gCs (gN 7) (gCs (gN 8) (gCs (gN 9) gNl)))) (mIfS (mOr (mB (mDIn true (mVar 7) (mFld ["Schema"] "link_codes" (mVar 0)))) (mB (mOp (fEq true) (mDGet (mFld ["Schema"] "spans" (mVar 0)) (mVar 7)) (mTup (mCons (mOp fIx (mDGet (mVar 5) (mVar 8)) (mC (.int 1))) (mCons (mOp fIx (mDGet (mVar 5) (mVar 9)) (mC (.int 1))) mNil)))))) (mRz2 "Misfit" "at" "part" (mVar 3) (mVar 7)) mNext))
  (mLock (mFor (mKeys (mVar 5)) (gN 7) (mDPut (mVar 2) (mVar 7) (mDGet (mVar 5) (mVar 7))))))))))
def m_check_statements:FN := mFn 2 10 b_check_statements
@[reducible] def b_Program_width:MS :=
 (mRet (mCB fMax (mCons (mOp fAdd (mLst (mCons (mC (.int 0)) mNil)) (mLc (mSeq (mProp "Program" m_Program_placed (mVar 0))) (gTp 3 (gCs (gN 1) (gCs (gN 2) (gCs (gN 3) gNl)))) mYes (mOp fAdd (mVar 3) (mC (.int 1))) [1,2,3])) mNil)))
def m_Program_width:FN := mFn 1 4 b_Program_width
@[reducible] def b_Wishes_of:MS :=
 (mSq (mFor (mSeq (mLst (mCons (mVar 0) (mStar (mVar 1) mNil)))) (gN 2) (mIfS (mB (mOp (fIn true) (mVar 2) (mC (.ktup [(.str "kept"),(.str "let"),(.str "clear"),(.str "full"),(.str "again"),(.str "order"),(.str "eager")])))) (mRz1 "Unknown" "name" (mVar 2)) mNext))
  (mRet (mMakeD "Wishes" m_Wishes_init (mCons (mLst (mCons (mVar 0) (mStar (mVar 1) mNil))) mNil))))
def m_Wishes_of:FN := mStarFn 1 (mFn (1 + 1) 3 b_Wishes_of)
@[reducible] def b_law_schema:MS :=
 (mSq (mSet (mLstM mNil) (gN 2))
  (mSq (mFor (mRng1 (mCons (mOp fAdd (mC (.int 1)) (mCall m_law_draw (mCons (mVar 0) (mCons (mVar 1) mNil)))) mNil)) (gN 3) (mDrop (mBM fAppend (mVar 2) (mCons (mCall m_law_word (mCons (mVar 0) (mCons (mVar 2) mNil))) mNil))))
  (mSq (mSet (mLcM (mSeq (mVar 2)) (gN 9) mYes (mOp fIx (mLst (mCons (mC (.str "loose")) (mCons (mC (.str "once")) (mCons (mC (.str "under")) mNil)))) (mCall m_law_draw (mCons (mVar 0) (mCons (mC (.int 3)) mNil)))) [9]) (gN 4))
  (mSq (mIfS (mAnd (mB (mOp (fIn true) (mC (.str "loose")) (mVar 4))) (mB (mOp (fIn true) (mC (.str "once")) (mVar 4)))) (mLPut (mVar 4) (mCall m_law_draw (mCons (mVar 0) (mCons (mCB fLen (mCons (mVar 4) mNil)) mNil))) (mOp fIx (mLst (mCons (mC (.str "loose")) (mCons (mC (.str "once")) mNil))) (mCall m_law_draw (mCons (mVar 0) (mCons (mC (.int 2)) mNil))))) mNext)
  (mSq (mSet (mLc (mEnum (mCons (mVar 2) mNil)) (gTp 2 (gCs (gN 3) (gCs (gN 9) gNl))) (mB (mOp (fEq true) (mOp fIx (mVar 4) (mVar 3)) (mC (.str "under")))) (mVar 9) [3,9]) (gN 5))
  (mSq (mSet (mLstM mNil) (gN 6))
  (mSq (mSet (mLstM mNil) (gN 7))
  (mSq (mSet (mCB fListM (mCons (mVar 2) mNil)) (gN 8))
  (mSq (mFor (mEnum (mCons (mVar 2) mNil)) (gTp 2 (gCs (gN 3) (gCs (gN 9) gNl))) (mIfS (mB (mOp (fEq false) (mOp fIx (mVar 4) (mVar 3)) (mC (.str "under")))) (mSq (mDrop (mBM fAppend (mVar 8) (mCons (mCall m_law_word (mCons (mVar 0) (mCons (mVar 8) mNil))) mNil)))
  (mSq (mDrop (mBM fAppend (mVar 7) (mCons (mTup (mCons (mOp fIx (mVar 8) (mUn fNeg (mC (.int 1)))) (mCons (mOp fIx (mVar 5) (mCall m_law_draw (mCons (mVar 0) (mCons (mCB fLen (mCons (mVar 5) mNil)) mNil)))) (mCons (mVar 9) (mCons (mOp fIx (mLst (mCons (mC (.str "loose")) (mCons (mC (.str "once")) mNil))) (mCall m_law_draw (mCons (mVar 0) (mCons (mC (.int 2)) mNil)))) mNil))))) mNil)))
  (mDrop (mBM fAppend (mVar 6) (mCons (mTup (mCons (mVar 9) (mCons (mC (.str "under")) (mCons (mOp fIx (mVar 8) (mUn fNeg (mC (.int 1)))) mNil)))) mNil))))) (mDrop (mBM fAppend (mVar 6) (mCons (mTup (mCons (mVar 9) (mCons (mOp fIx (mVar 4) (mVar 3)) (mCons (mC .non) mNil)))) mNil)))))
  (mSq (mFor (mRng1 (mCons (mCall m_law_draw (mCons (mVar 0) (mCons (mOp fSub (mC (.int 7)) (mCB fLen (mCons (mVar 7) mNil))) mNil))) mNil)) (gN 3) (mSq (mDrop (mBM fAppend (mVar 8) (mCons (mCall m_law_word (mCons (mVar 0) (mCons (mVar 8) mNil))) mNil)))
  (mSq (mSet (mOp fIx (mVar 2) (mCall m_law_draw (mCons (mVar 0) (mCons (mCB fLen (mCons (mVar 2) mNil)) mNil)))) (gN 10))
  (mSq (mSet (mOp fIx (mVar 2) (mCall m_law_draw (mCons (mVar 0) (mCons (mCB fLen (mCons (mVar 2) mNil)) mNil)))) (gN 11))
  (mDrop (mBM fAppend (mVar 7) (mCons (mTup (mCons (mOp fIx (mVar 8) (mUn fNeg (mC (.int 1)))) (mCons (mVar 10) (mCons (mVar 11) (mCons (mOp fIx (mLst (mCons (mC (.str "loose")) (mCons (mC (.str "once")) mNil))) (mCall m_law_draw (mCons (mVar 0) (mCons (mC (.int 2)) mNil)))) mNil))))) mNil)))))))
  (mSq (mSet (mCall m_law_draw (mCons (mVar 0) (mCons (mOp fAdd (mCB fLen (mCons (mVar 7) mNil)) (mC (.int 1))) mNil))) (gN 12))
  (mRet (mTup (mCons (mFz (mVar 6)) (mCons (mOp fAdd (mSl (mVar 7) (mPart (mVar 12)) mNoPart) (mSl (mVar 7) mNoPart (mPart (mVar 12)))) mNil)))))))))))))))
def m_law_schema:FN := mFn 2 13 b_law_schema
@[reducible] def b_law_few:MS :=
 (mSq (mSet (mLstM mNil) (gN 4))
  (mSq (mFor (mRng1 (mCons (mOp fAdd (mC (.int 1)) (mCall m_law_draw (mCons (mVar 0) (mCons (mVar 2) mNil)))) mNil)) (gN 5) (mSq (mSet (mOp fIx (mOp fIx (mVar 1) (mCall m_law_draw (mCons (mVar 0) (mCons (mCB fLen (mCons (mVar 1) mNil)) mNil)))) (mC (.int 0))) (gN 6))
  (mSq (mSet (mCall m_law_draw (mCons (mVar 0) (mCons (mVar 3) mNil))) (gN 7))
  (mIfS (mB (mOp (fEq false) (mLc (mSeq (mVar 4)) (gN 8) (mAnd (mB (mOp (fEq false) (mOp fIx (mVar 8) (mC (.int 1))) (mVar 6))) (mB (mOp (fEq false) (mOp fIx (mVar 8) (mC (.int 2))) (mVar 7)))) (mVar 8) [8]) (mLst mNil))) (mDrop (mBM fAppend (mVar 4) (mCons (mTup (mCons (mCall m_law_word (mCons (mVar 0) (mCons (mLc (mSeq (mVar 4)) (gN 8) mYes (mOp fIx (mVar 8) (mC (.int 0))) [8]) mNil))) (mCons (mVar 6) (mCons (mVar 7) mNil)))) mNil))) mNext))))
  (mRet (mFz (mVar 4)))))
def m_law_few:FN := mFn 4 9 b_law_few
@[reducible] def b_Schema_init:MS :=
 (mSq (mDrop (mCall m_check_names (mCons (mVar 1) (mCons (mVar 2) mNil))))
  (mSq (mIfS (mOr (mNot (mB (mChain fLe fLe (mC (.int 1)) (mCB fLen (mCons (mVar 1) mNil)) (mC (.int 4))))) (mB (mOp fGt (mCB fLen (mCons (mVar 2) mNil)) (mC (.int 6))))) (mRz1 "BadSchema" "at" (mC .non)) mNext)
  (mSq (mDrop (mCall m_check_owners (mCons (mVar 1) (mCons (mVar 2) mNil))))
  (mSq (mSFld ["Schema"] "kind_entries" (mVar 0) (mCB fTupOf (mCons (mVar 1) mNil)))
  (mSq (mSFld ["Schema"] "link_entries" (mVar 0) (mCB fTupOf (mCons (mVar 2) mNil)))
  (mSq (mSFld ["Schema"] "kinds" (mVar 0) (mCB fTupOf (mCons (mLc (mSeq (mVar 1)) (gTp 3 (gCs (gN 3) (gCs (gN 6) (gCs (gN 7) gNl)))) mYes (mVar 3) [3,6,7]) mNil)))
  (mSq (mSFld ["Schema","Pattern"] "links" (mVar 0) (mCB fTupOf (mCons (mLc (mSeq (mVar 2)) (gTp 4 (gCs (gN 3) (gCs (gN 4) (gCs (gN 5) (gCs (gN 6) gNl))))) mYes (mVar 3) [3,4,5,6]) mNil)))
  (mSq (mSFld ["Schema"] "rules" (mVar 0) (mDcM (mSeq (mVar 1)) (gTp 3 (gCs (gN 3) (gCs (gN 6) (gCs (gN 7) gNl)))) mYes (mVar 3) (mVar 6) [3,6,7]))
  (mSq (mSFld ["Schema"] "spans" (mVar 0) (mDNew (.dK [])))
  (mSq (mFor (mSeq (mVar 2)) (gTp 4 (gCs (gN 3) (gCs (gN 4) (gCs (gN 5) (gCs (gN 6) gNl))))) (mSq (mDPut (mFld ["Schema"] "rules" (mVar 0)) (mVar 3) (mVar 6))
  (mDPut (mFld ["Schema"] "spans" (mVar 0)) (mVar 3) (mTup (mCons (mVar 4) (mCons (mVar 5) mNil))))))
  (mSq (mSFld ["Schema"] "owners" (mVar 0) (mDNew (.dK [])))
  (mSq (mFor (mSeq (mVar 1)) (gTp 3 (gCs (gN 3) (gCs (gN 6) (gCs (gN 7) gNl)))) (mDPut (mFld ["Schema"] "owners" (mVar 0)) (mVar 3) (mIf (mB (mOp fIsN (mVar 7) (mC .non))) (mC .non) (mTup (mCons (mVar 7) (mCons (mOp fIx (mDGet (mFld ["Schema"] "spans" (mVar 0)) (mVar 7)) (mC (.int 0))) mNil))))))
  (mSq (mSFld ["Schema"] "kind_codes" (mVar 0) (mDc (mEnumT (mCons (mFld ["Schema"] "kinds" (mVar 0)) mNil)) (gTp 2 (gCs (gN 8) (gCs (gN 3) gNl))) mYes (mVar 3) (mVar 8) [8,3]))
  (mSFld ["Schema"] "link_codes" (mVar 0) (mDc (mEnumT (mCons (mFld ["Schema"] "links" (mVar 0)) mNil)) (gTp 2 (gCs (gN 8) (gCs (gN 3) gNl))) mYes (mVar 3) (mVar 8) [8,3])))))))))))))))
def m_Schema_init:FN := mFn 3 9 b_Schema_init
@[reducible] def b_Pattern_rshift:MS :=
 (mSq (mSet (mVar 1) (gTp 2 (gCs (gN 2) (gCs (gN 3) gNl))))
  (mSq (mIfS (mOr (mNot (mB (mCall m_is_word (mCons (mVar 2) mNil)))) (mOr (mB (mOp (fEq false) (mFld ["Pattern"] "places" (mVar 0)) (mTup mNil))) (mB (mOp (fEq false) (mFld ["Pattern"] "places" (mVar 3)) (mTup mNil))))) (mRz1 "BadPattern" "name" (mVar 2)) mNext)
  (mSq (mSet (mOwn "Pattern" m_Pattern_or (mVar 0) (mVar 3)) (gN 4))
  (mSq (mSet (mTup (mCons (mVar 2) (mCons (mOp fIx (mOp fIx (mFld ["Pattern"] "places" (mVar 0)) (mUn fNeg (mC (.int 1)))) (mC (.int 0))) (mCons (mOp fIx (mOp fIx (mFld ["Pattern"] "places" (mVar 3)) (mC (.int 0))) (mC (.int 0))) mNil)))) (gN 5))
  (mSq (mSet (mOp fIx (mFld ["Pattern"] "places" (mVar 3)) (mUn fNeg (mC (.int 1)))) (gN 6))
  (mSq (mSet (mLc (mSeq (mFld ["Pattern"] "places" (mVar 4))) (gN 9) (mB (mOp (fEq true) (mVar 9) (mVar 6))) (mVar 9) [9]) (gN 7))
  (mSq (mSet (mLc (mSeq (mFld ["Schema","Pattern"] "links" (mVar 4))) (gN 10) mYes (mVar 10) [10]) (gN 8))
  (mSq (mIfS (mB (mOp (fIn true) (mVar 5) (mVar 8))) (mSet (mOp fAdd (mVar 8) (mLst (mCons (mVar 5) mNil))) (gN 8)) mNext)
  (mRet (mMakeD "Pattern" m_Pattern_init (mCons (mLst (mStar (mVar 7) (mCons (mVar 6) mNil))) (mCons (mVar 8) mNil))))))))))))
def m_Pattern_rshift:FN := mFn 2 11 b_Pattern_rshift
@[reducible] def b_Program_init:MS :=
 (mSq (mDrop (mCall m_check_statements (mCons (mVar 1) (mCons (mVar 2) mNil))))
  (mSq (mSFld ["Program"] "schema" (mVar 0) (mVar 1))
  (mSq (mSFld ["Program"] "body" (mVar 0) (mCB fList (mCons (mVar 2) mNil)))
  (mSFld ["Program"] "watched" (mVar 0) (mCB fTupK (mCons (mVar 3) mNil))))))
def m_Program_init:FN := mFn 4 4 b_Program_init
def m_Program_init_dflt:FN := mDfl m_Program_init
@[reducible] def b_plain_lists:MS :=
 (mSq (mSet (mCall m_plain_lists_of (mCons (mProp "Program" m_Program_placed (mVar 0)) (mCons (mProp "Program" m_Program_width (mVar 0)) (mCons (mC (.int 1)) mNil)))) (gN 2))
  (mSq (mIfS (mOr (mB (mOwnIn false "Wishes" m_Wishes_contains (mC (.str "again")) (mVar 1))) (mOr (mB (mOwnIn false "Wishes" m_Wishes_contains (mC (.str "order")) (mVar 1))) (mB (mOwnIn false "Wishes" m_Wishes_contains (mC (.str "eager")) (mVar 1))))) (mSet (mOp fAdd (mVar 2) (mCall m_plain_lists_of (mCons (mProp "Program" m_Program_placed (mVar 0)) (mCons (mProp "Program" m_Program_width (mVar 0)) (mCons (mC (.int 2)) mNil))))) (gN 2)) mNext)
  (mRet (mLc (mSeq (mVar 2)) (gN 3) mYes (mCB fList (mCons (mVar 3) mNil)) [3]))))
def m_plain_lists:FN := mFn 2 4 b_plain_lists
@[reducible] def b_law_pattern:MS :=
 (mSq (mSet (mCall m_Pattern_place (mCons (mOp fIx (mOp fIx (mVar 0) (mC (.int 0))) (mC (.int 0))) (mCons (mOp fIx (mOp fIx (mVar 0) (mC (.int 0))) (mC (.int 1))) (mCons (mOp fIx (mOp fIx (mVar 0) (mC (.int 0))) (mC (.int 2))) mNil)))) (gN 2))
  (mSq (mFor (mSeq (mVar 0)) (gTp 3 (gCs (gN 3) (gCs (gN 4) (gCs (gN 5) gNl)))) (mSet (mOwn "Pattern" m_Pattern_or (mVar 2) (mCall m_Pattern_place (mCons (mVar 3) (mCons (mVar 4) (mCons (mVar 5) mNil))))) (gN 2)))
  (mSq (mSet (mDNew (.dK [])) (gN 6))
  (mSq (mFor (mSeq (mVar 0)) (gTp 3 (gCs (gN 3) (gCs (gN 4) (gCs (gN 5) gNl)))) (mDPut (mVar 6) (mVar 3) (mCall m_Pattern_place (mCons (mVar 3) (mCons (mVar 4) (mCons (mVar 5) mNil))))))
  (mSq (mFor (mSeq (mVar 1)) (gTp 3 (gCs (gN 7) (gCs (gN 8) (gCs (gN 9) gNl)))) (mSet (mOwn "Pattern" m_Pattern_or (mVar 2) (mOwnT "Pattern" m_Pattern_rshift (mDGet (mVar 6) (mVar 8)) (mTup (mCons (mVar 7) (mCons (mDGet (mVar 6) (mVar 9)) mNil))))) (gN 2)))
  (mRet (mVar 2)))))))
def m_law_pattern:FN := mFn 2 10 b_law_pattern
@[reducible] def b_law_program:MS :=
 (mRet (mMakeD "Program" m_Program_init_dflt (mCons (mVar 0) (mCons (mLc (mSeq (mVar 1)) (gTp 3 (gCs (gN 2) (gCs (gN 3) (gCs (gN 4) gNl)))) mYes (mMakeD "Statement" m_Statement_init (mCons (mVar 2) (mCons (mCall m_law_pattern (mCons (mVar 3) (mCons (mVar 4) mNil))) mNil))) [2,3,4]) mNil))))
def m_law_program:FN := mFn 2 5 b_law_program
@[reducible] def b_law:MS :=
 (mSq (mSet (mCall m_law_pool (mCons (mVar 0) mNil)) (gN 1))
  (mSq (mFor (mRng1 (mCons (mC (.int 2)) mNil)) (gN 2) (mSq (mSet (mCall m_law_schema (mCons (mVar 1) (mCons (mC (.int 4)) mNil))) (gTp 2 (gCs (gN 3) (gCs (gN 4) gNl))))
  (mSq (mSet (mMakeD "Schema" m_Schema_init (mCons (mVar 3) (mCons (mVar 4) mNil))) (gN 5))
  (mSq (mSet (mCall m_law_statements (mCons (mVar 1) (mCons (mVar 4) (mCons (mCall m_law_few (mCons (mVar 1) (mCons (mVar 3) (mCons (mC (.int 2)) (mCons (mC (.int 4)) mNil))))) (mCons (mC (.int 3)) mNil))))) (gN 6))
  (mSq (mSet (mCall m_law_program (mCons (mVar 5) (mCons (mLc (mSeq (mVar 6)) (gTp 3 (gCs (gN 17) (gCs (gN 18) (gCs (gN 19) gNl)))) mYes (mTup (mCons (mVar 17) (mCons (mVar 18) (mCons (mSl (mVar 19) mNoPart (mPart (mC (.int 3)))) mNil)))) [17,18,19]) mNil))) (gN 7))
  (mSq (mSet (mCall m_law_groups (mCons (mProp "Program" m_Program_placed (mVar 7)) mNil)) (gN 8))
  (mSq (mSet (mCall m_law_keys (mCons (mVar 1) mNil)) (gN 9))
  (mSq (mSet (mCall m_plain_lists (mCons (mVar 7) (mCons (mCall m_Wishes_of (mCons (mC (.str "kept")) (mCons (mC (.str "full")) mNil))) mNil))) (gN 10))
  (mSq (mSet (mOp fIx (mLst (mCons (mC (.str "again")) (mCons (mC (.str "order")) (mCons (mC (.str "eager")) mNil)))) (mCall m_law_draw (mCons (mVar 1) (mCons (mC (.int 3)) mNil)))) (gN 11))
  (mSq (mSet (mCall m_plain_lists (mCons (mVar 7) (mCons (mCall m_Wishes_of (mCons (mVar 11) mNil)) mNil))) (gN 12))
  (mSq (mFor (mRng1 (mCons (mOp fAdd (mC (.int 3)) (mCB fIntB (mCons (mOp fNeS (mVar 0) (mLst mNil)) mNil))) mNil)) (gN 13) (mSq (mSet (mCall m_law_rows (mCons (mVar 1) (mCons (mVar 9) (mCons (mProp "Program" m_Program_width (mVar 7)) (mCons (mC (.int 2)) mNil))))) (gN 14))
  (mSq (mPar 15 16 (mCons (mCall m_law_numbered (mCons (mVar 8) (mCons (mSl (mVar 14) mNoPart (mPart (mC (.int 1)))) mNil))) (mCons (mCall m_law_numbered (mCons (mVar 8) (mCons (mVar 14) mNil))) mNil)))
  (mSq (mIfS (mOr (mB (mOp (fEq true) (mBM fCount (mVar 10) (mCons (mVar 15) mNil)) (mC (.int 1)))) (mOr (mB (mOp (fEq true) (mBM fCount (mVar 12) (mCons (mVar 15) mNil)) (mC (.int 1)))) (mB (mOp (fIn false) (mVar 16) (mVar 10))))) (mRet (mC (.bl false))) mNext)
  (mIfS (mB (mOp (fEq true) (mBM fCount (mVar 12) (mCons (mVar 16) mNil)) (mCB fIntB (mCons (mCall m_law_meets (mCons (mVar 8) (mCons (mOp fIx (mVar 14) (mC (.int 0))) (mCons (mOp fIx (mVar 14) (mC (.int 1))) mNil)))) mNil)))) (mRet (mC (.bl false))) mNext)))))
  (mIfS (mOr (mB (mOp (fEq true) (mSl (mVar 12) mNoPart (mPart (mCB fLen (mCons (mVar 10) mNil)))) (mVar 10))) (mB (mOp (fEq true) (mCall m_plain_lists (mCons (mMakeD "Program" m_Program_init_dflt (mCons (mVar 5) (mCons (mLst mNil) mNil))) (mCons (mCall m_Wishes_of (mCons (mVar 11) mNil)) mNil))) (mLst (mCons (mLst (mCons (mTup (mCons (mC (.int 0)) mNil)) mNil)) mNil))))) (mRet (mC (.bl false))) mNext))))))))))))
  (mRet (mC (.bl true)))))
end Lw
namespace Lw
open PySem PySem.Spec PyProof.Rows L2 Fm Am
open PySem.W (Datum Tup T3 T4)
def topS (i : Nat) : Stmt := PySem.Challenge.pw_foundormade_k49_each_list_has_its_plain.main.body.getD i (.Pass ⟨0,0,0,0⟩)
abbrev s_is_word:Stmt := topS 19
abbrev N_is_word:List Str := ["text","sign"]
abbrev ps_is_word:List Str := ["text"]
theorem sc_is_word:FnScope N_is_word ps_is_word (defScope s_is_word) := fsc
abbrev s_check_names:Stmt := topS 20
abbrev N_check_names:List Str := ["kinds","links","known","at","name","rule","owner","names","start","end"]
abbrev ps_check_names:List Str := ["kinds","links"]
theorem sc_check_names:FnScope N_check_names ps_check_names (defScope s_check_names) := fsc
abbrev s_check_owners:Stmt := topS 21
abbrev N_check_owners:List Str := ["kinds","links","rules","at","name","rule","owner","starts","link","start","end","how"]
abbrev ps_check_owners:List Str := ["kinds","links"]
theorem sc_check_owners:FnScope N_check_owners ps_check_owners (defScope s_check_owners) := fsc
abbrev s_Schema_init:Stmt := inClass (topS 22) 0
abbrev N_Schema_init:List Str := ["self","kinds","links","name","start","end","rule","owner","at"]
abbrev ps_Schema_init:List Str := ["self","kinds","links"]
theorem sc_Schema_init:FnScope N_Schema_init ps_Schema_init (defScope s_Schema_init) := fsc
abbrev s_Schema_eq:Stmt := inClass (topS 22) 5
abbrev s_clash:Stmt := topS 24
abbrev N_clash:List Str := ["first","second","known","place","name","kind","column"]
abbrev ps_clash:List Str := ["first","second"]
theorem sc_clash:FnScope N_clash ps_clash (defScope s_clash) := fsc
abbrev s_Pattern_init:Stmt := inClass (topS 26) 0
abbrev N_Pattern_init:List Str := ["self","places","links"]
abbrev ps_Pattern_init:List Str := ["self","places","links"]
theorem sc_Pattern_init:FnScope N_Pattern_init ps_Pattern_init (defScope s_Pattern_init) := fsc
abbrev s_Pattern_place:Stmt := inClass (topS 26) 1
abbrev N_Pattern_place:List Str := ["name","kind","column"]
abbrev ps_Pattern_place:List Str := ["name","kind","column"]
theorem sc_Pattern_place:FnScope N_Pattern_place ps_Pattern_place (defScope s_Pattern_place) := fsc
abbrev s_Pattern_or:Stmt := inClass (topS 26) 3
abbrev N_Pattern_or:List Str := ["self","other","name","places","links","place","link"]
abbrev ps_Pattern_or:List Str := ["self","other"]
theorem sc_Pattern_or:FnScope N_Pattern_or ps_Pattern_or (defScope s_Pattern_or) := fsc
abbrev s_Pattern_rshift:Stmt := inClass (topS 26) 6
abbrev N_Pattern_rshift:List Str := ["self","other","link","second","joined","tie","last","places","links","place","one"]
abbrev ps_Pattern_rshift:List Str := ["self","other"]
theorem sc_Pattern_rshift:FnScope N_Pattern_rshift ps_Pattern_rshift (defScope s_Pattern_rshift) := fsc
abbrev s_Statement_init:Stmt := inClass (topS 45) 0
abbrev N_Statement_init:List Str := ["self","how","pattern"]
abbrev ps_Statement_init:List Str := ["self","how","pattern"]
theorem sc_Statement_init:FnScope N_Statement_init ps_Statement_init (defScope s_Statement_init) := fsc
abbrev s_check_statements:Stmt := topS 47
abbrev N_check_statements:List Str := ["schema","statements","known","at","statement","own","place","name","start","end"]
abbrev ps_check_statements:List Str := ["schema","statements"]
theorem sc_check_statements:FnScope N_check_statements ps_check_statements (defScope s_check_statements) := fsc
abbrev s_Program_init:Stmt := inClass (topS 49) 0
abbrev N_Program_init:List Str := ["self","schema","statements","watched"]
abbrev ps_Program_init:List Str := ["self","schema","statements","watched"]
theorem sc_Program_init:FnScope N_Program_init ps_Program_init (defScope s_Program_init) := fsc
abbrev s_Program_placed:Stmt := inClass (topS 49) 11
abbrev N_Program_placed:List Str := ["self","found","statement","place"]
abbrev ps_Program_placed:List Str := ["self"]
theorem sc_Program_placed:FnScope N_Program_placed ps_Program_placed (defScope s_Program_placed) := fsc
abbrev s_Program_width:Stmt := inClass (topS 49) 12
abbrev N_Program_width:List Str := ["self","name","kind","column"]
abbrev ps_Program_width:List Str := ["self"]
theorem sc_Program_width:FnScope N_Program_width ps_Program_width (defScope s_Program_width) := fsc
abbrev s_Program_guards:Stmt := inClass (topS 49) 10
abbrev s_Wishes_init:Stmt := inClass (topS 11) 1
abbrev N_Wishes_init:List Str := ["self","names","name"]
abbrev ps_Wishes_init:List Str := ["self","names"]
theorem sc_Wishes_init:FnScope N_Wishes_init ps_Wishes_init (defScope s_Wishes_init) := fsc
abbrev s_Wishes_of:Stmt := inClass (topS 11) 2
abbrev N_Wishes_of:List Str := ["first","rest","name"]
abbrev ps_Wishes_of:List Str := ["first","rest"]
theorem sc_Wishes_of:FnScope N_Wishes_of ps_Wishes_of (defScope s_Wishes_of) := fsc
abbrev s_Wishes_contains:Stmt := inClass (topS 11) 6
abbrev N_Wishes_contains:List Str := ["self","name"]
abbrev ps_Wishes_contains:List Str := ["self","name"]
theorem sc_Wishes_contains:FnScope N_Wishes_contains ps_Wishes_contains (defScope s_Wishes_contains) := fsc
abbrev s_column_groups:Stmt := topS 13
abbrev N_column_groups:List Str := ["placed","groups","name","kind","column","other_name","other_kind","other","high","low","at"]
abbrev ps_column_groups:List Str := ["placed"]
theorem sc_column_groups:FnScope N_column_groups ps_column_groups (defScope s_column_groups) := fsc
abbrev s_meet:Stmt := topS 14
abbrev N_meet:List Str := ["groups","first","second","column","other"]
abbrev ps_meet:List Str := ["groups","first","second"]
theorem sc_meet:FnScope N_meet ps_meet (defScope s_meet) := fsc
abbrev s_plain_lists_of:Stmt := topS 15
abbrev N_plain_lists_of:List Str := ["placed","width","many","groups","size","columns","ways","column","wider","way","used","options","pairs","key","other","pair"]
abbrev ps_plain_lists_of:List Str := ["placed","width","many"]
theorem sc_plain_lists_of:FnScope N_plain_lists_of ps_plain_lists_of (defScope s_plain_lists_of) := fsc
abbrev s_plain_lists:Stmt := topS 16
abbrev N_plain_lists:List Str := ["program","wishes","found","rows"]
abbrev ps_plain_lists:List Str := ["program","wishes"]
theorem sc_plain_lists:FnScope N_plain_lists ps_plain_lists (defScope s_plain_lists) := fsc
abbrev s_law_pool:Stmt := topS 51
abbrev N_law_pool:List Str := ["_law_script","_law_greats","_law_seed","_law_cell"]
abbrev ps_law_pool:List Str := ["_law_script"]
theorem sc_law_pool:FnScope N_law_pool ps_law_pool (defScope s_law_pool) := fsc
abbrev s_law_draw:Stmt := topS 52
abbrev N_law_draw:List Str := ["_law_pool_here","_law_limit","_law_digit","_law_mixed"]
abbrev ps_law_draw:List Str := ["_law_pool_here","_law_limit"]
theorem sc_law_draw:FnScope N_law_draw ps_law_draw (defScope s_law_draw) := fsc
abbrev s_law_word:Stmt := topS 53
abbrev N_law_word:List Str := ["_law_pool_here","_law_used","_law_letters","_law_size","_law_word_here","_law_k","_law_letter"]
abbrev ps_law_word:List Str := ["_law_pool_here","_law_used"]
theorem sc_law_word:FnScope N_law_word ps_law_word (defScope s_law_word) := fsc
abbrev s_law_schema:Stmt := topS 54
abbrev N_law_schema:List Str := ["_law_pool_here","_law_most","_law_names","_law_k","_law_rules","_law_heads","_law_kinds","_law_links","_law_used","_law_name","_law_start","_law_end","_law_turn"]
abbrev ps_law_schema:List Str := ["_law_pool_here","_law_most"]
theorem sc_law_schema:FnScope N_law_schema ps_law_schema (defScope s_law_schema) := fsc
abbrev s_law_keys:Stmt := topS 55
abbrev N_law_keys:List Str := ["_law_pool_here","_law_keys_here","_law_k","_law_far"]
abbrev ps_law_keys:List Str := ["_law_pool_here"]
theorem sc_law_keys:FnScope N_law_keys ps_law_keys (defScope s_law_keys) := fsc
abbrev s_law_few:Stmt := topS 56
abbrev N_law_few:List Str := ["_law_pool_here","_law_kinds","_law_most","_law_width","_law_places","_law_k","_law_kind","_law_column","_law_place"]
abbrev ps_law_few:List Str := ["_law_pool_here","_law_kinds","_law_most","_law_width"]
theorem sc_law_few:FnScope N_law_few ps_law_few (defScope s_law_few) := fsc
abbrev s_law_statements:Stmt := topS 57
abbrev N_law_statements:List Str := ["_law_pool_here","_law_links","_law_places","_law_many","_law_statements_here","_law_k","_law_chosen","_law_ties","_law_name","_law_start","_law_end","_law_rule","_law_lows","_law_highs","_law_place"]
abbrev ps_law_statements:List Str := ["_law_pool_here","_law_links","_law_places","_law_many"]
theorem sc_law_statements:FnScope N_law_statements ps_law_statements (defScope s_law_statements) := fsc
abbrev s_law_pattern:Stmt := topS 58
abbrev N_law_pattern:List Str := ["_law_places","_law_ties","_law_pattern_here","_law_name","_law_kind","_law_column","_law_known","_law_link","_law_start","_law_end"]
abbrev ps_law_pattern:List Str := ["_law_places","_law_ties"]
theorem sc_law_pattern:FnScope N_law_pattern ps_law_pattern (defScope s_law_pattern) := fsc
abbrev s_law_program:Stmt := topS 59
abbrev N_law_program:List Str := ["_law_schema_here","_law_raw","_law_how","_law_places","_law_ties"]
abbrev ps_law_program:List Str := ["_law_schema_here","_law_raw"]
theorem sc_law_program:FnScope N_law_program ps_law_program (defScope s_law_program) := fsc
abbrev s_law_groups:Stmt := topS 60
abbrev N_law_groups:List Str := ["_law_places","_law_groups_here","_law_name","_law_kind","_law_column","_law_turn","_law_other","_law_other_kind","_law_at","_law_low"]
abbrev ps_law_groups:List Str := ["_law_places"]
theorem sc_law_groups:FnScope N_law_groups ps_law_groups (defScope s_law_groups) := fsc
abbrev s_law_meets:Stmt := topS 61
abbrev N_law_meets:List Str := ["_law_groups_here","_law_first","_law_second","_law_column","_law_other"]
abbrev ps_law_meets:List Str := ["_law_groups_here","_law_first","_law_second"]
theorem sc_law_meets:FnScope N_law_meets ps_law_meets (defScope s_law_meets) := fsc
abbrev s_law_rows:Stmt := topS 62
abbrev N_law_rows:List Str := ["_law_pool_here","_law_keys_here","_law_width","_law_many","_law_size","_law_k","_law_column"]
abbrev ps_law_rows:List Str := ["_law_pool_here","_law_keys_here","_law_width","_law_many"]
theorem sc_law_rows:FnScope N_law_rows ps_law_rows (defScope s_law_rows) := fsc
abbrev s_law_numbered:Stmt := topS 63
abbrev N_law_numbered:List Str := ["_law_groups_here","_law_rows_here","_law_known","_law_column","_law_found","_law_row","_law_told","_law_key","_law_seen"]
abbrev ps_law_numbered:List Str := ["_law_groups_here","_law_rows_here"]
theorem sc_law_numbered:FnScope N_law_numbered ps_law_numbered (defScope s_law_numbered) := fsc
abbrev s_law:Stmt := topS 64
abbrev N_law:List Str := ["_law_script","_law_pool_here","_law_turn","_law_kinds","_law_links","_law_schema_here","_law_raw","_law_program_here","_law_groups_here","_law_keys_here","_law_short","_law_name","_law_long","_law_again","_law_rows_here","_law_one","_law_two","_law_how","_law_some","_law_ties"]
abbrev ps_law:List Str := ["_law_script"]
theorem sc_law:FnScope N_law ps_law (defScope s_law) := fsc
abbrev s_BadSchema_init:Stmt := inClass (topS 3) 0
abbrev s_Unknown_init:Stmt := inClass (topS 4) 0
abbrev s_BadPattern_init:Stmt := inClass (topS 5) 0
abbrev s_Misfit_init:Stmt := inClass (topS 6) 0
abbrev s_OtherSchema_init:Stmt := inClass (topS 7) 0
abbrev s_BadRow_init:Stmt := inClass (topS 8) 0
abbrev s_Undone_init:Stmt := inClass (topS 9) 0
structure Txt (K:PySem.W.Frag) (mg:Str→Option Value):Prop where
 g_is_word:mg "is_word" = some (.ref (He.ga K "is_word"))
 d_is_word:∃ fd,Fun K "is_word" "is_word" s_is_word (He.ga K "is_word") fd
 k_is_word:PySem.W.keepIn K (.ref (He.ga K "is_word"))=true
 g_check_names:mg "check_names" = some (.ref (He.ga K "check_names"))
 d_check_names:∃ fd,Fun K "check_names" "check_names" s_check_names (He.ga K "check_names") fd
 k_check_names:PySem.W.keepIn K (.ref (He.ga K "check_names"))=true
 g_check_owners:mg "check_owners" = some (.ref (He.ga K "check_owners"))
 d_check_owners:∃ fd,Fun K "check_owners" "check_owners" s_check_owners (He.ga K "check_owners") fd
 k_check_owners:PySem.W.keepIn K (.ref (He.ga K "check_owners"))=true
 d_Schema_init:∃ fd,Fun K "__init__" "Schema.__init__" s_Schema_init (He.ma K (He.ga K "Schema") "__init__") fd
 d_Schema_eq:∃ fd,Fun K "__eq__" "Schema.__eq__" s_Schema_eq (He.ma K (He.ga K "Schema") "__eq__") fd
 g_clash:mg "clash" = some (.ref (He.ga K "clash"))
 d_clash:∃ fd,Fun K "clash" "clash" s_clash (He.ga K "clash") fd
 k_clash:PySem.W.keepIn K (.ref (He.ga K "clash"))=true
 d_Pattern_init:∃ fd,Fun K "__init__" "Pattern.__init__" s_Pattern_init (He.ma K (He.ga K "Pattern") "__init__") fd
 d_Pattern_place:∃ fd,Fun K "place" "Pattern.place" s_Pattern_place (He5.wf K (He.ga K "Pattern") "staticmethod" "place") fd
 d_Pattern_or:∃ fd,Fun K "__or__" "Pattern.__or__" s_Pattern_or (He.ma K (He.ga K "Pattern") "__or__") fd
 d_Pattern_rshift:∃ fd,Fun K "__rshift__" "Pattern.__rshift__" s_Pattern_rshift (He.ma K (He.ga K "Pattern") "__rshift__") fd
 d_Statement_init:∃ fd,Fun K "__init__" "Statement.__init__" s_Statement_init (He.ma K (He.ga K "Statement") "__init__") fd
 g_check_statements:mg "check_statements" = some (.ref (He.ga K "check_statements"))
 d_check_statements:∃ fd,Fun K "check_statements" "check_statements" s_check_statements (He.ga K "check_statements") fd
 k_check_statements:PySem.W.keepIn K (.ref (He.ga K "check_statements"))=true
 d_Program_init:FunE K "__init__" "Program.__init__" s_Program_init ((He.dflAt ("Program",some "__init__") 0) K) (He.ma K (He.ga K "Program") "__init__")
 ed_Program_init:tupEB K ((He.dflAt ("Program",some "__init__") 0) K)=true
 d_Program_placed:∃ fd,Fun K "placed" "Program.placed" s_Program_placed (propF K (He.ga K "Program") "placed") fd
 d_Program_width:∃ fd,Fun K "width" "Program.width" s_Program_width (propF K (He.ga K "Program") "width") fd
 d_Program_guards:∃ fd,Fun K "guards" "Program.guards" s_Program_guards (propF K (He.ga K "Program") "guards") fd
 d_Wishes_init:∃ fd,Fun K "__init__" "Wishes.__init__" s_Wishes_init (He.ma K (He.ga K "Wishes") "__init__") fd
 d_Wishes_of:∃ fd,Fun K "of" "Wishes.of" s_Wishes_of (He5.wf K (He.ga K "Wishes") "staticmethod" "of") fd
 d_Wishes_contains:∃ fd,Fun K "__contains__" "Wishes.__contains__" s_Wishes_contains (He.ma K (He.ga K "Wishes") "__contains__") fd
 g_column_groups:mg "column_groups" = some (.ref (He.ga K "column_groups"))
 d_column_groups:∃ fd,Fun K "column_groups" "column_groups" s_column_groups (He.ga K "column_groups") fd
 k_column_groups:PySem.W.keepIn K (.ref (He.ga K "column_groups"))=true
 g_meet:mg "meet" = some (.ref (He.ga K "meet"))
 d_meet:∃ fd,Fun K "meet" "meet" s_meet (He.ga K "meet") fd
 k_meet:PySem.W.keepIn K (.ref (He.ga K "meet"))=true
 g_plain_lists_of:mg "plain_lists_of" = some (.ref (He.ga K "plain_lists_of"))
 d_plain_lists_of:∃ fd,Fun K "plain_lists_of" "plain_lists_of" s_plain_lists_of (He.ga K "plain_lists_of") fd
 k_plain_lists_of:PySem.W.keepIn K (.ref (He.ga K "plain_lists_of"))=true
 g_plain_lists:mg "plain_lists" = some (.ref (He.ga K "plain_lists"))
 d_plain_lists:∃ fd,Fun K "plain_lists" "plain_lists" s_plain_lists (He.ga K "plain_lists") fd
 k_plain_lists:PySem.W.keepIn K (.ref (He.ga K "plain_lists"))=true
 g_law_pool:mg "_law_pool" = some (.ref (He.ga K "_law_pool"))
 d_law_pool:∃ fd,Fun K "_law_pool" "_law_pool" s_law_pool (He.ga K "_law_pool") fd
 k_law_pool:PySem.W.keepIn K (.ref (He.ga K "_law_pool"))=true
 g_law_draw:mg "_law_draw" = some (.ref (He.ga K "_law_draw"))
 d_law_draw:∃ fd,Fun K "_law_draw" "_law_draw" s_law_draw (He.ga K "_law_draw") fd
 k_law_draw:PySem.W.keepIn K (.ref (He.ga K "_law_draw"))=true
 g_law_word:mg "_law_word" = some (.ref (He.ga K "_law_word"))
 d_law_word:∃ fd,Fun K "_law_word" "_law_word" s_law_word (He.ga K "_law_word") fd
 k_law_word:PySem.W.keepIn K (.ref (He.ga K "_law_word"))=true
 g_law_schema:mg "_law_schema" = some (.ref (He.ga K "_law_schema"))
 d_law_schema:∃ fd,Fun K "_law_schema" "_law_schema" s_law_schema (He.ga K "_law_schema") fd
 k_law_schema:PySem.W.keepIn K (.ref (He.ga K "_law_schema"))=true
 g_law_keys:mg "_law_keys" = some (.ref (He.ga K "_law_keys"))
 d_law_keys:∃ fd,Fun K "_law_keys" "_law_keys" s_law_keys (He.ga K "_law_keys") fd
 k_law_keys:PySem.W.keepIn K (.ref (He.ga K "_law_keys"))=true
 g_law_few:mg "_law_few" = some (.ref (He.ga K "_law_few"))
 d_law_few:∃ fd,Fun K "_law_few" "_law_few" s_law_few (He.ga K "_law_few") fd
 k_law_few:PySem.W.keepIn K (.ref (He.ga K "_law_few"))=true
 g_law_statements:mg "_law_statements" = some (.ref (He.ga K "_law_statements"))
 d_law_statements:∃ fd,Fun K "_law_statements" "_law_statements" s_law_statements (He.ga K "_law_statements") fd
 k_law_statements:PySem.W.keepIn K (.ref (He.ga K "_law_statements"))=true
 g_law_pattern:mg "_law_pattern" = some (.ref (He.ga K "_law_pattern"))
 d_law_pattern:∃ fd,Fun K "_law_pattern" "_law_pattern" s_law_pattern (He.ga K "_law_pattern") fd
 k_law_pattern:PySem.W.keepIn K (.ref (He.ga K "_law_pattern"))=true
 g_law_program:mg "_law_program" = some (.ref (He.ga K "_law_program"))
 d_law_program:∃ fd,Fun K "_law_program" "_law_program" s_law_program (He.ga K "_law_program") fd
 k_law_program:PySem.W.keepIn K (.ref (He.ga K "_law_program"))=true
 g_law_groups:mg "_law_groups" = some (.ref (He.ga K "_law_groups"))
 d_law_groups:∃ fd,Fun K "_law_groups" "_law_groups" s_law_groups (He.ga K "_law_groups") fd
 k_law_groups:PySem.W.keepIn K (.ref (He.ga K "_law_groups"))=true
 g_law_meets:mg "_law_meets" = some (.ref (He.ga K "_law_meets"))
 d_law_meets:∃ fd,Fun K "_law_meets" "_law_meets" s_law_meets (He.ga K "_law_meets") fd
 k_law_meets:PySem.W.keepIn K (.ref (He.ga K "_law_meets"))=true
 g_law_rows:mg "_law_rows" = some (.ref (He.ga K "_law_rows"))
 d_law_rows:∃ fd,Fun K "_law_rows" "_law_rows" s_law_rows (He.ga K "_law_rows") fd
 k_law_rows:PySem.W.keepIn K (.ref (He.ga K "_law_rows"))=true
 g_law_numbered:mg "_law_numbered" = some (.ref (He.ga K "_law_numbered"))
 d_law_numbered:∃ fd,Fun K "_law_numbered" "_law_numbered" s_law_numbered (He.ga K "_law_numbered") fd
 k_law_numbered:PySem.W.keepIn K (.ref (He.ga K "_law_numbered"))=true
 g_law:mg "law" = some (.ref (He.ga K "law"))
 d_law:∃ fd,Fun K "law" "law" s_law (He.ga K "law") fd
 k_law:PySem.W.keepIn K (.ref (He.ga K "law"))=true
 g_Wishes:mg "Wishes" = some (.ref (He.ga K "Wishes"))
 c_Wishes:Cls K (He.ga K "Wishes")
 x_Wishes:ClsX K (He.ga K "Wishes")
 sf_Wishes:PySem.W.selfFirst K (He.ga K "Wishes")=true
 mk_Wishes:Mk K (He.ga K "Wishes") (He.ma K (He.ga K "Wishes") "__init__")
 s_Wishes_of:Stat K (He.ga K "Wishes") "of" (He.ma K (He.ga K "Wishes") "of") (He5.wf K (He.ga K "Wishes") "staticmethod" "of")
 m_Wishes_contains:Meth K (He.ga K "Wishes") "__contains__" (He.ma K (He.ga K "Wishes") "__contains__")
 o_Wishes_contains:Own K (He.ga K "Wishes") "__contains__" (He.ma K (He.ga K "Wishes") "__contains__")
 g_Schema:mg "Schema" = some (.ref (He.ga K "Schema"))
 c_Schema:Cls K (He.ga K "Schema")
 x_Schema:ClsX K (He.ga K "Schema")
 sf_Schema:PySem.W.selfFirst K (He.ga K "Schema")=true
 mk_Schema:Mk K (He.ga K "Schema") (He.ma K (He.ga K "Schema") "__init__")
 ne_Schema:PySem.W.findIn K (.ref (He.ga K "Schema")) "__ne__" = some (some (.builtin "object.__ne__"))
 nf_Schema:∀ t∈ts_Schema,inCs css t∧PySem.W.notFirst K (He.ga K "Schema") (t.val K)=true
 m_Schema_eq:Meth K (He.ga K "Schema") "__eq__" (He.ma K (He.ga K "Schema") "__eq__")
 o_Schema_eq:Own K (He.ga K "Schema") "__eq__" (He.ma K (He.ga K "Schema") "__eq__")
 g_Pattern:mg "Pattern" = some (.ref (He.ga K "Pattern"))
 c_Pattern:Cls K (He.ga K "Pattern")
 x_Pattern:ClsX K (He.ga K "Pattern")
 sf_Pattern:PySem.W.selfFirst K (He.ga K "Pattern")=true
 mk_Pattern:Mk K (He.ga K "Pattern") (He.ma K (He.ga K "Pattern") "__init__")
 s_Pattern_place:Stat K (He.ga K "Pattern") "place" (He.ma K (He.ga K "Pattern") "place") (He5.wf K (He.ga K "Pattern") "staticmethod" "place")
 m_Pattern_or:Meth K (He.ga K "Pattern") "__or__" (He.ma K (He.ga K "Pattern") "__or__")
 o_Pattern_or:Own K (He.ga K "Pattern") "__or__" (He.ma K (He.ga K "Pattern") "__or__")
 m_Pattern_rshift:Meth K (He.ga K "Pattern") "__rshift__" (He.ma K (He.ga K "Pattern") "__rshift__")
 o_Pattern_rshift:Own K (He.ga K "Pattern") "__rshift__" (He.ma K (He.ga K "Pattern") "__rshift__")
 g_Statement:mg "Statement" = some (.ref (He.ga K "Statement"))
 c_Statement:Cls K (He.ga K "Statement")
 x_Statement:ClsX K (He.ga K "Statement")
 sf_Statement:PySem.W.selfFirst K (He.ga K "Statement")=true
 mk_Statement:Mk K (He.ga K "Statement") (He.ma K (He.ga K "Statement") "__init__")
 g_Program:mg "Program" = some (.ref (He.ga K "Program"))
 c_Program:Cls K (He.ga K "Program")
 x_Program:ClsX K (He.ga K "Program")
 sf_Program:PySem.W.selfFirst K (He.ga K "Program")=true
 mk_Program:Mk K (He.ga K "Program") (He.ma K (He.ga K "Program") "__init__")
 p_Program_placed:∃ p,PropOf K (He.ga K "Program") "placed" p (propF K (He.ga K "Program") "placed")
 p_Program_width:∃ p,PropOf K (He.ga K "Program") "width" p (propF K (He.ga K "Program") "width")
 p_Program_guards:∃ p,PropOf K (He.ga K "Program") "guards" p (propF K (He.ga K "Program") "guards")
 cs:CsOk K css
 f_names:∀ c∈(["Wishes"]:List Str),Cls K (He.ga K c)∧NoAttr K (He.ga K c) "names"
 f_kind_entries:∀ c∈(["Schema"]:List Str),Cls K (He.ga K c)∧NoAttr K (He.ga K c) "kind_entries"
 f_link_entries:∀ c∈(["Schema"]:List Str),Cls K (He.ga K c)∧NoAttr K (He.ga K c) "link_entries"
 f_kinds:∀ c∈(["Schema"]:List Str),Cls K (He.ga K c)∧NoAttr K (He.ga K c) "kinds"
 f_links:∀ c∈(["Schema","Pattern"]:List Str),Cls K (He.ga K c)∧NoAttr K (He.ga K c) "links"
 f_rules:∀ c∈(["Schema"]:List Str),Cls K (He.ga K c)∧NoAttr K (He.ga K c) "rules"
 f_spans:∀ c∈(["Schema"]:List Str),Cls K (He.ga K c)∧NoAttr K (He.ga K c) "spans"
 f_owners:∀ c∈(["Schema"]:List Str),Cls K (He.ga K c)∧NoAttr K (He.ga K c) "owners"
 f_kind_codes:∀ c∈(["Schema"]:List Str),Cls K (He.ga K c)∧NoAttr K (He.ga K c) "kind_codes"
 f_link_codes:∀ c∈(["Schema"]:List Str),Cls K (He.ga K c)∧NoAttr K (He.ga K c) "link_codes"
 f_places:∀ c∈(["Pattern"]:List Str),Cls K (He.ga K c)∧NoAttr K (He.ga K c) "places"
 f_how:∀ c∈(["Statement"]:List Str),Cls K (He.ga K c)∧NoAttr K (He.ga K c) "how"
 f_pattern:∀ c∈(["Statement"]:List Str),Cls K (He.ga K c)∧NoAttr K (He.ga K c) "pattern"
 f_schema:∀ c∈(["Program"]:List Str),Cls K (He.ga K c)∧NoAttr K (He.ga K c) "schema"
 f_body:∀ c∈(["Program"]:List Str),Cls K (He.ga K c)∧NoAttr K (He.ga K c) "body"
 f_watched:∀ c∈(["Program"]:List Str),Cls K (He.ga K c)∧NoAttr K (He.ga K c) "watched"
 is_Schema:∀ p∈ti_Schema,inCs css p.1∧PySem.W.kitOne K (p.1.val K) (.ref (He.ga K "Schema"))=some p.2
 is_str:∀ p∈ti_str,inCs css p.1∧PySem.W.kitOne K (p.1.val K) (.type "str")=some p.2
 xf_BadPattern_name:PySem.W.findIn K (.ref (He.ga K "BadPattern")) "name" = some none
 xf_BadRow_index:PySem.W.findIn K (.ref (He.ga K "BadRow")) "index" = some none
 xf_BadSchema_at:PySem.W.findIn K (.ref (He.ga K "BadSchema")) "at" = some none
 xf_Misfit_at:PySem.W.findIn K (.ref (He.ga K "Misfit")) "at" = some none
 xf_Misfit_part:PySem.W.findIn K (.ref (He.ga K "Misfit")) "part" = some none
 xf_Undone_index:PySem.W.findIn K (.ref (He.ga K "Undone")) "index" = some none
 xf_Undone_why:PySem.W.findIn K (.ref (He.ga K "Undone")) "why" = some none
 xf_Unknown_name:PySem.W.findIn K (.ref (He.ga K "Unknown")) "name" = some none
 g_BadPattern:mg "BadPattern" = some (.ref (He.ga K "BadPattern"))
 g_BadRow:mg "BadRow" = some (.ref (He.ga K "BadRow"))
 g_BadSchema:mg "BadSchema" = some (.ref (He.ga K "BadSchema"))
 g_Misfit:mg "Misfit" = some (.ref (He.ga K "Misfit"))
 g_OtherSchema:mg "OtherSchema" = some (.ref (He.ga K "OtherSchema"))
 g_Undone:mg "Undone" = some (.ref (He.ga K "Undone"))
 g_Unknown:mg "Unknown" = some (.ref (He.ga K "Unknown"))
 e_BadSchema : Err K PySem.Challenge.pw_foundormade_k49_each_list_has_its_plain.main.file (He.ga K "BadSchema") (He.ma K (He.ga K "BadSchema") "__init__") "BadSchema.__init__" s_BadSchema_init
 e_Unknown : Err K PySem.Challenge.pw_foundormade_k49_each_list_has_its_plain.main.file (He.ga K "Unknown") (He.ma K (He.ga K "Unknown") "__init__") "Unknown.__init__" s_Unknown_init
 e_BadPattern : Err K PySem.Challenge.pw_foundormade_k49_each_list_has_its_plain.main.file (He.ga K "BadPattern") (He.ma K (He.ga K "BadPattern") "__init__") "BadPattern.__init__" s_BadPattern_init
 e_Misfit : Err K PySem.Challenge.pw_foundormade_k49_each_list_has_its_plain.main.file (He.ga K "Misfit") (He.ma K (He.ga K "Misfit") "__init__") "Misfit.__init__" s_Misfit_init
 e_OtherSchema : Err K PySem.Challenge.pw_foundormade_k49_each_list_has_its_plain.main.file (He.ga K "OtherSchema") (He.ma K (He.ga K "OtherSchema") "__init__") "OtherSchema.__init__" s_OtherSchema_init
 e_BadRow : Err K PySem.Challenge.pw_foundormade_k49_each_list_has_its_plain.main.file (He.ga K "BadRow") (He.ma K (He.ga K "BadRow") "__init__") "BadRow.__init__" s_BadRow_init
 e_Undone : Err K PySem.Challenge.pw_foundormade_k49_each_list_has_its_plain.main.file (He.ga K "Undone") (He.ma K (He.ga K "Undone") "__init__") "Undone.__init__" s_Undone_init
 z_super:mg "super" = none
 z_all:mg "all" = none
 z_enumerate:mg "enumerate" = none
 z_int:mg "int" = none
 z_isinstance:mg "isinstance" = none
 z_len:mg "len" = none
 z_list:mg "list" = none
 z_max:mg "max" = none
 z_min:mg "min" = none
 z_range:mg "range" = none
 z_str:mg "str" = none
 z_tuple:mg "tuple" = none
 z_zip:mg "zip" = none
 v_LETTERS:∃ t,mg "LETTERS" = some (.str "abcdefghijklmnopqrstuvwxyz" t)
 cv_Wishes_NAMES:cvB K (He.ga K "Wishes") "NAMES" ["kept","let","clear","full","again","order","eager"]=true
end Lw
namespace Lw
open PySem PySem.Spec PyProof.Rows L2 Fm Am
open PySem.W (Datum Tup T3 T4)
def fa:List (PySem.W.Frag→Bool) := [fun K=>(He.Fa.glo "is_word").ok K,
 fun K=>(He.Fa.glo "check_names").ok K,
 fun K=>(He.Fa.glo "check_owners").ok K,
 fun K=>(He.Fa.glo "clash").ok K,
 fun K=>(He.Fa.glo "check_statements").ok K,
 fun K=>tupEB K ((He.dflAt ("Program",some "__init__") 0) K),
 fun K=>(He.Fa.glo "column_groups").ok K,
 fun K=>(He.Fa.glo "meet").ok K,
 fun K=>(He.Fa.glo "plain_lists_of").ok K,
 fun K=>(He.Fa.glo "plain_lists").ok K,
 fun K=>(He.Fa.glo "_law_pool").ok K,
 fun K=>(He.Fa.glo "_law_draw").ok K,
 fun K=>(He.Fa.glo "_law_word").ok K,
 fun K=>(He.Fa.glo "_law_schema").ok K,
 fun K=>(He.Fa.glo "_law_keys").ok K,
 fun K=>(He.Fa.glo "_law_few").ok K,
 fun K=>(He.Fa.glo "_law_statements").ok K,
 fun K=>(He.Fa.glo "_law_pattern").ok K,
 fun K=>(He.Fa.glo "_law_program").ok K,
 fun K=>(He.Fa.glo "_law_groups").ok K,
 fun K=>(He.Fa.glo "_law_meets").ok K,
 fun K=>(He.Fa.glo "_law_rows").ok K,
 fun K=>(He.Fa.glo "_law_numbered").ok K,
 fun K=>(He.Fa.glo "law").ok K,
 fun K=>(He.Fa.glo "Wishes").ok K,
 fun K=>(He.Fa.cls "Wishes").ok K,
 fun K=>clsXB K (He.ga K "Wishes"),
 fun K=>PySem.W.selfFirst K (He.ga K "Wishes"),
 fun K=>(He.Fa.mkr "Wishes").ok K,
 fun K=>statB K (He.ga K "Wishes") "of",
 fun K=>(He.Fa.meth "Wishes" "__contains__").ok K,
 fun K=>(He.Fa.glo "Schema").ok K,
 fun K=>(He.Fa.cls "Schema").ok K,
 fun K=>clsXB K (He.ga K "Schema"),
 fun K=>PySem.W.selfFirst K (He.ga K "Schema"),
 fun K=>(He.Fa.mkr "Schema").ok K,
 fun K=>He.eqO (PySem.W.findIn K (.ref (He.ga K "Schema")) "__ne__") (some (some (.builtin "object.__ne__"))),
 fun K=>nfTab K (He.ga K "Schema") ts_Schema,
 fun K=>(He.Fa.meth "Schema" "__eq__").ok K,
 fun K=>(He.Fa.glo "Pattern").ok K,
 fun K=>(He.Fa.cls "Pattern").ok K,
 fun K=>clsXB K (He.ga K "Pattern"),
 fun K=>PySem.W.selfFirst K (He.ga K "Pattern"),
 fun K=>(He.Fa.mkr "Pattern").ok K,
 fun K=>statB K (He.ga K "Pattern") "place",
 fun K=>(He.Fa.meth "Pattern" "__or__").ok K,
 fun K=>(He.Fa.meth "Pattern" "__rshift__").ok K,
 fun K=>(He.Fa.glo "Statement").ok K,
 fun K=>(He.Fa.cls "Statement").ok K,
 fun K=>clsXB K (He.ga K "Statement"),
 fun K=>PySem.W.selfFirst K (He.ga K "Statement"),
 fun K=>(He.Fa.mkr "Statement").ok K,
 fun K=>(He.Fa.glo "Program").ok K,
 fun K=>(He.Fa.cls "Program").ok K,
 fun K=>clsXB K (He.ga K "Program"),
 fun K=>PySem.W.selfFirst K (He.ga K "Program"),
 fun K=>(He.Fa.mkr "Program").ok K,
 fun K=>propB K (He.ga K "Program") "placed",
 fun K=>propB K (He.ga K "Program") "width",
 fun K=>propB K (He.ga K "Program") "guards",
 fun K=>(He.Fa.noat "Wishes" "names").ok K,
 fun K=>(He.Fa.noat "Schema" "kind_entries").ok K,
 fun K=>(He.Fa.noat "Schema" "link_entries").ok K,
 fun K=>(He.Fa.noat "Schema" "kinds").ok K,
 fun K=>(He.Fa.noat "Schema" "links").ok K,
 fun K=>(He.Fa.noat "Pattern" "links").ok K,
 fun K=>(He.Fa.noat "Schema" "rules").ok K,
 fun K=>(He.Fa.noat "Schema" "spans").ok K,
 fun K=>(He.Fa.noat "Schema" "owners").ok K,
 fun K=>(He.Fa.noat "Schema" "kind_codes").ok K,
 fun K=>(He.Fa.noat "Schema" "link_codes").ok K,
 fun K=>(He.Fa.noat "Pattern" "places").ok K,
 fun K=>(He.Fa.noat "Statement" "how").ok K,
 fun K=>(He.Fa.noat "Statement" "pattern").ok K,
 fun K=>(He.Fa.noat "Program" "schema").ok K,
 fun K=>(He.Fa.noat "Program" "body").ok K,
 fun K=>(He.Fa.noat "Program" "watched").ok K,
 fun K=>isTab K (.ref (He.ga K "Schema")) ti_Schema,
 fun K=>isTab K (.type "str") ti_str,
 fun K=>He.eqO (PySem.W.findIn K (.ref (He.ga K "BadPattern")) "name") (some none),
 fun K=>He.eqO (PySem.W.findIn K (.ref (He.ga K "BadRow")) "index") (some none),
 fun K=>He.eqO (PySem.W.findIn K (.ref (He.ga K "BadSchema")) "at") (some none),
 fun K=>He.eqO (PySem.W.findIn K (.ref (He.ga K "Misfit")) "at") (some none),
 fun K=>He.eqO (PySem.W.findIn K (.ref (He.ga K "Misfit")) "part") (some none),
 fun K=>He.eqO (PySem.W.findIn K (.ref (He.ga K "Undone")) "index") (some none),
 fun K=>He.eqO (PySem.W.findIn K (.ref (He.ga K "Undone")) "why") (some none),
 fun K=>He.eqO (PySem.W.findIn K (.ref (He.ga K "Unknown")) "name") (some none),
 fun K=>(He.Fa.glo "BadPattern").ok K,
 fun K=>(He.Fa.glo "BadRow").ok K,
 fun K=>(He.Fa.glo "BadSchema").ok K,
 fun K=>(He.Fa.glo "Misfit").ok K,
 fun K=>(He.Fa.glo "OtherSchema").ok K,
 fun K=>(He.Fa.glo "Undone").ok K,
 fun K=>(He.Fa.glo "Unknown").ok K,
 fun K=>(He.Fa.free "super").ok K,
 fun K=>(He.Fa.free "all").ok K,
 fun K=>(He.Fa.free "enumerate").ok K,
 fun K=>(He.Fa.free "int").ok K,
 fun K=>(He.Fa.free "isinstance").ok K,
 fun K=>(He.Fa.free "len").ok K,
 fun K=>(He.Fa.free "list").ok K,
 fun K=>(He.Fa.free "max").ok K,
 fun K=>(He.Fa.free "min").ok K,
 fun K=>(He.Fa.free "range").ok K,
 fun K=>(He.Fa.free "str").ok K,
 fun K=>(He.Fa.free "tuple").ok K,
 fun K=>(He.Fa.free "zip").ok K,
 fun K=>(He.Fa.str "LETTERS" "abcdefghijklmnopqrstuvwxyz").ok K,
 fun K=>cvB K (He.ga K "Wishes") "NAMES" ["kept","let","clear","full","again","order","eager"]]
def fn:List He5.DefA := [⟨fun K=>(He.ga K "is_word"),"is_word","is_word",defArgs s_is_word,defBody s_is_word,defScope s_is_word,[],[]⟩,
 ⟨fun K=>(He.ga K "check_names"),"check_names","check_names",defArgs s_check_names,defBody s_check_names,defScope s_check_names,[],[]⟩,
 ⟨fun K=>(He.ga K "check_owners"),"check_owners","check_owners",defArgs s_check_owners,defBody s_check_owners,defScope s_check_owners,[],[]⟩,
 ⟨fun K=>(He.ma K (He.ga K "Schema") "__init__"),"__init__","Schema.__init__",defArgs s_Schema_init,defBody s_Schema_init,defScope s_Schema_init,[],[]⟩,
 ⟨fun K=>(He.ma K (He.ga K "Schema") "__eq__"),"__eq__","Schema.__eq__",defArgs s_Schema_eq,defBody s_Schema_eq,defScope s_Schema_eq,[],[]⟩,
 ⟨fun K=>(He.ga K "clash"),"clash","clash",defArgs s_clash,defBody s_clash,defScope s_clash,[],[]⟩,
 ⟨fun K=>(He.ma K (He.ga K "Pattern") "__init__"),"__init__","Pattern.__init__",defArgs s_Pattern_init,defBody s_Pattern_init,defScope s_Pattern_init,[],[]⟩,
 ⟨fun K=>(He5.wf K (He.ga K "Pattern") "staticmethod" "place"),"place","Pattern.place",defArgs s_Pattern_place,defBody s_Pattern_place,defScope s_Pattern_place,[],[]⟩,
 ⟨fun K=>(He.ma K (He.ga K "Pattern") "__or__"),"__or__","Pattern.__or__",defArgs s_Pattern_or,defBody s_Pattern_or,defScope s_Pattern_or,[],[]⟩,
 ⟨fun K=>(He.ma K (He.ga K "Pattern") "__rshift__"),"__rshift__","Pattern.__rshift__",defArgs s_Pattern_rshift,defBody s_Pattern_rshift,defScope s_Pattern_rshift,[],[]⟩,
 ⟨fun K=>(He.ma K (He.ga K "Statement") "__init__"),"__init__","Statement.__init__",defArgs s_Statement_init,defBody s_Statement_init,defScope s_Statement_init,[],[]⟩,
 ⟨fun K=>(He.ga K "check_statements"),"check_statements","check_statements",defArgs s_check_statements,defBody s_check_statements,defScope s_check_statements,[],[]⟩,
 ⟨fun K=>(He.ma K (He.ga K "Program") "__init__"),"__init__","Program.__init__",defArgs s_Program_init,defBody s_Program_init,defScope s_Program_init,[.adr (He.dflAt ("Program",some "__init__") 0)],[]⟩,
 ⟨fun K=>(propF K (He.ga K "Program") "placed"),"placed","Program.placed",defArgs s_Program_placed,defBody s_Program_placed,defScope s_Program_placed,[],[]⟩,
 ⟨fun K=>(propF K (He.ga K "Program") "width"),"width","Program.width",defArgs s_Program_width,defBody s_Program_width,defScope s_Program_width,[],[]⟩,
 ⟨fun K=>(propF K (He.ga K "Program") "guards"),"guards","Program.guards",defArgs s_Program_guards,defBody s_Program_guards,defScope s_Program_guards,[],[]⟩,
 ⟨fun K=>(He.ma K (He.ga K "Wishes") "__init__"),"__init__","Wishes.__init__",defArgs s_Wishes_init,defBody s_Wishes_init,defScope s_Wishes_init,[],[]⟩,
 ⟨fun K=>(He5.wf K (He.ga K "Wishes") "staticmethod" "of"),"of","Wishes.of",defArgs s_Wishes_of,defBody s_Wishes_of,defScope s_Wishes_of,[],[]⟩,
 ⟨fun K=>(He.ma K (He.ga K "Wishes") "__contains__"),"__contains__","Wishes.__contains__",defArgs s_Wishes_contains,defBody s_Wishes_contains,defScope s_Wishes_contains,[],[]⟩,
 ⟨fun K=>(He.ga K "column_groups"),"column_groups","column_groups",defArgs s_column_groups,defBody s_column_groups,defScope s_column_groups,[],[]⟩,
 ⟨fun K=>(He.ga K "meet"),"meet","meet",defArgs s_meet,defBody s_meet,defScope s_meet,[],[]⟩,
 ⟨fun K=>(He.ga K "plain_lists_of"),"plain_lists_of","plain_lists_of",defArgs s_plain_lists_of,defBody s_plain_lists_of,defScope s_plain_lists_of,[],[]⟩,
 ⟨fun K=>(He.ga K "plain_lists"),"plain_lists","plain_lists",defArgs s_plain_lists,defBody s_plain_lists,defScope s_plain_lists,[],[]⟩,
 ⟨fun K=>(He.ga K "_law_pool"),"_law_pool","_law_pool",defArgs s_law_pool,defBody s_law_pool,defScope s_law_pool,[],[]⟩,
 ⟨fun K=>(He.ga K "_law_draw"),"_law_draw","_law_draw",defArgs s_law_draw,defBody s_law_draw,defScope s_law_draw,[],[]⟩,
 ⟨fun K=>(He.ga K "_law_word"),"_law_word","_law_word",defArgs s_law_word,defBody s_law_word,defScope s_law_word,[],[]⟩,
 ⟨fun K=>(He.ga K "_law_schema"),"_law_schema","_law_schema",defArgs s_law_schema,defBody s_law_schema,defScope s_law_schema,[],[]⟩,
 ⟨fun K=>(He.ga K "_law_keys"),"_law_keys","_law_keys",defArgs s_law_keys,defBody s_law_keys,defScope s_law_keys,[],[]⟩,
 ⟨fun K=>(He.ga K "_law_few"),"_law_few","_law_few",defArgs s_law_few,defBody s_law_few,defScope s_law_few,[],[]⟩,
 ⟨fun K=>(He.ga K "_law_statements"),"_law_statements","_law_statements",defArgs s_law_statements,defBody s_law_statements,defScope s_law_statements,[],[]⟩,
 ⟨fun K=>(He.ga K "_law_pattern"),"_law_pattern","_law_pattern",defArgs s_law_pattern,defBody s_law_pattern,defScope s_law_pattern,[],[]⟩,
 ⟨fun K=>(He.ga K "_law_program"),"_law_program","_law_program",defArgs s_law_program,defBody s_law_program,defScope s_law_program,[],[]⟩,
 ⟨fun K=>(He.ga K "_law_groups"),"_law_groups","_law_groups",defArgs s_law_groups,defBody s_law_groups,defScope s_law_groups,[],[]⟩,
 ⟨fun K=>(He.ga K "_law_meets"),"_law_meets","_law_meets",defArgs s_law_meets,defBody s_law_meets,defScope s_law_meets,[],[]⟩,
 ⟨fun K=>(He.ga K "_law_rows"),"_law_rows","_law_rows",defArgs s_law_rows,defBody s_law_rows,defScope s_law_rows,[],[]⟩,
 ⟨fun K=>(He.ga K "_law_numbered"),"_law_numbered","_law_numbered",defArgs s_law_numbered,defBody s_law_numbered,defScope s_law_numbered,[],[]⟩,
 ⟨fun K=>(He.ga K "law"),"law","law",defArgs s_law,defBody s_law,defScope s_law,[],[]⟩]
def fe : List DefE := [⟨fun K => He.ga K "BadSchema","BadSchema.__init__",s_BadSchema_init,PySem.Challenge.pw_foundormade_k49_each_list_has_its_plain.main.file⟩,
 ⟨fun K => He.ga K "Unknown","Unknown.__init__",s_Unknown_init,PySem.Challenge.pw_foundormade_k49_each_list_has_its_plain.main.file⟩,
 ⟨fun K => He.ga K "BadPattern","BadPattern.__init__",s_BadPattern_init,PySem.Challenge.pw_foundormade_k49_each_list_has_its_plain.main.file⟩,
 ⟨fun K => He.ga K "Misfit","Misfit.__init__",s_Misfit_init,PySem.Challenge.pw_foundormade_k49_each_list_has_its_plain.main.file⟩,
 ⟨fun K => He.ga K "OtherSchema","OtherSchema.__init__",s_OtherSchema_init,PySem.Challenge.pw_foundormade_k49_each_list_has_its_plain.main.file⟩,
 ⟨fun K => He.ga K "BadRow","BadRow.__init__",s_BadRow_init,PySem.Challenge.pw_foundormade_k49_each_list_has_its_plain.main.file⟩,
 ⟨fun K => He.ga K "Undone","Undone.__init__",s_Undone_init,PySem.Challenge.pw_foundormade_k49_each_list_has_its_plain.main.file⟩]
abbrev R : PySem.W.OpenRow := PySem.W.OpenLaw.row PySem.Challenge.rw_foundormade_k49_each_list_has_its_plain
abbrev hk:PySem.W.Hook := hookE 6 fa fn fe
def ob (s:PySem.W.SharedT):He.AlD := obsEG 6 fa fn fe (HandSHeadRun.getT s)
theorem an_t {a b:Bool} (h:a=true) (k:b=true):(a && b)=true := by rw [h,k]; rfl
theorem topK:R.wellSaid=true := by
 unfold PySem.W.OpenRow.wellSaid PySem.W.OpenRow.partSaid PySem.W.looksOpen
 repeat' (with_reducible refine an_t ?_ ?_)
 all_goals decide +kernel
theorem topW:R.prog.tablesWhole=true := by decide +kernel
theorem ob_eq (s:PySem.W.SharedT):ob s=hk.obs s.abs := obsEG_eq (HandSHeadRun.getT_eq s)
theorem topL : PySem.W.OpenLaw.wellSaid PySem.Challenge.rw_foundormade_k49_each_list_has_its_plain = true := by
 unfold PySem.W.OpenLaw.wellSaid
 repeat' (with_reducible refine an_t ?_ ?_)
 ·exact topK
 all_goals decide +kernel
def names:List PySem.Str := [("_wall":PySem.Str),("FoundError":PySem.Str),("BadSchema":PySem.Str),("Unknown":PySem.Str),("BadPattern":PySem.Str),("Misfit":PySem.Str),("OtherSchema":PySem.Str),("BadRow":PySem.Str),("Undone":PySem.Str),("Wishes":PySem.Str),("column_groups":PySem.Str),("meet":PySem.Str),("plain_lists_of":PySem.Str),("plain_lists":PySem.Str),("LETTERS":PySem.Str),("is_word":PySem.Str),("check_names":PySem.Str),("check_owners":PySem.Str),("Schema":PySem.Str),("clash":PySem.Str),("kept_ends":PySem.Str),("Pattern":PySem.Str),("tie_checks":PySem.Str),("search":PySem.Str),("findings":PySem.Str),("bind":PySem.Str),("make":PySem.Str),("others":PySem.Str),("siblings":PySem.Str),("thing_refusal":PySem.Str),("link_refusal":PySem.Str),("refusal":PySem.Str),("Run":PySem.Str),("moved":PySem.Str),("taken_alone":PySem.Str),("add_alone":PySem.Str),("Statement":PySem.Str),("check_statements":PySem.Str),("appended":PySem.Str),("Program":PySem.Str),("_law_pool":PySem.Str),("_law_draw":PySem.Str),("_law_word":PySem.Str),("_law_schema":PySem.Str),("_law_keys":PySem.Str),("_law_few":PySem.Str),("_law_statements":PySem.Str),("_law_pattern":PySem.Str),("_law_program":PySem.Str),("_law_groups":PySem.Str),("_law_meets":PySem.Str),("_law_rows":PySem.Str),("_law_numbered":PySem.Str)]
abbrev kF (s:PySem.W.SharedT):PySem.W.Frag := He.frG (HandSHeadRun.getT s) (asE (HandSHeadRun.getT s) 6)
noncomputable abbrev endX (w:World) (os:OsState):Option PySem.W.SharedT := HandSHeadRun.endF (HandSHeadRun.stepQ (HandSHeadRun.denQ HandSHeadRun.tabQ) R.prog w) 12000 R.prog w os
theorem runA (w:World) (os:OsState):(endX w os).map (fun s=>HandSHeadRun.looksF R.prog (PySem.W.boot_heap w.params) s.abs)=some true := by kernel_rfl
theorem runS (w:World) (os:OsState):(endX w os).map (fun s=>HandSHeadRun.seenQ (PySem.W.view R.prog [64]) names (importedModules R.prog.main.body) (fun s=>PySem.W.xlAt (PySem.W.view R.prog [64]) [] s && PySem.W.recOk R.records s) s.abs)=some (PySem.W.openGood (PySem.W.view R.prog [64]) names) := by kernel_rfl
theorem runB (w:World) (os:OsState):(endX w os).map (fun s=>(fa.take (fa.length / 2)).all fun f=>f (kF s))=some true := by kernel_rfl
theorem runB2 (w:World) (os:OsState):(endX w os).map (fun s=>(fa.drop (fa.length / 2)).all fun f=>f (kF s))=some true := by kernel_rfl
theorem runC (w:World) (os:OsState):(endX w os).map (fun s=>(fn.take (fn.length / 2)).all fun d=>d.ok (kF s))=some true := by kernel_rfl
theorem runC2 (w:World) (os:OsState):(endX w os).map (fun s=>(fn.drop (fn.length / 2)).all fun d=>d.ok (kF s))=some true := by kernel_rfl
theorem runE (w:World) (os:OsState):(endX w os).map (fun s=>fe.all fun d=>d.ok (kF s))=some true := by kernel_rfl
theorem runD (w:World) (os:OsState):(endX w os).map (fun s=>(fn.map fun d=>He5.fnA (kF s) (d.at_ (kF s))) ++ fe.map fun d=>fnE (kF s) (d.at_ (kF s)))=some (fn.map He5.DefA.val ++ fe.map DefE.val) := by kernel_rfl
theorem o_join {α β γ:Type} {X:Option α} {f:α→β} {g:α→γ} {x:β} {y:γ} (a:X.map f=some x) (b:X.map g=some y):X.map (fun s=>(f s,g s))=some (x,y) := by
 cases X with
 | none=>cases a
 | some s =>
  have a1:f s=x := Option.some.inj a
  have b1:g s=y := Option.some.inj b
  show some (f s,g s)=_
  rw [a1,b1]
theorem o_ob {X:Option PySem.W.SharedT} {n m:Nat} (b1:X.map (fun s=>(fa.take n).all fun f=>f (kF s))=some true) (b2:X.map (fun s=>(fa.drop n).all fun f=>f (kF s))=some true) (c:X.map (fun s=>(fn.take m).all fun d=>d.ok (kF s))=some true) (c2:X.map (fun s=>(fn.drop m).all fun d=>d.ok (kF s))=some true) (c3:X.map (fun s=>fe.all fun d=>d.ok (kF s))=some true) (d:X.map (fun s=>(fn.map fun d=>He5.fnA (kF s) (d.at_ (kF s))) ++ fe.map fun d=>fnE (kF s) (d.at_ (kF s)))=some (fn.map He5.DefA.val ++ fe.map DefE.val)):X.map ob=some (valE fn fe) := by
 cases X with
 | none=>cases b1
 | some s =>
  have b1:((fa.take n).all fun f=>f (kF s))=true := Option.some.inj b1
  have b2:((fa.drop n).all fun f=>f (kF s))=true := Option.some.inj b2
  have c1:((fn.take m).all fun d=>d.ok (kF s))=true := Option.some.inj c
  have c2:((fn.drop m).all fun d=>d.ok (kF s))=true := Option.some.inj c2
  have c3:(fe.all fun d=>d.ok (kF s))=true := Option.some.inj c3
  have ef:(fn.all fun d=>d.ok (kF s))=true := by rw [← List.take_append_drop m fn,List.all_append,c1,c2]; rfl
  have d1 := Option.some.inj d
  have e:(fa.all fun f=>f (kF s))=true := by rw [← List.take_append_drop n fa,List.all_append,b1,b2]; rfl
  show some ((((fa.all fun f=>f (kF s)) && fn.all fun d=>d.ok (kF s)) && fe.all fun d=>d.ok (kF s)),_)=some (true,_)
  rw [e,ef,c3]
  exact congrArg (fun z=>some (true,z)) d1
theorem run (w:World):HandSHeadRun.RunEq R (PySem.W.view R.prog [64]) hk ob 12000 names w := by
 intro os
 exact o_join (runA w os) (o_join (runS w os) (o_ob (runB w os) (runB2 w os) (runC w os) (runC2 w os) (runE w os) (runD w os)))
open PySem.W PySem.Calls in
theorem topH (call:PySem.W.WalkO (PySem.W.view R.prog [64]) names (PySem.W.XL (PySem.W.view R.prog [64]) []) hk.says R.toRowW (HandSHeadRun.topDef R.prog 64) [] fun f vs=>PySem.call f vs):R.Holds := by
 refine HandSHeadRun.head_any (r := R) (q := PySem.W.view R.prog [64]) (H := hk) (ob := ob) (M := 12000) (loose := names) (d := HandSHeadRun.topDef R.prog 64) (kwd := []) ob_eq
  (by kernel_rfl) (fun s=>by kernel_rfl) run (by kernel_rfl) (by kernel_rfl) (by kernel_rfl) (by rfl) topK (by decide +kernel) ⟨rfl,rfl,rfl,rfl,rfl,topW⟩ ?hw call
 case hw=>w_witness2
theorem topDf:(HandSHeadRun.topDef R.prog 64).params.defaults=[] := by kernel_rfl
theorem topNm:(HandSHeadRun.topDef R.prog 64).name=("law":PySem.Str) := by kernel_rfl
theorem txt_of {K:PySem.W.Frag} {h:Heap} {mg:Str→Option Value} (X:K.In h) (G:h.Ns mainGlobals mg) (ce:obsE fa fn fe K=valE fn fe):Txt K mg :=
 have c := toB ce
 ⟨He.glo_ok X G (factB c 0),
  defF (fun K=>(He.ga K "is_word")) c 0,
  defK (fun K=>(He.ga K "is_word")) s_is_word "is_word" "is_word" c 0,
  He.glo_ok X G (factB c 1),
  defF (fun K=>(He.ga K "check_names")) c 1,
  defK (fun K=>(He.ga K "check_names")) s_check_names "check_names" "check_names" c 1,
  He.glo_ok X G (factB c 2),
  defF (fun K=>(He.ga K "check_owners")) c 2,
  defK (fun K=>(He.ga K "check_owners")) s_check_owners "check_owners" "check_owners" c 2,
  defF (fun K=>(He.ma K (He.ga K "Schema") "__init__")) c 3,
  defF (fun K=>(He.ma K (He.ga K "Schema") "__eq__")) c 4,
  He.glo_ok X G (factB c 3),
  defF (fun K=>(He.ga K "clash")) c 5,
  defK (fun K=>(He.ga K "clash")) s_clash "clash" "clash" c 5,
  defF (fun K=>(He.ma K (He.ga K "Pattern") "__init__")) c 6,
  defF (fun K=>(He5.wf K (He.ga K "Pattern") "staticmethod" "place")) c 7,
  defF (fun K=>(He.ma K (He.ga K "Pattern") "__or__")) c 8,
  defF (fun K=>(He.ma K (He.ga K "Pattern") "__rshift__")) c 9,
  defF (fun K=>(He.ma K (He.ga K "Statement") "__init__")) c 10,
  He.glo_ok X G (factB c 4),
  defF (fun K=>(He.ga K "check_statements")) c 11,
  defK (fun K=>(He.ga K "check_statements")) s_check_statements "check_statements" "check_statements" c 11,
  defB c 12,
  factB c 5,
  defF (fun K=>(propF K (He.ga K "Program") "placed")) c 13,
  defF (fun K=>(propF K (He.ga K "Program") "width")) c 14,
  defF (fun K=>(propF K (He.ga K "Program") "guards")) c 15,
  defF (fun K=>(He.ma K (He.ga K "Wishes") "__init__")) c 16,
  defF (fun K=>(He5.wf K (He.ga K "Wishes") "staticmethod" "of")) c 17,
  defF (fun K=>(He.ma K (He.ga K "Wishes") "__contains__")) c 18,
  He.glo_ok X G (factB c 6),
  defF (fun K=>(He.ga K "column_groups")) c 19,
  defK (fun K=>(He.ga K "column_groups")) s_column_groups "column_groups" "column_groups" c 19,
  He.glo_ok X G (factB c 7),
  defF (fun K=>(He.ga K "meet")) c 20,
  defK (fun K=>(He.ga K "meet")) s_meet "meet" "meet" c 20,
  He.glo_ok X G (factB c 8),
  defF (fun K=>(He.ga K "plain_lists_of")) c 21,
  defK (fun K=>(He.ga K "plain_lists_of")) s_plain_lists_of "plain_lists_of" "plain_lists_of" c 21,
  He.glo_ok X G (factB c 9),
  defF (fun K=>(He.ga K "plain_lists")) c 22,
  defK (fun K=>(He.ga K "plain_lists")) s_plain_lists "plain_lists" "plain_lists" c 22,
  He.glo_ok X G (factB c 10),
  defF (fun K=>(He.ga K "_law_pool")) c 23,
  defK (fun K=>(He.ga K "_law_pool")) s_law_pool "_law_pool" "_law_pool" c 23,
  He.glo_ok X G (factB c 11),
  defF (fun K=>(He.ga K "_law_draw")) c 24,
  defK (fun K=>(He.ga K "_law_draw")) s_law_draw "_law_draw" "_law_draw" c 24,
  He.glo_ok X G (factB c 12),
  defF (fun K=>(He.ga K "_law_word")) c 25,
  defK (fun K=>(He.ga K "_law_word")) s_law_word "_law_word" "_law_word" c 25,
  He.glo_ok X G (factB c 13),
  defF (fun K=>(He.ga K "_law_schema")) c 26,
  defK (fun K=>(He.ga K "_law_schema")) s_law_schema "_law_schema" "_law_schema" c 26,
  He.glo_ok X G (factB c 14),
  defF (fun K=>(He.ga K "_law_keys")) c 27,
  defK (fun K=>(He.ga K "_law_keys")) s_law_keys "_law_keys" "_law_keys" c 27,
  He.glo_ok X G (factB c 15),
  defF (fun K=>(He.ga K "_law_few")) c 28,
  defK (fun K=>(He.ga K "_law_few")) s_law_few "_law_few" "_law_few" c 28,
  He.glo_ok X G (factB c 16),
  defF (fun K=>(He.ga K "_law_statements")) c 29,
  defK (fun K=>(He.ga K "_law_statements")) s_law_statements "_law_statements" "_law_statements" c 29,
  He.glo_ok X G (factB c 17),
  defF (fun K=>(He.ga K "_law_pattern")) c 30,
  defK (fun K=>(He.ga K "_law_pattern")) s_law_pattern "_law_pattern" "_law_pattern" c 30,
  He.glo_ok X G (factB c 18),
  defF (fun K=>(He.ga K "_law_program")) c 31,
  defK (fun K=>(He.ga K "_law_program")) s_law_program "_law_program" "_law_program" c 31,
  He.glo_ok X G (factB c 19),
  defF (fun K=>(He.ga K "_law_groups")) c 32,
  defK (fun K=>(He.ga K "_law_groups")) s_law_groups "_law_groups" "_law_groups" c 32,
  He.glo_ok X G (factB c 20),
  defF (fun K=>(He.ga K "_law_meets")) c 33,
  defK (fun K=>(He.ga K "_law_meets")) s_law_meets "_law_meets" "_law_meets" c 33,
  He.glo_ok X G (factB c 21),
  defF (fun K=>(He.ga K "_law_rows")) c 34,
  defK (fun K=>(He.ga K "_law_rows")) s_law_rows "_law_rows" "_law_rows" c 34,
  He.glo_ok X G (factB c 22),
  defF (fun K=>(He.ga K "_law_numbered")) c 35,
  defK (fun K=>(He.ga K "_law_numbered")) s_law_numbered "_law_numbered" "_law_numbered" c 35,
  He.glo_ok X G (factB c 23),
  defF (fun K=>(He.ga K "law")) c 36,
  defK (fun K=>(He.ga K "law")) s_law "law" "law" c 36,
  He.glo_ok X G (factB c 24),
  He.cls_ok (factB c 25),
  clsXB_ok (factB c 26),
  factB c 27,
  He.mkr_ok (factB c 28),
  statB_ok (factB c 29),
  He.meth_ok (factB c 30),
  own_of (He.meth_ok (factB c 30)),
  He.glo_ok X G (factB c 31),
  He.cls_ok (factB c 32),
  clsXB_ok (factB c 33),
  factB c 34,
  He.mkr_ok (factB c 35),
  He.eqO_ok (factB c 36),
  nfTab_ok (cs := css) (by decide +kernel) (factB c 37),
  He.meth_ok (factB c 38),
  own_of (He.meth_ok (factB c 38)),
  He.glo_ok X G (factB c 39),
  He.cls_ok (factB c 40),
  clsXB_ok (factB c 41),
  factB c 42,
  He.mkr_ok (factB c 43),
  statB_ok (factB c 44),
  He.meth_ok (factB c 45),
  own_of (He.meth_ok (factB c 45)),
  He.meth_ok (factB c 46),
  own_of (He.meth_ok (factB c 46)),
  He.glo_ok X G (factB c 47),
  He.cls_ok (factB c 48),
  clsXB_ok (factB c 49),
  factB c 50,
  He.mkr_ok (factB c 51),
  He.glo_ok X G (factB c 52),
  He.cls_ok (factB c 53),
  clsXB_ok (factB c 54),
  factB c 55,
  He.mkr_ok (factB c 56),
  propB_ok (factB c 57),
  propB_ok (factB c 58),
  propB_ok (factB c 59),
  (List.forall_mem_cons.mpr ⟨⟨He.cls_ok (factB c 25),clsXB_ok (factB c 26)⟩,(List.forall_mem_cons.mpr ⟨⟨He.cls_ok (factB c 32),clsXB_ok (factB c 33)⟩,(List.forall_mem_cons.mpr ⟨⟨He.cls_ok (factB c 40),clsXB_ok (factB c 41)⟩,(List.forall_mem_cons.mpr ⟨⟨He.cls_ok (factB c 48),clsXB_ok (factB c 49)⟩,(List.forall_mem_cons.mpr ⟨⟨He.cls_ok (factB c 53),clsXB_ok (factB c 54)⟩,(fun c hc=>nomatch hc)⟩)⟩)⟩)⟩)⟩),
  (List.forall_mem_cons.mpr ⟨⟨He.cls_ok (factB c 25),He.noat_ok (factB c 60)⟩,(fun c hc=>nomatch hc)⟩),
  (List.forall_mem_cons.mpr ⟨⟨He.cls_ok (factB c 32),He.noat_ok (factB c 61)⟩,(fun c hc=>nomatch hc)⟩),
  (List.forall_mem_cons.mpr ⟨⟨He.cls_ok (factB c 32),He.noat_ok (factB c 62)⟩,(fun c hc=>nomatch hc)⟩),
  (List.forall_mem_cons.mpr ⟨⟨He.cls_ok (factB c 32),He.noat_ok (factB c 63)⟩,(fun c hc=>nomatch hc)⟩),
  (List.forall_mem_cons.mpr ⟨⟨He.cls_ok (factB c 32),He.noat_ok (factB c 64)⟩,(List.forall_mem_cons.mpr ⟨⟨He.cls_ok (factB c 40),He.noat_ok (factB c 65)⟩,(fun c hc=>nomatch hc)⟩)⟩),
  (List.forall_mem_cons.mpr ⟨⟨He.cls_ok (factB c 32),He.noat_ok (factB c 66)⟩,(fun c hc=>nomatch hc)⟩),
  (List.forall_mem_cons.mpr ⟨⟨He.cls_ok (factB c 32),He.noat_ok (factB c 67)⟩,(fun c hc=>nomatch hc)⟩),
  (List.forall_mem_cons.mpr ⟨⟨He.cls_ok (factB c 32),He.noat_ok (factB c 68)⟩,(fun c hc=>nomatch hc)⟩),
  (List.forall_mem_cons.mpr ⟨⟨He.cls_ok (factB c 32),He.noat_ok (factB c 69)⟩,(fun c hc=>nomatch hc)⟩),
  (List.forall_mem_cons.mpr ⟨⟨He.cls_ok (factB c 32),He.noat_ok (factB c 70)⟩,(fun c hc=>nomatch hc)⟩),
  (List.forall_mem_cons.mpr ⟨⟨He.cls_ok (factB c 40),He.noat_ok (factB c 71)⟩,(fun c hc=>nomatch hc)⟩),
  (List.forall_mem_cons.mpr ⟨⟨He.cls_ok (factB c 48),He.noat_ok (factB c 72)⟩,(fun c hc=>nomatch hc)⟩),
  (List.forall_mem_cons.mpr ⟨⟨He.cls_ok (factB c 48),He.noat_ok (factB c 73)⟩,(fun c hc=>nomatch hc)⟩),
  (List.forall_mem_cons.mpr ⟨⟨He.cls_ok (factB c 53),He.noat_ok (factB c 74)⟩,(fun c hc=>nomatch hc)⟩),
  (List.forall_mem_cons.mpr ⟨⟨He.cls_ok (factB c 53),He.noat_ok (factB c 75)⟩,(fun c hc=>nomatch hc)⟩),
  (List.forall_mem_cons.mpr ⟨⟨He.cls_ok (factB c 53),He.noat_ok (factB c 76)⟩,(fun c hc=>nomatch hc)⟩),
  isTab_ok (cs := css) (by decide +kernel) (factB c 77),
  isTab_ok (cs := css) (by decide +kernel) (factB c 78),
  He.eqO_ok (factB c 79),
  He.eqO_ok (factB c 80),
  He.eqO_ok (factB c 81),
  He.eqO_ok (factB c 82),
  He.eqO_ok (factB c 83),
  He.eqO_ok (factB c 84),
  He.eqO_ok (factB c 85),
  He.eqO_ok (factB c 86),
  He.glo_ok X G (factB c 87),
  He.glo_ok X G (factB c 88),
  He.glo_ok X G (factB c 89),
  He.glo_ok X G (factB c 90),
  He.glo_ok X G (factB c 91),
  He.glo_ok X G (factB c 92),
  He.glo_ok X G (factB c 93),
  toE ce 0,
  toE ce 1,
  toE ce 2,
  toE ce 3,
  toE ce 4,
  toE ce 5,
  toE ce 6,
  He.free_ok X G (factB c 94),
  He.free_ok X G (factB c 95),
  He.free_ok X G (factB c 96),
  He.free_ok X G (factB c 97),
  He.free_ok X G (factB c 98),
  He.free_ok X G (factB c 99),
  He.free_ok X G (factB c 100),
  He.free_ok X G (factB c 101),
  He.free_ok X G (factB c 102),
  He.free_ok X G (factB c 103),
  He.free_ok X G (factB c 104),
  He.free_ok X G (factB c 105),
  He.free_ok X G (factB c 106),
  He.str_ok X G (factB c 107),
  factB c 108⟩
end Lw
namespace Lw
open PySem PySem.Spec PyProof.Rows L2 Fm Am
open PySem.W (Datum Tup T3 T4)
section
variable {P:Program} {w:World} {K:PySem.W.Frag} {mg:Str→Option Value} {base:Heap}
theorem wk_is_word (T:Txt K mg):WkP P w K mg base N_is_word "is_word" s_is_word (He.ga K "is_word") 0 b_is_word := wk_in fun cdv A outer s H E hr tk hx po=>by
 unfold b_is_word
 exact (pss_one (rr (ae_and (Am.PE.weak (pe_callB call_isi (by rfl) T.z_isinstance (by decide +kernel) (pa_cons (q0 0) (pa_cons (pe_bltn (v := .ty "str") (by rfl) T.z_str (by decide +kernel) rfl) pa_nil))) (c_isi T.cs (.ty _) T.is_str)) (ae_and (ae_chain op_leA op_leA os_le os_le q1 (ql T.z_len (qa (q0 0))) q1) (pe_one (Am.PE.weak (pe_callB (call_allA rfl) (by rfl) T.z_all (by decide +kernel) (qa (Am.PE.weak (pe_lc (own := [("sign",1)]) rfl sc_is_word.nd (PI.weak (pi_seq (q0 0)) c_seq) (blkOk_by (own := [("sign",1)]) (N := N_is_word) (sc := defScope s_is_word) (by decide +kernel)) (fun _ _ _ _ _=>(qg 1 sc_is_word rfl)) (fun _ _ _ _ _=>(PTs.weak pts_nil c_yes)) (fun _ _ _ _ _=>(ae_cmp (op_inP (units65 hr)) os_in (q0 1) (ae_c (fun _=>.str _) (pe_const_str T.v_LETTERS (by rfl))) rfl))) (c_lc tg_name (by decide))))) (c_cb cs_all)))))))
theorem wk_check_names (T:Txt K mg) (G_is_word:GX P w K mg base 1 (He.ga K "is_word") m_is_word) (E_BadSchema:FnR P w K mg base CX0 1 (He.ma K (He.ga K "BadSchema") "__init__") (spE1 (He.ga K "BadSchema") "at")):WkP P w K mg base N_check_names "check_names" s_check_names (He.ga K "check_names") 2 b_check_names := wk_in fun cdv A outer s H E hr tk hx po=>by
 unfold b_check_names
 exact (rb (rs 2 sc_check_names rfl (ae_lstM aa_nil))
(ra (ps_for po rfl (PI.weak (pi_enum (by rfl) T.z_enumerate (qa (q0 0))) c_enum) (pg_tup rfl (pgs_cons (qg 3 sc_check_names rfl) (pgs_cons (pg_tup rfl (pgs_cons (qg 4 sc_check_names rfl) (pgs_cons (qg 5 sc_check_names rfl) (pgs_cons (qg 6 sc_check_names rfl) pgs_nil)))) pgs_nil))) (rb (rj (PW.pt (aw_or (at_not (at_val (qk G_is_word hx hr T.g_is_word T.k_is_word (qa (q0 4))))) (pw_or1 (at_cmp (op_inP (units65 hr)) os_in (q0 4) (q0 2) rfl)))) (pss_one (Am.PS.weak (ps_rz rfl tk T.e_BadSchema E_BadSchema (hr.mono (by decide)) (by rfl) T.g_BadSchema (pa_cons (q0 3) pa_nil)) c_rz1)))
(rb (rj (PW.pt (aw_or (at_cmp (op_notInP (units65 hr)) os_in (q0 5) (ae_tup (qc q2 q2 (qa q2))) rfl) (pw_or1 (qn hr.units (ae_cmp op_isNA os_isN (q0 6) (ae_c (fun _=>.non) pe_non) (nomark _)) (ae_cmp (op_neP hr.units) os_ne (q0 5) q2 (nomark _)))))) (pss_one (Am.PS.weak (ps_rz rfl tk T.e_BadSchema E_BadSchema (hr.mono (by decide)) (by rfl) T.g_BadSchema (pa_cons (q0 3) pa_nil)) c_rz1)))
(pss_one (rd (qp (q0 2) (qa (q0 4)))))))) (c_for (tg_tup (tgs_cons tg_name (tgs_cons (tg_tup (tgs_cons tg_name (tgs_cons tg_name (tgs_cons tg_name tgs_nil)))) tgs_nil))))
(rb (rs 7 sc_check_names rfl (Am.PE.weak (pe_callTy call_listA (by rfl) T.z_list (by decide +kernel) (qa (q0 2))) (c_cb cs_list)))
(pss_one (Am.PS.weak (ps_for po rfl (PI.weak (pi_enum (by rfl) T.z_enumerate (qa (q0 1))) c_enum) (pg_tup rfl (pgs_cons (qg 3 sc_check_names rfl) (pgs_cons (pg_tup rfl (pgs_cons (qg 4 sc_check_names rfl) (pgs_cons (qg 8 sc_check_names rfl) (pgs_cons (qg 9 sc_check_names rfl) (pgs_cons (qg 5 sc_check_names rfl) pgs_nil))))) pgs_nil))) (rb (rj (PW.pt (aw_or (at_not (at_val (qk G_is_word hx hr T.g_is_word T.k_is_word (qa (q0 4))))) (aw_or (at_cmp (op_inP (units65 hr)) os_in (q0 4) (q0 2) rfl) (pw_or1 (at_cmp (op_notInP (units65 hr)) os_in (q0 5) (ae_tup (qb q2 q2)) rfl))))) (pss_one (Am.PS.weak (ps_rz rfl tk T.e_BadSchema E_BadSchema (hr.mono (by decide)) (by rfl) T.g_BadSchema (pa_cons (ae_op op_addA os_add (ql T.z_len (qa (q0 0))) (q0 3)) pa_nil)) c_rz1)))
(rb (rj (PW.pt (aw_or (at_cmp (op_notInP (units65 hr)) os_in (q0 8) (q0 7) rfl) (pw_or1 (at_cmp (op_notInP (units65 hr)) os_in (q0 9) (q0 7) rfl)))) (pss_one (Am.PS.weak (ps_rz rfl tk T.e_BadSchema E_BadSchema (hr.mono (by decide)) (by rfl) T.g_BadSchema (pa_cons (ae_op op_addA os_add (ql T.z_len (qa (q0 0))) (q0 3)) pa_nil)) c_rz1)))
(pss_one (rd (qp (q0 2) (qa (q0 4)))))))) (c_for (tg_tup (tgs_cons tg_name (tgs_cons (tg_tup (tgs_cons tg_name (tgs_cons tg_name (tgs_cons tg_name (tgs_cons tg_name tgs_nil))))) tgs_nil)))))))))
theorem wk_check_owners (T:Txt K mg) (E_BadSchema:FnR P w K mg base CX0 1 (He.ma K (He.ga K "BadSchema") "__init__") (spE1 (He.ga K "BadSchema") "at")):WkP P w K mg base N_check_owners "check_owners" s_check_owners (He.ga K "check_owners") 2 b_check_owners := wk_in fun cdv A outer s H E hr tk hx po=>by
 unfold b_check_owners
 exact (ra (ps_setDc (i := 2) (own := [("name",4),("rule",5),("owner",6)]) rfl sc_check_owners.nd rfl rfl (sw_trueD rfl rfl rfl (by decide +kernel)) (PI.weak (pi_seq (q0 0)) c_seq) (blkOk_by (own := [("name",4),("rule",5),("owner",6)]) (N := N_check_owners) (sc := defScope s_check_owners) (by decide +kernel)) (fun _ _ _ _ _=>(pg_tup rfl (pgs_cons (qg 4 sc_check_owners rfl) (pgs_cons (qg 5 sc_check_owners rfl) (pgs_cons (qg 6 sc_check_owners rfl) pgs_nil))))) (fun _ _ _ _ _=>(PTs.weak pts_nil c_yes)) (fun _ _ _ _ _=>(q0 4)) (fun _ _ _ _ _=>(q0 5))) (c_setX (c_dc (tg_tup (tgs_cons tg_name (tgs_cons tg_name (tgs_cons tg_name tgs_nil)))) (by decide)) tg_name)
(pss_one (Am.PS.weak (ps_for po rfl (PI.weak (pi_enum (by rfl) T.z_enumerate (qa (q0 0))) c_enum) (pg_tup rfl (pgs_cons (qg 3 sc_check_owners rfl) (pgs_cons (pg_tup rfl (pgs_cons (qg 4 sc_check_owners rfl) (pgs_cons (qg 5 sc_check_owners rfl) (pgs_cons (qg 6 sc_check_owners rfl) pgs_nil)))) pgs_nil))) (pss_one (rj (qe hr.units (q0 5) q2) (ra (ps_setLc (i := 7) (own := [("link",8),("start",9),("end",10),("how",11)]) rfl sc_check_owners.nd rfl rfl (sw_true rfl rfl rfl (by decide +kernel)) (PI.weak (pi_seq (q0 1)) c_seq) (blkOk_by (own := [("link",8),("start",9),("end",10),("how",11)]) (N := N_check_owners) (sc := defScope s_check_owners) (by decide +kernel)) (fun _ _ _ _ _=>(pg_tup rfl (pgs_cons (qg 8 sc_check_owners rfl) (pgs_cons (qg 9 sc_check_owners rfl) (pgs_cons (qg 10 sc_check_owners rfl) (pgs_cons (qg 11 sc_check_owners rfl) pgs_nil)))))) (fun _ _ _ _ _=>(pts_one (PW.pt (aw_and (qe hr.units (q0 8) (q0 6)) (pw_and1 (qe hr.units (q0 10) (q0 4))))))) (fun _ _ _ _ _=>(q0 9))) (c_setX (c_lc (tg_tup (tgs_cons tg_name (tgs_cons tg_name (tgs_cons tg_name (tgs_cons tg_name tgs_nil))))) (by decide)) tg_name)
(pss_one (rj (PW.pt (aw_or (at_not (at_tru (q0 7))) (pw_or1 (qe hr.units (Am.PE.weak (pe_dget (hu_of hr) (q0 2) (qi (q0 7) q1) (fun _ _=>rfl)) c_dget) q2)))) (pss_one (Am.PS.weak (ps_rz rfl tk T.e_BadSchema E_BadSchema (hr.mono (by decide)) (by rfl) T.g_BadSchema (pa_cons (q0 3) pa_nil)) c_rz1)))))))) (c_for (tg_tup (tgs_cons tg_name (tgs_cons (tg_tup (tgs_cons tg_name (tgs_cons tg_name (tgs_cons tg_name tgs_nil)))) tgs_nil)))))))
theorem wk_Schema_init (T:Txt K mg) (G_check_names:GX P w K mg base 3 (He.ga K "check_names") m_check_names) (G_check_owners:GX P w K mg base 3 (He.ga K "check_owners") m_check_owners) (E_BadSchema:FnR P w K mg base CX0 1 (He.ma K (He.ga K "BadSchema") "__init__") (spE1 (He.ga K "BadSchema") "at")):WkP P w K mg base N_Schema_init "Schema.__init__" s_Schema_init (He.ma K (He.ga K "Schema") "__init__") 3 b_Schema_init := wk_in fun cdv A outer s H E hr tk hx po=>by
 unfold b_Schema_init
 exact (rb (rd (qk G_check_names hx hr T.g_check_names T.k_check_names (qb (q0 1) (q0 2))))
(rb (rj (PW.pt (aw_or (at_not (at_chain op_leA op_leA os_le os_le q1 (ql T.z_len (qa (q0 1))) q1)) (pw_or1 (at_cmp op_gtA os_gt (ql T.z_len (qa (q0 2))) q1 (nomark _))))) (pss_one (Am.PS.weak (ps_rz rfl tk T.e_BadSchema E_BadSchema (hr.mono (by decide)) (by rfl) T.g_BadSchema (pa_cons (ae_c (fun _=>.non) pe_non) pa_nil)) c_rz1)))
(rb (rd (qk G_check_owners hx hr T.g_check_owners T.k_check_owners (qb (q0 1) (q0 2))))
(ra (ps_fld (q0 0) (Am.PE.weak (pe_callTy call_tupA (by rfl) T.z_tuple (by decide +kernel) (qa (q0 1))) (c_cb cs_tup)) rfl) (c_sfld T.f_kind_entries)
(ra (ps_fld (q0 0) (Am.PE.weak (pe_callTy call_tupA (by rfl) T.z_tuple (by decide +kernel) (qa (q0 2))) (c_cb cs_tup)) rfl) (c_sfld T.f_link_entries)
(ra (ps_fld (q0 0) (Am.PE.weak (pe_callTy call_tupA (by rfl) T.z_tuple (by decide +kernel) (qa (Am.PE.weak (pe_lc (own := [("name",3),("rule",6),("owner",7)]) rfl sc_Schema_init.nd (PI.weak (pi_seq (q0 1)) c_seq) (blkOk_by (own := [("name",3),("rule",6),("owner",7)]) (N := N_Schema_init) (sc := defScope s_Schema_init) (by decide +kernel)) (fun _ _ _ _ _=>(pg_tup rfl (pgs_cons (qg 3 sc_Schema_init rfl) (pgs_cons (qg 6 sc_Schema_init rfl) (pgs_cons (qg 7 sc_Schema_init rfl) pgs_nil))))) (fun _ _ _ _ _=>(PTs.weak pts_nil c_yes)) (fun _ _ _ _ _=>(q0 3))) (c_lc (tg_tup (tgs_cons tg_name (tgs_cons tg_name (tgs_cons tg_name tgs_nil)))) (by decide))))) (c_cb cs_tup)) rfl) (c_sfld T.f_kinds)
(ra (ps_fld (q0 0) (Am.PE.weak (pe_callTy call_tupA (by rfl) T.z_tuple (by decide +kernel) (qa (Am.PE.weak (pe_lc (own := [("name",3),("start",4),("end",5),("rule",6)]) rfl sc_Schema_init.nd (PI.weak (pi_seq (q0 2)) c_seq) (blkOk_by (own := [("name",3),("start",4),("end",5),("rule",6)]) (N := N_Schema_init) (sc := defScope s_Schema_init) (by decide +kernel)) (fun _ _ _ _ _=>(pg_tup rfl (pgs_cons (qg 3 sc_Schema_init rfl) (pgs_cons (qg 4 sc_Schema_init rfl) (pgs_cons (qg 5 sc_Schema_init rfl) (pgs_cons (qg 6 sc_Schema_init rfl) pgs_nil)))))) (fun _ _ _ _ _=>(PTs.weak pts_nil c_yes)) (fun _ _ _ _ _=>(q0 3))) (c_lc (tg_tup (tgs_cons tg_name (tgs_cons tg_name (tgs_cons tg_name (tgs_cons tg_name tgs_nil))))) (by decide))))) (c_cb cs_tup)) rfl) (c_sfld T.f_links)
(ra (ps_fld (q0 0) (Am.PE.weak (pe_dc (own := [("name",3),("rule",6),("owner",7)]) rfl sc_Schema_init.nd (PI.weak (pi_seq (q0 1)) c_seq) (blkOk_by (own := [("name",3),("rule",6),("owner",7)]) (N := N_Schema_init) (sc := defScope s_Schema_init) (by decide +kernel)) (fun _ _ _ _ _=>(pg_tup rfl (pgs_cons (qg 3 sc_Schema_init rfl) (pgs_cons (qg 6 sc_Schema_init rfl) (pgs_cons (qg 7 sc_Schema_init rfl) pgs_nil))))) (fun _ _ _ _ _=>(PTs.weak pts_nil c_yes)) (fun _ _ _ _ _=>(q0 3)) (fun _ _ _ _ _=>(q0 6))) (c_dcM (tg_tup (tgs_cons tg_name (tgs_cons tg_name (tgs_cons tg_name tgs_nil)))) (by decide))) rfl) (c_sfld T.f_rules)
(ra (ps_fld (q0 0) (Am.PE.weak pe_dnewK c_dnewK) rfl) (c_sfld T.f_spans)
(ra (ps_for po rfl (PI.weak (pi_seq (q0 2)) c_seq) (pg_tup rfl (pgs_cons (qg 3 sc_Schema_init rfl) (pgs_cons (qg 4 sc_Schema_init rfl) (pgs_cons (qg 5 sc_Schema_init rfl) (pgs_cons (qg 6 sc_Schema_init rfl) pgs_nil))))) (ra (ps_dput (hu_of hr) (qf (q0 0) T.f_rules) (q0 3) (q0 6) rfl) c_dput
(pss_one (Am.PS.weak (ps_dput (hu_of hr) (qf (q0 0) T.f_spans) (q0 3) (ae_tup (qb (q0 4) (q0 5))) rfl) c_dput)))) (c_for (tg_tup (tgs_cons tg_name (tgs_cons tg_name (tgs_cons tg_name (tgs_cons tg_name tgs_nil))))))
(ra (ps_fld (q0 0) (Am.PE.weak pe_dnewK c_dnewK) rfl) (c_sfld T.f_owners)
(ra (ps_for po rfl (PI.weak (pi_seq (q0 1)) c_seq) (pg_tup rfl (pgs_cons (qg 3 sc_Schema_init rfl) (pgs_cons (qg 6 sc_Schema_init rfl) (pgs_cons (qg 7 sc_Schema_init rfl) pgs_nil)))) (pss_one (Am.PS.weak (ps_dput (hu_of hr) (qf (q0 0) T.f_owners) (q0 3) (ae_ifExp (at_cmp op_isNA os_isN (q0 7) (ae_c (fun _=>.non) pe_non) (nomark _)) (ae_c (fun _=>.non) pe_non) (ae_tup (qb (q0 7) (qi (Am.PE.weak (pe_dget (hu_of hr) (qf (q0 0) T.f_spans) (q0 7) (fun _ _=>rfl)) c_dget) q1)))) rfl) c_dput))) (c_for (tg_tup (tgs_cons tg_name (tgs_cons tg_name (tgs_cons tg_name tgs_nil)))))
(ra (ps_fld (q0 0) (Am.PE.weak (pe_dc (own := [("at",8),("name",3)]) rfl sc_Schema_init.nd (PI.weak (pi_enumT (by rfl) T.z_enumerate (qa (qf (q0 0) T.f_kinds))) c_enumT) (blkOk_by (own := [("at",8),("name",3)]) (N := N_Schema_init) (sc := defScope s_Schema_init) (by decide +kernel)) (fun _ _ _ _ _=>(pg_tup rfl (pgs_cons (qg 8 sc_Schema_init rfl) (pgs_cons (qg 3 sc_Schema_init rfl) pgs_nil)))) (fun _ _ _ _ _=>(PTs.weak pts_nil c_yes)) (fun _ _ _ _ _=>(q0 3)) (fun _ _ _ _ _=>(q0 8))) (c_dc (tg_tup (tgs_cons tg_name (tgs_cons tg_name tgs_nil))) (by decide))) rfl) (c_sfld T.f_kind_codes)
(pss_one (Am.PS.weak (ps_fld (q0 0) (Am.PE.weak (pe_dc (own := [("at",8),("name",3)]) rfl sc_Schema_init.nd (PI.weak (pi_enumT (by rfl) T.z_enumerate (qa (qf (q0 0) (one_of T.f_links (by simp))))) c_enumT) (blkOk_by (own := [("at",8),("name",3)]) (N := N_Schema_init) (sc := defScope s_Schema_init) (by decide +kernel)) (fun _ _ _ _ _=>(pg_tup rfl (pgs_cons (qg 8 sc_Schema_init rfl) (pgs_cons (qg 3 sc_Schema_init rfl) pgs_nil)))) (fun _ _ _ _ _=>(PTs.weak pts_nil c_yes)) (fun _ _ _ _ _=>(q0 3)) (fun _ _ _ _ _=>(q0 8))) (c_dc (tg_tup (tgs_cons tg_name (tgs_cons tg_name tgs_nil))) (by decide))) rfl) (c_sfld T.f_link_codes))))))))))))))))
theorem wk_clash (T:Txt K mg):WkP P w K mg base N_clash "clash" s_clash (He.ga K "clash") 0 b_clash := wk_in fun cdv A outer s H E hr tk hx po=>by
 unfold b_clash
 exact (ra (ps_setDc (i := 2) (own := [("name",4),("kind",5),("column",6)]) rfl sc_clash.nd rfl rfl (sw_trueD rfl rfl rfl (by decide +kernel)) (PI.weak (pi_seq (qf (q0 0) T.f_places)) c_seq) (blkOk_by (own := [("name",4),("kind",5),("column",6)]) (N := N_clash) (sc := defScope s_clash) (by decide +kernel)) (fun _ _ _ _ _=>(pg_tup rfl (pgs_cons (qg 4 sc_clash rfl) (pgs_cons (qg 5 sc_clash rfl) (pgs_cons (qg 6 sc_clash rfl) pgs_nil))))) (fun _ _ _ _ _=>(PTs.weak pts_nil c_yes)) (fun _ _ _ _ _=>(q0 4)) (fun _ _ _ _ _=>(ae_tup (qc (q0 4) (q0 5) (qa (q0 6)))))) (c_setX (c_dc (tg_tup (tgs_cons tg_name (tgs_cons tg_name (tgs_cons tg_name tgs_nil)))) (by decide)) tg_name)
(ra (ps_for po rfl (PI.weak (pi_seq (qf (q0 1) T.f_places)) c_seq) (qg 3 sc_clash rfl) (pss_one (rj (qn hr.units (Am.PE.weak (pe_dget2 (hu_of hr) (q0 2) (qi (q0 3) q1) (q0 3) ⟨rfl,rfl,rfl,rfl⟩) c_dget2) (q0 3)) (pss_one (rr (qi (q0 3) q1)))))) (c_for tg_name)
(pss_one (rr (ae_c (fun _=>.non) pe_non)))))
theorem wk_Pattern_init (T:Txt K mg):WkP P w K mg base N_Pattern_init "Pattern.__init__" s_Pattern_init (He.ma K (He.ga K "Pattern") "__init__") 0 b_Pattern_init := wk_in fun cdv A outer s H E hr tk hx po=>by
 unfold b_Pattern_init
 exact (ra (ps_fld (q0 0) (Am.PE.weak (pe_callTy call_tupA (by rfl) T.z_tuple (by decide +kernel) (qa (q0 1))) (c_cb cs_tup)) rfl) (c_sfld T.f_places)
(pss_one (Am.PS.weak (ps_fld (q0 0) (Am.PE.weak (pe_callTy call_tupA (by rfl) T.z_tuple (by decide +kernel) (qa (q0 2))) (c_cb cs_tup)) rfl) (c_sfld T.f_links))))
theorem wk_Pattern_place (T:Txt K mg) (G_Pattern_init:GX P w K mg base 1 (He.ma K (He.ga K "Pattern") "__init__") m_Pattern_init) (G_is_word:GX P w K mg base 1 (He.ga K "is_word") m_is_word) (E_BadPattern:FnR P w K mg base CX0 1 (He.ma K (He.ga K "BadPattern") "__init__") (spE1 (He.ga K "BadPattern") "name")):WkP P w K mg base N_Pattern_place "Pattern.place" s_Pattern_place (He5.wf K (He.ga K "Pattern") "staticmethod" "place") 2 b_Pattern_place := wk_in fun cdv A outer s H E hr tk hx po=>by
 unfold b_Pattern_place
 exact (rb (rj (PW.pt (aw_or (at_not (at_val (qk G_is_word hx hr T.g_is_word T.k_is_word (qa (q0 0))))) (aw_or (at_not (at_val (qk G_is_word hx hr T.g_is_word T.k_is_word (qa (q0 1))))) (pw_or1 (at_not (at_chain op_leA op_leA os_le os_le q1 (q0 2) q1)))))) (pss_one (Am.PS.weak (ps_rz rfl tk T.e_BadPattern E_BadPattern (hr.mono (by decide)) (by rfl) T.g_BadPattern (pa_cons (q0 0) pa_nil)) c_rz1)))
(pss_one (rr (Am.PE.weak (pe_makeS T.mk_Pattern G_Pattern_init (hr.mono (by decide)) (by rfl) T.g_Pattern hx (qb (ae_lst (qa (ae_tup (qc (q0 0) (q0 1) (qa (q0 2)))))) (ae_lst aa_nil))) c_makeD))))
theorem wk_Pattern_or (T:Txt K mg) (G_Pattern_init:GX P w K mg base 1 (He.ma K (He.ga K "Pattern") "__init__") m_Pattern_init) (G_clash:GX P w K mg base 1 (He.ga K "clash") m_clash) (E_BadPattern:FnR P w K mg base CX0 1 (He.ma K (He.ga K "BadPattern") "__init__") (spE1 (He.ga K "BadPattern") "name")):WkP P w K mg base N_Pattern_or "Pattern.__or__" s_Pattern_or (He.ma K (He.ga K "Pattern") "__or__") 2 b_Pattern_or := wk_in fun cdv A outer s H E hr tk hx po=>by
 unfold b_Pattern_or
 exact (rb (rs 2 sc_Pattern_or rfl (qk G_clash hx hr T.g_clash T.k_clash (qb (q0 0) (q0 1))))
(rb (rj (at_cmp op_notNA os_notN (q0 2) (ae_c (fun _=>.non) pe_non) (nomark _)) (pss_one (Am.PS.weak (ps_rz rfl tk T.e_BadPattern E_BadPattern (hr.mono (by decide)) (by rfl) T.g_BadPattern (pa_cons (q0 2) pa_nil)) c_rz1)))
(ra (ps_setLc (i := 3) (own := [("place",5)]) rfl sc_Pattern_or.nd rfl rfl (sw_true rfl rfl rfl (by decide +kernel)) (PI.weak (pi_seq (qf (q0 1) T.f_places)) c_seq) (blkOk_by (own := [("place",5)]) (N := N_Pattern_or) (sc := defScope s_Pattern_or) (by decide +kernel)) (fun _ _ _ _ _=>(qg 5 sc_Pattern_or rfl)) (fun _ _ _ _ _=>(pts_one (at_cmp (op_notInP (units65 hr)) os_in (q0 5) (qf (q0 0) T.f_places) rfl))) (fun _ _ _ _ _=>(q0 5))) (c_setX (c_lc tg_name (by decide)) tg_name)
(ra (ps_setLc (i := 4) (own := [("link",6)]) rfl sc_Pattern_or.nd rfl rfl (sw_true rfl rfl rfl (by decide +kernel)) (PI.weak (pi_seq (qf (q0 1) T.f_links)) c_seq) (blkOk_by (own := [("link",6)]) (N := N_Pattern_or) (sc := defScope s_Pattern_or) (by decide +kernel)) (fun _ _ _ _ _=>(qg 6 sc_Pattern_or rfl)) (fun _ _ _ _ _=>(pts_one (at_cmp (op_notInP (units65 hr)) os_in (q0 6) (qf (q0 0) (one_of T.f_links (by simp))) rfl))) (fun _ _ _ _ _=>(q0 6))) (c_setX (c_lc tg_name (by decide)) tg_name)
(pss_one (rr (Am.PE.weak (pe_makeS T.mk_Pattern G_Pattern_init (hr.mono (by decide)) (by rfl) T.g_Pattern hx (qb (ae_lst (aa_star (qf (q0 0) T.f_places) (aa_star (q0 3) aa_nil))) (ae_lst (aa_star (qf (q0 0) (one_of T.f_links (by simp))) (aa_star (q0 4) aa_nil))))) c_makeD)))))))
theorem wk_Pattern_rshift (T:Txt K mg) (G_Pattern_init:GX P w K mg base 1 (He.ma K (He.ga K "Pattern") "__init__") m_Pattern_init) (G_Pattern_or:GX P w K mg base 3 (He.ma K (He.ga K "Pattern") "__or__") m_Pattern_or) (G_is_word:GX P w K mg base 1 (He.ga K "is_word") m_is_word) (E_BadPattern:FnR P w K mg base CX0 1 (He.ma K (He.ga K "BadPattern") "__init__") (spE1 (He.ga K "BadPattern") "name")):WkP P w K mg base N_Pattern_rshift "Pattern.__rshift__" s_Pattern_rshift (He.ma K (He.ga K "Pattern") "__rshift__") 3 b_Pattern_rshift := wk_in fun cdv A outer s H E hr tk hx po=>by
 unfold b_Pattern_rshift
 exact (ra (ps_asg (q0 1) (pg_tup rfl (pgs_cons (qg 2 sc_Pattern_rshift rfl) (pgs_cons (qg 3 sc_Pattern_rshift rfl) pgs_nil)))) (c_set (tg_tup (tgs_cons tg_name (tgs_cons tg_name tgs_nil))))
(rb (rj (PW.pt (aw_or (at_not (at_val (qk G_is_word hx hr T.g_is_word T.k_is_word (qa (q0 2))))) (aw_or (qe hr.units (qf (q0 0) T.f_places) (ae_tup aa_nil)) (pw_or1 (qe hr.units (qf (q0 3) T.f_places) (ae_tup aa_nil)))))) (pss_one (Am.PS.weak (ps_rz rfl tk T.e_BadPattern E_BadPattern (hr.mono (by decide)) (by rfl) T.g_BadPattern (pa_cons (q0 2) pa_nil)) c_rz1)))
(rb (rs 4 sc_Pattern_rshift rfl (Am.PE.weak (pe_opS (op_ownS T.sf_Pattern T.o_Pattern_or G_Pattern_or (hr.mono (by decide)) hx) (q0 0) (q0 3)) c_own))
(rb (rs 5 sc_Pattern_rshift rfl (ae_tup (qc (q0 2) (qi (qi (qf (q0 0) T.f_places) (ae_un un_negA us_neg q1)) q1) (qa (qi (qi (qf (q0 3) T.f_places) q1) q1)))))
(rb (rs 6 sc_Pattern_rshift rfl (qi (qf (q0 3) T.f_places) (ae_un un_negA us_neg q1)))
(ra (ps_setLc (i := 7) (own := [("place",9)]) rfl sc_Pattern_rshift.nd rfl rfl (sw_true rfl rfl rfl (by decide +kernel)) (PI.weak (pi_seq (qf (q0 4) T.f_places)) c_seq) (blkOk_by (own := [("place",9)]) (N := N_Pattern_rshift) (sc := defScope s_Pattern_rshift) (by decide +kernel)) (fun _ _ _ _ _=>(qg 9 sc_Pattern_rshift rfl)) (fun _ _ _ _ _=>(pts_one (qn hr.units (q0 9) (q0 6)))) (fun _ _ _ _ _=>(q0 9))) (c_setX (c_lc tg_name (by decide)) tg_name)
(ra (ps_setLc (i := 8) (own := [("one",10)]) rfl sc_Pattern_rshift.nd rfl rfl (sw_true rfl rfl rfl (by decide +kernel)) (PI.weak (pi_seq (qf (q0 4) T.f_links)) c_seq) (blkOk_by (own := [("one",10)]) (N := N_Pattern_rshift) (sc := defScope s_Pattern_rshift) (by decide +kernel)) (fun _ _ _ _ _=>(qg 10 sc_Pattern_rshift rfl)) (fun _ _ _ _ _=>(PTs.weak pts_nil c_yes)) (fun _ _ _ _ _=>(q0 10))) (c_setX (c_lc tg_name (by decide)) tg_name)
(rb (rj (at_cmp (op_notInP (units65 hr)) os_in (q0 5) (q0 8) rfl) (pss_one (rs 8 sc_Pattern_rshift rfl (ae_op op_addA os_add (q0 8) (ae_lst (qa (q0 5)))))))
(pss_one (rr (Am.PE.weak (pe_makeS T.mk_Pattern G_Pattern_init (hr.mono (by decide)) (by rfl) T.g_Pattern hx (qb (ae_lst (aa_star (q0 7) (qa (q0 6)))) (q0 8))) c_makeD)))))))))))
theorem wk_Statement_init (T:Txt K mg):WkP P w K mg base N_Statement_init "Statement.__init__" s_Statement_init (He.ma K (He.ga K "Statement") "__init__") 0 b_Statement_init := wk_in fun cdv A outer s H E hr tk hx po=>by
 unfold b_Statement_init
 exact (ra (ps_fld (q0 0) (q0 1) rfl) (c_sfld T.f_how)
(pss_one (Am.PS.weak (ps_fld (q0 0) (q0 2) rfl) (c_sfld T.f_pattern))))
theorem wk_check_statements (T:Txt K mg) (E_Misfit:FnR P w K mg base CX0 1 (He.ma K (He.ga K "Misfit") "__init__") (spE2 (He.ga K "Misfit") "at" "part")):WkP P w K mg base N_check_statements "check_statements" s_check_statements (He.ga K "check_statements") 2 b_check_statements := wk_in fun cdv A outer s H E hr tk hx po=>by
 unfold b_check_statements
 exact (rb (rs 2 sc_check_statements rfl (Am.PE.weak pe_dnewK c_dnewK))
(pss_one (Am.PS.weak (ps_for po rfl (PI.weak (pi_enum (by rfl) T.z_enumerate (qa (q0 1))) c_enum) (pg_tup rfl (pgs_cons (qg 3 sc_check_statements rfl) (pgs_cons (qg 4 sc_check_statements rfl) pgs_nil))) (rb (rs 5 sc_check_statements rfl (Am.PE.weak pe_dnewK c_dnewK))
(ra (ps_for po rfl (PI.weak (pi_seq (qf (qf (q0 4) T.f_pattern) T.f_places)) c_seq) (qg 6 sc_check_statements rfl) (rb (rj (PW.pt (aw_or (at_pc (pt_cmp (pc_dnotin (hu_of hr) (qi (q0 6) q1) (qf (q0 0) T.f_kind_codes)) rfl) c_dnotin) (pw_or1 (qn hr.units (Am.PE.weak (pe_dget2 (hu_of hr) (q0 2) (qi (q0 6) q1) (q0 6) ⟨rfl,rfl,rfl,rfl⟩) c_dget2) (q0 6))))) (pss_one (Am.PS.weak (ps_rz rfl tk T.e_Misfit E_Misfit (hr.mono (by decide)) (by rfl) T.g_Misfit (pa_cons (q0 3) (pa_cons (qi (q0 6) q1) pa_nil))) c_rz2)))
(pss_one (Am.PS.weak (ps_dput (hu_of hr) (q0 5) (qi (q0 6) q1) (q0 6) rfl) c_dput)))) (c_for tg_name)
(ra (ps_for po rfl (PI.weak (pi_seq (qf (qf (q0 4) T.f_pattern) T.f_links)) c_seq) (pg_tup rfl (pgs_cons (qg 7 sc_check_statements rfl) (pgs_cons (qg 8 sc_check_statements rfl) (pgs_cons (qg 9 sc_check_statements rfl) pgs_nil)))) (pss_one (rj (PW.pt (aw_or (at_pc (pt_cmp (pc_dnotin (hu_of hr) (q0 7) (qf (q0 0) T.f_link_codes)) rfl) c_dnotin) (pw_or1 (qn hr.units (Am.PE.weak (pe_dget (hu_of hr) (qf (q0 0) T.f_spans) (q0 7) (fun _ _=>rfl)) c_dget) (ae_tup (qb (qi (Am.PE.weak (pe_dget (hu_of hr) (q0 5) (q0 8) (fun _ _=>rfl)) c_dget) q1) (qi (Am.PE.weak (pe_dget (hu_of hr) (q0 5) (q0 9) (fun _ _=>rfl)) c_dget) q1))))))) (pss_one (Am.PS.weak (ps_rz rfl tk T.e_Misfit E_Misfit (hr.mono (by decide)) (by rfl) T.g_Misfit (pa_cons (q0 3) (pa_cons (q0 7) pa_nil))) c_rz2))))) (c_for (tg_tup (tgs_cons tg_name (tgs_cons tg_name (tgs_cons tg_name tgs_nil)))))
(pss_one (Am.PS.weak (ps_lock (Am.PS.weak (ps_for po rfl (PI.weak (pi_keys (q0 5)) c_keys) (qg 7 sc_check_statements rfl) (pss_one (Am.PS.weak (ps_dput (hu_of hr) (q0 2) (q0 7) (Am.PE.weak (pe_dget (hu_of hr) (q0 5) (q0 7) (fun _ _=>rfl)) c_dget) rfl) c_dput))) (c_for tg_name))) c_lock)))))) (c_for (tg_tup (tgs_cons tg_name (tgs_cons tg_name tgs_nil)))))))
theorem wk_Program_init (T:Txt K mg) (G_check_statements:GX P w K mg base 3 (He.ga K "check_statements") m_check_statements):WkP P w K mg base N_Program_init "Program.__init__" s_Program_init (He.ma K (He.ga K "Program") "__init__") 3 b_Program_init := wk_in fun cdv A outer s H E hr tk hx po=>by
 unfold b_Program_init
 exact (rb (rd (qk G_check_statements hx hr T.g_check_statements T.k_check_statements (qb (q0 1) (q0 2))))
(ra (ps_fld (q0 0) (q0 1) rfl) (c_sfld T.f_schema)
(ra (ps_fld (q0 0) (Am.PE.weak (pe_callTy call_listA (by rfl) T.z_list (by decide +kernel) (qa (q0 2))) (c_cb cs_list)) rfl) (c_sfld T.f_body)
(pss_one (Am.PS.weak (ps_fld (q0 0) (Am.PE.weak (pe_callTy call_tupA (by rfl) T.z_tuple (by decide +kernel) (qa (q0 3))) (c_cb cs_tupK)) rfl) (c_sfld T.f_watched))))))
theorem wk_Program_placed (T:Txt K mg):WkP P w K mg base N_Program_placed "Program.placed" s_Program_placed (propF K (He.ga K "Program") "placed") 0 b_Program_placed := wk_in fun cdv A outer s H E hr tk hx po=>by
 unfold b_Program_placed
 exact (rb (rs 1 sc_Program_placed rfl (ae_lst aa_nil))
(ra (ps_for po rfl (PI.weak (pi_seq (qf (q0 0) T.f_body)) c_seq) (qg 2 sc_Program_placed rfl) (pss_one (Am.PS.weak (ps_for po rfl (PI.weak (pi_seq (qf (qf (q0 2) T.f_pattern) T.f_places)) c_seq) (qg 3 sc_Program_placed rfl) (pss_one (rj (at_cmp (op_notInP (units65 hr)) os_in (q0 3) (q0 1) rfl) (pss_one (rs 1 sc_Program_placed rfl (ae_op op_addA os_add (q0 1) (ae_lst (qa (q0 3))))))))) (c_for tg_name)))) (c_for tg_name)
(pss_one (rr (Am.PE.weak (pe_callTy call_tupA (by rfl) T.z_tuple (by decide +kernel) (qa (q0 1))) (c_cb cs_tup))))))
theorem wk_Program_width (T:Txt K mg) (G_Program_placed:GX P w K mg base 1 (propF K (He.ga K "Program") "placed") m_Program_placed):WkP P w K mg base N_Program_width "Program.width" s_Program_width (propF K (He.ga K "Program") "width") 2 b_Program_width := wk_in fun cdv A outer s H E hr tk hx po=>by
 unfold b_Program_width
 exact (pss_one (rr (Am.PE.weak (pe_callB (cr_max rfl) (by rfl) T.z_max (by decide +kernel) (qa (ae_op op_addA os_add (ae_lst (qa q1)) (Am.PE.weak (pe_lc (own := [("name",1),("kind",2),("column",3)]) rfl sc_Program_width.nd (PI.weak (pi_seq (Am.PE.weak (pe_propS (q0 0) T.c_Program T.p_Program_placed G_Program_placed (hr.mono (by decide)) passFN) c_prop)) c_seq) (blkOk_by (own := [("name",1),("kind",2),("column",3)]) (N := N_Program_width) (sc := defScope s_Program_width) (by decide +kernel)) (fun _ _ _ _ _=>(pg_tup rfl (pgs_cons (qg 1 sc_Program_width rfl) (pgs_cons (qg 2 sc_Program_width rfl) (pgs_cons (qg 3 sc_Program_width rfl) pgs_nil))))) (fun _ _ _ _ _=>(PTs.weak pts_nil c_yes)) (fun _ _ _ _ _=>(ae_op op_addA os_add (q0 3) q1))) (c_lc (tg_tup (tgs_cons tg_name (tgs_cons tg_name (tgs_cons tg_name tgs_nil)))) (by decide)))))) (c_cb cs_max))))
theorem wk_Wishes_init (T:Txt K mg):WkP P w K mg base N_Wishes_init "Wishes.__init__" s_Wishes_init (He.ma K (He.ga K "Wishes") "__init__") 0 b_Wishes_init := wk_in fun cdv A outer s H E hr tk hx po=>by
 unfold b_Wishes_init
 exact (pss_one (Am.PS.weak (ps_fld (q0 0) (Am.PE.weak (pe_callTy call_tupA (by rfl) T.z_tuple (by decide +kernel) (qa (Am.PE.weak (pe_lc (own := [("name",2)]) rfl sc_Wishes_init.nd (PI.weak (pi_seq (ae_cvT (xs := ["kept","let","clear","full","again","order","eager"]) (pe_glob (v := .ref (He.ga K "Wishes")) (by rfl) T.g_Wishes rfl) T.cv_Wishes_NAMES)) c_seq) (blkOk_by (own := [("name",2)]) (N := N_Wishes_init) (sc := defScope s_Wishes_init) (by decide +kernel)) (fun _ _ _ _ _=>(qg 2 sc_Wishes_init rfl)) (fun _ _ _ _ _=>(pts_one (PW.pt (aw_or (qe hr.units (q0 2) q2) (pw_or1 (at_cmp (op_inP (units65 hr)) os_in (q0 2) (q0 1) rfl)))))) (fun _ _ _ _ _=>(q0 2))) (c_lc tg_name (by decide))))) (c_cb cs_tup)) rfl) (c_sfld T.f_names)))
theorem wk_Wishes_of (T:Txt K mg) (G_Wishes_init:GX P w K mg base 1 (He.ma K (He.ga K "Wishes") "__init__") m_Wishes_init) (E_Unknown:FnR P w K mg base CX0 1 (He.ma K (He.ga K "Unknown") "__init__") (spE1 (He.ga K "Unknown") "name")):WkP P w K mg base N_Wishes_of "Wishes.of" s_Wishes_of (He5.wf K (He.ga K "Wishes") "staticmethod" "of") 2 b_Wishes_of := wk_in fun cdv A outer s H E hr tk hx po=>by
 unfold b_Wishes_of
 exact (ra (ps_for po rfl (PI.weak (pi_seq (ae_lst (aa_cons (q0 0) (aa_star (q0 1) aa_nil)))) c_seq) (qg 2 sc_Wishes_of rfl) (pss_one (rj (at_cmp (op_notInP (units65 hr)) os_in (q0 2) (ae_cvT (xs := ["kept","let","clear","full","again","order","eager"]) (pe_glob (v := .ref (He.ga K "Wishes")) (by rfl) T.g_Wishes rfl) T.cv_Wishes_NAMES) rfl) (pss_one (Am.PS.weak (ps_rz rfl tk T.e_Unknown E_Unknown (hr.mono (by decide)) (by rfl) T.g_Unknown (pa_cons (q0 2) pa_nil)) c_rz1))))) (c_for tg_name)
(pss_one (rr (Am.PE.weak (pe_makeS T.mk_Wishes G_Wishes_init (hr.mono (by decide)) (by rfl) T.g_Wishes hx (qa (ae_lst (aa_cons (q0 0) (aa_star (q0 1) aa_nil))))) c_makeD))))
theorem wk_Wishes_contains (T:Txt K mg):WkP P w K mg base N_Wishes_contains "Wishes.__contains__" s_Wishes_contains (He.ma K (He.ga K "Wishes") "__contains__") 0 b_Wishes_contains := wk_in fun cdv A outer s H E hr tk hx po=>by
 unfold b_Wishes_contains
 exact (pss_one (rr (ae_cmp (op_inP (units65 hr)) os_in (q0 1) (qf (q0 0) T.f_names) rfl)))
theorem wk_column_groups (T:Txt K mg):WkP P w K mg base N_column_groups "column_groups" s_column_groups (He.ga K "column_groups") 0 b_column_groups := wk_in fun cdv A outer s H E hr tk hx po=>by
 unfold b_column_groups
 exact (rb (rs 1 sc_column_groups rfl (Am.PE.weak (pe_dc (own := [("name",2),("kind",3),("column",4)]) rfl sc_column_groups.nd (PI.weak (pi_seq (q0 0)) c_seq) (blkOk_by (own := [("name",2),("kind",3),("column",4)]) (N := N_column_groups) (sc := defScope s_column_groups) (by decide +kernel)) (fun _ _ _ _ _=>(pg_tup rfl (pgs_cons (qg 2 sc_column_groups rfl) (pgs_cons (qg 3 sc_column_groups rfl) (pgs_cons (qg 4 sc_column_groups rfl) pgs_nil))))) (fun _ _ _ _ _=>(PTs.weak pts_nil c_yes)) (fun _ _ _ _ _=>(q0 4)) (fun _ _ _ _ _=>(q0 4))) (c_dcM (tg_tup (tgs_cons tg_name (tgs_cons tg_name (tgs_cons tg_name tgs_nil)))) (by decide))))
(ra (ps_for po rfl (PI.weak (pi_seq (q0 0)) c_seq) (pg_tup rfl (pgs_cons (qg 2 sc_column_groups rfl) (pgs_cons (qg 3 sc_column_groups rfl) (pgs_cons (qg 4 sc_column_groups rfl) pgs_nil)))) (pss_one (Am.PS.weak (ps_for po rfl (PI.weak (pi_seq (q0 0)) c_seq) (pg_tup rfl (pgs_cons (qg 5 sc_column_groups rfl) (pgs_cons (qg 6 sc_column_groups rfl) (pgs_cons (qg 7 sc_column_groups rfl) pgs_nil)))) (pss_one (rj (PW.pt (aw_and (qe hr.units (q0 3) (q0 6)) (pw_and1 (qn hr.units (Am.PE.weak (pe_dget (hu_of hr) (q0 1) (q0 4) (fun _ _=>rfl)) c_dget) (Am.PE.weak (pe_dget (hu_of hr) (q0 1) (q0 7) (fun _ _=>rfl)) c_dget))))) (ra (ps_asg (ae_tup (qb (Am.PE.weak (pe_dget (hu_of hr) (q0 1) (q0 4) (fun _ _=>rfl)) c_dget) (Am.PE.weak (pe_dget (hu_of hr) (q0 1) (q0 7) (fun _ _=>rfl)) c_dget))) (pg_tup rfl (pgs_cons (qg 8 sc_column_groups rfl) (pgs_cons (qg 9 sc_column_groups rfl) pgs_nil)))) (c_set (tg_tup (tgs_cons tg_name (tgs_cons tg_name tgs_nil))))
(pss_one (rs 1 sc_column_groups rfl (Am.PE.weak (pe_lock (Am.PE.weak (pe_dc (own := [("at",10)]) rfl sc_column_groups.nd (PI.weak (pi_keys (q0 1)) c_keys) (blkOk_by (own := [("at",10)]) (N := N_column_groups) (sc := defScope s_column_groups) (by decide +kernel)) (fun _ _ _ _ _=>(qg 10 sc_column_groups rfl)) (fun _ _ _ _ _=>(PTs.weak pts_nil c_yes)) (fun _ _ _ _ _=>(q0 10)) (fun _ _ _ _ _=>(ae_ifExp (qe hr.units (Am.PE.weak (pe_dget (hu_of hr) (q0 1) (q0 10) (fun _ _=>rfl)) c_dget) (q0 8)) (q0 9) (Am.PE.weak (pe_dget (hu_of hr) (q0 1) (q0 10) (fun _ _=>rfl)) c_dget)))) (c_dcM tg_name (by decide)))) c_lockE))))))) (c_for (tg_tup (tgs_cons tg_name (tgs_cons tg_name (tgs_cons tg_name tgs_nil)))))))) (c_for (tg_tup (tgs_cons tg_name (tgs_cons tg_name (tgs_cons tg_name tgs_nil)))))
(pss_one (rr (q0 1)))))
theorem wk_meet (T:Txt K mg):WkP P w K mg base N_meet "meet" s_meet (He.ga K "meet") 0 b_meet := wk_in fun cdv A outer s H E hr tk hx po=>by
 unfold b_meet
 exact (ra (ps_lock (Am.PS.weak (ps_for po rfl (PI.weak (pi_keys (q0 0)) c_keys) (qg 3 sc_meet rfl) (pss_one (rj (at_cmp (op_inP (units65 hr)) os_in (qi (q0 2) (q0 3)) (Am.PE.weak (pe_lc (own := [("other",4)]) rfl sc_meet.nd (PI.weak (pi_keys (q0 0)) c_keys) (blkOk_by (own := [("other",4)]) (N := N_meet) (sc := defScope s_meet) (by decide +kernel)) (fun _ _ _ _ _=>(qg 4 sc_meet rfl)) (fun _ _ _ _ _=>(pts_one (qe hr.units (Am.PE.weak (pe_dget (hu_of hr) (q0 0) (q0 4) (fun _ _=>rfl)) c_dget) (Am.PE.weak (pe_dget (hu_of hr) (q0 0) (q0 3) (fun _ _=>rfl)) c_dget)))) (fun _ _ _ _ _=>(qi (q0 1) (q0 4)))) (c_lc tg_name (by decide))) rfl) (pss_one (rr (ae_c (fun _=>.bl _) pe_bl)))))) (c_for tg_name))) c_lock
(pss_one (rr (ae_c (fun _=>.bl _) pe_bl))))
theorem wk_plain_lists_of (T:Txt K mg) (G_column_groups:GX P w K mg base 1 (He.ga K "column_groups") m_column_groups) (G_meet:GX P w K mg base 1 (He.ga K "meet") m_meet):WkP P w K mg base N_plain_lists_of "plain_lists_of" s_plain_lists_of (He.ga K "plain_lists_of") 1 b_plain_lists_of := wk_in fun cdv A outer s H E hr tk hx po=>by
 unfold b_plain_lists_of
 exact (rb (rs 3 sc_plain_lists_of rfl (qk G_column_groups hx hr T.g_column_groups T.k_column_groups (qa (q0 0))))
(rb (rs 4 sc_plain_lists_of rfl (Am.PE.weak (pe_callB (call_max2 rfl) (by rfl) T.z_max (by decide +kernel) (qb q1 (q0 1))) (c_cb cs_max2)))
(rb (rs 5 sc_plain_lists_of rfl (ae_op op_repL os_repL (Am.PE.weak (pe_listRg rfl (by rfl) T.z_list (prg_1 (by rfl) T.z_range (q0 4))) (c_lstRg1 mk_old)) (q0 2)))
(rb (rs 6 sc_plain_lists_of rfl (ae_lstM (qa (ae_lst aa_nil))))
(ra (ps_for po rfl (PI.weak (pi_seq (q0 5)) c_seq) (qg 7 sc_plain_lists_of rfl) (rb (rs 8 sc_plain_lists_of rfl (ae_lstM aa_nil))
(ra (ps_for po rfl (PI.weak (pi_seq (Am.PE.weak (pe_callTy call_listA (by rfl) T.z_list (by decide +kernel) (qa (q0 6))) (c_cb cs_list))) c_seq) (qg 9 sc_plain_lists_of rfl) (ra (ps_setLc (i := 10) (own := [("key",13),("other",14)]) rfl sc_plain_lists_of.nd rfl rfl (sw_true rfl rfl rfl (by decide +kernel)) (PI.weak (RZ.pi_zipA (by rfl) T.z_zip (qb (q0 9) (q0 5))) c_zip) (blkOk_by (own := [("key",13),("other",14)]) (N := N_plain_lists_of) (sc := defScope s_plain_lists_of) (by decide +kernel)) (fun _ _ _ _ _=>(pg_tup rfl (pgs_cons (qg 13 sc_plain_lists_of rfl) (pgs_cons (qg 14 sc_plain_lists_of rfl) pgs_nil)))) (fun _ _ _ _ _=>(pts_one (PW.pt (aw_and (at_pc (pt_cmp (pc_din (hu_of hr) (q0 14) (q0 3)) rfl) c_din) (aw_and (at_pc (pt_cmp (pc_din (hu_of hr) (q0 7) (q0 3)) rfl) c_din) (pw_and1 (qe hr.units (Am.PE.weak (pe_dget (hu_of hr) (q0 3) (q0 14) (fun _ _=>rfl)) c_dget) (Am.PE.weak (pe_dget (hu_of hr) (q0 3) (q0 7) (fun _ _=>rfl)) c_dget)))))))) (fun _ _ _ _ _=>(q0 13))) (c_setX (c_lc (tg_tup (tgs_cons tg_name (tgs_cons tg_name tgs_nil))) (by decide)) tg_name)
(rb (rs 11 sc_plain_lists_of rfl (ae_ifExp (at_pc (pt_cmp (pc_din (hu_of hr) (q0 7) (q0 3)) rfl) c_din) (ae_op op_addA os_add (ae_op op_addA os_add q1 (Am.PE.weak (pe_callB (cr_max rfl) (by rfl) T.z_max (by decide +kernel) (qa (ae_op op_addA os_add (ae_lst (qa (ae_un un_negA us_neg q1))) (q0 10)))) (c_cb cs_max))) q1) q1))
(pss_one (rd (Am.PE.weak (pe_bm PySem.F.plainAttrs_list PySem.F.slot_list_extend PySem.F.type_list_extend mt_extend (q0 8) (qa (Am.PE.weak (pe_lc (own := [("key",13)]) rfl sc_plain_lists_of.nd (PI.weak (pi_range1 (by rfl) T.z_range (qa (q0 11))) c_rng1) (blkOk_by (own := [("key",13)]) (N := N_plain_lists_of) (sc := defScope s_plain_lists_of) (by decide +kernel)) (fun _ _ _ _ _=>(qg 13 sc_plain_lists_of rfl)) (fun _ _ _ _ _=>(PTs.weak pts_nil c_yes)) (fun _ _ _ _ _=>(ae_op op_addA os_add (q0 9) (ae_lst (qa (q0 13)))))) (c_lcM tg_name (by decide))))) (c_bm ms_extend))))))) (c_for tg_name)
(pss_one (rs 6 sc_plain_lists_of rfl (q0 8)))))) (c_for tg_name)
(rb (rj (qe hr.units (q0 2) q1) (pss_one (rr (Am.PE.weak (pe_lc (own := [("way",9)]) rfl sc_plain_lists_of.nd (PI.weak (pi_seq (q0 6)) c_seq) (blkOk_by (own := [("way",9)]) (N := N_plain_lists_of) (sc := defScope s_plain_lists_of) (by decide +kernel)) (fun _ _ _ _ _=>(qg 9 sc_plain_lists_of rfl)) (fun _ _ _ _ _=>(PTs.weak pts_nil c_yes)) (fun _ _ _ _ _=>(ae_tup (qa (Am.PE.weak (pe_callTy call_tupA (by rfl) T.z_tuple (by decide +kernel) (qa (q0 9))) (c_cb cs_tup)))))) (c_lc tg_name (by decide))))))
(ra (ps_setLc (i := 12) (own := [("way",9)]) rfl sc_plain_lists_of.nd rfl rfl (sw_true rfl rfl rfl (by decide +kernel)) (PI.weak (pi_seq (q0 6)) c_seq) (blkOk_by (own := [("way",9)]) (N := N_plain_lists_of) (sc := defScope s_plain_lists_of) (by decide +kernel)) (fun _ _ _ _ _=>(qg 9 sc_plain_lists_of rfl)) (fun _ _ _ _ _=>(PTs.weak pts_nil c_yes)) (fun _ _ _ _ _=>(ae_tup (qb (Am.PE.weak (pe_callTy call_tupA (by rfl) T.z_tuple (by decide +kernel) (qa (Am.PE.weak (pe_slice sl_any (q0 9) (PO.weak po_none c_noPart) (PO.weak (po_some (q0 4)) c_part)) c_sl))) (c_cb cs_tup)) (Am.PE.weak (pe_callTy call_tupA (by rfl) T.z_tuple (by decide +kernel) (qa (Am.PE.weak (pe_slice sl_any (q0 9) (PO.weak (po_some (q0 4)) c_part) (PO.weak po_none c_noPart)) c_sl))) (c_cb cs_tup)))))) (c_setX (c_lc tg_name (by decide)) tg_name)
(pss_one (rr (Am.PE.weak (pe_lc (own := [("pair",15)]) rfl sc_plain_lists_of.nd (PI.weak (pi_seq (q0 12)) c_seq) (blkOk_by (own := [("pair",15)]) (N := N_plain_lists_of) (sc := defScope s_plain_lists_of) (by decide +kernel)) (fun _ _ _ _ _=>(qg 15 sc_plain_lists_of rfl)) (fun _ _ _ _ _=>(pts_one (at_val (qk G_meet passF hr T.g_meet T.k_meet (qc (q0 3) (qi (q0 15) q1) (qa (qi (q0 15) q1))))))) (fun _ _ _ _ _=>(q0 15))) (c_lc tg_name (by decide))))))))))))
theorem wk_plain_lists (T:Txt K mg) (G_Program_placed:GX P w K mg base 1 (propF K (He.ga K "Program") "placed") m_Program_placed) (G_Program_width:GX P w K mg base 3 (propF K (He.ga K "Program") "width") m_Program_width) (G_Wishes_contains:GX P w K mg base 1 (He.ma K (He.ga K "Wishes") "__contains__") m_Wishes_contains) (G_plain_lists_of:GX P w K mg base 2 (He.ga K "plain_lists_of") m_plain_lists_of):WkP P w K mg base N_plain_lists "plain_lists" s_plain_lists (He.ga K "plain_lists") 4 b_plain_lists := wk_in fun cdv A outer s H E hr tk hx po=>by
 unfold b_plain_lists
 exact (rb (rs 2 sc_plain_lists rfl (qk G_plain_lists_of hx hr T.g_plain_lists_of T.k_plain_lists_of (qc (Am.PE.weak (pe_propS (q0 0) T.c_Program T.p_Program_placed G_Program_placed (hr.mono (by decide)) passFN) c_prop) (Am.PE.weak (pe_propS (q0 0) T.c_Program T.p_Program_width G_Program_width (hr.mono (by decide)) passFN) c_prop) (qa q1))))
(rb (rj (PW.pt (aw_or (at_cmpX (pt_cmpR (op_inO T.o_Wishes_contains G_Wishes_contains (hr.mono (by decide)) passF0) q2 (q0 1) rfl) c_ownIn) (aw_or (at_cmpX (pt_cmpR (op_inO T.o_Wishes_contains G_Wishes_contains (hr.mono (by decide)) passF0) q2 (q0 1) rfl) c_ownIn) (pw_or1 (at_cmpX (pt_cmpR (op_inO T.o_Wishes_contains G_Wishes_contains (hr.mono (by decide)) passF0) q2 (q0 1) rfl) c_ownIn))))) (pss_one (rs 2 sc_plain_lists rfl (ae_op op_addA os_add (q0 2) (qk G_plain_lists_of hx hr T.g_plain_lists_of T.k_plain_lists_of (qc (Am.PE.weak (pe_propS (q0 0) T.c_Program T.p_Program_placed G_Program_placed (hr.mono (by decide)) passFN) c_prop) (Am.PE.weak (pe_propS (q0 0) T.c_Program T.p_Program_width G_Program_width (hr.mono (by decide)) passFN) c_prop) (qa q1)))))))
(pss_one (rr (Am.PE.weak (pe_lc (own := [("rows",3)]) rfl sc_plain_lists.nd (PI.weak (pi_seq (q0 2)) c_seq) (blkOk_by (own := [("rows",3)]) (N := N_plain_lists) (sc := defScope s_plain_lists) (by decide +kernel)) (fun _ _ _ _ _=>(qg 3 sc_plain_lists rfl)) (fun _ _ _ _ _=>(PTs.weak pts_nil c_yes)) (fun _ _ _ _ _=>(Am.PE.weak (pe_callTy call_listA (by rfl) T.z_list (by decide +kernel) (qa (q0 3))) (c_cb cs_list)))) (c_lc tg_name (by decide)))))))
def t_law_pool (K:PySem.W.Frag):TS :=
 (tSeq (tAsg (tLc (iSeq K (tSl (Fm.rSlA K) (tVar 0) tNoPart (tPart (tC (.int 63))))) (gName 3) (tTest (tOp rGeA (tVar 3) (tOp rPowA (tC (.int 10)) (tC (.int 18))))) (tCB rInt1 (tCons (tVar 3) tNil)) [3]) (gName 1))
  (tSeq (tAsg (tC (.int 7)) (gName 2))
  (tSeq (tFor (iSeq K (tSl (Fm.rSlA K) (tVar 0) tNoPart (tPart (tC (.int 63))))) (gName 3) (tAsg (tOp rModA (tCB rInt1 (tCons (tOp rAddA (tOp rAddA (tOp rMulA (tVar 2) (tC (.int 31))) (tOp rModA (tCB rInt1 (tCons (tVar 3) tNil)) (tC (.int 1000003)))) (tC (.int 1))) tNil)) (tC (.int 2147483629))) (gName 2)))
  (tRet (tLst (tCons (tVar 1) (tCons (tC (.int 0)) (tCons (tVar 2) (tCons (tC (.int 0)) tNil)))))))))
theorem wk_law_pool {P:Program} {w:World} {K:PySem.W.Frag} {mg:Str→Option Value} {base:Heap} (T:Txt K mg) (cdv:Value) (A:Around) (outer:List Env) (s:Shared) (H:Hp) (E:XK) (hr:Room 0 (A.deeper (envOfC "_law_pool" (defScope s_law_pool) s.heap.objs.size (He.ga K "_law_pool") cdv))) :
  PSs (cxOf CX0 P w K mg base N_law_pool "_law_pool" (defScope s_law_pool) (He.ga K "_law_pool") cdv A outer s H E).nox (defBody s_law_pool) (t_law_pool K) := by
 unfold t_law_pool
 exact (pss_cons (ps_setLc (i := 1) (own := [("_law_cell",3)]) rfl sc_law_pool.nd rfl rfl (sw_true rfl rfl rfl (by decide +kernel)) (pi_seq (pe_slice sl_any (pv 0) po_none (po_some pe_int))) (blkOk_by (own := [("_law_cell",3)]) (N := N_law_pool) (sc := defScope s_law_pool) (by decide +kernel)) (fun _ _ _ _ _=>(qg 3 sc_law_pool rfl)) (fun _ _ _ _ _=>(pts_one (pt_cmpR op_geA (pv 3) (pe_op op_powA pe_int pe_int) (nomark _)))) (fun _ _ _ _ _=>(pe_callTy call_intA (by rfl) T.z_int (by decide +kernel) (pa_cons (pv 3) pa_nil)))) (pss_cons (ps_set (i := 2) sc_law_pool.nd rfl (.inl rfl) pe_int) (pss_cons (ps_for PassesOwn.never rfl (pi_seq (pe_slice sl_any (pv 0) po_none (po_some pe_int))) (qg 3 sc_law_pool rfl) (pss_one (ps_set (i := 2) sc_law_pool.nd rfl (.inl rfl) (pe_op op_modA (pe_callTy call_intA (by rfl) T.z_int (by decide +kernel) (pa_cons (pe_op op_addA (pe_op op_addA (pe_op op_mulA (pv 2) pe_int) (pe_op op_modA (pe_callTy call_intA (by rfl) T.z_int (by decide +kernel) (pa_cons (pv 3) pa_nil)) pe_int)) pe_int) pa_nil)) pe_int)))) (pss_one (ps_ret (pe_lst (pa_cons (pv 1) (pa_cons pe_int (pa_cons (pv 2) (pa_cons pe_int pa_nil))))))))))
def t_law_draw (K:PySem.W.Frag):TS :=
 (tSeq (tAugS (tVar 0) (tC (.int 3)) (tC (.int 1)) rGetL (ipI (· + ·)) rSetL)
  (tSeq (tIfS (tAnd (tTest (tOp (rEqP K) (tOp (rIx K) (tVar 0) (tC (.int 1))) (tC (.int 0)))) (tTest (tOp (rNeP K) (tOp (rIx K) (tVar 0) (tC (.int 0))) (tLst tNil)))) (tSeq (tAsg (tOp (rIx K) (tOp (rIx K) (tVar 0) (tC (.int 0))) (tC (.int 0))) (gSub (tVar 0) (tC (.int 1)) rSetL))
  (tAsg (tSl (Fm.rSlA K) (tOp (rIx K) (tVar 0) (tC (.int 0))) (tPart (tC (.int 1))) tNoPart) (gSub (tVar 0) (tC (.int 0)) rSetL))) tNext)
  (tSeq (tIfS (tTest (tOp rGtA (tOp (rIx K) (tVar 0) (tC (.int 1))) (tC (.int 0)))) (tSeq (tAsg (tOp rModA (tCB rInt1 (tCons (tOp (rIx K) (tVar 0) (tC (.int 1))) tNil)) (tVar 1)) (gName 2))
  (tSeq (tAsg (tOp rDivA (tOp (rIx K) (tVar 0) (tC (.int 1))) (tVar 1)) (gSub (tVar 0) (tC (.int 1)) rSetL))
  (tRet (tVar 2)))) tNext)
  (tSeq (tAsg (tOp rModA (tCB rInt1 (tCons (tOp rAddA (tOp rMulA (tOp (rIx K) (tVar 0) (tC (.int 2))) (tC (.int 48271))) (tOp rMulA (tOp (rIx K) (tVar 0) (tC (.int 3))) (tC (.int 69621)))) tNil)) (tC (.int 2147483647))) (gName 3))
  (tSeq (tAsg (tOp rModA (tCB rInt1 (tCons (tOp rAddA (tOp rMulA (tVar 3) (tOp rAddA (tOp rDivA (tVar 3) (tC (.int 7))) (tC (.int 40692)))) (tOp rMulA (tOp (rIx K) (tVar 0) (tC (.int 3))) (tC (.int 16807)))) tNil)) (tC (.int 2147483399))) (gName 3))
  (tRet (tOp rModA (tOp rDivA (tVar 3) (tC (.int 5))) (tVar 1))))))))
theorem wk_law_draw {P:Program} {w:World} {K:PySem.W.Frag} {mg:Str→Option Value} {base:Heap} (T:Txt K mg) (cdv:Value) (A:Around) (outer:List Env) (s:Shared) (H:Hp) (E:XK) (hr:Room 0 (A.deeper (envOfC "_law_draw" (defScope s_law_draw) s.heap.objs.size (He.ga K "_law_draw") cdv))) :
  PSs (cxOf CX0 P w K mg base N_law_draw "_law_draw" (defScope s_law_draw) (He.ga K "_law_draw") cdv A outer s H E).nox (defBody s_law_draw) (t_law_draw K) := by
 unfold t_law_draw
 exact (pss_cons (ps_augS (pv 0) pe_int get_list pe_int ip_add set_list) (pss_cons (ps_if (PW.pt (pw_and (pt_cmpR (op_eqP hr.units) (pe_ix ix_seq (pv 0) pe_int (fun _ _=>rfl)) pe_int (nomark _)) (pw_and1 (pt_cmpR (op_neP hr.units) (pe_ix ix_seq (pv 0) pe_int (fun _ _=>rfl)) (pe_lst pa_nil) (nomark _))))) (pss_cons (ps_asg (pe_ix ix_seq (pe_ix ix_seq (pv 0) pe_int (fun _ _=>rfl)) pe_int (fun _ _=>rfl)) (pg_sub (pv 0) pe_int set_list)) (pss_one (ps_asg (pe_slice sl_any (pe_ix ix_seq (pv 0) pe_int (fun _ _=>rfl)) (po_some pe_int) po_none) (pg_sub (pv 0) pe_int set_list)))) pss_nil) (pss_cons (ps_if (pt_cmpR op_gtA (pe_ix ix_seq (pv 0) pe_int (fun _ _=>rfl)) pe_int (nomark _)) (pss_cons (ps_set (i := 2) sc_law_draw.nd rfl (.inl rfl) (pe_op op_modA (pe_callTy call_intA (by rfl) T.z_int (by decide +kernel) (pa_cons (pe_ix ix_seq (pv 0) pe_int (fun _ _=>rfl)) pa_nil)) (pv 1))) (pss_cons (ps_asg (pe_op op_divA (pe_ix ix_seq (pv 0) pe_int (fun _ _=>rfl)) (pv 1)) (pg_sub (pv 0) pe_int set_list)) (pss_one (ps_ret (pv 2))))) pss_nil) (pss_cons (ps_set (i := 3) sc_law_draw.nd rfl (.inl rfl) (pe_op op_modA (pe_callTy call_intA (by rfl) T.z_int (by decide +kernel) (pa_cons (pe_op op_addA (pe_op op_mulA (pe_ix ix_seq (pv 0) pe_int (fun _ _=>rfl)) pe_int) (pe_op op_mulA (pe_ix ix_seq (pv 0) pe_int (fun _ _=>rfl)) pe_int)) pa_nil)) pe_int)) (pss_cons (ps_set (i := 3) sc_law_draw.nd rfl (.inl rfl) (pe_op op_modA (pe_callTy call_intA (by rfl) T.z_int (by decide +kernel) (pa_cons (pe_op op_addA (pe_op op_mulA (pv 3) (pe_op op_addA (pe_op op_divA (pv 3) pe_int) pe_int)) (pe_op op_mulA (pe_ix ix_seq (pv 0) pe_int (fun _ _=>rfl)) pe_int)) pa_nil)) pe_int)) (pss_one (ps_ret (pe_op op_modA (pe_op op_divA (pv 3) pe_int) (pv 1)))))))))
theorem wk_law_word (T:Txt K mg) (G_law_draw:GX P w K mg base 1 (He.ga K "_law_draw") m_law_draw):WkP P w K mg base N_law_word "_law_word" s_law_word (He.ga K "_law_word") 1 b_law_word := wk_in fun cdv A outer s H E hr tk hx po=>by
 unfold b_law_word
 exact (rb (rs 2 sc_law_word rfl q2)
(rb (rs 3 sc_law_word rfl (ae_op op_addA os_add q1 (qk G_law_draw hx hr T.g_law_draw T.k_law_draw (qb (q0 0) q1))))
(rb (rs 4 sc_law_word rfl (Am.PE.weak (pe_joinA q2 (Am.PE.weak (pe_lc (own := [("_law_k",5)]) rfl sc_law_word.nd (PI.weak (pi_range1 (by rfl) T.z_range (qa (q0 3))) c_rng1) (blkOk_by (own := [("_law_k",5)]) (N := N_law_word) (sc := defScope s_law_word) (by decide +kernel)) (fun _ _ _ _ _=>(qg 5 sc_law_word rfl)) (fun _ _ _ _ _=>(PTs.weak pts_nil c_yes)) (fun _ _ _ _ _=>(qi (q0 2) (qk G_law_draw passF hr T.g_law_draw T.k_law_draw (qb (q0 0) q1))))) (c_lc tg_name (by decide)))) c_join))
(rb (rj (at_cmp (op_inP (units65 hr)) os_in (q0 4) (q0 1) rfl) (pss_one (rs 4 sc_law_word rfl (qi (Am.PE.weak (pe_lc (own := [("_law_letter",6)]) rfl sc_law_word.nd (PI.weak (pi_seq (q0 2)) c_seq) (blkOk_by (own := [("_law_letter",6)]) (N := N_law_word) (sc := defScope s_law_word) (by decide +kernel)) (fun _ _ _ _ _=>(qg 6 sc_law_word rfl)) (fun _ _ _ _ _=>(pts_one (at_cmp (op_notInP (units65 hr)) os_in (ae_op op_addA os_add (Am.PE.weak (pe_slice sl_any (q0 4) (PO.weak po_none c_noPart) (PO.weak (po_some q1) c_part)) c_sl) (q0 6)) (q0 1) rfl))) (fun _ _ _ _ _=>(ae_op op_addA os_add (Am.PE.weak (pe_slice sl_any (q0 4) (PO.weak po_none c_noPart) (PO.weak (po_some q1) c_part)) c_sl) (q0 6)))) (c_lc tg_name (by decide))) q1))))
(pss_one (rr (q0 4)))))))
theorem wk_law_schema (T:Txt K mg) (G_law_draw:GX P w K mg base 1 (He.ga K "_law_draw") m_law_draw) (G_law_word:GX P w K mg base 2 (He.ga K "_law_word") m_law_word):WkP P w K mg base N_law_schema "_law_schema" s_law_schema (He.ga K "_law_schema") 2 b_law_schema := wk_in fun cdv A outer s H E hr tk hx po=>by
 unfold b_law_schema
 exact (rb (rs 2 sc_law_schema rfl (ae_lstM aa_nil))
(ra (ps_for po rfl (PI.weak (pi_range1 (by rfl) T.z_range (qa (ae_op op_addA os_add q1 (qk G_law_draw hx hr T.g_law_draw T.k_law_draw (qb (q0 0) (q0 1)))))) c_rng1) (qg 3 sc_law_schema rfl) (pss_one (rd (qp (q0 2) (qa (qk G_law_word hx hr T.g_law_word T.k_law_word (qb (q0 0) (q0 2)))))))) (c_for tg_name)
(rb (rs 4 sc_law_schema rfl (Am.PE.weak (pe_lc (own := [("_law_name",9)]) rfl sc_law_schema.nd (PI.weak (pi_seq (q0 2)) c_seq) (blkOk_by (own := [("_law_name",9)]) (N := N_law_schema) (sc := defScope s_law_schema) (by decide +kernel)) (fun _ _ _ _ _=>(qg 9 sc_law_schema rfl)) (fun _ _ _ _ _=>(PTs.weak pts_nil c_yes)) (fun _ _ _ _ _=>(qi (ae_lst (qc q2 q2 (qa q2))) (qk G_law_draw passF hr T.g_law_draw T.k_law_draw (qb (q0 0) q1))))) (c_lcM tg_name (by decide))))
(rb (rj (PW.pt (aw_and (at_cmp (op_notInP (units65 hr)) os_in q2 (q0 4) rfl) (pw_and1 (at_cmp (op_notInP (units65 hr)) os_in q2 (q0 4) rfl)))) (pss_one (Am.PS.weak (ps_asg (qi (ae_lst (qb q2 q2)) (qk G_law_draw hx hr T.g_law_draw T.k_law_draw (qb (q0 0) q1))) (pg_sub (q0 4) (qk G_law_draw hx hr T.g_law_draw T.k_law_draw (qb (q0 0) (ql T.z_len (qa (q0 4))))) set_list)) c_lput)))
(ra (ps_setLc (i := 5) (own := [("_law_k",3),("_law_name",9)]) rfl sc_law_schema.nd rfl rfl (sw_true rfl rfl rfl (by decide +kernel)) (PI.weak (pi_enum (by rfl) T.z_enumerate (qa (q0 2))) c_enum) (blkOk_by (own := [("_law_k",3),("_law_name",9)]) (N := N_law_schema) (sc := defScope s_law_schema) (by decide +kernel)) (fun _ _ _ _ _=>(pg_tup rfl (pgs_cons (qg 3 sc_law_schema rfl) (pgs_cons (qg 9 sc_law_schema rfl) pgs_nil)))) (fun _ _ _ _ _=>(pts_one (qn hr.units (qi (q0 4) (q0 3)) q2))) (fun _ _ _ _ _=>(q0 9))) (c_setX (c_lc (tg_tup (tgs_cons tg_name (tgs_cons tg_name tgs_nil))) (by decide)) tg_name)
(rb (rs 6 sc_law_schema rfl (ae_lstM aa_nil))
(rb (rs 7 sc_law_schema rfl (ae_lstM aa_nil))
(rb (rs 8 sc_law_schema rfl (Am.PE.weak (pe_callTy call_listA (by rfl) T.z_list (by decide +kernel) (qa (q0 2))) (c_cb cs_listM)))
(ra (ps_for po rfl (PI.weak (pi_enum (by rfl) T.z_enumerate (qa (q0 2))) c_enum) (pg_tup rfl (pgs_cons (qg 3 sc_law_schema rfl) (pgs_cons (qg 9 sc_law_schema rfl) pgs_nil))) (pss_one (ri (qe hr.units (qi (q0 4) (q0 3)) q2) (rb (rd (qp (q0 8) (qa (qk G_law_word hx hr T.g_law_word T.k_law_word (qb (q0 0) (q0 8))))))
(rb (rd (qp (q0 7) (qa (ae_tup (qc (qi (q0 8) (ae_un un_negA us_neg q1)) (qi (q0 5) (qk G_law_draw hx hr T.g_law_draw T.k_law_draw (qb (q0 0) (ql T.z_len (qa (q0 5)))))) (qb (q0 9) (qi (ae_lst (qb q2 q2)) (qk G_law_draw hx hr T.g_law_draw T.k_law_draw (qb (q0 0) q1)))))))))
(pss_one (rd (qp (q0 6) (qa (ae_tup (qc (q0 9) q2 (qa (qi (q0 8) (ae_un un_negA us_neg q1))))))))))) (pss_one (rd (qp (q0 6) (qa (ae_tup (qc (q0 9) (qi (q0 4) (q0 3)) (qa (ae_c (fun _=>.non) pe_non))))))))))) (c_for (tg_tup (tgs_cons tg_name (tgs_cons tg_name tgs_nil))))
(ra (ps_for po rfl (PI.weak (pi_range1 (by rfl) T.z_range (qa (qk G_law_draw hx hr T.g_law_draw T.k_law_draw (qb (q0 0) (ae_op op_subI os_sub q1 (ql T.z_len (qa (q0 7)))))))) c_rng1) (qg 3 sc_law_schema rfl) (rb (rd (qp (q0 8) (qa (qk G_law_word hx hr T.g_law_word T.k_law_word (qb (q0 0) (q0 8))))))
(rb (rs 10 sc_law_schema rfl (qi (q0 2) (qk G_law_draw hx hr T.g_law_draw T.k_law_draw (qb (q0 0) (ql T.z_len (qa (q0 2)))))))
(rb (rs 11 sc_law_schema rfl (qi (q0 2) (qk G_law_draw hx hr T.g_law_draw T.k_law_draw (qb (q0 0) (ql T.z_len (qa (q0 2)))))))
(pss_one (rd (qp (q0 7) (qa (ae_tup (qc (qi (q0 8) (ae_un un_negA us_neg q1)) (q0 10) (qb (q0 11) (qi (ae_lst (qb q2 q2)) (qk G_law_draw hx hr T.g_law_draw T.k_law_draw (qb (q0 0) q1)))))))))))))) (c_for tg_name)
(rb (rs 12 sc_law_schema rfl (qk G_law_draw hx hr T.g_law_draw T.k_law_draw (qb (q0 0) (ae_op op_addA os_add (ql T.z_len (qa (q0 7))) q1))))
(pss_one (rr (ae_tup (qb (Am.PE.weak (q0 6) c_fz) (ae_op op_addA os_add (Am.PE.weak (pe_slice sl_any (q0 7) (PO.weak (po_some (q0 12)) c_part) (PO.weak po_none c_noPart)) c_sl) (Am.PE.weak (pe_slice sl_any (q0 7) (PO.weak po_none c_noPart) (PO.weak (po_some (q0 12)) c_part)) c_sl)))))))))))))))))
theorem wk_law_keys (T:Txt K mg) (G_law_draw:GX P w K mg base 1 (He.ga K "_law_draw") m_law_draw):WkP P w K mg base N_law_keys "_law_keys" s_law_keys (He.ga K "_law_keys") 1 b_law_keys := wk_in fun cdv A outer s H E hr tk hx po=>by
 unfold b_law_keys
 exact (rb (rs 1 sc_law_keys rfl (ae_lstM aa_nil))
(ra (ps_for po rfl (PI.weak (pi_range1 (by rfl) T.z_range (qa (ae_op op_addA os_add q1 (qk G_law_draw hx hr T.g_law_draw T.k_law_draw (qb (q0 0) q1))))) c_rng1) (qg 2 sc_law_keys rfl) (rb (rs 3 sc_law_keys rfl (qk G_law_draw hx hr T.g_law_draw T.k_law_draw (qb (q0 0) q1)))
(pss_one (rd (qp (q0 1) (qa (ae_ifExp (qe hr.units (q0 3) q1) (qk G_law_draw hx hr T.g_law_draw T.k_law_draw (qb (q0 0) q1)) (qk G_law_draw hx hr T.g_law_draw T.k_law_draw (qb (q0 0) (ae_op op_addA os_add (ae_op op_powA os_pow q1 q1) q1)))))))))) (c_for tg_name)
(pss_one (rr (Am.PE.weak (q0 1) c_fz)))))
theorem wk_law_few (T:Txt K mg) (G_law_draw:GX P w K mg base 1 (He.ga K "_law_draw") m_law_draw) (G_law_word:GX P w K mg base 2 (He.ga K "_law_word") m_law_word):WkP P w K mg base N_law_few "_law_few" s_law_few (He.ga K "_law_few") 2 b_law_few := wk_in fun cdv A outer s H E hr tk hx po=>by
 unfold b_law_few
 exact (rb (rs 4 sc_law_few rfl (ae_lstM aa_nil))
(ra (ps_for po rfl (PI.weak (pi_range1 (by rfl) T.z_range (qa (ae_op op_addA os_add q1 (qk G_law_draw hx hr T.g_law_draw T.k_law_draw (qb (q0 0) (q0 2)))))) c_rng1) (qg 5 sc_law_few rfl) (rb (rs 6 sc_law_few rfl (qi (qi (q0 1) (qk G_law_draw hx hr T.g_law_draw T.k_law_draw (qb (q0 0) (ql T.z_len (qa (q0 1)))))) q1))
(rb (rs 7 sc_law_few rfl (qk G_law_draw hx hr T.g_law_draw T.k_law_draw (qb (q0 0) (q0 3))))
(pss_one (rj (qe hr.units (Am.PE.weak (pe_lc (own := [("_law_place",8)]) rfl sc_law_few.nd (PI.weak (pi_seq (q0 4)) c_seq) (blkOk_by (own := [("_law_place",8)]) (N := N_law_few) (sc := defScope s_law_few) (by decide +kernel)) (fun _ _ _ _ _=>(qg 8 sc_law_few rfl)) (fun _ _ _ _ _=>(pts_one (PW.pt (aw_and (qe hr.units (qi (q0 8) q1) (q0 6)) (pw_and1 (qe hr.units (qi (q0 8) q1) (q0 7))))))) (fun _ _ _ _ _=>(q0 8))) (c_lc tg_name (by decide))) (ae_lst aa_nil)) (pss_one (rd (qp (q0 4) (qa (ae_tup (qc (qk G_law_word hx hr T.g_law_word T.k_law_word (qb (q0 0) (Am.PE.weak (pe_lc (own := [("_law_place",8)]) rfl sc_law_few.nd (PI.weak (pi_seq (q0 4)) c_seq) (blkOk_by (own := [("_law_place",8)]) (N := N_law_few) (sc := defScope s_law_few) (by decide +kernel)) (fun _ _ _ _ _=>(qg 8 sc_law_few rfl)) (fun _ _ _ _ _=>(PTs.weak pts_nil c_yes)) (fun _ _ _ _ _=>(qi (q0 8) q1))) (c_lc tg_name (by decide))))) (q0 6) (qa (q0 7))))))))))))) (c_for tg_name)
(pss_one (rr (Am.PE.weak (q0 4) c_fz)))))
theorem wk_law_statements (T:Txt K mg) (G_law_draw:GX P w K mg base 1 (He.ga K "_law_draw") m_law_draw):WkP P w K mg base N_law_statements "_law_statements" s_law_statements (He.ga K "_law_statements") 1 b_law_statements := wk_in fun cdv A outer s H E hr tk hx po=>by
 unfold b_law_statements
 exact (rb (rs 4 sc_law_statements rfl (ae_lstM aa_nil))
(ra (ps_for po rfl (PI.weak (pi_range1 (by rfl) T.z_range (qa (ae_op op_addA os_add q1 (qk G_law_draw hx hr T.g_law_draw T.k_law_draw (qb (q0 0) (q0 3)))))) c_rng1) (qg 5 sc_law_statements rfl) (ra (ps_setLc (i := 6) (own := [("_law_place",14)]) rfl sc_law_statements.nd rfl rfl (sw_true rfl rfl rfl (by decide +kernel)) (PI.weak (pi_seq (q0 2)) c_seq) (blkOk_by (own := [("_law_place",14)]) (N := N_law_statements) (sc := defScope s_law_statements) (by decide +kernel)) (fun _ _ _ _ _=>(qg 14 sc_law_statements rfl)) (fun _ _ _ _ _=>(pts_one (at_cmp op_gtA os_gt (qk G_law_draw passF hr T.g_law_draw T.k_law_draw (qb (q0 0) q1)) q1 (nomark _)))) (fun _ _ _ _ _=>(q0 14))) (c_setX (c_lc tg_name (by decide)) tg_name)
(rb (rj (qe hr.units (q0 6) (ae_lst aa_nil)) (pss_one (rs 6 sc_law_statements rfl (ae_lst (qa (qi (q0 2) (qk G_law_draw hx hr T.g_law_draw T.k_law_draw (qb (q0 0) (ql T.z_len (qa (q0 2)))))))))))
(rb (rj (qe hr.units (qk G_law_draw hx hr T.g_law_draw T.k_law_draw (qb (q0 0) q1)) q1) (pss_one (rs 6 sc_law_statements rfl (Am.PE.weak (pe_revL (q0 6)) c_rev))))
(rb (rs 7 sc_law_statements rfl (ae_lstM aa_nil))
(ra (ps_for po rfl (PI.weak (pi_seq (q0 1)) c_seq) (pg_tup rfl (pgs_cons (qg 8 sc_law_statements rfl) (pgs_cons (qg 9 sc_law_statements rfl) (pgs_cons (qg 10 sc_law_statements rfl) (pgs_cons (qg 11 sc_law_statements rfl) pgs_nil))))) (ra (ps_setLc (i := 12) (own := [("_law_place",14)]) rfl sc_law_statements.nd rfl rfl (sw_true rfl rfl rfl (by decide +kernel)) (PI.weak (pi_seq (q0 6)) c_seq) (blkOk_by (own := [("_law_place",14)]) (N := N_law_statements) (sc := defScope s_law_statements) (by decide +kernel)) (fun _ _ _ _ _=>(qg 14 sc_law_statements rfl)) (fun _ _ _ _ _=>(pts_one (qe hr.units (qi (q0 14) q1) (q0 9)))) (fun _ _ _ _ _=>(qi (q0 14) q1))) (c_setX (c_lc tg_name (by decide)) tg_name)
(ra (ps_setLc (i := 13) (own := [("_law_place",14)]) rfl sc_law_statements.nd rfl rfl (sw_true rfl rfl rfl (by decide +kernel)) (PI.weak (pi_seq (q0 6)) c_seq) (blkOk_by (own := [("_law_place",14)]) (N := N_law_statements) (sc := defScope s_law_statements) (by decide +kernel)) (fun _ _ _ _ _=>(qg 14 sc_law_statements rfl)) (fun _ _ _ _ _=>(pts_one (qe hr.units (qi (q0 14) q1) (q0 10)))) (fun _ _ _ _ _=>(qi (q0 14) q1))) (c_setX (c_lc tg_name (by decide)) tg_name)
(pss_one (rj (PW.pt (aw_and (qn hr.units (q0 12) (ae_lst aa_nil)) (aw_and (qn hr.units (q0 13) (ae_lst aa_nil)) (pw_and1 (at_cmp op_gtA os_gt (qk G_law_draw hx hr T.g_law_draw T.k_law_draw (qb (q0 0) q1)) q1 (nomark _)))))) (pss_one (rd (qp (q0 7) (qa (ae_tup (qc (q0 8) (qi (q0 12) (qk G_law_draw hx hr T.g_law_draw T.k_law_draw (qb (q0 0) (ql T.z_len (qa (q0 12)))))) (qa (qi (q0 13) (qk G_law_draw hx hr T.g_law_draw T.k_law_draw (qb (q0 0) (ql T.z_len (qa (q0 13)))))))))))))))))) (c_for (tg_tup (tgs_cons tg_name (tgs_cons tg_name (tgs_cons tg_name (tgs_cons tg_name tgs_nil))))))
(pss_one (rd (qp (q0 4) (qa (ae_tup (qc (qi (ae_lst (qc q2 q2 (qb q2 q2))) (qk G_law_draw hx hr T.g_law_draw T.k_law_draw (qb (q0 0) q1))) (q0 6) (qa (Am.PE.weak (q0 7) c_fz)))))))))))))) (c_for tg_name)
(pss_one (rr (Am.PE.weak (q0 4) c_fz)))))
theorem wk_law_pattern (T:Txt K mg) (G_Pattern_or:GX P w K mg base 3 (He.ma K (He.ga K "Pattern") "__or__") m_Pattern_or) (G_Pattern_place:GX P w K mg base 3 (He5.wf K (He.ga K "Pattern") "staticmethod" "place") m_Pattern_place) (G_Pattern_rshift:GX P w K mg base 4 (He.ma K (He.ga K "Pattern") "__rshift__") m_Pattern_rshift):WkP P w K mg base N_law_pattern "_law_pattern" s_law_pattern (He.ga K "_law_pattern") 4 b_law_pattern := wk_in fun cdv A outer s H E hr tk hx po=>by
 unfold b_law_pattern
 exact (rb (rs 2 sc_law_pattern rfl (Am.PE.weak (pe_staticS (pe_glob (v := .ref (He.ga K "Pattern")) (by rfl) T.g_Pattern rfl) T.s_Pattern_place G_Pattern_place (hr.mono (by decide)) hx (qc (qi (qi (q0 0) q1) q1) (qi (qi (q0 0) q1) q1) (qa (qi (qi (q0 0) q1) q1)))) c_stat))
(ra (ps_for po rfl (PI.weak (pi_seq (q0 0)) c_seq) (pg_tup rfl (pgs_cons (qg 3 sc_law_pattern rfl) (pgs_cons (qg 4 sc_law_pattern rfl) (pgs_cons (qg 5 sc_law_pattern rfl) pgs_nil)))) (pss_one (rs 2 sc_law_pattern rfl (Am.PE.weak (pe_opS (op_ownS T.sf_Pattern T.o_Pattern_or G_Pattern_or (hr.mono (by decide)) hx) (q0 2) (Am.PE.weak (pe_staticS (pe_glob (v := .ref (He.ga K "Pattern")) (by rfl) T.g_Pattern rfl) T.s_Pattern_place G_Pattern_place (hr.mono (by decide)) hx (qc (q0 3) (q0 4) (qa (q0 5)))) c_stat)) c_own)))) (c_for (tg_tup (tgs_cons tg_name (tgs_cons tg_name (tgs_cons tg_name tgs_nil)))))
(rb (rs 6 sc_law_pattern rfl (Am.PE.weak pe_dnewK c_dnewK))
(ra (ps_for po rfl (PI.weak (pi_seq (q0 0)) c_seq) (pg_tup rfl (pgs_cons (qg 3 sc_law_pattern rfl) (pgs_cons (qg 4 sc_law_pattern rfl) (pgs_cons (qg 5 sc_law_pattern rfl) pgs_nil)))) (pss_one (Am.PS.weak (ps_dput (hu_of hr) (q0 6) (q0 3) (Am.PE.weak (pe_staticS (pe_glob (v := .ref (He.ga K "Pattern")) (by rfl) T.g_Pattern rfl) T.s_Pattern_place G_Pattern_place (hr.mono (by decide)) hx (qc (q0 3) (q0 4) (qa (q0 5)))) c_stat) rfl) c_dput))) (c_for (tg_tup (tgs_cons tg_name (tgs_cons tg_name (tgs_cons tg_name tgs_nil)))))
(ra (ps_for po rfl (PI.weak (pi_seq (q0 1)) c_seq) (pg_tup rfl (pgs_cons (qg 7 sc_law_pattern rfl) (pgs_cons (qg 8 sc_law_pattern rfl) (pgs_cons (qg 9 sc_law_pattern rfl) pgs_nil)))) (pss_one (rs 2 sc_law_pattern rfl (Am.PE.weak (pe_opS (op_ownS T.sf_Pattern T.o_Pattern_or G_Pattern_or (hr.mono (by decide)) hx) (q0 2) (Am.PE.weak (pe_opS (op_ownTS T.sf_Pattern T.o_Pattern_rshift G_Pattern_rshift (hr.mono (by decide)) hx) (Am.PE.weak (pe_dget (hu_of hr) (q0 6) (q0 8) (fun _ _=>rfl)) c_dget) (ae_tup (qb (q0 7) (Am.PE.weak (pe_dget (hu_of hr) (q0 6) (q0 9) (fun _ _=>rfl)) c_dget)))) c_ownT)) c_own)))) (c_for (tg_tup (tgs_cons tg_name (tgs_cons tg_name (tgs_cons tg_name tgs_nil)))))
(pss_one (rr (q0 2))))))))
theorem wk_law_program (T:Txt K mg) (G_Program_init_dflt:GX P w K mg base 4 (He.ma K (He.ga K "Program") "__init__") m_Program_init_dflt) (G_Statement_init:GX P w K mg base 1 (He.ma K (He.ga K "Statement") "__init__") m_Statement_init) (G_law_pattern:GX P w K mg base 5 (He.ga K "_law_pattern") m_law_pattern):WkP P w K mg base N_law_program "_law_program" s_law_program (He.ga K "_law_program") 5 b_law_program := wk_in fun cdv A outer s H E hr tk hx po=>by
 unfold b_law_program
 exact (pss_one (rr (Am.PE.weak (pe_makeS T.mk_Program G_Program_init_dflt (hr.mono (by decide)) (by rfl) T.g_Program hx (qb (q0 0) (Am.PE.weak (pe_lc (own := [("_law_how",2),("_law_places",3),("_law_ties",4)]) rfl sc_law_program.nd (PI.weak (pi_seq (q0 1)) c_seq) (blkOk_by (own := [("_law_how",2),("_law_places",3),("_law_ties",4)]) (N := N_law_program) (sc := defScope s_law_program) (by decide +kernel)) (fun _ _ _ _ _=>(pg_tup rfl (pgs_cons (qg 2 sc_law_program rfl) (pgs_cons (qg 3 sc_law_program rfl) (pgs_cons (qg 4 sc_law_program rfl) pgs_nil))))) (fun _ _ _ _ _=>(PTs.weak pts_nil c_yes)) (fun _ _ _ _ _=>(Am.PE.weak (pe_makeS T.mk_Statement G_Statement_init (hr.mono (by decide)) (by rfl) T.g_Statement passF (qb (q0 2) (qk G_law_pattern passF hr T.g_law_pattern T.k_law_pattern (qb (q0 3) (q0 4))))) c_makeD))) (c_lc (tg_tup (tgs_cons tg_name (tgs_cons tg_name (tgs_cons tg_name tgs_nil)))) (by decide))))) c_makeD)))
theorem wk_law_groups (T:Txt K mg):WkP P w K mg base N_law_groups "_law_groups" s_law_groups (He.ga K "_law_groups") 0 b_law_groups := wk_in fun cdv A outer s H E hr tk hx po=>by
 unfold b_law_groups
 exact (rb (rs 1 sc_law_groups rfl (Am.PE.weak pe_dnewK c_dnewK))
(ra (ps_for po rfl (PI.weak (pi_seq (q0 0)) c_seq) (pg_tup rfl (pgs_cons (qg 2 sc_law_groups rfl) (pgs_cons (qg 3 sc_law_groups rfl) (pgs_cons (qg 4 sc_law_groups rfl) pgs_nil)))) (pss_one (Am.PS.weak (ps_dput (hu_of hr) (q0 1) (q0 4) (q0 4) rfl) c_dput))) (c_for (tg_tup (tgs_cons tg_name (tgs_cons tg_name (tgs_cons tg_name tgs_nil)))))
(ra (ps_for po rfl (PI.weak (pi_range1 (by rfl) T.z_range (qa q1)) c_rng1) (qg 5 sc_law_groups rfl) (pss_one (Am.PS.weak (ps_for po rfl (PI.weak (pi_seq (q0 0)) c_seq) (pg_tup rfl (pgs_cons (qg 2 sc_law_groups rfl) (pgs_cons (qg 3 sc_law_groups rfl) (pgs_cons (qg 4 sc_law_groups rfl) pgs_nil)))) (pss_one (Am.PS.weak (ps_for po rfl (PI.weak (pi_seq (q0 0)) c_seq) (pg_tup rfl (pgs_cons (qg 6 sc_law_groups rfl) (pgs_cons (qg 7 sc_law_groups rfl) (pgs_cons (qg 8 sc_law_groups rfl) pgs_nil)))) (pss_one (rj (qe hr.units (q0 3) (q0 7)) (rb (rs 9 sc_law_groups rfl (Am.PE.weak (pe_callB (call_min2 rfl) (by rfl) T.z_min (by decide +kernel) (qb (Am.PE.weak (pe_dget (hu_of hr) (q0 1) (q0 4) (fun _ _=>rfl)) c_dget) (Am.PE.weak (pe_dget (hu_of hr) (q0 1) (q0 8) (fun _ _=>rfl)) c_dget))) (c_cb cs_min2)))
(ra (ps_dput (hu_of hr) (q0 1) (q0 4) (q0 9) rfl) c_dput
(pss_one (Am.PS.weak (ps_dput (hu_of hr) (q0 1) (q0 8) (q0 9) rfl) c_dput))))))) (c_for (tg_tup (tgs_cons tg_name (tgs_cons tg_name (tgs_cons tg_name tgs_nil)))))))) (c_for (tg_tup (tgs_cons tg_name (tgs_cons tg_name (tgs_cons tg_name tgs_nil)))))))) (c_for tg_name)
(pss_one (rr (q0 1))))))
theorem wk_law_meets (T:Txt K mg):WkP P w K mg base N_law_meets "_law_meets" s_law_meets (He.ga K "_law_meets") 0 b_law_meets := wk_in fun cdv A outer s H E hr tk hx po=>by
 unfold b_law_meets
 exact (ra (ps_lock (Am.PS.weak (ps_for po rfl (PI.weak (pi_keys (q0 0)) c_keys) (qg 3 sc_law_meets rfl) (pss_one (Am.PS.weak (ps_for po rfl (PI.weak (pi_keys (q0 0)) c_keys) (qg 4 sc_law_meets rfl) (pss_one (rj (PW.pt (aw_and (qe hr.units (Am.PE.weak (pe_dget (hu_of hr) (q0 0) (q0 3) (fun _ _=>rfl)) c_dget) (Am.PE.weak (pe_dget (hu_of hr) (q0 0) (q0 4) (fun _ _=>rfl)) c_dget)) (pw_and1 (qe hr.units (qi (q0 1) (q0 4)) (qi (q0 2) (q0 3)))))) (pss_one (rr (ae_c (fun _=>.bl _) pe_bl)))))) (c_for tg_name)))) (c_for tg_name))) c_lock
(pss_one (rr (ae_c (fun _=>.bl _) pe_bl))))
theorem wk_law_rows (T:Txt K mg) (G_law_draw:GX P w K mg base 1 (He.ga K "_law_draw") m_law_draw):WkP P w K mg base N_law_rows "_law_rows" s_law_rows (He.ga K "_law_rows") 1 b_law_rows := wk_in fun cdv A outer s H E hr tk hx po=>by
 unfold b_law_rows
 exact (rb (rs 4 sc_law_rows rfl (Am.PE.weak (pe_callB (call_max2 rfl) (by rfl) T.z_max (by decide +kernel) (qb q1 (q0 2))) (c_cb cs_max2)))
(pss_one (rr (Am.PE.weak (pe_lc (own := [("_law_k",5)]) rfl sc_law_rows.nd (PI.weak (pi_range1 (by rfl) T.z_range (qa (q0 3))) c_rng1) (blkOk_by (own := [("_law_k",5)]) (N := N_law_rows) (sc := defScope s_law_rows) (by decide +kernel)) (fun _ _ _ _ _=>(qg 5 sc_law_rows rfl)) (fun _ _ _ _ _=>(PTs.weak pts_nil c_yes)) (fun _ _ _ _ _=>(Am.PE.weak (pe_callTy call_tupA (by rfl) T.z_tuple (by decide +kernel) (qa (Am.PE.weak (pe_lc (own := [("_law_column",6)]) rfl sc_law_rows.nd (PI.weak (pi_range1 (by rfl) T.z_range (qa (q0 4))) c_rng1) (blkOk_by (own := [("_law_column",6)]) (N := N_law_rows) (by rfl)) (fun _ _ _ _ _=>(qg 6 sc_law_rows rfl)) (fun _ _ _ _ _=>(PTs.weak pts_nil c_yes)) (fun _ _ _ _ _=>(qi (q0 1) (qk G_law_draw passF hr T.g_law_draw T.k_law_draw (qb (q0 0) (ql T.z_len (qa (q0 1)))))))) (c_lc tg_name (by decide))))) (c_cb cs_tup)))) (c_lc tg_name (by decide))))))
theorem wk_law_numbered (T:Txt K mg):WkP P w K mg base N_law_numbered "_law_numbered" s_law_numbered (He.ga K "_law_numbered") 0 b_law_numbered := wk_in fun cdv A outer s H E hr tk hx po=>by
 unfold b_law_numbered
 exact (rb (rs 2 sc_law_numbered rfl (Am.PE.weak pe_dnewK c_dnewK))
(ra (ps_lock (Am.PS.weak (ps_for po rfl (PI.weak (pi_keys (q0 0)) c_keys) (qg 3 sc_law_numbered rfl) (pss_one (Am.PS.weak (ps_dput (hu_of hr) (q0 2) (Am.PE.weak (pe_dget (hu_of hr) (q0 0) (q0 3) (fun _ _=>rfl)) c_dget) (ae_lstM aa_nil) rfl) c_dput))) (c_for tg_name))) c_lock
(rb (rs 4 sc_law_numbered rfl (ae_lstM aa_nil))
(ra (ps_for po rfl (PI.weak (pi_seq (q0 1)) c_seq) (qg 5 sc_law_numbered rfl) (rb (rs 6 sc_law_numbered rfl (ae_lstM aa_nil))
(ra (ps_for po rfl (PI.weak (pi_enumT (by rfl) T.z_enumerate (qa (q0 5))) c_enumT) (pg_tup rfl (pgs_cons (qg 3 sc_law_numbered rfl) (pgs_cons (qg 7 sc_law_numbered rfl) pgs_nil))) (pss_one (ri (at_pc (pt_cmp (pc_din (hu_of hr) (q0 3) (q0 0)) rfl) c_din) (rb (rs 8 sc_law_numbered rfl (Am.PE.weak (pe_dget (hu_of hr) (q0 2) (Am.PE.weak (pe_dget (hu_of hr) (q0 0) (q0 3) (fun _ _=>rfl)) c_dget) (fun _ _=>rfl)) c_dget))
(rb (rj (at_cmp (op_notInP (units65 hr)) os_in (q0 7) (q0 8) rfl) (pss_one (rd (qp (q0 8) (qa (q0 7))))))
(pss_one (rd (qp (q0 6) (qa (Am.PE.weak (pe_bm PySem.F.plainAttrs_list PySem.F.slot_list_index PySem.F.type_list_index (mt_indexD (units65 hr)) (q0 8) (qa (q0 7))) (c_bm ms_index)))))))) (pss_one (rd (qp (q0 6) (qa q1))))))) (c_for (tg_tup (tgs_cons tg_name (tgs_cons tg_name tgs_nil))))
(pss_one (rd (qp (q0 4) (qa (Am.PE.weak (pe_callTy call_tupA (by rfl) T.z_tuple (by decide +kernel) (qa (q0 6))) (c_cb cs_tup))))))))) (c_for tg_name)
(pss_one (rr (Am.PE.weak (q0 4) c_fz)))))))
theorem wk_law {P:Program} {w:World} {K:PySem.W.Frag} {mg:Str→Option Value} {base:Heap} (T:Txt K mg) (G_Program_init_dflt:FnR P w K mg base (L2.CX P w) 4 (He.ma K (He.ga K "Program") "__init__") (spM K m_Program_init_dflt)) (G_Program_placed:FnR P w K mg base (L2.CX P w) 1 (propF K (He.ga K "Program") "placed") (spM K m_Program_placed)) (G_Program_width:FnR P w K mg base (L2.CX P w) 3 (propF K (He.ga K "Program") "width") (spM K m_Program_width)) (G_Schema_init:FnR P w K mg base (L2.CX P w) 4 (He.ma K (He.ga K "Schema") "__init__") (spM K m_Schema_init)) (G_Wishes_of:FnR P w K mg base (L2.CX P w) 3 (He5.wf K (He.ga K "Wishes") "staticmethod" "of") (spM K m_Wishes_of)) (G_law_draw:FnR P w K mg base (L2.CX P w) 1 (He.ga K "_law_draw") (spM K m_law_draw)) (G_law_few:FnR P w K mg base (L2.CX P w) 3 (He.ga K "_law_few") (spM K m_law_few)) (G_law_groups:FnR P w K mg base (L2.CX P w) 1 (He.ga K "_law_groups") (spM K m_law_groups)) (G_law_keys:FnR P w K mg base (L2.CX P w) 2 (He.ga K "_law_keys") (spM K m_law_keys)) (G_law_meets:FnR P w K mg base (L2.CX P w) 1 (He.ga K "_law_meets") (spM K m_law_meets)) (G_law_numbered:FnR P w K mg base (L2.CX P w) 1 (He.ga K "_law_numbered") (spM K m_law_numbered)) (G_law_pool:FnR P w K mg base (L2.CX P w) 1 (He.ga K "_law_pool") (spM K m_law_pool)) (G_law_program:FnR P w K mg base (L2.CX P w) 6 (He.ga K "_law_program") (spM K m_law_program)) (G_law_rows:FnR P w K mg base (L2.CX P w) 2 (He.ga K "_law_rows") (spM K m_law_rows)) (G_law_schema:FnR P w K mg base (L2.CX P w) 3 (He.ga K "_law_schema") (spM K m_law_schema)) (G_law_statements:FnR P w K mg base (L2.CX P w) 2 (He.ga K "_law_statements") (spM K m_law_statements)) (G_plain_lists:FnR P w K mg base (L2.CX P w) 5 (He.ga K "plain_lists") (spM K m_plain_lists)) (cdv:Value) (A:Around) (outer:List Env) (s:Shared) (H:Hp) (E:XK) (hr:Room 6 (A.deeper (envOfC "law" (defScope s_law) s.heap.objs.size (He.ga K "law") cdv))) :
  PSs (cxOf CX0 P w K mg base N_law "law" (defScope s_law) (He.ga K "law") cdv A outer s H E).nox (defBody s_law) (cS K WF b_law) := by
 unfold b_law
 exact (rb (rs 1 sc_law rfl (qk G_law_pool passF hr T.g_law_pool T.k_law_pool (qa (q0 0))))
(ra (ps_for PassesOwn.never rfl (PI.weak (pi_range1 (by rfl) T.z_range (qa q1)) c_rng1) (qg 2 sc_law rfl) (ra (ps_asg (qk G_law_schema passF hr T.g_law_schema T.k_law_schema (qb (q0 1) q1)) (pg_tup rfl (pgs_cons (qg 3 sc_law rfl) (pgs_cons (qg 4 sc_law rfl) pgs_nil)))) (c_set (tg_tup (tgs_cons tg_name (tgs_cons tg_name tgs_nil))))
(rb (rs 5 sc_law rfl (Am.PE.weak (pe_makeS T.mk_Schema G_Schema_init (hr.mono (by decide)) (by rfl) T.g_Schema passF (qb (q0 3) (q0 4))) c_makeD))
(rb (rs 6 sc_law rfl (qk G_law_statements passF hr T.g_law_statements T.k_law_statements (qc (q0 1) (q0 4) (qb (qk G_law_few passF hr T.g_law_few T.k_law_few (qc (q0 1) (q0 3) (qb q1 q1))) q1))))
(rb (rs 7 sc_law rfl (qk G_law_program passF hr T.g_law_program T.k_law_program (qb (q0 5) (Am.PE.weak (pe_lc (own := [("_law_how",17),("_law_some",18),("_law_ties",19)]) rfl sc_law.nd (PI.weak (pi_seq (q0 6)) c_seq) (blkOk_by (own := [("_law_how",17),("_law_some",18),("_law_ties",19)]) (N := N_law) (sc := defScope s_law) (by decide +kernel)) (fun _ _ _ _ _=>(pg_tup rfl (pgs_cons (qg 17 sc_law rfl) (pgs_cons (qg 18 sc_law rfl) (pgs_cons (qg 19 sc_law rfl) pgs_nil))))) (fun _ _ _ _ _=>(PTs.weak pts_nil c_yes)) (fun _ _ _ _ _=>(ae_tup (qc (q0 17) (q0 18) (qa (Am.PE.weak (pe_slice sl_any (q0 19) (PO.weak po_none c_noPart) (PO.weak (po_some q1) c_part)) c_sl)))))) (c_lc (tg_tup (tgs_cons tg_name (tgs_cons tg_name (tgs_cons tg_name tgs_nil)))) (by decide))))))
(rb (rs 8 sc_law rfl (qk G_law_groups passF hr T.g_law_groups T.k_law_groups (qa (Am.PE.weak (pe_propS (q0 7) T.c_Program T.p_Program_placed G_Program_placed (hr.mono (by decide)) passFN) c_prop))))
(rb (rs 9 sc_law rfl (qk G_law_keys passF hr T.g_law_keys T.k_law_keys (qa (q0 1))))
(rb (rs 10 sc_law rfl (qk G_plain_lists passF hr T.g_plain_lists T.k_plain_lists (qb (q0 7) (Am.PE.weak (pe_staticS (pe_glob (v := .ref (He.ga K "Wishes")) (by rfl) T.g_Wishes rfl) T.s_Wishes_of G_Wishes_of (hr.mono (by decide)) passF (qb q2 q2)) c_stat))))
(rb (rs 11 sc_law rfl (qi (ae_lst (qc q2 q2 (qa q2))) (qk G_law_draw passF hr T.g_law_draw T.k_law_draw (qb (q0 1) q1))))
(rb (rs 12 sc_law rfl (qk G_plain_lists passF hr T.g_plain_lists T.k_plain_lists (qb (q0 7) (Am.PE.weak (pe_staticS (pe_glob (v := .ref (He.ga K "Wishes")) (by rfl) T.g_Wishes rfl) T.s_Wishes_of G_Wishes_of (hr.mono (by decide)) passF (qa (q0 11))) c_stat))))
(ra (ps_for PassesOwn.never rfl (PI.weak (pi_range1 (by rfl) T.z_range (qa (ae_op op_addA os_add q1 (Am.PE.weak (pe_callTy call_intA (by rfl) T.z_int (by decide +kernel) (qa (ae_cmp (op_neP hr.units) os_neS (q0 0) (ae_lst aa_nil) (nomark _)))) (c_cb cs_intB))))) c_rng1) (qg 13 sc_law rfl) (rb (rs 14 sc_law rfl (qk G_law_rows passF hr T.g_law_rows T.k_law_rows (qc (q0 1) (q0 9) (qb (Am.PE.weak (pe_propS (q0 7) T.c_Program T.p_Program_width G_Program_width (hr.mono (by decide)) passFN) c_prop) q1))))
(ra (ps_par rfl sc_law.nd rfl rfl (by decide) rfl rfl (qb (qk G_law_numbered passF hr T.g_law_numbered T.k_law_numbered (qb (q0 8) (Am.PE.weak (pe_slice sl_any (q0 14) (PO.weak po_none c_noPart) (PO.weak (po_some q1) c_part)) c_sl))) (qk G_law_numbered passF hr T.g_law_numbered T.k_law_numbered (qb (q0 8) (q0 14)))) rfl) c_par
(rb (rj (PW.pt (aw_or (qn hr.units (Am.PE.weak (pe_bm PySem.F.plainAttrs_list PySem.F.slot_list_count PySem.F.type_list_count (mt_countP (units65 hr)) (q0 10) (qa (q0 15))) (c_bm ms_count)) q1) (aw_or (qn hr.units (Am.PE.weak (pe_bm PySem.F.plainAttrs_list PySem.F.slot_list_count PySem.F.type_list_count (mt_countP (units65 hr)) (q0 12) (qa (q0 15))) (c_bm ms_count)) q1) (pw_or1 (at_cmp (op_inP (units65 hr)) os_in (q0 16) (q0 10) rfl))))) (pss_one (rr (ae_c (fun _=>.bl _) pe_bl))))
(pss_one (rj (qn hr.units (Am.PE.weak (pe_bm PySem.F.plainAttrs_list PySem.F.slot_list_count PySem.F.type_list_count (mt_countP (units65 hr)) (q0 12) (qa (q0 16))) (c_bm ms_count)) (Am.PE.weak (pe_callTy call_intA (by rfl) T.z_int (by decide +kernel) (qa (qk G_law_meets passF hr T.g_law_meets T.k_law_meets (qc (q0 8) (qi (q0 14) q1) (qa (qi (q0 14) q1)))))) (c_cb cs_intB))) (pss_one (rr (ae_c (fun _=>.bl _) pe_bl))))))))) (c_for tg_name)
(pss_one (rj (PW.pt (aw_or (qn hr.units (Am.PE.weak (pe_slice sl_any (q0 12) (PO.weak po_none c_noPart) (PO.weak (po_some (ql T.z_len (qa (q0 10)))) c_part)) c_sl) (q0 10)) (pw_or1 (qn hr.units (qk G_plain_lists passF hr T.g_plain_lists T.k_plain_lists (qb (Am.PE.weak (pe_makeS T.mk_Program G_Program_init_dflt (hr.mono (by decide)) (by rfl) T.g_Program passF (qb (q0 5) (ae_lst aa_nil))) c_makeD) (Am.PE.weak (pe_staticS (pe_glob (v := .ref (He.ga K "Wishes")) (by rfl) T.g_Wishes rfl) T.s_Wishes_of G_Wishes_of (hr.mono (by decide)) passF (qa (q0 11))) c_stat))) (ae_lst (qa (ae_lst (qa (ae_tup (qa q1)))))))))) (pss_one (rr (ae_c (fun _=>.bl _) pe_bl)))))))))))))))) (c_for tg_name)
(pss_one (rr (ae_c (fun _=>.bl _) pe_bl)))))
end
end Lw
namespace Lw
open PySem PySem.Spec PyProof.Rows L2 Fm
open Am (spM fDraw fPool Wr Sg AH Stp put put_same put_ne Rep Reps Post Sub Lk)
open PySem.W (Datum Tup T3 T4)
structure PD (T H:Hp) (p g:Addr) (gs:List Int) (c sd n:Int):Prop where
 st:Same T H
 tp:T p=none
 hp:H p=some (.lst [.ref g, .int c, .int sd, .int n])
 hg:H g=some (.lst (gs.map V.int))
 lo:0≤sd
 hi:sd < 2147483648
theorem PD.ne {T H:Hp} {p g:Addr} {gs:List Int} {c sd n:Int} (h:PD T H p g gs c sd n):g≠p := fun e=>by
 have h1 := h.hp
 rw [← e,h.hg] at h1
 cases gs with
 | nil=>cases h1
 | cons a r=>cases h1
theorem PD.keep {T H H':Hp} {p g:Addr} {gs:List Int} {c sd n:Int} (h:PD T H p g gs c sd n) (e:Same H H'):PD T H' p g gs c sd n := ⟨h.st.trans e,h.tp,e _ _ h.hp,e _ _ h.hg,h.lo,h.hi⟩
theorem PD.put {T H:Hp} {p g:Addr} {gs:List Int} {c sd n c' n':Int} (h:PD T H p g gs c sd n):PD T (upd H p (.lst [.ref g, .int c', .int sd, .int n'])) p g gs c' sd n' :=
 ⟨same_upd h.st h.tp,h.tp,upd_same,by rw [upd_ne h.ne]; exact h.hg,h.lo,h.hi⟩
theorem mod_small {a m:Int} (h:0 < m):0≤a % m∧a % m < m := ⟨Int.emod_nonneg _ (by omega),Int.emod_lt_of_pos _ h⟩
theorem pure_law_draw (K : PySem.W.Frag) (H : Hp) (vs : List V) (Q : VK) (E : XK) (h : spM K fDraw vs H Q E) : t_law_draw K { nx := fun _ H' => Q .non H', rt := Q } (start N_law_draw vs) H := by
  obtain ⟨g0, A, ds, Qa, Ea, w, rv, ⟨nn, n, e0, hA, hn, hl, hq⟩, po, _⟩ := h
  subst e0
  obtain ⟨p, hi, hS, gs, c, sd, m, g, hp, hg', h0, h1⟩ := w.nd nn _ hA
  have hg : H g = some (.lst (gs.map V.int)) := w.sub.at_ hg' (by constructor <;> intro _ z <;> cases z)
  have evs : vs = [.ref p, .int n] := by
    cases rv with
    | cons r1 rv => cases rv with
      | cons r2 rv =>
        cases rv
        rw [r2.int_]
        cases r1 with
        | ref z => rw [hi] at z; cases z; rfl
  subst evs
  obtain ⟨T, eT⟩ : ∃ T : Hp, T = fun a => if a = p then none else H a := ⟨_, rfl⟩
  have nTp : T p = none := by rw [eT]; exact if_pos rfl
  have sTH : Same T H := fun b x e => by
    rw [eT] at e
    by_cases hb : b = p
    · simp only [hb, if_true] at e; cases e
    · simp only [hb, if_false] at e; exact e
  have d0 : PD T H p g gs c sd m := ⟨sTH, nTp, hp, hg, h0, h1⟩
  have fin : ∀ H' g1 gs c m r, (g1 = g ∨ H g1 = none) → PD T H' p g1 gs c sd m → 0 ≤ r → r < n → Q (.int r) H' := fun H' g1 gs1 c m r hg1 d a b => by
    have keep : ∀ b x, H b = some x → b ≠ p → H' b = some x := fun b x e hb => d.st b x (by rw [eT]; simp only [hb, if_false]; exact e)
    have hSg : ∀ x, g0.S g1 = some x → H' g1 = some x ∧ x = .lst (gs1.map V.int) := fun x e => by
      have e1 := w.sub g1 x e
      rcases hg1 with z | z
      · subst z
        rw [hg'] at e; cases e
        have k1 := keep g1 _ hg (ne_of_none hg' hS)
        exact ⟨k1, by rw [d.hg] at k1; exact (Option.some.inj k1).symm⟩
      · obtain ⟨o', e2, _⟩ := e1; rw [z] at e2; cases e2
    have le : g0.le ⟨upd g0.S g1 (.lst (gs1.map V.int)), g0.i⟩ := ⟨fun b x e => by
      show upd g0.S g1 (.lst (gs1.map V.int)) b = some x
      by_cases hb : b = g1
      · subst hb; rw [upd_same, ← (hSg x e).2]
      · rw [upd_ne hb]; exact e, fun _ _ h => h⟩
    have ng1 : g1 ≠ p := d.ne
    have nnode : ∀ k a, g0.i k = some a → A k ≠ none → a ≠ g1 := fun k a e hk z => by
      cases q : A k with
      | none => exact hk q
      | some x =>
        obtain ⟨a', k1, k2, k3⟩ := w.nd k x q
        rw [e] at k1; cases k1
        rcases hg1 with y | y
        · rw [z, y] at k2; rw [hg'] at k2; cases k2
        · exact w.ex k a e (by rw [z]; exact y)
    have w' : Wr K ⟨upd g0.S g1 (.lst (gs1.map V.int)), g0.i⟩ A H' := by
      refine ⟨fun b o e => ?_, w.inj, fun k a e => ?_, w.fin, fun k x e => ?_⟩
      · have e' : upd g0.S g1 (.lst (gs1.map V.int)) b = some o := e
        by_cases hb : b = g1
        · subst hb; rw [upd_same] at e'; cases e'; exact ⟨_, d.hg, .inl rfl⟩
        · rw [upd_ne hb] at e'
          obtain ⟨o', e2, lk⟩ := w.sub b o e'
          have hbp : b ≠ p := fun z => by rw [z, hS] at e'; cases e'
          exact ⟨o', keep b o' e2 hbp, lk⟩
      · by_cases ha : a = p
        · rw [ha, d.hp]; simp
        · cases q : H a with
          | none => exact absurd q (w.ex k a e)
          | some x => rw [keep a x q ha]; simp
      · obtain ⟨a, k1, k2, k3⟩ := w.nd k x e
        by_cases hk : k = nn
        · subst hk
          rw [hA] at e; cases e
          rw [hi] at k1; cases k1
          exact ⟨p, hi, by show upd g0.S g1 _ p = none; rw [upd_ne (Ne.symm ng1)]; exact hS, gs1, c, sd, m, g1, d.hp, upd_same, h0, h1⟩
        · have ha : a ≠ p := fun z => hk (w.inj k nn p (by rw [← z]; exact k1) hi)
          refine ⟨a, k1, ?_, k3.mono le ?_⟩
          · show upd g0.S g1 _ a = none
            rw [upd_ne (nnode k a k1 (by rw [e]; simp))]; exact k2
          · cases q : H a with
            | none => exact absurd q (w.ex k a k1)
            | some y => exact keep a y q ha
    refine po _ _ _ _ _ ⟨le, fun b o e nb => keep b o e (fun z => nb ⟨nn, _, hA, by rw [z]; exact hi⟩), fun b h => .inl h, fun b hb => ?_, fun b o hb _ hs _ => ?_, fun _ _ h => .inl h⟩ w' (.int r) (hq r a b)
    · by_cases z : b = p
      · rw [z, d.hp]; simp
      · cases q : H b with
        | none => exact absurd q hb
        | some x => rw [keep b x q z]; simp
    · show upd g0.S g1 _ b = none
      by_cases z : b = g1
      · rcases hg1 with y | y
        · rw [z, y, hg'] at hs; cases hs
        · rw [z, y] at hb; cases hb
      · rw [upd_ne z]; exact hs
  have ng : g = g ∨ H g = none := .inl rfl
  clear hg
  refine ⟨_, rfl, ⟨p, _, 3, .int m, rfl, rfl, by decide, hp, rfl, ⟨m, 1, rfl, rfl, ⟨p, _, 3, 3, rfl, rfl, hp, rfl, ?_⟩⟩⟩⟩
  have d1 := d0.put (c' := c) (n' := m + 1)
  show tSeq _ _ _ _ (upd H p (.lst [.ref g, .int c, .int sd, .int (m + 1)]))
  generalize upd H p (.lst [.ref g, .int c, .int sd, .int (m + 1)]) = H1 at d1
  clear d0 hp
  have tail : ∀ H1 g1 gs c, (g1 = g ∨ H g1 = none) → PD T H1 p g1 gs c sd (m + 1) → (tSeq (tIfS (tTest (tOp rGtA (tOp (rIx K) (tVar 0) (tC (.int 1))) (tC (.int 0)))) (tSeq (tAsg (tOp rModA (tCB rInt1 (tCons (tOp (rIx K) (tVar 0) (tC (.int 1))) tNil)) (tVar 1)) (gName 2))
    (tSeq (tAsg (tOp rDivA (tOp (rIx K) (tVar 0) (tC (.int 1))) (tVar 1)) (gSub (tVar 0) (tC (.int 1)) rSetL))
    (tRet (tVar 2)))) tNext)
    (tSeq (tAsg (tOp rModA (tCB rInt1 (tCons (tOp rAddA (tOp rMulA (tOp (rIx K) (tVar 0) (tC (.int 2))) (tC (.int 48271))) (tOp rMulA (tOp (rIx K) (tVar 0) (tC (.int 3))) (tC (.int 69621)))) tNil)) (tC (.int 2147483647))) (gName 3))
    (tSeq (tAsg (tOp rModA (tCB rInt1 (tCons (tOp rAddA (tOp rMulA (tVar 3) (tOp rAddA (tOp rDivA (tVar 3) (tC (.int 7))) (tC (.int 40692)))) (tOp rMulA (tOp (rIx K) (tVar 0) (tC (.int 3))) (tC (.int 16807)))) tNil)) (tC (.int 2147483399))) (gName 3))
    (tRet (tOp rModA (tOp rDivA (tVar 3) (tC (.int 5))) (tVar 1)))))) { nx := fun _ H' => Q .non H', rt := Q } [some (.ref p), some (.int n), none, none] H1 := by
    intro H1 g1 gs c ng d
    refine q_if (M := W0) (S := H1) (T := H1) (b := decide (0 < c)) (ev_test (K := K) (ev_gt (ev_at rfl d.hp rfl rfl is_int) ev_ic)) (Same.refl _) (Same.refl _) (fun S2 T2 H2 st w2 hb => ?_) (fun S2 T2 H2 st w2 hb => ?_)
    · have d2 := d.keep (st.tt.trans w2)
      refine q_set (M := W0) (S := H2) (T := H2) (P := Is K (c % n)) (ev_mod (ev_int (ev_at rfl d2.hp rfl rfl is_int)) (ev_iv rfl) hn) (Same.refl _) (Same.refl _) fun S3 T3 H3 v st3 w3 hv => ?_
      have d3 := d2.keep (st3.tt.trans w3)
      rw [hv.int]
      refine (ev_div (M := W0) (K := K) (S := H3) (a := c) (b := n) (ev_at rfl d3.hp rfl rfl is_int) (ev_iv rfl) ⟨hn, hl⟩) H3 H3 (Same.refl _) (Same.refl _) _ fun S4 T4 H4 v st4 w4 hv => ?_
      have d4 := d3.keep (st4.tt.trans w4)
      rw [hv.int]
      refine ⟨_, rfl, ⟨p, _, 1, 1, rfl, rfl, d4.hp, rfl, ?_⟩⟩
      have d5 := d4.put (c' := c / n) (n' := m + 1)
      exact ⟨_, rfl, fin _ _ _ _ _ _ ng d5 (mod_small hn).1 (mod_small hn).2⟩
    · have d2 := d.keep (st.tt.trans w2)
      refine q_set (M := W0) (S := H2) (T := H2) (ev_mod (K := K) (ev_int (ev_add (ev_mul (ev_at rfl d2.hp rfl rfl is_int) ev_ic (.inr ⟨by decide, by decide⟩)) (ev_mul (ev_at rfl d2.hp rfl rfl is_int) ev_ic (.inr ⟨by decide, by decide⟩)))) ev_ic (by decide)) (Same.refl _) (Same.refl _) fun S3 T3 H3 v st3 w3 hv => ?_
      have d3 := d2.keep (st3.tt.trans w3)
      have hv' := hv.int
      obtain ⟨b1, b2⟩ := mod_small (a := sd * 48271 + (m + 1) * 69621) (m := 2147483647) (by decide)
      generalize (sd * 48271 + (m + 1) * 69621) % 2147483647 = x at hv' b1 b2
      subst hv'
      refine q_set (M := W0) (S := H3) (T := H3) (ev_mod (K := K) (ev_int (ev_add (ev_mul (ev_iv rfl) (ev_add (ev_div (ev_iv rfl) ev_ic ⟨by decide, by decide⟩) ev_ic) (.inl ⟨by omega, by omega⟩)) (ev_mul (ev_at rfl d3.hp rfl rfl is_int) ev_ic (.inr ⟨by decide, by decide⟩)))) ev_ic (by decide)) (Same.refl _) (Same.refl _) fun S4 T4 H4 v st4 w4 hv => ?_
      have d4 := d3.keep (st4.tt.trans w4)
      have hv' := hv.int
      subst hv'
      refine q_ret (M := W0) (S := H4) (T := H4) (ev_mod (K := K) (ev_div (ev_iv rfl) ev_ic ⟨by decide, by decide⟩) (ev_iv rfl) hn) (Same.refl _) (Same.refl _) fun S5 T5 H5 v st5 w5 hv => ?_
      have d5 := d4.keep (st5.tt.trans w5)
      rw [hv.int]
      exact fin _ _ _ _ _ _ ng d5 (mod_small hn).1 (mod_small hn).2
  have e0 : Is K gs H1 (.ref g) := is_lst (.inl d1.hg) isAll_ints
  refine q_if (M := W0) (S := H1) (T := H1) (b := decide (c = 0) && !decide (gs = [])) (ev_and (ev_test (K := K) (ev_eq (ev_at rfl d1.hp rfl rfl is_int) ev_ic)) (fun _ => ev_test (K := K) (ev_ne (a := gs) (b := []) (ev_at rfl d1.hp rfl rfl e0) ev_l0))) (Same.refl _) (Same.refl _) (fun S2 T2 H2 st w2 hb => ?_) (fun S2 T2 H2 st w2 hb => ?_)
  · have d2 := d1.keep (st.tt.trans w2)
    have hg : gs ≠ [] := fun z => by rw [z] at hb; simp at hb
    obtain ⟨g0', gr, rfl⟩ : ∃ g0' gr, gs = g0' :: gr := by
      cases gs with
      | nil => exact absurd rfl hg
      | cons a r => exact ⟨a, r, rfl⟩
    have e2 : Is K (g0' :: gr) H2 (.ref g) := is_lst (.inl d2.hg) isAll_ints
    refine (ev_ix (M := W0) (K := K) (S := H2) (xs := g0' :: gr) (i := 0) (a := g0') (ev_at rfl d2.hp rfl rfl e2) ev_ic rfl rfl) H2 H2 (Same.refl _) (Same.refl _) _ fun S3 T3 H3 v st3 w3 hv => ?_
    have d3 := d2.keep (st3.tt.trans w3)
    rw [hv.int]
    refine ⟨_, rfl, ⟨p, _, 1, 1, rfl, rfl, d3.hp, rfl, ?_⟩⟩
    have d4 : PD T (upd H3 p (HO.lst ([V.ref g, V.int c, V.int sd, V.int (m + 1)].set 1 (V.int g0')))) p g (g0' :: gr) g0' sd (m + 1) := d3.put (c' := g0') (n' := m + 1)
    dsimp only
    generalize upd H3 p (HO.lst ([V.ref g, V.int c, V.int sd, V.int (m + 1)].set 1 (V.int g0'))) = H4 at d4 ⊢
    have e4 : Is K (g0' :: gr) H4 (.ref g) := is_lst (.inl d4.hg) isAll_ints
    refine ⟨.ref p, rfl, .inl ⟨p, _, 0, .ref g, rfl, rfl, SqL.of d4.hp, rfl, 1, rfl, .inl ⟨g, (g0' :: gr).map V.int, rfl, SqL.of d4.hg, fun l nl => ?_⟩⟩⟩
    have hlp : p ≠ l := ne_of_none d4.hp nl
    refine ⟨_, rfl, ⟨p, _, 0, 0, rfl, rfl, by rw [upd_ne hlp]; exact d4.hp, rfl, ?_⟩⟩
    refine tail _ l gr g0' (.inr ?_) ⟨same_upd (d4.st.trans (same_new nl)) d4.tp, d4.tp, upd_same, ?_, d4.lo, d4.hi⟩
    · have := d4.st.free nl
      rw [eT] at this
      simpa [Ne.symm hlp] using this
    rw [upd_ne (Ne.symm hlp), upd_same]
    show some (HO.lst (cutV (V.int g0' :: gr.map V.int) (some 1) none)) = _
    have e : cutV (V.int g0' :: gr.map V.int) (some 1) none = gr.map V.int := by
      unfold cutV
      rw [show HT.sIx (V.int g0' :: gr.map V.int).length 0 (some 1) = min 1 (V.int g0' :: gr.map V.int).length from HT.sIx_nat _ 0 1, HT.sIx_none]
      rw [show min 1 (V.int g0' :: gr.map V.int).length = 1 by rw [List.length_cons]; omega]
      show List.take ((V.int g0' :: gr.map V.int).length - 1) (gr.map V.int) = gr.map V.int
      rw [List.length_cons, Nat.add_sub_cancel]
      exact List.take_length
    rw [e]
  · exact tail H2 g gs c ng (d1.keep (st.tt.trans w2))
end Lw
namespace Lw
open PySem PySem.Spec PyProof.Rows L2 Fm
open PySem.W (Datum Tup T3 T4)
open Am (spM fDraw fPool Wr Sg AH Stp put put_same put_ne Rep Reps Post Sub Lk)
theorem small1 {n:Nat} (h:n≤1000):n≤sizeLine := small_size h
section
variable {K:PySem.W.Frag}
theorem len_law_draw {vs:List V} {H:Hp} {Q:VK} {E:XK} (h:spM K fDraw vs H Q E):vs.length=2 := by
 obtain ⟨g0,A,ds,Qa,Ea,w,rv,⟨nn,n,e0,_⟩,po,_⟩ := h
 rw [rv.len,e0]; rfl
theorem len_law_pool {vs:List V} {H:Hp} {Q:VK} {E:XK} (h:spM K fPool vs H Q E):vs.length=1 := by
 obtain ⟨g0,A,ds,Qa,Ea,w,rv,⟨nn,e0,_⟩,po,_⟩ := h
 rw [rv.len,e0]; rfl
theorem pool_laid {g0 : Sg} {A : AH} {H H' : Hp} {Qa : Am.QE} {Q : VK} {p g : Addr} {gs : List Int} {c sd n : Int} (w : Wr K g0 A H) (s : Same H H') (np : H p = none) (ng : H g = none) (hp : H' p = some (.lst [.ref g, .int c, .int sd, .int n])) (hg : H' g = some (.lst (gs.map V.int))) (h0 : 0 ≤ sd) (h1 : sd < 2147483648)
    (hq : ∀ n, A n = none → Qa (.ref n) (put A n .pool)) (po : Post K g0 A H Qa Q) : Q (.ref p) H' := by
  have hne : g ≠ p := fun e => by
    rw [e, hp] at hg
    cases gs with
    | nil => cases hg
    | cons a r => cases hg
  obtain ⟨N, hN⟩ := w.fin
  have hi : g0.i N = none := hN N (Nat.le_refl _)
  have hA : A N = none := by
    cases e : A N with
    | none => rfl
    | some x => obtain ⟨a, h, _⟩ := w.nd N x e; rw [hi] at h; cases h
  have nS : g0.S g = none := w.sub.free ng
  have le : g0.le ⟨upd g0.S g (.lst (gs.map V.int)), fun m => if m = N then some p else g0.i m⟩ := ⟨same_new nS, fun m a h => by
    have : m ≠ N := fun e => by rw [e, hi] at h; cases h
    show (if m = N then some p else g0.i m) = some a
    rw [if_neg this]; exact h⟩
  have old : ∀ m a, (if m = N then some p else g0.i m) = some a → (m = N ∧ a = p) ∨ (m ≠ N ∧ g0.i m = some a ∧ a ≠ p) := fun m a h => by
    by_cases e : m = N
    · rw [if_pos e] at h; exact .inl ⟨e, (Option.some.inj h).symm⟩
    · rw [if_neg e] at h; exact .inr ⟨e, h, fun z => w.ex m a h (by rw [z]; exact np)⟩
  have kp : ∀ a o, H a = some o → H' a = some o := s
  refine po ⟨upd g0.S g (.lst (gs.map V.int)), fun m => if m = N then some p else g0.i m⟩ (put A N .pool) H' (.ref p) (.ref N) ⟨le, fun a o h _ => kp a o h, fun a h => ?_, fun a h => ?_, fun a o h _ hs _ => ?_, fun m a h => ?_⟩ ⟨fun b o e => ?_, fun m k a h1 h2 => ?_, fun m a h => ?_, ⟨N + 1, fun m h => ?_⟩, fun m y h => ?_⟩ (.ref (if_pos rfl)) (hq N hA)
  · obtain ⟨m, y, h1, h2⟩ := h
    rcases old m a h2 with ⟨e1, e2⟩ | ⟨e1, e2, e3⟩
    · exact .inr (by rw [e2]; exact np)
    · rw [put_ne e1] at h1; exact .inl ⟨m, y, h1, e2⟩
  · cases q : H a with
    | none => exact absurd q h
    | some o => rw [kp a o q]; simp
  · show upd g0.S g _ a = none
    rw [upd_ne (ne_of_none h ng)]; exact hs
  · rcases old m a h with ⟨e1, e2⟩ | ⟨e1, e2, e3⟩
    · exact .inr (by rw [e2]; exact np)
    · exact .inl e2
  · have e' : upd g0.S g (.lst (gs.map V.int)) b = some o := e
    by_cases hb : b = g
    · subst hb; rw [upd_same] at e'; cases e'; exact ⟨_, hg, .inl rfl⟩
    · rw [upd_ne hb] at e'
      obtain ⟨o', e2, lk⟩ := w.sub b o e'
      exact ⟨o', kp _ _ e2, lk⟩
  · rcases old m a h1 with ⟨e1, e2⟩ | ⟨e1, e2, e3⟩ <;> rcases old k a h2 with ⟨f1, f2⟩ | ⟨f1, f2, f3⟩
    · rw [e1, f1]
    · exact absurd e2 f3
    · exact absurd f2 e3
    · exact w.inj m k a e2 f2
  · rcases old m a h with ⟨e1, e2⟩ | ⟨e1, e2, e3⟩
    · rw [e2, hp]; simp
    · cases q : H a with
      | none => exact absurd q (w.ex m a e2)
      | some o => rw [kp a o q]; simp
  · show (if m = N then some p else g0.i m) = none
    rw [if_neg (by omega)]; exact hN m (by omega)
  · by_cases e : m = N
    · subst e
      rw [put_same] at h; cases h
      exact ⟨p, if_pos rfl, by show upd g0.S g _ p = none; rw [upd_ne (Ne.symm hne)]; exact w.sub.free np, gs, c, sd, n, g, hp, upd_same, h0, h1⟩
    · rw [put_ne e] at h
      obtain ⟨a, k1, k2, k3⟩ := w.nd m y h
      have hag : a ≠ g := fun z => w.ex m a k1 (by rw [z]; exact ng)
      refine ⟨a, by show (if m = N then some p else g0.i m) = some a; rw [if_neg e]; exact k1, by show upd g0.S g _ a = none; rw [upd_ne hag]; exact k2, k3.mono le ?_⟩
      cases q : H a with
      | none => exact absurd q (w.ex m a k1)
      | some o => exact kp a o q
theorem pure_law_pool (K:PySem.W.Frag) (H:Hp) (vs:List V) (Q:VK) (E:XK) (h:spM K fPool vs H Q E):t_law_pool K { nx := fun _ H'=>Q .non H',rt := Q } (start N_law_pool vs) H := by
 obtain ⟨g0,A,ds,Qa,Ea,w0,rv,⟨ns,e0,hl,hq⟩,po,_⟩ := h
 subst e0
 obtain ⟨a,rfl,hr⟩:∃ a,vs=[.ref a]∧SqL K H a (ns.map V.int) := by
  cases rv with
  | cons r1 rv =>
   cases rv
   cases r1 with
   | scr z=>exact ⟨_,rfl,w0.sub.sql z⟩
 have hcut:∀ {σ:L2.St} {S:Hp},Same H S→σ[0]? = some (some (.ref a))→EvI W0 (iSeq K (tSl (Fm.rSlA K) (tVar 0) tNoPart (tPart (tC (.int 63))))) σ S (cutL ns none (some 63)).length (Itm K (cutL ns none (some 63))) := fun e h0=>evi_list (ev_cutQ h0 (Same.sql e hr) isAll_ints evo_none (evo_some (K := K) ev_ic))
 have hcl:(cutL ns none (some 63)).length≤1000 := by
  rw [show (63:Int)=((63:Nat):Int) from rfl,cutL_to]
  have := List.length_take_le 63 ns
  omega
 have hg:Ev W0 (tLc (iSeq K (tSl (Fm.rSlA K) (tVar 0) tNoPart (tPart (tC (.int 63))))) (gName 3) (tTest (tOp rGeA (tVar 3) (tOp rPowA (tC (.int 10)) (tC (.int 18))))) (tCB rInt1 (tCons (tVar 3) tNil)) [3]) (start N_law_pool [.ref a]) H (fun S' v=>∃ (g:Addr) (gs:List Int),v = .ref g∧H g=none∧S' g=some (.lst (gs.map V.int))) := by
  generalize hxs:cutL ns none (some 63)=xs at *
  refine (ev_lcN (p := fun i=>decide (10 ^ 18≤xs.getD i 0)) (E := fun i=>Is K (xs.getD i 0)) (hcut (Same.refl _) rfl) itm_mono (fun i=>is_mono) (small1 hcl) fun i S1 v hi e ⟨x,h1,h2⟩=>?_).imp fun S' v e ⟨g,ws,h1,h2,h3,h4⟩=>?_
  ·have ex:xs.getD i 0=x := by rw [List.getD_eq_getElem?_getD,h1]; rfl
   rw [ex]
   exact ⟨_,fun H s Q q=>q,wipe1,ev_test (K := K) (ev_ge (ev_var rfl h2) (ev_pow (a := 10) (b := 18) ev_ic ev_ic ⟨by decide,by decide,by decide⟩)),fun _=>ev_int (ev_var rfl h2)⟩
  ·have := paired_is (K := K) (xs := ([]:List Int)) h4
   have e2 := this.ints
   exact ⟨g,_,h1,h2,by rw [h3,e2]⟩
 refine q_set (M := W0) (S := H) (T := H) hg (Same.refl _) (Same.refl _) fun S1 T1 H1 v1 st1 w1 p1=>?_
 obtain ⟨g,gs,rfl,ng,hg1⟩ := p1
 dsimp only
 refine q_set (M := W0) (S := S1) (T := T1) (P := Is K (7:Int)) ev_ic w1 st1.st fun S2 T2 H2 v2 st2 w2 p2=>?_
 rw [p2.int]
 have e2 := st1.ss.trans st2.ss
 refine for_ev (M := W0) (S := S2) (T := T2) (hcut e2 rfl) itm_mono w2 st2.st (fun i σ S T=>∃ sd x,σ=[some (.ref a),some (.ref g),some (.int sd),x]∧0≤sd∧sd < 2147483648) (fun _ _ _=>⟨7,none,rfl,by decide,by decide⟩) (fun i v σ2 S3 T3 H3 hi st3 w3 hJ ⟨x,hx,hv⟩=>?_) (fun σ2 S3 T3 H3 st3 w3 hJ=>?_)
 ·obtain ⟨sd,x0,rfl,h0,h1⟩ := hJ
  refine q_set (M := W0) (S := S3) (T := T3) (ev_mod (K := K) (ev_int (ev_add (ev_add (ev_mul (ev_iv (z := sd) rfl) ev_ic (.inr ⟨by decide,by decide⟩)) (ev_mod (ev_int (ev_var rfl hv)) ev_ic (by decide))) ev_ic)) ev_ic (by decide)) w3 st3.st fun S4 T4 H4 v4 st4 w4 p4=>?_
  refine ⟨S4,T4,st3.trans st4,w4,st4.ss,_,some v,by rw [p4.int]; rfl,(mod_small (by decide)).1, ?_⟩
  have := (mod_small (a := sd * 31 + x % 1000003 + 1) (m := 2147483629) (by decide)).2
  omega
 ·obtain ⟨sd,x0,rfl,h0,h1⟩ := hJ
  refine ⟨.ref g,rfl, .int sd,rfl,small_size (by simp),fun p np=>?_⟩
  have sH:Same H H3 := (st1.tt.trans (st2.tt.trans st3.tt)).trans w3
  have hg3:H3 g=some (.lst (gs.map V.int)) := w3 _ _ (st3.st _ _ (st3.ss _ _ (st2.ss _ _ hg1)))
  have hpg:g≠p := ne_of_none hg3 np
  exact pool_laid w0 (sH.trans (same_new np)) (sH.free np) ng upd_same (by rw [upd_ne hpg]; exact hg3) h0 h1 hq po
end
end Lw
namespace Lw
open PySem PySem.Spec PyProof.Rows L2 Am
open PySem.W (Datum Tup T3 T4)
open TL (tl tl_append tl_join joinL join_eq)
abbrev lawE:AEnds := { nx := fun _ _=>False,rt := fun d _=>d = .bl true,bk := fun _ _=>False,ct := fun _ _=>False,ex := fun _ _ _=>False }
def abc:Str := "abcdefghijklmnopqrstuvwxyz"
def isW (z:Str):Bool := (decide ((1:Int)≤z.length) && decide ((z.length:Int)≤8)) && z.cps.toList.all fun c=>decide (c∈abc.cps.toList)
theorem word_len {z:Str} (h:isW z=true):z.length≤8∧1≤z.length := by
 unfold isW at h
 simp only [Bool.and_eq_true,decide_eq_true_eq] at h
 omega
section
variable {s:Sl} {A:AH} {m ma mb mc:ME}
theorem filter_yes {α:Type} (xs:List α):xs.filter (fun _=>true)=xs := by simp
theorem allBD_map {α:Type} {f:α→Bool}:∀ xs:List α,allBD (xs.map fun x=>D.bl (f x))=some (xs.all f)
 | []=>rfl
 | x :: xs=>by rw [List.map_cons]; unfold allBD; rw [allBD_map xs]; rfl
theorem pv_all {α:Type} {xs:List α} {f:α→Bool} (h:Pv m s A (.lst (xs.map fun x=>.bl (f x)))):Pv (mCB fAll (mCons m mNil)) s A (.bl (xs.all f)) := pv_cb (pa_1 h) fun Q q=>⟨_,_,_,rfl,rfl,allBD_map xs,q⟩
theorem fv_is_word {z:Str} (hz:z.length≤1000):Fv m_is_word [.str z] A (.bl (isW z)) := fun Q E q=>⟨rfl,s_ret (d := .bl (isW z)) ((pv_andV (pv_isi (t := .b "str") (b := true) (pv_var rfl) rfl rfl) fun _=>pv_andV (pv_chain pv_c (pv_lenS (pv_var rfl) (sz hz)) pv_c) fun _ =>
 pv_all (f := fun c=>decide (c∈abc.cps.toList)) (xs := z.cps.toList) ((pv_lcS (p := fun _=>true) (f := fun c=>.bl (decide (c∈abc.cps.toList))) (pv_var rfl) (sz hz) fun c hc R k=>k _ pt_yes fun _=>(pv_sign (z := abc) (pv_var rfl) pv_c).is (by simp)).is (by rw [filter_yes]))).is (by rfl)) (fg q)⟩
end
section
variable {s:Sl} {A:AH} {m ma mb mc:ME} {n:Nat} {x:D} {us ws:List Str} {Q:QE} {E:QX}
theorem isW_of {z:Str} (h1:1≤(tl z).length) (h2:(tl z).length≤8) (h:∀ c∈tl z,c∈abc.cps.toList):isW z=true := by
 have e:(z.length:Int)=(tl z).length := by
  show ((z.cps.size:Nat):Int)=((z.cps.toList.length:Nat):Int)
  simp
 unfold isW
 rw [e]
 simp only [Bool.and_eq_true,decide_eq_true_eq,List.all_eq_true]
 exact ⟨⟨by omega,by omega⟩,h⟩
theorem tl_len (z:Str):(tl z).length=z.length := by
 show z.cps.toList.length=z.cps.size
 simp
theorem word_all {z:Str} (h:isW z=true):∀ c∈tl z,c∈abc.cps.toList := by
 unfold isW at h
 simp only [Bool.and_eq_true,List.all_eq_true] at h
 intro c hc
 have := h.2 c hc
 simpa using this
def Sign (y:Str):Prop := ∃ c,y=⟨#[c]⟩∧c∈abc.cps.toList
theorem join_ok:∀ {ys:List Str},(∀ y∈ys,Sign y)→(joinL [] (ys.map tl)).length=ys.length∧∀ c∈joinL [] (ys.map tl),c∈abc.cps.toList
 | [],_=>⟨rfl,fun c h=>nomatch h⟩
 | [y],h=>by
  obtain ⟨c,rfl,hc⟩ := h y (List.mem_singleton.mpr rfl)
  refine ⟨rfl,fun d hd=>?_⟩
  have:d∈[c] := hd
  rw [List.mem_singleton.mp this]
  exact hc
 | y :: z :: r,h=>by
  obtain ⟨c,rfl,hc⟩ := h y (List.mem_cons_self ..)
  obtain ⟨q1,q2⟩ := join_ok (ys := z :: r) fun w hw=>h w (List.mem_cons_of_mem _ hw)
  have e:joinL [] ((⟨#[c]⟩ :: z :: r:List Str).map tl)=c :: joinL [] ((z :: r).map tl) := rfl
  rw [e]
  refine ⟨by rw [List.length_cons,q1]; rfl,fun d hd=>?_⟩
  rcases List.mem_cons.mp hd with e | hd
  ·rw [e]; exact hc
  ·exact q2 d hd
theorem sum_ok:∀ {ys:List Str},(∀ y∈ys,Sign y)→(ys.map (·.length)).sum=ys.length
 | [],_=>rfl
 | y :: r,h=>by
  obtain ⟨c,rfl,hc⟩ := h y (List.mem_cons_self ..)
  rw [List.map_cons,List.sum_cons,sum_ok fun w hw=>h w (List.mem_cons_of_mem _ hw),List.length_cons]
  show 1 + r.length=r.length + 1
  omega
theorem join_word {ys:List Str} (h:∀ y∈ys,Sign y) (h1:1≤ys.length) (h2:ys.length≤8):isW (Txt.join "" ys)=true := by
 have e:tl (Txt.join "" ys)=joinL [] (ys.map tl) := by rw [join_eq,tl_join]; rfl
 obtain ⟨q1,q2⟩ := join_ok h
 exact isW_of (by rw [e,q1]; exact h1) (by rw [e,q1]; exact h2) (by rw [e]; exact q2)
theorem cut7 (z:Str):tl (cutS z none (some 7))=(tl z).take 7 := by
 show ((z.cps.toList.drop 0).take (HT.sIx z.length z.length (some ((7:Nat):Int)) - 0)).toArray.toList=_
 rw [HT.sIx_nat]
 show List.take (min 7 z.length) (tl z)=_
 rw [← tl_len]
 by_cases h:7≤(tl z).length
 ·rw [Nat.min_eq_left h]
 ·rw [Nat.min_eq_right (by omega),List.take_length,List.take_of_length_le (by omega)]
def cand (z:Str) (c:Nat):Str := cutS z none (some 7) ++ ⟨#[c]⟩
theorem tl_cand (z:Str) (c:Nat):tl (cand z c)=(tl z).take 7 ++ [c] := by
 unfold cand
 rw [tl_append,cut7]
theorem cand_inj {z:Str} {c d:Nat} (h:cand z c=cand z d):c=d := by
 have := congrArg tl h
 rw [tl_cand,tl_cand] at this
 simpa using this
theorem cand_word {z:Str} {c:Nat} (hz:isW z=true) (hc:c∈abc.cps.toList):isW (cand z c)=true := by
 refine isW_of (by rw [tl_cand,List.length_append]; show 1≤_ + 1; omega) (by rw [tl_cand,List.length_append]; have := List.length_take_le 7 (tl z); show _ + 1≤8; omega) fun d hd=>?_
 rw [tl_cand] at hd
 rcases List.mem_append.mp hd with h | h
 ·exact word_all hz d (List.mem_of_mem_take h)
 ·rw [List.mem_singleton.mp h]; exact hc
theorem cand_some {z:Str} {us:List Str} (h:us.length < 26):∃ c r,abc.cps.toList.filter (fun c=>!decide (cand z c∈us))=c :: r := by
 cases e:abc.cps.toList.filter (fun c=>!decide (cand z c∈us)) with
 | cons c r=>exact ⟨c,r,rfl⟩
 | nil =>
  rw [List.filter_eq_nil_iff] at e
  have hn:(abc.cps.toList.map (cand z)).Nodup := by
   unfold List.Nodup
   rw [List.pairwise_map]
   have:abc.cps.toList.Nodup := by decide +kernel
   exact this.imp fun hab e=>hab (cand_inj e)
  have := Fm.nodup_le hn (ys := us) fun x hx=>by
   obtain ⟨c,hc,rfl⟩ := List.mem_map.mp hx
   simpa using e c hc
  rw [List.length_map,show abc.cps.toList.length=26 by decide +kernel] at this
  omega
theorem abc_at {r:Int} (h0:0≤r) (h1:r < 26):∃ c,abc.cps.toList[r.toNat]? = some c∧c∈abc.cps.toList := by
 have h:r.toNat < abc.cps.toList.length := by rw [show abc.cps.toList.length=26 by decide +kernel]; omega
 exact ⟨_,List.getElem?_eq_getElem h,List.getElem_mem h⟩
theorem signs:∀ {is:List Nat} {ys:List D},Paired (fun _ d=>∃ z,d=D.str z∧Sign z) is ys→∃ zs:List Str,ys=zs.map en∧zs.length=is.length∧∀ z∈zs,Sign z
 | _,_, .nil=>⟨[],rfl,rfl,fun _ h=>nomatch h⟩
 | _,_, .cons ⟨z,e,hz⟩ r=>by
  obtain ⟨zs,h1,h2,h3⟩ := signs r
  subst e h1
  exact ⟨z :: zs,rfl,by simp [h2],fun w hw=>by
   rcases List.mem_cons.mp hw with e | h
   ·rw [e]; exact hz
   ·exact h3 w h⟩
theorem f_word (hp:A n=some .pool) (hx:LsD A x us) (hl:us.length < 26):Fx m_law_word [.ref n,x] A fun d=>∃ z,d = .str z∧isW z=true∧z ∉ us := fun Q E q=>by
 refine ⟨rfl, ?_⟩
 refine s_set (d := .str abc) pv_c ?_
 refine s_setX (px_addD (px_draw (k := 8) hp (pv_var rfl) pv_c)) fun d ⟨r,e,h0,h1⟩=>?_
 subst e
 have hj:Px (mJoin (mC (.str "")) (mLc (mRng1 (mCons (mVar 3) mNil)) (gN 5) mYes (mOp fIx (mVar 2) (mCall m_law_draw (mCons (mVar 0) (mCons (mC (.int 26)) mNil)))) [5])) [some (.ref n),some x,some (.str abc),some (.int r),none,none,none] A fun d=>∃ z,d = .str z∧isW z=true := fun Q E q=>by
  refine ⟨"",rfl,(px_lcR (j := r) (E0 := fun _ d=>∃ z,d=D.str z∧Sign z) (pv_var rfl) (by omega) (by omega) fun i hi R k=>k _ ?_) _ _ fun d ⟨ys,e,hy⟩=>?_⟩
  ·refine px_op (Pv.px (pv_var rfl)) (px_draw (k := 26) hp (pv_var rfl) pv_c) fun u v eu ⟨r2,ev,g0,g1⟩ Q q=>?_
   subst eu ev
   obtain ⟨c,hc,hm⟩ := abc_at g0 g1
   exact w_ixS (i := r2.toNat) (by omega) (by decide) hc (q _ ⟨⟨#[c]⟩,rfl,c,rfl,hm⟩)
  ·obtain ⟨zs,e1,e2,e3⟩ := signs hy
   rw [List.length_range] at e2
   subst e e1
   exact ⟨_,zs,rfl,strsOf_map zs,by rw [sum_ok e3]; show _ + _ * 0≤_; omega,q _ ⟨_,rfl,join_word e3 (by omega) (by omega)⟩⟩
 refine s_setX hj fun d ⟨z,e,hz⟩=>?_
 subst e
 have hzl := (word_len hz).1
 refine s_if (a := decide (z∈us)) ((pt_b (pv_inS (pv_var rfl) (pv_var rfl) hx.sq)).is (by simp)) (fun hb=>?_) (fun hb=>?_)
 ·obtain ⟨c,cr,hcr⟩ := cand_some (z := z) hl
  have hcs:(cutS z none (some 7)).length≤8 := Nat.le_trans (cutS_length z none (some 7)) hzl
  have hadd:∀ {d:Nat} {Z:Sl},Z[4]? = some (some (.str z))→Z[6]? = some (some (.str ⟨#[d]⟩))→Pv (mOp fAdd (mSl (mVar 4) mNoPart (mPart (mC (.int 7)))) (mVar 6)) Z A (.str (cand z d)) := fun h4 h6=>pv_addS (pv_slS (pv_var h4) po_no (po_so pv_c) (sz (by omega))) (pv_var h6) (sz (by show _ + 1≤1000; omega))
  refine s_set (d := .str (cand z c)) (pv_ix (α := Str) (xs := (c :: cr).map (cand z)) (i := 0) ((pv_lcS (z := abc) (p := fun c=>!decide (cand z c∈us)) (f := fun c=>.str (cand z c)) (pv_var rfl) (by decide) fun d hd R k=>k _ ((pt_b (pv_inS (hadd rfl rfl) (pv_var rfl) hx.sq)).is (by simp)) fun _=>hadd rfl rfl).is rfl) pv_c ?_ rfl rfl) ?_
  ·rw [hcr]
   show some _=some _
   rw [List.map_map]
   rfl
  ·have hc:c∈abc.cps.toList.filter (fun c=>!decide (cand z c∈us)) := by rw [hcr]; exact List.mem_cons_self ..
   rw [List.mem_filter] at hc
   exact s_ret (pv_var rfl) (fg (q _ ⟨_,rfl,cand_word hz hc.1,by simpa using hc.2⟩))
 ·exact s_ret (pv_var rfl) (fg (q _ ⟨z,rfl,hz,by simpa using hb⟩))
end
end Lw
namespace Lw
open PySem PySem.Spec PyProof.Rows L2 Am
open PySem.W (Datum Tup T3 T4)
abbrev Gr := List (Int × Int)
def gV (g:Gr) (c:Int):Int := (valA g c).getD 0
def gK (g:Gr):List Int := g.map (·.1)
def inG (c:Int) (g:Gr):Bool := (valA g c).isSome
abbrev PlT := T3 Str Str Int
def gI (pls:List PlT):Gr := dcA (fun p=>p.c) (fun p=>p.c) (fun _=>true) pls
def gS (g:Gr) (p q:PlT):Gr := if (eqB p.b q.b && !eqB (gV g p.c) (gV g q.c))=true then dcA (fun c=>c) (fun c=>if eqB (gV g c) (gV g p.c)=true then gV g q.c else gV g c) (fun _=>true) (gK g) else g
def gF (pls:List PlT):Gr := pls.foldl (fun g p=>pls.foldl (fun g q=>gS g p q) g) (gI pls)
def lI (pls:List PlT):Gr := pls.foldl (fun g p=>putA g p.c p.c) []
def lS (g:Gr) (p q:PlT):Gr := if eqB p.b q.b=true then putA (putA g p.c (min (gV g p.c) (gV g q.c))) q.c (min (gV g p.c) (gV g q.c)) else g
def lR (pls:List PlT) (g:Gr):Gr := pls.foldl (fun g p=>pls.foldl (fun g q=>lS g p q) g) g
def lF (pls:List PlT):Gr := (rng 4).foldl (fun g _=>lR pls g) (lI pls)
def mtF (g:Gr) (r1 r2:List Int):Bool := (gK g).any fun c=>inB (ixG 0 r2 c) (((gK g).filter fun o=>eqB (gV g o) (gV g c)).map fun o=>ixG 0 r1 o)
def lmF (g:Gr) (r1 r2:List Int):Bool := (gK g).any fun c=>(gK g).any fun o=>eqB (gV g c) (gV g o) && eqB (ixG 0 r1 o) (ixG 0 r2 c)
def szW (w:Int):Int := max 1 w
def usF (g:Gr) (cols way:List Int) (c:Int):List Int := ((way.zip cols).filter fun p=>inG p.2 g && (inG c g && eqB (gV g p.2) (gV g c))).map (·.1)
def opF (g:Gr) (cols way:List Int) (c:Int):Int := if inG c g=true then 1 + maxI ((-1) :: usF g cols way c) + 1 else 1
def wyS (g:Gr) (cols:List Int) (ways:List (List Int)) (c:Int):List (List Int) := ways.flatMap fun way=>(rng (opF g cols way c)).map fun k=>way ++ [k]
def wyF (g:Gr) (cols:List Int):List (List Int) := cols.foldl (wyS g cols) [[]]
def clW (w:Int):Nat→List Int
 | 0=>[]
 | n + 1=>rng (szW w) ++ clW w n
def pl1 (g:Gr) (w:Int):List (List (Tup Int)) := (wyF g (clW w 1)).map fun x=>[⟨x⟩]
def pl2 (g:Gr) (w:Int):List (List (Tup Int)) := ((wyF g (clW w 2)).map fun x=>(x.take (szW w).toNat,x.drop (szW w).toNat)).filterMap fun p=>if mtF g p.1 p.2=true then some [⟨p.1⟩,⟨p.2⟩] else none
def nmI (g:Gr):List (Int × List Int) := (gK g).foldl (fun k c=>putA k (gV g c) []) []
def nmK (g : Gr) (s : List (Int × List Int) × List Int) (p : Int × Int) : List (Int × List Int) × List Int :=
  if inG p.1 g = true then
    (if inB p.2 ((valA s.1 (gV g p.1)).getD []) = true then (s.1, s.2 ++ [(((valA s.1 (gV g p.1)).getD []).findIdx (fun x => decide (x = p.2)) : Int)])
     else (putA s.1 (gV g p.1) (((valA s.1 (gV g p.1)).getD []) ++ [p.2]), s.2 ++ [(((valA s.1 (gV g p.1)).getD []).length : Int)]))
  else (s.1, s.2 ++ [0])
def nmR (g:Gr) (s:List (Int × List Int) × List (Tup Int)) (row:List Int):List (Int × List Int) × List (Tup Int) :=
 ((((enu row).foldl (nmK g) (s.1,[])).1),s.2 ++ [⟨((enu row).foldl (nmK g) (s.1,[])).2⟩])
def nmF (g:Gr) (rows:List (List Int)):List (Tup Int) := (rows.foldl (nmR g) (nmI g,[])).2
end Lw
namespace Lw
open PySem PySem.Spec PyProof.Rows L2 Am
open PySem.W (Datum Tup T3 T4)
theorem dr_big {k:Int} (h:0 < k∧k≤2 ^ 64):k.natAbs.log2 < 9000 := by
 have h1:k.natAbs < 2 ^ 65 := by omega
 by_cases h0:k.natAbs=0
 ·rw [h0]; decide
 ·exact Nat.lt_of_lt_of_le ((Nat.log2_lt h0).mpr h1) (by decide)
abbrev Kd := T3 Str Str (Option Str)
abbrev Lk := T4 Str Str Str Str
theorem fw_word {A:AH} {n:Nat} {x:D} {us:List Str} {Q:QE} {E:QX} (hp:A n=some .pool) (hx:ItL A x us en) (hl:us.length < 26) (q:∀ r,(isW r=true∧r ∉ us)→Q (.str r) A):m_law_word [.ref n,x] A Q E := f_word hp hx hl Q E fun d ⟨z,e,h1,h2⟩=>e ▸ q z ⟨h1,h2⟩
def W_check_names (a0:(List (T3 Str Str (Option Str)))) (a1:(List (T4 Str Str Str Str))) (Q:(Unit)→Prop) (E:Exv→Prop):Prop :=
 (forW (enu a0) (([]:List Str):(List Str)) (fun (x3:(Int × (T3 Str Str (Option Str)))) (st25:(List Str)) N22 B23=>(((x3.2.a.length≤1000))∧(if ((!(isW x3.2.a)) || (inB x3.2.a st25))=true then E (Exv.badSchema (some x3.1)) else (if ((!inB x3.2.b ([("loose":Str),("once":Str),("under":Str)]:List Str)) || (!eqB (Option.isNone x3.2.c) (!eqB x3.2.b ("under":Str))))=true then E (Exv.badSchema (some x3.1)) else (((Sz ((st25).length + 1)))∧N22 (st25 ++ [x3.2.a])))))) (fun (st45:(List Str))=>(forW (enu a1) (st45:(List Str)) (fun (x51:(Int × (T4 Str Str Str Str))) (st76:(List Str)) N73 B74=>(((x51.2.a.length≤1000))∧(if ((!(isW x51.2.a)) || ((inB x51.2.a st76) || (!inB x51.2.d ([("loose":Str),("once":Str)]:List Str))))=true then E (Exv.badSchema (some (((a0).length:Int) + x51.1))) else (if ((!inB x51.2.b st45) || (!inB x51.2.c st45))=true then E (Exv.badSchema (some (((a0).length:Int) + x51.1))) else (((Sz ((st76).length + 1)))∧N73 (st76 ++ [x51.2.a])))))) (fun (st99:(List Str))=>Q ()))))
theorem c_check_names {A0:AH} {y0:D} {a0:(List (T3 Str Str (Option Str)))} (hx0:ItL A0 y0 a0 en) {y1:D} {a1:(List (T4 Str Str Str Str))} (hx1:ItL A0 y1 a1 en) {Q0:Unit→Prop} {E0:Exv→Prop} {Q:QE} {E:QX} (h:W_check_names a0 a1 Q0 E0) (hQ:∀ r,Q0 r→Q D.non A0) (hE:∀ x,E0 x→E (encX x) A0):m_check_names [y0,y1] A0 Q E := by
 unfold W_check_names at h
 have hc:Cells A0 [] A0 := Cells.nil_
 refine fn_in (s := [some y0,some y1,none,none,none,none,none,none,none,none]) ?_ rfl rfl
 refine s_sq ?_
 refine u_setE ?_
 refine w_nilM ?_
 intro n1 hn
 replace hc := hc.new (Nd.lst []) hn
 generalize put A0 n1 (Nd.lst [])=A2 at hc ⊢
 replace hc:Cells A0 [[(n1,(Nd.lst (List.map en ([]:List Str))))]] A2 := hc
 refine at_n (s' := [some y0,some y1,some (D.ref n1),none,none,none,none,none,none,none]) rfl ?_
 refine nx_sq ?_
 refine s_sq ?_
 refine u_forC (σ := (List Str)) (e := (eE en)) (fun st26 s27 A28=>∃ (j29 j30 j31 j32:Option D),s27=[some y0,some y1,some (D.ref n1),j29,j30,j31,j32,none,none,none]∧Cells A0 [[(n1,(Nd.lst (List.map en st26)))]] A28) (mi_enum (pv_var rfl) (hx0.les hc.le)) h ⟨_,_,_,_,rfl,hc⟩ (fun _ _ _ ⟨_,_,_,_,_,hcP⟩=>(hx0.same hc.le hcP.le)) ?_ ?_
 ·rintro x3 hx3 st25 _ A37 N22 B23 Nm24 h ⟨j33,j34,j35,j36,rfl,hc⟩ hN22 hB23
  refine ⟨[(D.int x3.1),(D.tup [(D.str x3.2.a),(D.str x3.2.b),(en x3.2.c)])], .inl rfl,rfl,_,_,rfl,_,_,rfl,⟨[(D.str x3.2.a),(D.str x3.2.b),(en x3.2.c)], .inl rfl,rfl,_,_,rfl,_,_,rfl,_,_,rfl,rfl,rfl, ?_⟩⟩
  refine at_s (s' := [some y0,some y1,some (D.ref n1),some (D.int x3.1),some (D.str x3.2.a),some (D.str x3.2.b),some (en x3.2.c),none,none,none]) rfl ?_
  refine s_sq ?_
  obtain ⟨hS39,h⟩ := h
  refine u_if (Am.pt_or (Am.pt_not (pt_b (pv_call (pa_cons' (pv_var rfl) pa_nil') (fv_is_word hS39)))) (fun hh38=>(pt_b (pv_op2 (pv_var rfl) (pv_var rfl) (q2_in (a := x3.2.a) (xs := st25) (ue_r rfl) (ItS.sq (ItL.toS (il_n (hc.at 0 rfl)))) (by decide)))))) h ?_ ?_
  ·intro hb40 h
   refine u_rz1 (pv_var rfl) ?_
   refine ex_sq ?_
   refine ex_lp ?_
   refine ex_sq ?_
   exact u_exf hc (hE _ h)
  ·intro hb40 h
   refine t_next ?_
   refine nx_sq ?_
   refine s_sq ?_
   refine u_if (Am.pt_or (pt_b (pv_op2 (pv_var rfl) (pv_tup (ds := [(D.str ("loose":Str)),(D.str ("once":Str)),(D.str ("under":Str))]) (pa_cons' pv_c (pa_cons' pv_c (pa_cons' pv_c pa_nil')))) (q2_nin (a := x3.2.b) (xs := ([("loose":Str),("once":Str),("under":Str)]:List Str)) (ue_r rfl) (ItS.sq (is_r (xs := ([("loose":Str),("once":Str),("under":Str)]:List Str)) (e := en) rfl)) (by decide)))) (fun hh41=>(pt_b (pv_op2 (pv_op2 (pv_var rfl) pv_c p2_isNO) (pv_op2 (pv_var rfl) pv_c (q2_ne (a := x3.2.b) (b := ("under":Str)) (ue_r rfl) (ue_r rfl) (by decide))) (q2_ne (a := (Option.isNone x3.2.c)) (b := (!eqB x3.2.b ("under":Str))) (ue_r rfl) (ue_r rfl) (by decide)))))) h ?_ ?_
   ·intro hb42 h
    refine u_rz1 (pv_var rfl) ?_
    refine ex_sq ?_
    refine ex_lp ?_
    refine ex_sq ?_
    exact u_exf hc (hE _ h)
   ·intro hb42 h
    refine t_next ?_
    refine nx_sq ?_
    refine u_appS ?_
    refine Pv.wp ?_ (pv_var rfl)
    refine ⟨u_it (hc.at 0 rfl), ?_⟩
    refine Pv.wp ?_ (pv_var rfl)
    obtain ⟨hS43,h⟩ := h
    refine u_app2 (xs := st25) (e := en) (v := x3.2.a) (hc.at 0 rfl) hS43 ?_
    replace hc := hc.put 0 rfl (Nd.lst (List.map en (st25 ++ [x3.2.a])))
    generalize put A37 n1 (Nd.lst (List.map en (st25 ++ [x3.2.a])))=A44 at hc ⊢
    replace hc:Cells A0 [[(n1,(Nd.lst (List.map en (st25 ++ [x3.2.a]))))]] A44 := hc
    refine nx_lp ?_
    exact hN22 _ _ _ h ⟨_,_,_,_,rfl,hc⟩
 rintro st45 _ A50 h ⟨j46,j47,j48,j49,rfl,hc⟩
 refine nx_sq ?_
 refine s_sq ?_
 refine u_set (s' := [some y0,some y1,some (D.ref n1),j46,j47,j48,j49,some (D.lst (List.map en st45)),none,none]) (pv_cbB (pa_cons' (pv_var rfl) pa_nil') (pb_listI (ItL.toS (il_n (hc.at 0 rfl))))) rfl ?_
 refine nx_sq ?_
 refine u_forC (σ := (List Str)) (e := (eE en)) (fun st77 s78 A79=>∃ (j80 j81 j82 j83 j84:Option D),s78=[some y0,some y1,some (D.ref n1),j80,j81,j82,j49,some (D.lst (List.map en st45)),j83,j84]∧Cells A0 [[(n1,(Nd.lst (List.map en st77)))]] A79) (mi_enum (pv_var rfl) (hx1.les hc.le)) h ⟨_,_,_,_,_,rfl,hc⟩ (fun _ _ _ ⟨_,_,_,_,_,_,hcP⟩=>(hx1.same hc.le hcP.le)) ?_ ?_
 ·rintro x51 hx51 st76 _ A90 N73 B74 Nm75 h ⟨j85,j86,j87,j88,j89,rfl,hc⟩ hN73 hB74
  refine ⟨[(D.int x51.1),(D.tup [(D.str x51.2.a),(D.str x51.2.b),(D.str x51.2.c),(D.str x51.2.d)])], .inl rfl,rfl,_,_,rfl,_,_,rfl,⟨[(D.str x51.2.a),(D.str x51.2.b),(D.str x51.2.c),(D.str x51.2.d)], .inl rfl,rfl,_,_,rfl,_,_,rfl,_,_,rfl,_,_,rfl,rfl,rfl, ?_⟩⟩
  refine at_s (s' := [some y0,some y1,some (D.ref n1),some (D.int x51.1),some (D.str x51.2.a),some (D.str x51.2.d),j49,some (D.lst (List.map en st45)),some (D.str x51.2.b),some (D.str x51.2.c)]) rfl ?_
  refine s_sq ?_
  obtain ⟨hS93,h⟩ := h
  refine u_if (Am.pt_or (Am.pt_not (pt_b (pv_call (pa_cons' (pv_var rfl) pa_nil') (fv_is_word hS93)))) (fun hh91=>(Am.pt_or (pt_b (pv_op2 (pv_var rfl) (pv_var rfl) (q2_in (a := x51.2.a) (xs := st76) (ue_r rfl) (ItS.sq (ItL.toS (il_n (hc.at 0 rfl)))) (by decide)))) (fun hh92=>(pt_b (pv_op2 (pv_var rfl) (pv_tup (ds := [(D.str ("loose":Str)),(D.str ("once":Str))]) (pa_cons' pv_c (pa_cons' pv_c pa_nil'))) (q2_nin (a := x51.2.d) (xs := ([("loose":Str),("once":Str)]:List Str)) (ue_r rfl) (ItS.sq (is_r (xs := ([("loose":Str),("once":Str)]:List Str)) (e := en) rfl)) (by decide)))))))) h ?_ ?_
  ·intro hb94 h
   refine u_rz1 (pv_op2 (pv_cbB (pa_cons' (pv_var rfl) pa_nil') (pb_lenI (ItL.toS (hx0.les hc.le)))) (pv_var rfl) p2_addI) ?_
   refine ex_sq ?_
   refine ex_lp ?_
   exact u_exf hc (hE _ h)
  ·intro hb94 h
   refine t_next ?_
   refine nx_sq ?_
   refine s_sq ?_
   refine u_if (Am.pt_or (pt_b (pv_op2 (pv_var rfl) (pv_var rfl) (q2_nin (a := x51.2.b) (xs := st45) (ue_r rfl) (ItS.sq (ItL.toS il_l)) (by decide)))) (fun hh95=>(pt_b (pv_op2 (pv_var rfl) (pv_var rfl) (q2_nin (a := x51.2.c) (xs := st45) (ue_r rfl) (ItS.sq (ItL.toS il_l)) (by decide)))))) h ?_ ?_
   ·intro hb96 h
    refine u_rz1 (pv_op2 (pv_cbB (pa_cons' (pv_var rfl) pa_nil') (pb_lenI (ItL.toS (hx0.les hc.le)))) (pv_var rfl) p2_addI) ?_
    refine ex_sq ?_
    refine ex_lp ?_
    exact u_exf hc (hE _ h)
   ·intro hb96 h
    refine t_next ?_
    refine nx_sq ?_
    refine u_appS ?_
    refine Pv.wp ?_ (pv_var rfl)
    refine ⟨u_it (hc.at 0 rfl), ?_⟩
    refine Pv.wp ?_ (pv_var rfl)
    obtain ⟨hS97,h⟩ := h
    refine u_app2 (xs := st76) (e := en) (v := x51.2.a) (hc.at 0 rfl) hS97 ?_
    replace hc := hc.put 0 rfl (Nd.lst (List.map en (st76 ++ [x51.2.a])))
    generalize put A90 n1 (Nd.lst (List.map en (st76 ++ [x51.2.a])))=A98 at hc ⊢
    replace hc:Cells A0 [[(n1,(Nd.lst (List.map en (st76 ++ [x51.2.a]))))]] A98 := hc
    refine nx_lp ?_
    exact hN73 _ _ _ h ⟨_,_,_,_,_,rfl,hc⟩
 rintro st99 _ A105 h ⟨j100,j101,j102,j103,j104,rfl,hc⟩
 refine u_nxf hc ?_
 exact hQ _ h
def W_check_owners (a0:(List (T3 Str Str (Option Str)))) (a1:(List (T4 Str Str Str Str))) (Q:(Unit)→Prop) (E:Exv→Prop):Prop :=
 (((Sz (a0).length))∧(letW (dcA (fun x1:(T3 Str Str (Option Str))=>x1.a) (fun x1:(T3 Str Str (Option Str))=>x1.b) (fun x1:(T3 Str Str (Option Str))=>true) a0) (fun (v4:(List (Str × Str)))=>(forW (enu a0) (():Unit) (fun (x5:(Int × (T3 Str Str (Option Str)))) (st32:Unit) N29 B30=>(if (eqB x5.2.b ("under":Str))=true then (((Sz (a1).length))∧(letW (List.map (fun x48:(T4 Str Str Str Str)=>x48.b) (List.filter (fun x48:(T4 Str Str Str Str)=>((eqB (some x48.a) x5.2.c) && (eqB x48.c x5.2.a))) a1)) (fun (v52:(List Str))=>((((!(!List.isEmpty v52))=false→(0≤(0:Int)∧(0:Int) < ((v52).length:Int))∧(Option.isSome (valA v4 (ixG ("":Str) v52 (0:Int)))=true)))∧(if ((!(!List.isEmpty v52)) || (eqB (Option.getD (valA v4 (ixG ("":Str) v52 (0:Int))) ("":Str)) ("under":Str)))=true then E (Exv.badSchema (some x5.1)) else N29 ()))))) else N29 ())) (fun (st56:Unit)=>Q ())))))
theorem c_check_owners {A0:AH} {y0:D} {a0:(List (T3 Str Str (Option Str)))} (hx0:ItL A0 y0 a0 en) {y1:D} {a1:(List (T4 Str Str Str Str))} (hx1:ItL A0 y1 a1 en) {Q0:Unit→Prop} {E0:Exv→Prop} {Q:QE} {E:QX} (h:W_check_owners a0 a1 Q0 E0) (hQ:∀ r,Q0 r→Q D.non A0) (hE:∀ x,E0 x→E (encX x) A0):m_check_owners [y0,y1] A0 Q E := by
 unfold W_check_owners at h
 have hc:Cells A0 [] A0 := Cells.nil_
 refine fn_in (s := [some y0,some y1,none,none,none,none,none,none,none,none,none,none]) ?_ rfl rfl
 refine s_sq ?_
 obtain ⟨hS3,h⟩ := h
 obtain ⟨v4,hv4⟩:∃ v:(List (Str × Str)),v=(dcA (fun x1:(T3 Str Str (Option Str))=>x1.a) (fun x1:(T3 Str Str (Option Str))=>x1.b) (fun x1:(T3 Str Str (Option Str))=>true) a0) := ⟨_,rfl⟩
 replace h := letW_out hv4 h
 refine u_set (s' := [some y0,some y1,some (D.dK (List.map (eD kS en) v4)),none,none,none,none,none,none,none,none,none]) (Pv.is (v_dc (e := en) (e' := en) (g := (fun x1:(T3 Str Str (Option Str))=>x1.a)) (v := (fun x1:(T3 Str Str (Option Str))=>x1.b)) (p := (fun x1:(T3 Str Str (Option Str))=>true)) (fun _ _=>kS_inj) (mi_seq (pv_var rfl) (ItL.toS (hx0.les hc.le))) rfl hS3 (fun x1 hx1=>dcb (tg_tp rfl rfl (tgz_cons (tg_n rfl) (tgz_cons (tg_n rfl) (tgz_cons (tg_n rfl) tgz_nil)))) pt_yes (fun hh2=>(pv_var rfl)) rfl (fun hh2=>(pv_var rfl)))) (congrArg (fun z:(List (Str × Str))=>(D.dK (List.map (eD kS en) z))) hv4.symm)) rfl ?_
 refine nx_sq ?_
 refine u_forC (σ := Unit) (e := (eE en)) (fun st33 s34 A35=>∃ (j36 j37 j38 j39 j40:Option D),s34=[some y0,some y1,some (D.dK (List.map (eD kS en) v4)),j36,j37,j38,j39,j40,none,none,none,none]∧Cells A0 [] A35) (mi_enum (pv_var rfl) (hx0.les hc.le)) h ⟨_,_,_,_,_,rfl,hc⟩ (fun _ _ _ ⟨_,_,_,_,_,_,hcP⟩=>(hx0.same hc.le hcP.le)) ?_ ?_
 ·rintro x5 hx5 st32 _ A46 N29 B30 Nm31 h ⟨j41,j42,j43,j44,j45,rfl,hc⟩ hN29 hB30
  refine ⟨[(D.int x5.1),(D.tup [(D.str x5.2.a),(D.str x5.2.b),(en x5.2.c)])], .inl rfl,rfl,_,_,rfl,_,_,rfl,⟨[(D.str x5.2.a),(D.str x5.2.b),(en x5.2.c)], .inl rfl,rfl,_,_,rfl,_,_,rfl,_,_,rfl,rfl,rfl, ?_⟩⟩
  refine at_s (s' := [some y0,some y1,some (D.dK (List.map (eD kS en) v4)),some (D.int x5.1),some (D.str x5.2.a),some (D.str x5.2.b),some (en x5.2.c),j45,none,none,none,none]) rfl ?_
  refine u_if (pt_b (pv_op2 (pv_var rfl) pv_c (q2_eq (a := x5.2.b) (b := ("under":Str)) (ue_r rfl) (ue_r rfl) (by decide)))) h ?_ ?_
  ·intro hb47 h
   refine s_sq ?_
   obtain ⟨hS51,h⟩ := h
   obtain ⟨v52,hv52⟩:∃ v:(List Str),v=(List.map (fun x48:(T4 Str Str Str Str)=>x48.b) (List.filter (fun x48:(T4 Str Str Str Str)=>((eqB (some x48.a) x5.2.c) && (eqB x48.c x5.2.a))) a1)) := ⟨_,rfl⟩
   replace h := letW_out hv52 h
   refine u_set (s' := [some y0,some y1,some (D.dK (List.map (eD kS en) v4)),some (D.int x5.1),some (D.str x5.2.a),some (D.str x5.2.b),some (en x5.2.c),some (D.lst (List.map en v52)),none,none,none,none]) (Pv.is (v_lcFM (e := en) (p := fun x48:(T4 Str Str Str Str)=>((eqB (some x48.a) x5.2.c) && (eqB x48.c x5.2.a))) (g := fun x48:(T4 Str Str Str Str)=>x48.b) (e' := en) (mi_seq (pv_var rfl) (ItL.toS (hx1.les hc.le))) rfl hS51 (fun x48 hx48=>lcb (tg_tp rfl rfl (tgz_cons (tg_n rfl) (tgz_cons (tg_n rfl) (tgz_cons (tg_n rfl) (tgz_cons (tg_n rfl) tgz_nil))))) (Am.pt_and (pt_b (pv_op2 (pv_var rfl) (pv_var rfl) (q2_eq (a := (some x48.a)) (b := x5.2.c) (ue_r rfl) (ue_r rfl) (by decide)))) (fun hh49=>(pt_b (pv_op2 (pv_var rfl) (pv_var rfl) (q2_eq (a := x48.c) (b := x5.2.a) (ue_r rfl) (ue_r rfl) (by decide)))))) (fun hh50=>(pv_var rfl)))) (congrArg (fun z:(List Str)=>(D.lst (List.map en z))) hv52.symm)) rfl ?_
   refine nx_sq ?_
   obtain ⟨hS54,h⟩ := h
   refine u_if (Am.pt_or (Am.pt_not (pt_truL (ι := Str) (t := ("":Str)) (pv_var rfl) (ItL.toS il_l))) (fun hh53=>(pt_b (pv_op2 (pv_getK (k := (ixG ("":Str) v52 (0:Int))) (d0 := ("":Str)) (fun _ _=>kS_inj) (pv_var rfl) (pv_op2 (pv_var rfl) pv_c (p2_ixG (d0 := ("":Str)) (ItL.toS il_l) (hS54 hh53).1)) dk_t rfl (hS54 hh53).2) pv_c (q2_eq (a := (Option.getD (valA v4 (ixG ("":Str) v52 (0:Int))) ("":Str))) (b := ("under":Str)) (ue_r rfl) (ue_r rfl) (by decide)))))) h ?_ ?_
   ·intro hb55 h
    refine u_rz1 (pv_var rfl) ?_
    refine ex_lp ?_
    exact u_exf hc (hE _ h)
   ·intro hb55 h
    refine t_next ?_
    refine nx_lp ?_
    exact hN29 _ _ _ h ⟨_,_,_,_,_,rfl,hc⟩
  ·intro hb47 h
   refine t_next ?_
   refine nx_lp ?_
   exact hN29 _ _ _ h ⟨_,_,_,_,_,rfl,hc⟩
 rintro st56 _ A62 h ⟨j57,j58,j59,j60,j61,rfl,hc⟩
 refine u_nxf hc ?_
 exact hQ _ h
structure R_Schema where
 f_kind_entries:(Tup (T3 Str Str (Option Str)))
 f_link_entries:(Tup (T4 Str Str Str Str))
 f_kinds:(Tup Str)
 f_links:(Tup Str)
 f_rules:(List (Str × Str))
 f_spans:(List (Str × (Str × Str)))
 f_owners:(List (Str × (Option (Str × Str))))
 f_kind_codes:(List (Str × Int))
 f_link_codes:(List (Str × Int))
def enc_Schema (r:R_Schema):D := .ins "Schema" [("kind_entries",(D.tup (List.map en r.f_kind_entries.1))),("link_entries",(D.tup (List.map en r.f_link_entries.1))),("kinds",(D.tup (List.map en r.f_kinds.1))),("links",(D.tup (List.map en r.f_links.1))),("rules",(D.dK (List.map (eD kS en) r.f_rules))),("spans",(D.dK (List.map (eD kS en) r.f_spans))),("owners",(D.dK (List.map (eD kS en) r.f_owners))),("kind_codes",(D.dK (List.map (eD kS en) r.f_kind_codes))),("link_codes",(D.dK (List.map (eD kS en) r.f_link_codes)))]
instance:Inhabited R_Schema := ⟨⟨⟨[]⟩,⟨[]⟩,⟨[]⟩,⟨[]⟩,[],[],[],[],[]⟩⟩
def W_Schema_init (a1:(List (T3 Str Str (Option Str)))) (a2:(List (T4 Str Str Str Str))) (Q:R_Schema→Prop) (E:Exv→Prop):Prop :=
 (W_check_names a1 a2 (fun r1=>(if ((!((decide ((1:Int)≤((a1).length:Int))) && (decide (((a1).length:Int)≤(4:Int))))) || (decide ((6:Int) < ((a2).length:Int))))=true then E (Exv.badSchema (none:(Option Int))) else (W_check_owners a1 a2 (fun r4=>(((Sz (a1).length))∧(letW (Tup.mk (List.map (fun x7:(T3 Str Str (Option Str))=>x7.a) a1)) (fun (v10:(Tup Str))=>(((Sz (a2).length))∧(letW (Tup.mk (List.map (fun x12:(T4 Str Str Str Str)=>x12.a) a2)) (fun (v15:(Tup Str))=>(((Sz (a1).length))∧(forW a2 (((dcA (fun x17:(T3 Str Str (Option Str))=>x17.a) (fun x17:(T3 Str Str (Option Str))=>x17.b) (fun x17:(T3 Str Str (Option Str))=>true) a1),([]:List (Str × (Str × Str)))):(List (Str × Str)) × (List (Str × (Str × Str)))) (fun (x26:(T4 Str Str Str Str)) (st44:(List (Str × Str)) × (List (Str × (Str × Str)))) N41 B42=>(((Sz ((st44.1).length + 1)))∧(((Sz ((st44.2).length + 1)))∧N41 ((putA st44.1 x26.a x26.d),(putA st44.2 x26.a (⟨x26.b,x26.c⟩:(Str × Str))))))) (fun (st61:(List (Str × Str)) × (List (Str × (Str × Str))))=>(forW a1 (([]:List (Str × (Option (Str × Str)))):(List (Str × (Option (Str × Str))))) (fun (x70:(T3 Str Str (Option Str))) (st87:(List (Str × (Option (Str × Str))))) N84 B85=>((((Option.isNone x70.c)=false→(Option.isSome (valA st61.2 (Option.getD x70.c ("":Str)))=true)))∧(((Sz ((st87).length + 1)))∧(letW (putA st87 x70.a (if (Option.isNone x70.c)=true then (none:(Option (Str × Str))) else (some (⟨(Option.getD x70.c ("":Str)),(Option.getD (valA st61.2 (Option.getD x70.c ("":Str))) (⟨("":Str),("":Str)⟩:(Str × Str))).1⟩:(Str × Str))))) (fun (l102:(List (Str × (Option (Str × Str)))))=>N84 l102))))) (fun (st103:(List (Str × (Option (Str × Str)))))=>(((Sz ((enu v10.1)).length))∧(letW (dcA (fun x108:(Int × Str)=>x108.2) (fun x108:(Int × Str)=>x108.1) (fun x108:(Int × Str)=>true) (enu v10.1)) (fun (v111:(List (Str × Int)))=>(((Sz ((enu v15.1)).length))∧(letW (dcA (fun x113:(Int × Str)=>x113.2) (fun x113:(Int × Str)=>x113.1) (fun x113:(Int × Str)=>true) (enu v15.1)) (fun (v116:(List (Str × Int)))=>Q (⟨(Tup.mk a1),(Tup.mk a2),v10,v15,st61.1,st61.2,st103,v111,v116⟩:R_Schema))))))))))))))))))) E))) E)
theorem c_Schema_init {A0:AH} {y1:D} {a1:(List (T3 Str Str (Option Str)))} (hx1:ItL A0 y1 a1 en) {y2:D} {a2:(List (T4 Str Str Str Str))} (hx2:ItL A0 y2 a2 en) {Q0:R_Schema→Prop} {E0:Exv→Prop} {Q:QE} {E:QX} (h:W_Schema_init a1 a2 Q0 E0) (hQ:∀ r A,Q0 r→Les A0 A→Q (enc_Schema r) A) (hE:∀ x,E0 x→E (encX x) A0):∀ m0,A0 m0=none→m_Schema_init [.ref m0,y1,y2] (put A0 m0 (.ins "Schema" [])) (fun d A2=>d = .non∧frzF A2 (.ref m0) Q) E := by
 unfold W_Schema_init at h
 intro m0 hn
 have hc:Cells A0 [] A0 := Cells.nil_
 replace hc := hc.new (Nd.ins "Schema" []) hn
 generalize put A0 m0 (Nd.ins "Schema" [])=A1 at hc ⊢
 replace hc:Cells A0 [[(m0,(Nd.ins "Schema" ([]:List (Str × D))))]] A1 := hc
 refine fn_in (s := [some (D.ref m0),some y1,some y2,none,none,none,none,none,none]) ?_ rfl rfl
 refine s_sq ?_
 refine u_dropE ?_
 refine w_callW ?_ (pa_cons' (pv_var rfl) (pa_cons' (pv_var rfl) pa_nil'))
 refine c_check_names (hx1.les hc.le) (hx2.les hc.le) h ?_ ?_
 rotate_left
 ·intro x h
  refine ex_sq ?_
  exact u_exf hc (hE _ h)
 intro r1 h
 refine nx_sq ?_
 refine s_sq ?_
 refine u_if (Am.pt_or (Am.pt_not (pt_b (pv_chainB pv_c (pv_cbB (pa_cons' (pv_var rfl) pa_nil') (pb_lenI (ItL.toS (hx1.les hc.le)))) p2_le (fun _=>pv_c) p2_le))) (fun hh2=>(pt_b (pv_op2 (pv_cbB (pa_cons' (pv_var rfl) pa_nil') (pb_lenI (ItL.toS (hx2.les hc.le)))) pv_c p2_gt)))) h ?_ ?_
 ·intro hb3 h
  refine u_rz1 pv_c ?_
  refine ex_sq ?_
  exact u_exf hc (hE _ h)
 ·intro hb3 h
  refine t_next ?_
  refine nx_sq ?_
  refine s_sq ?_
  refine u_dropE ?_
  refine w_callW ?_ (pa_cons' (pv_var rfl) (pa_cons' (pv_var rfl) pa_nil'))
  refine c_check_owners (hx1.les hc.le) (hx2.les hc.le) h ?_ ?_
  rotate_left
  ·intro x h
   refine ex_sq ?_
   exact u_exf hc (hE _ h)
  intro r4 h
  refine nx_sq ?_
  refine s_sq ?_
  refine u_sfldS ?_
  refine Pv.wp ?_ (pv_cbB (pa_cons' (pv_var rfl) pa_nil') (pb_tupI (hx1.les hc.le)))
  refine Pv.wp ?_ (pv_var rfl)
  refine u_sfld1 (fs' := ([(("kind_entries":Str),(D.tup (List.map en a1)))]:List (Str × D))) (hc.at 0 rfl) (by simp) (Nat.le_of_ble_eq_true rfl) rfl ?_
  replace hc := hc.put 0 rfl (Nd.ins "Schema" ([(("kind_entries":Str),(D.tup (List.map en a1)))]:List (Str × D)))
  generalize put A1 m0 (Nd.ins "Schema" ([(("kind_entries":Str),(D.tup (List.map en a1)))]:List (Str × D)))=A5 at hc ⊢
  replace hc:Cells A0 [[(m0,(Nd.ins "Schema" ([(("kind_entries":Str),(D.tup (List.map en a1)))]:List (Str × D))))]] A5 := hc
  refine nx_sq ?_
  refine s_sq ?_
  refine u_sfldS ?_
  refine Pv.wp ?_ (pv_cbB (pa_cons' (pv_var rfl) pa_nil') (pb_tupI (hx2.les hc.le)))
  refine Pv.wp ?_ (pv_var rfl)
  refine u_sfld1 (fs' := ([(("kind_entries":Str),(D.tup (List.map en a1))),(("link_entries":Str),(D.tup (List.map en a2)))]:List (Str × D))) (hc.at 0 rfl) (by simp) (Nat.le_of_ble_eq_true rfl) rfl ?_
  replace hc := hc.put 0 rfl (Nd.ins "Schema" ([(("kind_entries":Str),(D.tup (List.map en a1))),(("link_entries":Str),(D.tup (List.map en a2)))]:List (Str × D)))
  generalize put A5 m0 (Nd.ins "Schema" ([(("kind_entries":Str),(D.tup (List.map en a1))),(("link_entries":Str),(D.tup (List.map en a2)))]:List (Str × D)))=A6 at hc ⊢
  replace hc:Cells A0 [[(m0,(Nd.ins "Schema" ([(("kind_entries":Str),(D.tup (List.map en a1))),(("link_entries":Str),(D.tup (List.map en a2)))]:List (Str × D))))]] A6 := hc
  refine nx_sq ?_
  refine s_sq ?_
  refine u_sfldS ?_
  obtain ⟨hS9,h⟩ := h
  refine Pv.wp ?_ (pv_cbB (pa_cons' (v_lcM (e := en) (g := fun x7:(T3 Str Str (Option Str))=>x7.a) (e' := en) (mi_seq (pv_var rfl) (ItL.toS (hx1.les hc.le))) rfl hS9 (fun x7 hx7=>lcb (tg_tp rfl rfl (tgz_cons (tg_n rfl) (tgz_cons (tg_n rfl) (tgz_cons (tg_n rfl) tgz_nil)))) pt_yes (fun hh8=>(pv_var rfl)))) pa_nil') (pb_tupI il_l))
  refine Pv.wp ?_ (pv_var rfl)
  obtain ⟨v10,hv10⟩:∃ v:(Tup Str),v=(Tup.mk (List.map (fun x7:(T3 Str Str (Option Str))=>x7.a) a1)) := ⟨_,rfl⟩
  replace h := letW_out hv10 h
  rw [show (D.tup (List.map en (List.map (fun x7:(T3 Str Str (Option Str))=>x7.a) a1)))=(D.tup (List.map en v10.1)) from congrArg (fun z:(Tup Str)=>(D.tup (List.map en z.1))) hv10.symm]
  refine u_sfld1 (fs' := ([(("kind_entries":Str),(D.tup (List.map en a1))),(("link_entries":Str),(D.tup (List.map en a2))),(("kinds":Str),(D.tup (List.map en v10.1)))]:List (Str × D))) (hc.at 0 rfl) (by simp) (Nat.le_of_ble_eq_true rfl) rfl ?_
  replace hc := hc.put 0 rfl (Nd.ins "Schema" ([(("kind_entries":Str),(D.tup (List.map en a1))),(("link_entries":Str),(D.tup (List.map en a2))),(("kinds":Str),(D.tup (List.map en v10.1)))]:List (Str × D)))
  generalize put A6 m0 (Nd.ins "Schema" ([(("kind_entries":Str),(D.tup (List.map en a1))),(("link_entries":Str),(D.tup (List.map en a2))),(("kinds":Str),(D.tup (List.map en v10.1)))]:List (Str × D)))=A11 at hc ⊢
  replace hc:Cells A0 [[(m0,(Nd.ins "Schema" ([(("kind_entries":Str),(D.tup (List.map en a1))),(("link_entries":Str),(D.tup (List.map en a2))),(("kinds":Str),(D.tup (List.map en v10.1)))]:List (Str × D))))]] A11 := hc
  refine nx_sq ?_
  refine s_sq ?_
  refine u_sfldS ?_
  obtain ⟨hS14,h⟩ := h
  refine Pv.wp ?_ (pv_cbB (pa_cons' (v_lcM (e := en) (g := fun x12:(T4 Str Str Str Str)=>x12.a) (e' := en) (mi_seq (pv_var rfl) (ItL.toS (hx2.les hc.le))) rfl hS14 (fun x12 hx12=>lcb (tg_tp rfl rfl (tgz_cons (tg_n rfl) (tgz_cons (tg_n rfl) (tgz_cons (tg_n rfl) (tgz_cons (tg_n rfl) tgz_nil))))) pt_yes (fun hh13=>(pv_var rfl)))) pa_nil') (pb_tupI il_l))
  refine Pv.wp ?_ (pv_var rfl)
  obtain ⟨v15,hv15⟩:∃ v:(Tup Str),v=(Tup.mk (List.map (fun x12:(T4 Str Str Str Str)=>x12.a) a2)) := ⟨_,rfl⟩
  replace h := letW_out hv15 h
  rw [show (D.tup (List.map en (List.map (fun x12:(T4 Str Str Str Str)=>x12.a) a2)))=(D.tup (List.map en v15.1)) from congrArg (fun z:(Tup Str)=>(D.tup (List.map en z.1))) hv15.symm]
  refine u_sfld1 (fs' := ([(("kind_entries":Str),(D.tup (List.map en a1))),(("link_entries":Str),(D.tup (List.map en a2))),(("kinds":Str),(D.tup (List.map en v10.1))),(("links":Str),(D.tup (List.map en v15.1)))]:List (Str × D))) (hc.at 0 rfl) (by simp) (Nat.le_of_ble_eq_true rfl) rfl ?_
  replace hc := hc.put 0 rfl (Nd.ins "Schema" ([(("kind_entries":Str),(D.tup (List.map en a1))),(("link_entries":Str),(D.tup (List.map en a2))),(("kinds":Str),(D.tup (List.map en v10.1))),(("links":Str),(D.tup (List.map en v15.1)))]:List (Str × D)))
  generalize put A11 m0 (Nd.ins "Schema" ([(("kind_entries":Str),(D.tup (List.map en a1))),(("link_entries":Str),(D.tup (List.map en a2))),(("kinds":Str),(D.tup (List.map en v10.1))),(("links":Str),(D.tup (List.map en v15.1)))]:List (Str × D)))=A16 at hc ⊢
  replace hc:Cells A0 [[(m0,(Nd.ins "Schema" ([(("kind_entries":Str),(D.tup (List.map en a1))),(("link_entries":Str),(D.tup (List.map en a2))),(("kinds":Str),(D.tup (List.map en v10.1))),(("links":Str),(D.tup (List.map en v15.1)))]:List (Str × D))))]] A16 := hc
  refine nx_sq ?_
  refine s_sq ?_
  refine u_sfldS ?_
  obtain ⟨hS19,h⟩ := h
  refine w_dcM' (e := en) (e' := en) (g := (fun x17:(T3 Str Str (Option Str))=>x17.a)) (v := (fun x17:(T3 Str Str (Option Str))=>x17.b)) (p := (fun x17:(T3 Str Str (Option Str))=>true)) (fun _ _=>kS_inj) (mi_seq (pv_var rfl) (ItL.toS (hx1.les hc.le))) rfl hS19 (fun x17 hx17=>dcb (tg_tp rfl rfl (tgz_cons (tg_n rfl) (tgz_cons (tg_n rfl) (tgz_cons (tg_n rfl) tgz_nil)))) pt_yes (fun hh18=>(pv_var rfl)) rfl (fun hh18=>(pv_var rfl))) ?_
  intro n20 hn
  replace hc := hc.new (Nd.dK (List.map (eD kS en) (dcA (fun x17:(T3 Str Str (Option Str))=>x17.a) (fun x17:(T3 Str Str (Option Str))=>x17.b) (fun x17:(T3 Str Str (Option Str))=>true) a1))) hn
  generalize put A16 n20 (Nd.dK (List.map (eD kS en) (dcA (fun x17:(T3 Str Str (Option Str))=>x17.a) (fun x17:(T3 Str Str (Option Str))=>x17.b) (fun x17:(T3 Str Str (Option Str))=>true) a1)))=A21 at hc ⊢
  replace hc:Cells A0 [[(m0,(Nd.ins "Schema" ([(("kind_entries":Str),(D.tup (List.map en a1))),(("link_entries":Str),(D.tup (List.map en a2))),(("kinds":Str),(D.tup (List.map en v10.1))),(("links":Str),(D.tup (List.map en v15.1)))]:List (Str × D))))],[(n20,(Nd.dK (List.map (eD kS en) (dcA (fun x17:(T3 Str Str (Option Str))=>x17.a) (fun x17:(T3 Str Str (Option Str))=>x17.b) (fun x17:(T3 Str Str (Option Str))=>true) a1))))]] A21 := hc
  refine Pv.wp ?_ (pv_var rfl)
  refine u_sfld1 (fs' := ([(("kind_entries":Str),(D.tup (List.map en a1))),(("link_entries":Str),(D.tup (List.map en a2))),(("kinds":Str),(D.tup (List.map en v10.1))),(("links":Str),(D.tup (List.map en v15.1))),(("rules":Str),(D.ref n20))]:List (Str × D))) (hc.at 0 rfl) (by simp) (Nat.le_of_ble_eq_true rfl) rfl ?_
  replace hc := hc.put 0 rfl (Nd.ins "Schema" ([(("kind_entries":Str),(D.tup (List.map en a1))),(("link_entries":Str),(D.tup (List.map en a2))),(("kinds":Str),(D.tup (List.map en v10.1))),(("links":Str),(D.tup (List.map en v15.1))),(("rules":Str),(D.ref n20))]:List (Str × D)))
  generalize put A21 m0 (Nd.ins "Schema" ([(("kind_entries":Str),(D.tup (List.map en a1))),(("link_entries":Str),(D.tup (List.map en a2))),(("kinds":Str),(D.tup (List.map en v10.1))),(("links":Str),(D.tup (List.map en v15.1))),(("rules":Str),(D.ref n20))]:List (Str × D)))=A22 at hc ⊢
  replace hc:Cells A0 [[(m0,(Nd.ins "Schema" ([(("kind_entries":Str),(D.tup (List.map en a1))),(("link_entries":Str),(D.tup (List.map en a2))),(("kinds":Str),(D.tup (List.map en v10.1))),(("links":Str),(D.tup (List.map en v15.1))),(("rules":Str),(D.ref n20))]:List (Str × D))))],[(n20,(Nd.dK (List.map (eD kS en) (dcA (fun x17:(T3 Str Str (Option Str))=>x17.a) (fun x17:(T3 Str Str (Option Str))=>x17.b) (fun x17:(T3 Str Str (Option Str))=>true) a1))))]] A22 := hc
  refine nx_sq ?_
  refine s_sq ?_
  refine u_sfldS ?_
  refine w_dnK ?_
  intro n23 hn
  replace hc := hc.new (Nd.dK []) hn
  generalize put A22 n23 (Nd.dK [])=A24 at hc ⊢
  replace hc:Cells A0 [[(m0,(Nd.ins "Schema" ([(("kind_entries":Str),(D.tup (List.map en a1))),(("link_entries":Str),(D.tup (List.map en a2))),(("kinds":Str),(D.tup (List.map en v10.1))),(("links":Str),(D.tup (List.map en v15.1))),(("rules":Str),(D.ref n20))]:List (Str × D))))],[(n20,(Nd.dK (List.map (eD kS en) (dcA (fun x17:(T3 Str Str (Option Str))=>x17.a) (fun x17:(T3 Str Str (Option Str))=>x17.b) (fun x17:(T3 Str Str (Option Str))=>true) a1))))],[(n23,(Nd.dK (List.map (eD kS en) ([]:List (Str × (Str × Str))))))]] A24 := hc
  refine Pv.wp ?_ (pv_var rfl)
  refine u_sfld1 (fs' := ([(("kind_entries":Str),(D.tup (List.map en a1))),(("link_entries":Str),(D.tup (List.map en a2))),(("kinds":Str),(D.tup (List.map en v10.1))),(("links":Str),(D.tup (List.map en v15.1))),(("rules":Str),(D.ref n20)),(("spans":Str),(D.ref n23))]:List (Str × D))) (hc.at 0 rfl) (by simp) (Nat.le_of_ble_eq_true rfl) rfl ?_
  replace hc := hc.put 0 rfl (Nd.ins "Schema" ([(("kind_entries":Str),(D.tup (List.map en a1))),(("link_entries":Str),(D.tup (List.map en a2))),(("kinds":Str),(D.tup (List.map en v10.1))),(("links":Str),(D.tup (List.map en v15.1))),(("rules":Str),(D.ref n20)),(("spans":Str),(D.ref n23))]:List (Str × D)))
  generalize put A24 m0 (Nd.ins "Schema" ([(("kind_entries":Str),(D.tup (List.map en a1))),(("link_entries":Str),(D.tup (List.map en a2))),(("kinds":Str),(D.tup (List.map en v10.1))),(("links":Str),(D.tup (List.map en v15.1))),(("rules":Str),(D.ref n20)),(("spans":Str),(D.ref n23))]:List (Str × D)))=A25 at hc ⊢
  replace hc:Cells A0 [[(m0,(Nd.ins "Schema" ([(("kind_entries":Str),(D.tup (List.map en a1))),(("link_entries":Str),(D.tup (List.map en a2))),(("kinds":Str),(D.tup (List.map en v10.1))),(("links":Str),(D.tup (List.map en v15.1))),(("rules":Str),(D.ref n20)),(("spans":Str),(D.ref n23))]:List (Str × D))))],[(n20,(Nd.dK (List.map (eD kS en) (dcA (fun x17:(T3 Str Str (Option Str))=>x17.a) (fun x17:(T3 Str Str (Option Str))=>x17.b) (fun x17:(T3 Str Str (Option Str))=>true) a1))))],[(n23,(Nd.dK (List.map (eD kS en) ([]:List (Str × (Str × Str))))))]] A25 := hc
  refine nx_sq ?_
  refine s_sq ?_
  refine u_forC (σ := (List (Str × Str)) × (List (Str × (Str × Str)))) (e := en) (fun st45 s46 A47=>∃ (j48 j49 j50 j51:Option D),s46=[some (D.ref m0),some y1,some y2,j48,j49,j50,j51,none,none]∧Cells A0 [[(m0,(Nd.ins "Schema" ([(("kind_entries":Str),(D.tup (List.map en a1))),(("link_entries":Str),(D.tup (List.map en a2))),(("kinds":Str),(D.tup (List.map en v10.1))),(("links":Str),(D.tup (List.map en v15.1))),(("rules":Str),(D.ref n20)),(("spans":Str),(D.ref n23))]:List (Str × D))))],[(n20,(Nd.dK (List.map (eD kS en) st45.1)))],[(n23,(Nd.dK (List.map (eD kS en) st45.2)))]] A47) (mi_seq (pv_var rfl) (ItL.toS (hx2.les hc.le))) h ⟨_,_,_,_,rfl,hc⟩ (fun _ _ _ ⟨_,_,_,_,_,hcP⟩=>(hx2.same hc.le hcP.le)) ?_ ?_
  ·rintro x26 hx26 st44 _ A56 N41 B42 Nm43 h ⟨j52,j53,j54,j55,rfl,hc⟩ hN41 hB42
   refine ⟨[(D.str x26.a),(D.str x26.b),(D.str x26.c),(D.str x26.d)], .inl rfl,rfl,_,_,rfl,_,_,rfl,_,_,rfl,_,_,rfl,rfl, ?_⟩
   refine at_s (s' := [some (D.ref m0),some y1,some y2,some (D.str x26.a),some (D.str x26.b),some (D.str x26.c),some (D.str x26.d),none,none]) rfl ?_
   refine s_sq ?_
   refine u_dputS ?_
   refine Pv.wp ?_ (pv_var rfl)
   refine Pv.wp ?_ (pv_fld (pv_var rfl) (ins_n (hc.at 0 rfl)) (by simp) rfl)
   refine Pv.wp ?_ (pv_var rfl)
   obtain ⟨hS57,h⟩ := h
   refine u_dputK (l := st44.1) (k := x26.a) (e := en) (v := x26.d) (fun _ _=>kS_inj) (hc.at 1 rfl) rfl hS57 ?_
   replace hc := hc.put 1 rfl (Nd.dK (List.map (eD kS en) (putA st44.1 x26.a x26.d)))
   generalize put A56 n20 (Nd.dK (List.map (eD kS en) (putA st44.1 x26.a x26.d)))=A58 at hc ⊢
   replace hc:Cells A0 [[(m0,(Nd.ins "Schema" ([(("kind_entries":Str),(D.tup (List.map en a1))),(("link_entries":Str),(D.tup (List.map en a2))),(("kinds":Str),(D.tup (List.map en v10.1))),(("links":Str),(D.tup (List.map en v15.1))),(("rules":Str),(D.ref n20)),(("spans":Str),(D.ref n23))]:List (Str × D))))],[(n20,(Nd.dK (List.map (eD kS en) (putA st44.1 x26.a x26.d))))],[(n23,(Nd.dK (List.map (eD kS en) st44.2)))]] A58 := hc
   refine nx_sq ?_
   refine u_dputS ?_
   refine Pv.wp ?_ (pv_tup (ds := [(D.str x26.b),(D.str x26.c)]) (pa_cons' (pv_var rfl) (pa_cons' (pv_var rfl) pa_nil')))
   refine Pv.wp ?_ (pv_fld (pv_var rfl) (ins_n (hc.at 0 rfl)) (by simp) rfl)
   refine Pv.wp ?_ (pv_var rfl)
   obtain ⟨hS59,h⟩ := h
   refine u_dputK (l := st44.2) (k := x26.a) (e := en) (v := (⟨x26.b,x26.c⟩:(Str × Str))) (fun _ _=>kS_inj) (hc.at 2 rfl) rfl hS59 ?_
   replace hc := hc.put 2 rfl (Nd.dK (List.map (eD kS en) (putA st44.2 x26.a (⟨x26.b,x26.c⟩:(Str × Str)))))
   generalize put A58 n23 (Nd.dK (List.map (eD kS en) (putA st44.2 x26.a (⟨x26.b,x26.c⟩:(Str × Str)))))=A60 at hc ⊢
   replace hc:Cells A0 [[(m0,(Nd.ins "Schema" ([(("kind_entries":Str),(D.tup (List.map en a1))),(("link_entries":Str),(D.tup (List.map en a2))),(("kinds":Str),(D.tup (List.map en v10.1))),(("links":Str),(D.tup (List.map en v15.1))),(("rules":Str),(D.ref n20)),(("spans":Str),(D.ref n23))]:List (Str × D))))],[(n20,(Nd.dK (List.map (eD kS en) (putA st44.1 x26.a x26.d))))],[(n23,(Nd.dK (List.map (eD kS en) (putA st44.2 x26.a (⟨x26.b,x26.c⟩:(Str × Str))))))]] A60 := hc
   refine nx_lp ?_
   exact hN41 _ _ _ h ⟨_,_,_,_,rfl,hc⟩
  rintro st61 _ A66 h ⟨j62,j63,j64,j65,rfl,hc⟩
  refine nx_sq ?_
  refine s_sq ?_
  refine u_sfldS ?_
  refine w_dnK ?_
  intro n67 hn
  replace hc := hc.new (Nd.dK []) hn
  generalize put A66 n67 (Nd.dK [])=A68 at hc ⊢
  replace hc:Cells A0 [[(m0,(Nd.ins "Schema" ([(("kind_entries":Str),(D.tup (List.map en a1))),(("link_entries":Str),(D.tup (List.map en a2))),(("kinds":Str),(D.tup (List.map en v10.1))),(("links":Str),(D.tup (List.map en v15.1))),(("rules":Str),(D.ref n20)),(("spans":Str),(D.ref n23))]:List (Str × D))))],[(n20,(Nd.dK (List.map (eD kS en) st61.1)))],[(n23,(Nd.dK (List.map (eD kS en) st61.2)))],[(n67,(Nd.dK (List.map (eD kS en) ([]:List (Str × (Option (Str × Str)))))))]] A68 := hc
  refine Pv.wp ?_ (pv_var rfl)
  refine u_sfld1 (fs' := ([(("kind_entries":Str),(D.tup (List.map en a1))),(("link_entries":Str),(D.tup (List.map en a2))),(("kinds":Str),(D.tup (List.map en v10.1))),(("links":Str),(D.tup (List.map en v15.1))),(("rules":Str),(D.ref n20)),(("spans":Str),(D.ref n23)),(("owners":Str),(D.ref n67))]:List (Str × D))) (hc.at 0 rfl) (by simp) (Nat.le_of_ble_eq_true rfl) rfl ?_
  replace hc := hc.put 0 rfl (Nd.ins "Schema" ([(("kind_entries":Str),(D.tup (List.map en a1))),(("link_entries":Str),(D.tup (List.map en a2))),(("kinds":Str),(D.tup (List.map en v10.1))),(("links":Str),(D.tup (List.map en v15.1))),(("rules":Str),(D.ref n20)),(("spans":Str),(D.ref n23)),(("owners":Str),(D.ref n67))]:List (Str × D)))
  generalize put A68 m0 (Nd.ins "Schema" ([(("kind_entries":Str),(D.tup (List.map en a1))),(("link_entries":Str),(D.tup (List.map en a2))),(("kinds":Str),(D.tup (List.map en v10.1))),(("links":Str),(D.tup (List.map en v15.1))),(("rules":Str),(D.ref n20)),(("spans":Str),(D.ref n23)),(("owners":Str),(D.ref n67))]:List (Str × D)))=A69 at hc ⊢
  replace hc:Cells A0 [[(m0,(Nd.ins "Schema" ([(("kind_entries":Str),(D.tup (List.map en a1))),(("link_entries":Str),(D.tup (List.map en a2))),(("kinds":Str),(D.tup (List.map en v10.1))),(("links":Str),(D.tup (List.map en v15.1))),(("rules":Str),(D.ref n20)),(("spans":Str),(D.ref n23)),(("owners":Str),(D.ref n67))]:List (Str × D))))],[(n20,(Nd.dK (List.map (eD kS en) st61.1)))],[(n23,(Nd.dK (List.map (eD kS en) st61.2)))],[(n67,(Nd.dK (List.map (eD kS en) ([]:List (Str × (Option (Str × Str)))))))]] A69 := hc
  refine nx_sq ?_
  refine s_sq ?_
  refine u_forC (σ := (List (Str × (Option (Str × Str))))) (e := en) (fun st88 s89 A90=>∃ (j91 j92 j93:Option D),s89=[some (D.ref m0),some y1,some y2,j91,j63,j64,j92,j93,none]∧Cells A0 [[(m0,(Nd.ins "Schema" ([(("kind_entries":Str),(D.tup (List.map en a1))),(("link_entries":Str),(D.tup (List.map en a2))),(("kinds":Str),(D.tup (List.map en v10.1))),(("links":Str),(D.tup (List.map en v15.1))),(("rules":Str),(D.ref n20)),(("spans":Str),(D.ref n23)),(("owners":Str),(D.ref n67))]:List (Str × D))))],[(n20,(Nd.dK (List.map (eD kS en) st61.1)))],[(n23,(Nd.dK (List.map (eD kS en) st61.2)))],[(n67,(Nd.dK (List.map (eD kS en) st88)))]] A90) (mi_seq (pv_var rfl) (ItL.toS (hx1.les hc.le))) h ⟨_,_,_,rfl,hc⟩ (fun _ _ _ ⟨_,_,_,_,hcP⟩=>(hx1.same hc.le hcP.le)) ?_ ?_
  ·rintro x70 hx70 st87 _ A97 N84 B85 Nm86 h ⟨j94,j95,j96,rfl,hc⟩ hN84 hB85
   refine ⟨[(D.str x70.a),(D.str x70.b),(en x70.c)], .inl rfl,rfl,_,_,rfl,_,_,rfl,_,_,rfl,rfl, ?_⟩
   refine at_s (s' := [some (D.ref m0),some y1,some y2,some (D.str x70.a),j63,j64,some (D.str x70.b),some (en x70.c),none]) rfl ?_
   refine u_dputS ?_
   obtain ⟨hS99,h⟩ := h
   refine Pv.wp ?_ (pv_ifG (f := fun z:(Option (Str × Str))=>(en z)) (p := (none:(Option (Str × Str)))) (q := (some (⟨(Option.getD x70.c ("":Str)),(Option.getD (valA st61.2 (Option.getD x70.c ("":Str))) (⟨("":Str),("":Str)⟩:(Str × Str))).1⟩:(Str × Str)))) (pt_b (pv_op2 (pv_var rfl) pv_c p2_isNO)) (fun hh98=>pv_c) (fun hh98=>(pv_tup (ds := [(D.str (Option.getD x70.c ("":Str))),(D.str (Option.getD (valA st61.2 (Option.getD x70.c ("":Str))) (⟨("":Str),("":Str)⟩:(Str × Str))).1)]) (pa_cons' (Pv.is (pv_var rfl) (en_optS hh98)) (pa_cons' (pv_op2 (pv_getK (k := (Option.getD x70.c ("":Str))) (d0 := (⟨("":Str),("":Str)⟩:(Str × Str))) (fun _ _=>kS_inj) (pv_fld (pv_var rfl) (ins_n (hc.at 0 rfl)) (by simp) rfl) (Pv.is (pv_var rfl) (en_optS hh98)) (dk_n (hc.at 2 rfl)) rfl (hS99 hh98)) pv_c (p2_ixT (ds := [(D.str (Option.getD (valA st61.2 (Option.getD x70.c ("":Str))) (⟨("":Str),("":Str)⟩:(Str × Str))).1),(D.str (Option.getD (valA st61.2 (Option.getD x70.c ("":Str))) (⟨("":Str),("":Str)⟩:(Str × Str))).2)]) (d := (D.str (Option.getD (valA st61.2 (Option.getD x70.c ("":Str))) (⟨("":Str),("":Str)⟩:(Str × Str))).1)) rfl rfl)) pa_nil')))))
   refine Pv.wp ?_ (pv_fld (pv_var rfl) (ins_n (hc.at 0 rfl)) (by simp) rfl)
   refine Pv.wp ?_ (pv_var rfl)
   obtain ⟨hS100,h⟩ := h
   refine u_dputK (l := st87) (k := x70.a) (e := en) (v := (if (Option.isNone x70.c)=true then (none:(Option (Str × Str))) else (some (⟨(Option.getD x70.c ("":Str)),(Option.getD (valA st61.2 (Option.getD x70.c ("":Str))) (⟨("":Str),("":Str)⟩:(Str × Str))).1⟩:(Str × Str))))) (fun _ _=>kS_inj) (hc.at 3 rfl) rfl hS100 ?_
   replace hc := hc.put 3 rfl (Nd.dK (List.map (eD kS en) (putA st87 x70.a (if (Option.isNone x70.c)=true then (none:(Option (Str × Str))) else (some (⟨(Option.getD x70.c ("":Str)),(Option.getD (valA st61.2 (Option.getD x70.c ("":Str))) (⟨("":Str),("":Str)⟩:(Str × Str))).1⟩:(Str × Str)))))))
   generalize put A97 n67 (Nd.dK (List.map (eD kS en) (putA st87 x70.a (if (Option.isNone x70.c)=true then (none:(Option (Str × Str))) else (some (⟨(Option.getD x70.c ("":Str)),(Option.getD (valA st61.2 (Option.getD x70.c ("":Str))) (⟨("":Str),("":Str)⟩:(Str × Str))).1⟩:(Str × Str)))))))=A101 at hc ⊢
   replace hc:Cells A0 [[(m0,(Nd.ins "Schema" ([(("kind_entries":Str),(D.tup (List.map en a1))),(("link_entries":Str),(D.tup (List.map en a2))),(("kinds":Str),(D.tup (List.map en v10.1))),(("links":Str),(D.tup (List.map en v15.1))),(("rules":Str),(D.ref n20)),(("spans":Str),(D.ref n23)),(("owners":Str),(D.ref n67))]:List (Str × D))))],[(n20,(Nd.dK (List.map (eD kS en) st61.1)))],[(n23,(Nd.dK (List.map (eD kS en) st61.2)))],[(n67,(Nd.dK (List.map (eD kS en) (putA st87 x70.a (if (Option.isNone x70.c)=true then (none:(Option (Str × Str))) else (some (⟨(Option.getD x70.c ("":Str)),(Option.getD (valA st61.2 (Option.getD x70.c ("":Str))) (⟨("":Str),("":Str)⟩:(Str × Str))).1⟩:(Str × Str))))))))]] A101 := hc
   obtain ⟨l102,hl102⟩:∃ v:(List (Str × (Option (Str × Str)))),v=(putA st87 x70.a (if (Option.isNone x70.c)=true then (none:(Option (Str × Str))) else (some (⟨(Option.getD x70.c ("":Str)),(Option.getD (valA st61.2 (Option.getD x70.c ("":Str))) (⟨("":Str),("":Str)⟩:(Str × Str))).1⟩:(Str × Str))))) := ⟨_,rfl⟩
   replace h := letW_out hl102 h
   replace hc:Cells A0 [[(m0,(Nd.ins "Schema" ([(("kind_entries":Str),(D.tup (List.map en a1))),(("link_entries":Str),(D.tup (List.map en a2))),(("kinds":Str),(D.tup (List.map en v10.1))),(("links":Str),(D.tup (List.map en v15.1))),(("rules":Str),(D.ref n20)),(("spans":Str),(D.ref n23)),(("owners":Str),(D.ref n67))]:List (Str × D))))],[(n20,(Nd.dK (List.map (eD kS en) st61.1)))],[(n23,(Nd.dK (List.map (eD kS en) st61.2)))],[(n67,(Nd.dK (List.map (eD kS en) l102)))]] A101 := by rw [hl102]; exact hc
   refine nx_lp ?_
   exact hN84 _ _ _ h ⟨_,_,_,rfl,hc⟩
  rintro st103 _ A107 h ⟨j104,j105,j106,rfl,hc⟩
  refine nx_sq ?_
  refine s_sq ?_
  refine u_sfldS ?_
  obtain ⟨hS110,h⟩ := h
  refine Pv.wp ?_ (v_dc (e := (eE en)) (e' := en) (g := (fun x108:(Int × Str)=>x108.2)) (v := (fun x108:(Int × Str)=>x108.1)) (p := (fun x108:(Int × Str)=>true)) (fun _ _=>kS_inj) (mi_enumT (pv_fld (pv_var rfl) (ins_n (hc.at 0 rfl)) (by simp) rfl)) rfl hS110 (fun x108 hx108=>dcb (tg_tp rfl rfl (tgz_cons (tg_n rfl) (tgz_cons (tg_n rfl) tgz_nil))) pt_yes (fun hh109=>(pv_var rfl)) rfl (fun hh109=>(pv_var rfl))))
  refine Pv.wp ?_ (pv_var rfl)
  obtain ⟨v111,hv111⟩:∃ v:(List (Str × Int)),v=(dcA (fun x108:(Int × Str)=>x108.2) (fun x108:(Int × Str)=>x108.1) (fun x108:(Int × Str)=>true) (enu v10.1)) := ⟨_,rfl⟩
  replace h := letW_out hv111 h
  rw [show (D.dK (List.map (eD kS en) (dcA (fun x108:(Int × Str)=>x108.2) (fun x108:(Int × Str)=>x108.1) (fun x108:(Int × Str)=>true) (enu v10.1))))=(D.dK (List.map (eD kS en) v111)) from congrArg (fun z:(List (Str × Int))=>(D.dK (List.map (eD kS en) z))) hv111.symm]
  refine u_sfld1 (fs' := ([(("kind_entries":Str),(D.tup (List.map en a1))),(("link_entries":Str),(D.tup (List.map en a2))),(("kinds":Str),(D.tup (List.map en v10.1))),(("links":Str),(D.tup (List.map en v15.1))),(("rules":Str),(D.ref n20)),(("spans":Str),(D.ref n23)),(("owners":Str),(D.ref n67)),(("kind_codes":Str),(D.dK (List.map (eD kS en) v111)))]:List (Str × D))) (hc.at 0 rfl) (by simp) (Nat.le_of_ble_eq_true rfl) rfl ?_
  replace hc := hc.put 0 rfl (Nd.ins "Schema" ([(("kind_entries":Str),(D.tup (List.map en a1))),(("link_entries":Str),(D.tup (List.map en a2))),(("kinds":Str),(D.tup (List.map en v10.1))),(("links":Str),(D.tup (List.map en v15.1))),(("rules":Str),(D.ref n20)),(("spans":Str),(D.ref n23)),(("owners":Str),(D.ref n67)),(("kind_codes":Str),(D.dK (List.map (eD kS en) v111)))]:List (Str × D)))
  generalize put A107 m0 (Nd.ins "Schema" ([(("kind_entries":Str),(D.tup (List.map en a1))),(("link_entries":Str),(D.tup (List.map en a2))),(("kinds":Str),(D.tup (List.map en v10.1))),(("links":Str),(D.tup (List.map en v15.1))),(("rules":Str),(D.ref n20)),(("spans":Str),(D.ref n23)),(("owners":Str),(D.ref n67)),(("kind_codes":Str),(D.dK (List.map (eD kS en) v111)))]:List (Str × D)))=A112 at hc ⊢
  replace hc:Cells A0 [[(m0,(Nd.ins "Schema" ([(("kind_entries":Str),(D.tup (List.map en a1))),(("link_entries":Str),(D.tup (List.map en a2))),(("kinds":Str),(D.tup (List.map en v10.1))),(("links":Str),(D.tup (List.map en v15.1))),(("rules":Str),(D.ref n20)),(("spans":Str),(D.ref n23)),(("owners":Str),(D.ref n67)),(("kind_codes":Str),(D.dK (List.map (eD kS en) v111)))]:List (Str × D))))],[(n20,(Nd.dK (List.map (eD kS en) st61.1)))],[(n23,(Nd.dK (List.map (eD kS en) st61.2)))],[(n67,(Nd.dK (List.map (eD kS en) st103)))]] A112 := hc
  refine nx_sq ?_
  refine u_sfldS ?_
  obtain ⟨hS115,h⟩ := h
  refine Pv.wp ?_ (v_dc (e := (eE en)) (e' := en) (g := (fun x113:(Int × Str)=>x113.2)) (v := (fun x113:(Int × Str)=>x113.1)) (p := (fun x113:(Int × Str)=>true)) (fun _ _=>kS_inj) (mi_enumT (pv_fld (pv_var rfl) (ins_n (hc.at 0 rfl)) (by simp) rfl)) rfl hS115 (fun x113 hx113=>dcb (tg_tp rfl rfl (tgz_cons (tg_n rfl) (tgz_cons (tg_n rfl) tgz_nil))) pt_yes (fun hh114=>(pv_var rfl)) rfl (fun hh114=>(pv_var rfl))))
  refine Pv.wp ?_ (pv_var rfl)
  obtain ⟨v116,hv116⟩:∃ v:(List (Str × Int)),v=(dcA (fun x113:(Int × Str)=>x113.2) (fun x113:(Int × Str)=>x113.1) (fun x113:(Int × Str)=>true) (enu v15.1)) := ⟨_,rfl⟩
  replace h := letW_out hv116 h
  rw [show (D.dK (List.map (eD kS en) (dcA (fun x113:(Int × Str)=>x113.2) (fun x113:(Int × Str)=>x113.1) (fun x113:(Int × Str)=>true) (enu v15.1))))=(D.dK (List.map (eD kS en) v116)) from congrArg (fun z:(List (Str × Int))=>(D.dK (List.map (eD kS en) z))) hv116.symm]
  refine u_sfld1 (fs' := ([(("kind_entries":Str),(D.tup (List.map en a1))),(("link_entries":Str),(D.tup (List.map en a2))),(("kinds":Str),(D.tup (List.map en v10.1))),(("links":Str),(D.tup (List.map en v15.1))),(("rules":Str),(D.ref n20)),(("spans":Str),(D.ref n23)),(("owners":Str),(D.ref n67)),(("kind_codes":Str),(D.dK (List.map (eD kS en) v111))),(("link_codes":Str),(D.dK (List.map (eD kS en) v116)))]:List (Str × D))) (hc.at 0 rfl) (by simp) (Nat.le_of_ble_eq_true rfl) rfl ?_
  replace hc := hc.put 0 rfl (Nd.ins "Schema" ([(("kind_entries":Str),(D.tup (List.map en a1))),(("link_entries":Str),(D.tup (List.map en a2))),(("kinds":Str),(D.tup (List.map en v10.1))),(("links":Str),(D.tup (List.map en v15.1))),(("rules":Str),(D.ref n20)),(("spans":Str),(D.ref n23)),(("owners":Str),(D.ref n67)),(("kind_codes":Str),(D.dK (List.map (eD kS en) v111))),(("link_codes":Str),(D.dK (List.map (eD kS en) v116)))]:List (Str × D)))
  generalize put A112 m0 (Nd.ins "Schema" ([(("kind_entries":Str),(D.tup (List.map en a1))),(("link_entries":Str),(D.tup (List.map en a2))),(("kinds":Str),(D.tup (List.map en v10.1))),(("links":Str),(D.tup (List.map en v15.1))),(("rules":Str),(D.ref n20)),(("spans":Str),(D.ref n23)),(("owners":Str),(D.ref n67)),(("kind_codes":Str),(D.dK (List.map (eD kS en) v111))),(("link_codes":Str),(D.dK (List.map (eD kS en) v116)))]:List (Str × D)))=A117 at hc ⊢
  replace hc:Cells A0 [[(m0,(Nd.ins "Schema" ([(("kind_entries":Str),(D.tup (List.map en a1))),(("link_entries":Str),(D.tup (List.map en a2))),(("kinds":Str),(D.tup (List.map en v10.1))),(("links":Str),(D.tup (List.map en v15.1))),(("rules":Str),(D.ref n20)),(("spans":Str),(D.ref n23)),(("owners":Str),(D.ref n67)),(("kind_codes":Str),(D.dK (List.map (eD kS en) v111))),(("link_codes":Str),(D.dK (List.map (eD kS en) v116)))]:List (Str × D))))],[(n20,(Nd.dK (List.map (eD kS en) st61.1)))],[(n23,(Nd.dK (List.map (eD kS en) st61.2)))],[(n67,(Nd.dK (List.map (eD kS en) st103)))]] A117 := hc
  refine u_nxi ?_
  refine frz_ins (hc.at 0 rfl) ?_
  replace hc := hc.cut 0 rfl
  generalize rem A117 m0=A118 at hc ⊢
  refine frzL_cons ?_
  refine frz_tre (fun n e=>by cases e) ?_
  refine frzL_cons ?_
  refine frz_tre (fun n e=>by cases e) ?_
  refine frzL_cons ?_
  refine frz_tre (fun n e=>by cases e) ?_
  refine frzL_cons ?_
  refine frz_tre (fun n e=>by cases e) ?_
  refine frzL_cons ?_
  refine frz_dK (hc.at 0 rfl) (tre_eD (fun _=>tre_en _)) ?_
  replace hc := hc.cut 0 rfl
  generalize rem A118 n20=A119 at hc ⊢
  refine frzL_cons ?_
  refine frz_dK (hc.at 0 rfl) (tre_eD (fun _=>tre_en _)) ?_
  replace hc := hc.cut 0 rfl
  generalize rem A119 n23=A120 at hc ⊢
  refine frzL_cons ?_
  refine frz_dK (hc.at 0 rfl) (tre_eD (fun _=>tre_en _)) ?_
  replace hc := hc.cut 0 rfl
  generalize rem A120 n67=A121 at hc ⊢
  refine frzL_cons ?_
  refine frz_tre (fun n e=>by cases e) ?_
  refine frzL_cons ?_
  refine frz_tre (fun n e=>by cases e) ?_
  refine frzL_nil ?_
  exact hQ _ _ h hc.le
def W_law_schema (a1:Int) (Q:(((List (T3 Str Str (Option Str))) × (List (T4 Str Str Str Str))))→Prop) (E:Exv→Prop):Prop :=
 (((0 < a1∧a1≤1000000000))∧(∀ r4:Int,0≤r4→r4 < a1→(((-(2 ^ 62)≤((1:Int) + r4)∧((1:Int) + r4) < 2 ^ 62))∧(forW (rng ((1:Int) + r4)) (([]:List Str):(List Str)) (fun (x6:Int) (st19:(List Str)) N16 B17=>(((st19.length < 26))∧(∀ r27:Str,(isW r27=true∧r27 ∉ st19)→(((Sz ((st19).length + 1)))∧N16 (st19 ++ [r27]))))) (fun (st30:(List Str))=>(((Sz (st30).length))∧(lcW st30 (fun (x34:Str) (N35:Option Str→Prop)=>(∀ r37:Int,0≤r37→r37 < (3:Int)→(((0≤r37∧r37 < ((([("loose":Str),("once":Str),("under":Str)]:List Str)).length:Int)))∧N35 (some (ixG ("":Str) ([("loose":Str),("once":Str),("under":Str)]:List Str) r37))))) (fun (ys36:List Str)=>(joinW (σ := (List Str)) (fun N50=>(if ((!inB ("loose":Str) ys36) && (!inB ("once":Str) ys36))=true then (∀ r57:Int,0≤r57→r57 < (2:Int)→(((0≤r57∧r57 < ((([("loose":Str),("once":Str)]:List Str)).length:Int)))∧(((0 < ((ys36).length:Int)∧((ys36).length:Int)≤1000000000))∧(∀ r60:Int,0≤r60→r60 < ((ys36).length:Int)→(((0≤r60∧r60 < ((ys36).length:Int)))∧(letW (List.set ys36 r60.toNat (ixG ("":Str) ([("loose":Str),("once":Str)]:List Str) r57)) (fun (l63:(List Str))=>N50 l63))))))) else N50 ys36)) (fun (st51:(List Str))=>(((∀ x66∈(enu st30),(0≤x66.1∧x66.1 < ((st51).length:Int)))∧(Sz ((enu st30)).length))∧(letW (List.map (fun x66:(Int × Str)=>x66.2) (List.filter (fun x66:(Int × Str)=>(!eqB (ixG ("":Str) st51 x66.1) ("under":Str))) (enu st30))) (fun (v69:(List Str))=>(forW (enu st30) ((([]:List (T3 Str Str (Option Str))),([]:List (T4 Str Str Str Str)),st30):(List (T3 Str Str (Option Str))) × (List (T4 Str Str Str Str)) × (List Str)) (fun (x76:(Int × Str)) (st128:(List (T3 Str Str (Option Str))) × (List (T4 Str Str Str Str)) × (List Str)) N125 B126=>(((0≤x76.1∧x76.1 < ((st51).length:Int)))∧(if (eqB (ixG ("":Str) st51 x76.1) ("under":Str))=true then (((st128.2.2.length < 26))∧(∀ r140:Str,(isW r140=true∧r140 ∉ st128.2.2)→(((Sz ((st128.2.2).length + 1)))∧((((st128.2.2 ++ [r140])≠[]))∧(((0 < ((v69).length:Int)∧((v69).length:Int)≤1000000000))∧(∀ r145:Int,0≤r145→r145 < ((v69).length:Int)→(((0≤r145∧r145 < ((v69).length:Int)))∧(∀ r147:Int,0≤r147→r147 < (2:Int)→(((0≤r147∧r147 < ((([("loose":Str),("once":Str)]:List Str)).length:Int)))∧(((Sz ((st128.2.1).length + 1)))∧(letW (st128.2.1 ++ [(⟨((List.getLast? (st128.2.2 ++ [r140])).getD ("":Str)),(ixG ("":Str) v69 r145),x76.2,(ixG ("":Str) ([("loose":Str),("once":Str)]:List Str) r147)⟩:(T4 Str Str Str Str))]) (fun (l151:(List (T4 Str Str Str Str)))=>((((st128.2.2 ++ [r140])≠[]))∧(((Sz ((st128.1).length + 1)))∧(letW (st128.1 ++ [(⟨x76.2,("under":Str),(some ((List.getLast? (st128.2.2 ++ [r140])).getD ("":Str)))⟩:(T3 Str Str (Option Str)))]) (fun (l155:(List (T3 Str Str (Option Str))))=>N125 (l155,l151,(st128.2.2 ++ [r140])))))))))))))))))) else (((0≤x76.1∧x76.1 < ((st51).length:Int)))∧(((Sz ((st128.1).length + 1)))∧(letW (st128.1 ++ [(⟨x76.2,(ixG ("":Str) st51 x76.1),(none:(Option Str))⟩:(T3 Str Str (Option Str)))]) (fun (l159:(List (T3 Str Str (Option Str))))=>N125 (l159,st128.2.1,st128.2.2)))))))) (fun (st160:(List (T3 Str Str (Option Str))) × (List (T4 Str Str Str Str)) × (List Str))=>(((0 < ((7:Int) - ((st160.2.1).length:Int))∧((7:Int) - ((st160.2.1).length:Int))≤1000000000))∧(∀ r165:Int,0≤r165→r165 < ((7:Int) - ((st160.2.1).length:Int))→(((-(2 ^ 62)≤r165∧r165 < 2 ^ 62))∧(forW (rng r165) ((st160.2.1,st160.2.2):(List (T4 Str Str Str Str)) × (List Str)) (fun (x167:Int) (st206:(List (T4 Str Str Str Str)) × (List Str)) N203 B204=>(((st206.2.length < 26))∧(∀ r218:Str,(isW r218=true∧r218 ∉ st206.2)→(((Sz ((st206.2).length + 1)))∧(((0 < ((st30).length:Int)∧((st30).length:Int)≤1000000000))∧(∀ r222:Int,0≤r222→r222 < ((st30).length:Int)→(((0≤r222∧r222 < ((st30).length:Int)))∧(((0 < ((st30).length:Int)∧((st30).length:Int)≤1000000000))∧(∀ r225:Int,0≤r225→r225 < ((st30).length:Int)→(((0≤r225∧r225 < ((st30).length:Int)))∧((((st206.2 ++ [r218])≠[]))∧(∀ r228:Int,0≤r228→r228 < (2:Int)→(((0≤r228∧r228 < ((([("loose":Str),("once":Str)]:List Str)).length:Int)))∧(((Sz ((st206.1).length + 1)))∧(letW (st206.1 ++ [(⟨((List.getLast? (st206.2 ++ [r218])).getD ("":Str)),(ixG ("":Str) st30 r222),(ixG ("":Str) st30 r225),(ixG ("":Str) ([("loose":Str),("once":Str)]:List Str) r228)⟩:(T4 Str Str Str Str))]) (fun (l232:(List (T4 Str Str Str Str)))=>N203 (l232,(st206.2 ++ [r218])))))))))))))))))) (fun (st233:(List (T4 Str Str Str Str)) × (List Str))=>(((0 < (((st233.1).length:Int) + (1:Int))∧(((st233.1).length:Int) + (1:Int))≤1000000000))∧(∀ r239:Int,0≤r239→r239 < (((st233.1).length:Int) + (1:Int))→(((Sz (((cutL st233.1 (some r239) none)).length + ((cutL st233.1 none (some r239))).length)))∧Q (⟨st160.1,((cutL st233.1 (some r239) none) ++ (cutL st233.1 none (some r239)))⟩:((List (T3 Str Str (Option Str))) × (List (T4 Str Str Str Str)))))))))))))))))))))))))))
theorem c_law_schema {A0:AH} {n0:Nat} (hp:A0 n0=some .pool) {a1:Int} {Q0:((List (T3 Str Str (Option Str))) × (List (T4 Str Str Str Str)))→Prop} {E0:Exv→Prop} {Q:QE} {E:QX} (h:W_law_schema a1 Q0 E0) (hQ:∀ r,Q0 r→Q (D.tup [(D.lst (List.map en r.1)),(D.lst (List.map en r.2))]) A0) (hE:∀ x,E0 x→E (encX x) A0):m_law_schema [.ref n0,(D.int a1)] A0 Q E := by
 unfold W_law_schema at h
 have hc:Cells A0 [] A0 := Cells.nil_
 refine fn_in (s := [some (D.ref n0),some (D.int a1),none,none,none,none,none,none,none,none,none,none,none]) ?_ rfl rfl
 refine s_sq ?_
 refine u_setE ?_
 refine w_nilM ?_
 intro n1 hn
 replace hc := hc.new (Nd.lst []) hn
 generalize put A0 n1 (Nd.lst [])=A2 at hc ⊢
 replace hc:Cells A0 [[(n1,(Nd.lst (List.map en ([]:List Str))))]] A2 := hc
 refine at_n (s' := [some (D.ref n0),some (D.int a1),some (D.ref n1),none,none,none,none,none,none,none,none,none,none]) rfl ?_
 refine nx_sq ?_
 refine s_sq ?_
 refine u_rngE ?_
 refine w_opW ?_
 refine Pv.wp ?_ pv_c
 obtain ⟨hS3,h⟩ := h
 refine w_drawA (pa_cons' (pv_var rfl) (pa_cons' (pv_var rfl) pa_nil')) (hc.le _ _ hp) (hS3).1 (dr_small hS3) ?_
 intro r4 h0r4 h1r4
 replace h := h r4 h0r4 h1r4
 refine P2.wp ?_ p2_addI
 obtain ⟨hS5,h⟩ := h
 refine ⟨_,rfl,(hS5).1,(hS5).2, ?_⟩
 rw [intsD_rng]
 refine for_corr (σ := (List Str)) (e := en) (fun st20 s21 A22=>∃ (j23:Option D),s21=[some (D.ref n0),some (D.int a1),some (D.ref n1),j23,none,none,none,none,none,none,none,none,none]∧Cells A0 [[(n1,(Nd.lst (List.map en st20)))]] A22) h ⟨_,rfl,hc⟩ (fun _ _ _ ⟨_,_,hcP⟩=>True.intro) ?_ ?_
 ·rintro x6 hx6 st19 _ A25 N16 B17 Nm18 h ⟨j24,rfl,hc⟩ hN16 hB17
  refine at_s (s' := [some (D.ref n0),some (D.int a1),some (D.ref n1),some (D.int x6),none,none,none,none,none,none,none,none,none]) rfl ?_
  refine u_appS ?_
  refine Pv.wp ?_ (pv_var rfl)
  refine ⟨u_it (hc.at 0 rfl), ?_⟩
  obtain ⟨hS26,h⟩ := h
  refine w_callW ?_ (pa_cons' (pv_var rfl) (pa_cons' (pv_var rfl) pa_nil'))
  refine fw_word (hc.le _ _ hp) (il_n (hc.at 0 rfl)) hS26 ?_
  intro r27 hr27
  replace h := h r27 hr27
  obtain ⟨hS28,h⟩ := h
  refine u_app2 (xs := st19) (e := en) (v := r27) (hc.at 0 rfl) hS28 ?_
  replace hc := hc.put 0 rfl (Nd.lst (List.map en (st19 ++ [r27])))
  generalize put A25 n1 (Nd.lst (List.map en (st19 ++ [r27])))=A29 at hc ⊢
  replace hc:Cells A0 [[(n1,(Nd.lst (List.map en (st19 ++ [r27]))))]] A29 := hc
  refine nx_lp ?_
  exact hN16 _ _ _ h ⟨_,rfl,hc⟩
 rintro st30 _ A32 h ⟨j31,rfl,hc⟩
 refine nx_sq ?_
 refine s_sq ?_
 refine u_setE ?_
 obtain ⟨hS33,h⟩ := h
 refine u_lcM (e := en) (f := en) (s' := [some (D.ref n0),some (D.int a1),some (D.ref n1),j31,none,none,none,none,none,none,none,none,none]) (mi_seq (pv_var rfl) (ItL.toS (il_n (hc.at 0 rfl)))) rfl hS33 h ?_ ?_
 ·intro x34 hx34 N35 R R2 h hR hR2
  refine u_gN (s' := [some (D.ref n0),some (D.int a1),some (D.ref n1),j31,none,none,none,none,none,some (D.str x34),none,none,none]) rfl ?_
  refine lc_yes ?_
  refine w_opW ?_
  refine Pv.wp ?_ (pv_lst (pa_cons' pv_c (pa_cons' pv_c (pa_cons' pv_c pa_nil'))))
  refine w_drawA (pa_cons' (pv_var rfl) (pa_cons' pv_c pa_nil')) (hc.le _ _ hp) (by decide) (by decide) ?_
  intro r37 h0r37 h1r37
  replace h := h r37 h0r37 h1r37
  obtain ⟨hS38,h⟩ := h
  refine P2.wp ?_ (p2_ixG (d0 := ("":Str)) (ItL.toS (il_r (xs := ([("loose":Str),("once":Str),("under":Str)]:List Str)) (e := en) rfl)) hS38)
  exact hR _ h
 intro ys36 h
 intro n39 hn
 replace hc := hc.new (Nd.lst (List.map en ys36)) hn
 generalize put A32 n39 (Nd.lst (List.map en ys36))=A40 at hc ⊢
 replace hc:Cells A0 [[(n1,(Nd.lst (List.map en st30)))],[(n39,(Nd.lst (List.map en ys36)))]] A40 := hc
 refine at_n (s' := [some (D.ref n0),some (D.int a1),some (D.ref n1),j31,some (D.ref n39),none,none,none,none,none,none,none,none]) rfl ?_
 refine nx_sq ?_
 refine u_join (σ := (List Str)) (fun st52 s53 A54=>s53=[some (D.ref n0),some (D.int a1),some (D.ref n1),j31,some (D.ref n39),none,none,none,none,none,none,none,none]∧Cells A0 [[(n1,(Nd.lst (List.map en st30)))],[(n39,(Nd.lst (List.map en st52)))]] A54) h ?_ ?_
 ·intro N50 h hN50
  refine u_if (Am.pt_and (pt_b (pv_op2 pv_c (pv_var rfl) (q2_nin (a := ("loose":Str)) (xs := ys36) (ue_r rfl) (ItS.sq (ItL.toS (il_n (hc.at 1 rfl)))) (by decide)))) (fun hh55=>(pt_b (pv_op2 pv_c (pv_var rfl) (q2_nin (a := ("once":Str)) (xs := ys36) (ue_r rfl) (ItS.sq (ItL.toS (il_n (hc.at 1 rfl)))) (by decide)))))) h ?_ ?_
  ·intro hb56 h
   refine u_lputS ?_
   refine w_opW ?_
   refine Pv.wp ?_ (pv_lst (pa_cons' pv_c (pa_cons' pv_c pa_nil')))
   refine w_drawA (pa_cons' (pv_var rfl) (pa_cons' pv_c pa_nil')) (hc.le _ _ hp) (by decide) (by decide) ?_
   intro r57 h0r57 h1r57
   replace h := h r57 h0r57 h1r57
   obtain ⟨hS58,h⟩ := h
   refine P2.wp ?_ (p2_ixG (d0 := ("":Str)) (ItL.toS (il_r (xs := ([("loose":Str),("once":Str)]:List Str)) (e := en) rfl)) hS58)
   refine Pv.wp ?_ (pv_var rfl)
   obtain ⟨hS59,h⟩ := h
   refine w_drawA (pa_cons' (pv_var rfl) (pa_cons' (pv_cbB (pa_cons' (pv_var rfl) pa_nil') (pb_lenI (ItL.toS (il_n (hc.at 1 rfl))))) pa_nil')) (hc.le _ _ hp) (hS59).1 (dr_small hS59) ?_
   intro r60 h0r60 h1r60
   replace h := h r60 h0r60 h1r60
   obtain ⟨hS61,h⟩ := h
   refine u_lput1 (xs := ys36) (e := en) (v := (ixG ("":Str) ([("loose":Str),("once":Str)]:List Str) r57)) (hc.at 1 rfl) hS61 ?_
   replace hc := hc.put 1 rfl (Nd.lst (List.map en (List.set ys36 r60.toNat (ixG ("":Str) ([("loose":Str),("once":Str)]:List Str) r57))))
   generalize put A40 n39 (Nd.lst (List.map en (List.set ys36 r60.toNat (ixG ("":Str) ([("loose":Str),("once":Str)]:List Str) r57))))=A62 at hc ⊢
   replace hc:Cells A0 [[(n1,(Nd.lst (List.map en st30)))],[(n39,(Nd.lst (List.map en (List.set ys36 r60.toNat (ixG ("":Str) ([("loose":Str),("once":Str)]:List Str) r57)))))]] A62 := hc
   obtain ⟨l63,hl63⟩:∃ v:(List Str),v=(List.set ys36 r60.toNat (ixG ("":Str) ([("loose":Str),("once":Str)]:List Str) r57)) := ⟨_,rfl⟩
   replace h := letW_out hl63 h
   replace hc:Cells A0 [[(n1,(Nd.lst (List.map en st30)))],[(n39,(Nd.lst (List.map en l63)))]] A62 := by rw [hl63]; exact hc
   refine nx_sq ?_
   exact hN50 _ _ _ h ⟨rfl,hc⟩
  ·intro hb56 h
   refine t_next ?_
   refine nx_sq ?_
   exact hN50 _ _ _ h ⟨rfl,hc⟩
 rintro st51 s65 A64 h ⟨rfl,hc⟩
 refine s_sq ?_
 obtain ⟨hS68,h⟩ := h
 obtain ⟨v69,hv69⟩:∃ v:(List Str),v=(List.map (fun x66:(Int × Str)=>x66.2) (List.filter (fun x66:(Int × Str)=>(!eqB (ixG ("":Str) st51 x66.1) ("under":Str))) (enu st30))) := ⟨_,rfl⟩
 replace h := letW_out hv69 h
 refine u_set (s' := [some (D.ref n0),some (D.int a1),some (D.ref n1),j31,some (D.ref n39),some (D.lst (List.map en v69)),none,none,none,none,none,none,none]) (Pv.is (v_lcFM (e := (eE en)) (p := fun x66:(Int × Str)=>(!eqB (ixG ("":Str) st51 x66.1) ("under":Str))) (g := fun x66:(Int × Str)=>x66.2) (e' := en) (mi_enum (pv_var rfl) (il_n (hc.at 0 rfl))) rfl hS68.2 (fun x66 hx66=>lcb (tg_tp rfl rfl (tgz_cons (tg_n rfl) (tgz_cons (tg_n rfl) tgz_nil))) (pt_b (pv_op2 (pv_op2 (pv_var rfl) (pv_var rfl) (p2_ixG (d0 := ("":Str)) (ItL.toS (il_n (hc.at 1 rfl))) (hS68.1 x66 hx66))) pv_c (q2_ne (a := (ixG ("":Str) st51 x66.1)) (b := ("under":Str)) (ue_r rfl) (ue_r rfl) (by decide)))) (fun hh67=>(pv_var rfl)))) (congrArg (fun z:(List Str)=>(D.lst (List.map en z))) hv69.symm)) rfl ?_
 refine nx_sq ?_
 refine s_sq ?_
 refine u_setE ?_
 refine w_nilM ?_
 intro n70 hn
 replace hc := hc.new (Nd.lst []) hn
 generalize put A64 n70 (Nd.lst [])=A71 at hc ⊢
 replace hc:Cells A0 [[(n1,(Nd.lst (List.map en st30)))],[(n39,(Nd.lst (List.map en st51)))],[(n70,(Nd.lst (List.map en ([]:List (T3 Str Str (Option Str))))))]] A71 := hc
 refine at_n (s' := [some (D.ref n0),some (D.int a1),some (D.ref n1),j31,some (D.ref n39),some (D.lst (List.map en v69)),some (D.ref n70),none,none,none,none,none,none]) rfl ?_
 refine nx_sq ?_
 refine s_sq ?_
 refine u_setE ?_
 refine w_nilM ?_
 intro n72 hn
 replace hc := hc.new (Nd.lst []) hn
 generalize put A71 n72 (Nd.lst [])=A73 at hc ⊢
 replace hc:Cells A0 [[(n1,(Nd.lst (List.map en st30)))],[(n39,(Nd.lst (List.map en st51)))],[(n70,(Nd.lst (List.map en ([]:List (T3 Str Str (Option Str))))))],[(n72,(Nd.lst (List.map en ([]:List (T4 Str Str Str Str)))))]] A73 := hc
 refine at_n (s' := [some (D.ref n0),some (D.int a1),some (D.ref n1),j31,some (D.ref n39),some (D.lst (List.map en v69)),some (D.ref n70),some (D.ref n72),none,none,none,none,none]) rfl ?_
 refine nx_sq ?_
 refine s_sq ?_
 refine u_setE ?_
 refine w_listM (pv_var rfl) (ItL.toS (il_n (hc.at 0 rfl))) ?_
 intro n74 hn
 replace hc := hc.new (Nd.lst (List.map en st30)) hn
 generalize put A73 n74 (Nd.lst (List.map en st30))=A75 at hc ⊢
 replace hc:Cells A0 [[(n1,(Nd.lst (List.map en st30)))],[(n39,(Nd.lst (List.map en st51)))],[(n70,(Nd.lst (List.map en ([]:List (T3 Str Str (Option Str))))))],[(n72,(Nd.lst (List.map en ([]:List (T4 Str Str Str Str)))))],[(n74,(Nd.lst (List.map en st30)))]] A75 := hc
 refine at_n (s' := [some (D.ref n0),some (D.int a1),some (D.ref n1),j31,some (D.ref n39),some (D.lst (List.map en v69)),some (D.ref n70),some (D.ref n72),some (D.ref n74),none,none,none,none]) rfl ?_
 refine nx_sq ?_
 refine s_sq ?_
 refine u_forC (σ := (List (T3 Str Str (Option Str))) × (List (T4 Str Str Str Str)) × (List Str)) (e := (eE en)) (fun st129 s130 A131=>∃ (j132 j133:Option D),s130=[some (D.ref n0),some (D.int a1),some (D.ref n1),j132,some (D.ref n39),some (D.lst (List.map en v69)),some (D.ref n70),some (D.ref n72),some (D.ref n74),j133,none,none,none]∧Cells A0 [[(n1,(Nd.lst (List.map en st30)))],[(n39,(Nd.lst (List.map en st51)))],[(n70,(Nd.lst (List.map en st129.1)))],[(n72,(Nd.lst (List.map en st129.2.1)))],[(n74,(Nd.lst (List.map en st129.2.2)))]] A131) (mi_enum (pv_var rfl) (il_n (hc.at 0 rfl))) h ⟨_,_,rfl,hc⟩ (fun _ _ _ ⟨_,_,_,hcP⟩=>(fun n e=>by cases e; exact (hcP.at 0 rfl).trans (hc.at 0 rfl).symm)) ?_ ?_
 ·rintro x76 hx76 st128 _ A136 N125 B126 Nm127 h ⟨j134,j135,rfl,hc⟩ hN125 hB126
  refine ⟨[(D.int x76.1),(D.str x76.2)], .inl rfl,rfl,_,_,rfl,_,_,rfl,rfl, ?_⟩
  refine at_s (s' := [some (D.ref n0),some (D.int a1),some (D.ref n1),some (D.int x76.1),some (D.ref n39),some (D.lst (List.map en v69)),some (D.ref n70),some (D.ref n72),some (D.ref n74),some (D.str x76.2),none,none,none]) rfl ?_
  obtain ⟨hS137,h⟩ := h
  refine u_if (pt_b (pv_op2 (pv_op2 (pv_var rfl) (pv_var rfl) (p2_ixG (d0 := ("":Str)) (ItL.toS (il_n (hc.at 1 rfl))) hS137)) pv_c (q2_eq (a := (ixG ("":Str) st51 x76.1)) (b := ("under":Str)) (ue_r rfl) (ue_r rfl) (by decide)))) h ?_ ?_
  ·intro hb138 h
   refine s_sq ?_
   refine u_appS ?_
   refine Pv.wp ?_ (pv_var rfl)
   refine ⟨u_it (hc.at 4 rfl), ?_⟩
   obtain ⟨hS139,h⟩ := h
   refine w_callW ?_ (pa_cons' (pv_var rfl) (pa_cons' (pv_var rfl) pa_nil'))
   refine fw_word (hc.le _ _ hp) (il_n (hc.at 4 rfl)) hS139 ?_
   intro r140 hr140
   replace h := h r140 hr140
   obtain ⟨hS141,h⟩ := h
   refine u_app2 (xs := st128.2.2) (e := en) (v := r140) (hc.at 4 rfl) hS141 ?_
   replace hc := hc.put 4 rfl (Nd.lst (List.map en (st128.2.2 ++ [r140])))
   generalize put A136 n74 (Nd.lst (List.map en (st128.2.2 ++ [r140])))=A142 at hc ⊢
   replace hc:Cells A0 [[(n1,(Nd.lst (List.map en st30)))],[(n39,(Nd.lst (List.map en st51)))],[(n70,(Nd.lst (List.map en st128.1)))],[(n72,(Nd.lst (List.map en st128.2.1)))],[(n74,(Nd.lst (List.map en (st128.2.2 ++ [r140]))))]] A142 := hc
   refine nx_sq ?_
   refine s_sq ?_
   refine u_appS ?_
   refine Pv.wp ?_ (pv_var rfl)
   refine ⟨u_it (hc.at 3 rfl), ?_⟩
   refine w_tupX ?_
   refine w_consX ?_
   obtain ⟨hS143,h⟩ := h
   refine Pv.wp ?_ (pv_op2 (pv_var rfl) (pv_un1 pv_c p1_neg) (p2_ixL (d0 := ("":Str)) (ItL.toS (il_n (hc.at 4 rfl))) hS143))
   refine w_consX ?_
   refine w_opW ?_
   refine Pv.wp ?_ (pv_var rfl)
   obtain ⟨hS144,h⟩ := h
   refine w_drawA (pa_cons' (pv_var rfl) (pa_cons' (pv_cbB (pa_cons' (pv_var rfl) pa_nil') (pb_lenI (ItL.toS il_l))) pa_nil')) (hc.le _ _ hp) (hS144).1 (dr_small hS144) ?_
   intro r145 h0r145 h1r145
   replace h := h r145 h0r145 h1r145
   obtain ⟨hS146,h⟩ := h
   refine P2.wp ?_ (p2_ixG (d0 := ("":Str)) (ItL.toS il_l) hS146)
   refine w_consX ?_
   refine Pv.wp ?_ (pv_var rfl)
   refine w_consX ?_
   refine w_opW ?_
   refine Pv.wp ?_ (pv_lst (pa_cons' pv_c (pa_cons' pv_c pa_nil')))
   refine w_drawA (pa_cons' (pv_var rfl) (pa_cons' pv_c pa_nil')) (hc.le _ _ hp) (by decide) (by decide) ?_
   intro r147 h0r147 h1r147
   replace h := h r147 h0r147 h1r147
   obtain ⟨hS148,h⟩ := h
   refine P2.wp ?_ (p2_ixG (d0 := ("":Str)) (ItL.toS (il_r (xs := ([("loose":Str),("once":Str)]:List Str)) (e := en) rfl)) hS148)
   refine w_nilX ?_
   refine ⟨sz (Nat.le_of_ble_eq_true rfl), ?_⟩
   obtain ⟨hS149,h⟩ := h
   refine u_app2 (xs := st128.2.1) (e := en) (v := (⟨((List.getLast? (st128.2.2 ++ [r140])).getD ("":Str)),(ixG ("":Str) v69 r145),x76.2,(ixG ("":Str) ([("loose":Str),("once":Str)]:List Str) r147)⟩:(T4 Str Str Str Str))) (hc.at 3 rfl) hS149 ?_
   replace hc := hc.put 3 rfl (Nd.lst (List.map en (st128.2.1 ++ [(⟨((List.getLast? (st128.2.2 ++ [r140])).getD ("":Str)),(ixG ("":Str) v69 r145),x76.2,(ixG ("":Str) ([("loose":Str),("once":Str)]:List Str) r147)⟩:(T4 Str Str Str Str))])))
   generalize put A142 n72 (Nd.lst (List.map en (st128.2.1 ++ [(⟨((List.getLast? (st128.2.2 ++ [r140])).getD ("":Str)),(ixG ("":Str) v69 r145),x76.2,(ixG ("":Str) ([("loose":Str),("once":Str)]:List Str) r147)⟩:(T4 Str Str Str Str))])))=A150 at hc ⊢
   replace hc:Cells A0 [[(n1,(Nd.lst (List.map en st30)))],[(n39,(Nd.lst (List.map en st51)))],[(n70,(Nd.lst (List.map en st128.1)))],[(n72,(Nd.lst (List.map en (st128.2.1 ++ [(⟨((List.getLast? (st128.2.2 ++ [r140])).getD ("":Str)),(ixG ("":Str) v69 r145),x76.2,(ixG ("":Str) ([("loose":Str),("once":Str)]:List Str) r147)⟩:(T4 Str Str Str Str))]))))],[(n74,(Nd.lst (List.map en (st128.2.2 ++ [r140]))))]] A150 := hc
   obtain ⟨l151,hl151⟩:∃ v:(List (T4 Str Str Str Str)),v=(st128.2.1 ++ [(⟨((List.getLast? (st128.2.2 ++ [r140])).getD ("":Str)),(ixG ("":Str) v69 r145),x76.2,(ixG ("":Str) ([("loose":Str),("once":Str)]:List Str) r147)⟩:(T4 Str Str Str Str))]) := ⟨_,rfl⟩
   replace h := letW_out hl151 h
   replace hc:Cells A0 [[(n1,(Nd.lst (List.map en st30)))],[(n39,(Nd.lst (List.map en st51)))],[(n70,(Nd.lst (List.map en st128.1)))],[(n72,(Nd.lst (List.map en l151)))],[(n74,(Nd.lst (List.map en (st128.2.2 ++ [r140]))))]] A150 := by rw [hl151]; exact hc
   refine nx_sq ?_
   refine u_appS ?_
   refine Pv.wp ?_ (pv_var rfl)
   refine ⟨u_it (hc.at 2 rfl), ?_⟩
   obtain ⟨hS152,h⟩ := h
   refine Pv.wp ?_ (pv_tup (ds := [(D.str x76.2),(D.str ("under":Str)),(D.str ((List.getLast? (st128.2.2 ++ [r140])).getD ("":Str)))]) (pa_cons' (pv_var rfl) (pa_cons' pv_c (pa_cons' (pv_op2 (pv_var rfl) (pv_un1 pv_c p1_neg) (p2_ixL (d0 := ("":Str)) (ItL.toS (il_n (hc.at 4 rfl))) hS152)) pa_nil'))))
   obtain ⟨hS153,h⟩ := h
   refine u_app2 (xs := st128.1) (e := en) (v := (⟨x76.2,("under":Str),(some ((List.getLast? (st128.2.2 ++ [r140])).getD ("":Str)))⟩:(T3 Str Str (Option Str)))) (hc.at 2 rfl) hS153 ?_
   replace hc := hc.put 2 rfl (Nd.lst (List.map en (st128.1 ++ [(⟨x76.2,("under":Str),(some ((List.getLast? (st128.2.2 ++ [r140])).getD ("":Str)))⟩:(T3 Str Str (Option Str)))])))
   generalize put A150 n70 (Nd.lst (List.map en (st128.1 ++ [(⟨x76.2,("under":Str),(some ((List.getLast? (st128.2.2 ++ [r140])).getD ("":Str)))⟩:(T3 Str Str (Option Str)))])))=A154 at hc ⊢
   replace hc:Cells A0 [[(n1,(Nd.lst (List.map en st30)))],[(n39,(Nd.lst (List.map en st51)))],[(n70,(Nd.lst (List.map en (st128.1 ++ [(⟨x76.2,("under":Str),(some ((List.getLast? (st128.2.2 ++ [r140])).getD ("":Str)))⟩:(T3 Str Str (Option Str)))]))))],[(n72,(Nd.lst (List.map en l151)))],[(n74,(Nd.lst (List.map en (st128.2.2 ++ [r140]))))]] A154 := hc
   obtain ⟨l155,hl155⟩:∃ v:(List (T3 Str Str (Option Str))),v=(st128.1 ++ [(⟨x76.2,("under":Str),(some ((List.getLast? (st128.2.2 ++ [r140])).getD ("":Str)))⟩:(T3 Str Str (Option Str)))]) := ⟨_,rfl⟩
   replace h := letW_out hl155 h
   replace hc:Cells A0 [[(n1,(Nd.lst (List.map en st30)))],[(n39,(Nd.lst (List.map en st51)))],[(n70,(Nd.lst (List.map en l155)))],[(n72,(Nd.lst (List.map en l151)))],[(n74,(Nd.lst (List.map en (st128.2.2 ++ [r140]))))]] A154 := by rw [hl155]; exact hc
   refine nx_lp ?_
   exact hN125 _ _ _ h ⟨_,_,rfl,hc⟩
  ·intro hb138 h
   refine u_appS ?_
   refine Pv.wp ?_ (pv_var rfl)
   refine ⟨u_it (hc.at 2 rfl), ?_⟩
   obtain ⟨hS156,h⟩ := h
   refine Pv.wp ?_ (pv_tup (ds := [(D.str x76.2),(D.str (ixG ("":Str) st51 x76.1)),D.non]) (pa_cons' (pv_var rfl) (pa_cons' (pv_op2 (pv_var rfl) (pv_var rfl) (p2_ixG (d0 := ("":Str)) (ItL.toS (il_n (hc.at 1 rfl))) hS156)) (pa_cons' pv_c pa_nil'))))
   obtain ⟨hS157,h⟩ := h
   refine u_app2 (xs := st128.1) (e := en) (v := (⟨x76.2,(ixG ("":Str) st51 x76.1),(none:(Option Str))⟩:(T3 Str Str (Option Str)))) (hc.at 2 rfl) hS157 ?_
   replace hc := hc.put 2 rfl (Nd.lst (List.map en (st128.1 ++ [(⟨x76.2,(ixG ("":Str) st51 x76.1),(none:(Option Str))⟩:(T3 Str Str (Option Str)))])))
   generalize put A136 n70 (Nd.lst (List.map en (st128.1 ++ [(⟨x76.2,(ixG ("":Str) st51 x76.1),(none:(Option Str))⟩:(T3 Str Str (Option Str)))])))=A158 at hc ⊢
   replace hc:Cells A0 [[(n1,(Nd.lst (List.map en st30)))],[(n39,(Nd.lst (List.map en st51)))],[(n70,(Nd.lst (List.map en (st128.1 ++ [(⟨x76.2,(ixG ("":Str) st51 x76.1),(none:(Option Str))⟩:(T3 Str Str (Option Str)))]))))],[(n72,(Nd.lst (List.map en st128.2.1)))],[(n74,(Nd.lst (List.map en st128.2.2)))]] A158 := hc
   obtain ⟨l159,hl159⟩:∃ v:(List (T3 Str Str (Option Str))),v=(st128.1 ++ [(⟨x76.2,(ixG ("":Str) st51 x76.1),(none:(Option Str))⟩:(T3 Str Str (Option Str)))]) := ⟨_,rfl⟩
   replace h := letW_out hl159 h
   replace hc:Cells A0 [[(n1,(Nd.lst (List.map en st30)))],[(n39,(Nd.lst (List.map en st51)))],[(n70,(Nd.lst (List.map en l159)))],[(n72,(Nd.lst (List.map en st128.2.1)))],[(n74,(Nd.lst (List.map en st128.2.2)))]] A158 := by rw [hl159]; exact hc
   refine nx_lp ?_
   exact hN125 _ _ _ h ⟨_,_,rfl,hc⟩
 rintro st160 _ A163 h ⟨j161,j162,rfl,hc⟩
 refine nx_sq ?_
 refine s_sq ?_
 refine u_rngE ?_
 obtain ⟨hS164,h⟩ := h
 refine w_drawA (pa_cons' (pv_var rfl) (pa_cons' (pv_op2 pv_c (pv_cbB (pa_cons' (pv_var rfl) pa_nil') (pb_lenI (ItL.toS (il_n (hc.at 3 rfl))))) p2_subI) pa_nil')) (hc.le _ _ hp) (hS164).1 (dr_small hS164) ?_
 intro r165 h0r165 h1r165
 replace h := h r165 h0r165 h1r165
 obtain ⟨hS166,h⟩ := h
 refine ⟨_,rfl,(hS166).1,(hS166).2, ?_⟩
 rw [intsD_rng]
 refine for_corr (σ := (List (T4 Str Str Str Str)) × (List Str)) (e := en) (fun st207 s208 A209=>∃ (j210 j211 j212:Option D),s208=[some (D.ref n0),some (D.int a1),some (D.ref n1),j210,some (D.ref n39),some (D.lst (List.map en v69)),some (D.ref n70),some (D.ref n72),some (D.ref n74),j162,j211,j212,none]∧Cells A0 [[(n1,(Nd.lst (List.map en st30)))],[(n39,(Nd.lst (List.map en st51)))],[(n70,(Nd.lst (List.map en st160.1)))],[(n72,(Nd.lst (List.map en st207.1)))],[(n74,(Nd.lst (List.map en st207.2)))]] A209) h ⟨_,_,_,rfl,hc⟩ (fun _ _ _ ⟨_,_,_,_,hcP⟩=>True.intro) ?_ ?_
 ·rintro x167 hx167 st206 _ A216 N203 B204 Nm205 h ⟨j213,j214,j215,rfl,hc⟩ hN203 hB204
  refine at_s (s' := [some (D.ref n0),some (D.int a1),some (D.ref n1),some (D.int x167),some (D.ref n39),some (D.lst (List.map en v69)),some (D.ref n70),some (D.ref n72),some (D.ref n74),j162,j214,j215,none]) rfl ?_
  refine s_sq ?_
  refine u_appS ?_
  refine Pv.wp ?_ (pv_var rfl)
  refine ⟨u_it (hc.at 4 rfl), ?_⟩
  obtain ⟨hS217,h⟩ := h
  refine w_callW ?_ (pa_cons' (pv_var rfl) (pa_cons' (pv_var rfl) pa_nil'))
  refine fw_word (hc.le _ _ hp) (il_n (hc.at 4 rfl)) hS217 ?_
  intro r218 hr218
  replace h := h r218 hr218
  obtain ⟨hS219,h⟩ := h
  refine u_app2 (xs := st206.2) (e := en) (v := r218) (hc.at 4 rfl) hS219 ?_
  replace hc := hc.put 4 rfl (Nd.lst (List.map en (st206.2 ++ [r218])))
  generalize put A216 n74 (Nd.lst (List.map en (st206.2 ++ [r218])))=A220 at hc ⊢
  replace hc:Cells A0 [[(n1,(Nd.lst (List.map en st30)))],[(n39,(Nd.lst (List.map en st51)))],[(n70,(Nd.lst (List.map en st160.1)))],[(n72,(Nd.lst (List.map en st206.1)))],[(n74,(Nd.lst (List.map en (st206.2 ++ [r218]))))]] A220 := hc
  refine nx_sq ?_
  refine s_sq ?_
  refine u_setE ?_
  refine w_opW ?_
  refine Pv.wp ?_ (pv_var rfl)
  obtain ⟨hS221,h⟩ := h
  refine w_drawA (pa_cons' (pv_var rfl) (pa_cons' (pv_cbB (pa_cons' (pv_var rfl) pa_nil') (pb_lenI (ItL.toS (il_n (hc.at 0 rfl))))) pa_nil')) (hc.le _ _ hp) (hS221).1 (dr_small hS221) ?_
  intro r222 h0r222 h1r222
  replace h := h r222 h0r222 h1r222
  obtain ⟨hS223,h⟩ := h
  refine P2.wp ?_ (p2_ixG (d0 := ("":Str)) (ItL.toS (il_n (hc.at 0 rfl))) hS223)
  refine at_n (s' := [some (D.ref n0),some (D.int a1),some (D.ref n1),some (D.int x167),some (D.ref n39),some (D.lst (List.map en v69)),some (D.ref n70),some (D.ref n72),some (D.ref n74),j162,some (D.str (ixG ("":Str) st30 r222)),j215,none]) rfl ?_
  refine nx_sq ?_
  refine s_sq ?_
  refine u_setE ?_
  refine w_opW ?_
  refine Pv.wp ?_ (pv_var rfl)
  obtain ⟨hS224,h⟩ := h
  refine w_drawA (pa_cons' (pv_var rfl) (pa_cons' (pv_cbB (pa_cons' (pv_var rfl) pa_nil') (pb_lenI (ItL.toS (il_n (hc.at 0 rfl))))) pa_nil')) (hc.le _ _ hp) (hS224).1 (dr_small hS224) ?_
  intro r225 h0r225 h1r225
  replace h := h r225 h0r225 h1r225
  obtain ⟨hS226,h⟩ := h
  refine P2.wp ?_ (p2_ixG (d0 := ("":Str)) (ItL.toS (il_n (hc.at 0 rfl))) hS226)
  refine at_n (s' := [some (D.ref n0),some (D.int a1),some (D.ref n1),some (D.int x167),some (D.ref n39),some (D.lst (List.map en v69)),some (D.ref n70),some (D.ref n72),some (D.ref n74),j162,some (D.str (ixG ("":Str) st30 r222)),some (D.str (ixG ("":Str) st30 r225)),none]) rfl ?_
  refine nx_sq ?_
  refine u_appS ?_
  refine Pv.wp ?_ (pv_var rfl)
  refine ⟨u_it (hc.at 3 rfl), ?_⟩
  refine w_tupX ?_
  refine w_consX ?_
  obtain ⟨hS227,h⟩ := h
  refine Pv.wp ?_ (pv_op2 (pv_var rfl) (pv_un1 pv_c p1_neg) (p2_ixL (d0 := ("":Str)) (ItL.toS (il_n (hc.at 4 rfl))) hS227))
  refine w_consX ?_
  refine Pv.wp ?_ (pv_var rfl)
  refine w_consX ?_
  refine Pv.wp ?_ (pv_var rfl)
  refine w_consX ?_
  refine w_opW ?_
  refine Pv.wp ?_ (pv_lst (pa_cons' pv_c (pa_cons' pv_c pa_nil')))
  refine w_drawA (pa_cons' (pv_var rfl) (pa_cons' pv_c pa_nil')) (hc.le _ _ hp) (by decide) (by decide) ?_
  intro r228 h0r228 h1r228
  replace h := h r228 h0r228 h1r228
  obtain ⟨hS229,h⟩ := h
  refine P2.wp ?_ (p2_ixG (d0 := ("":Str)) (ItL.toS (il_r (xs := ([("loose":Str),("once":Str)]:List Str)) (e := en) rfl)) hS229)
  refine w_nilX ?_
  refine ⟨sz (Nat.le_of_ble_eq_true rfl), ?_⟩
  obtain ⟨hS230,h⟩ := h
  refine u_app2 (xs := st206.1) (e := en) (v := (⟨((List.getLast? (st206.2 ++ [r218])).getD ("":Str)),(ixG ("":Str) st30 r222),(ixG ("":Str) st30 r225),(ixG ("":Str) ([("loose":Str),("once":Str)]:List Str) r228)⟩:(T4 Str Str Str Str))) (hc.at 3 rfl) hS230 ?_
  replace hc := hc.put 3 rfl (Nd.lst (List.map en (st206.1 ++ [(⟨((List.getLast? (st206.2 ++ [r218])).getD ("":Str)),(ixG ("":Str) st30 r222),(ixG ("":Str) st30 r225),(ixG ("":Str) ([("loose":Str),("once":Str)]:List Str) r228)⟩:(T4 Str Str Str Str))])))
  generalize put A220 n72 (Nd.lst (List.map en (st206.1 ++ [(⟨((List.getLast? (st206.2 ++ [r218])).getD ("":Str)),(ixG ("":Str) st30 r222),(ixG ("":Str) st30 r225),(ixG ("":Str) ([("loose":Str),("once":Str)]:List Str) r228)⟩:(T4 Str Str Str Str))])))=A231 at hc ⊢
  replace hc:Cells A0 [[(n1,(Nd.lst (List.map en st30)))],[(n39,(Nd.lst (List.map en st51)))],[(n70,(Nd.lst (List.map en st160.1)))],[(n72,(Nd.lst (List.map en (st206.1 ++ [(⟨((List.getLast? (st206.2 ++ [r218])).getD ("":Str)),(ixG ("":Str) st30 r222),(ixG ("":Str) st30 r225),(ixG ("":Str) ([("loose":Str),("once":Str)]:List Str) r228)⟩:(T4 Str Str Str Str))]))))],[(n74,(Nd.lst (List.map en (st206.2 ++ [r218]))))]] A231 := hc
  obtain ⟨l232,hl232⟩:∃ v:(List (T4 Str Str Str Str)),v=(st206.1 ++ [(⟨((List.getLast? (st206.2 ++ [r218])).getD ("":Str)),(ixG ("":Str) st30 r222),(ixG ("":Str) st30 r225),(ixG ("":Str) ([("loose":Str),("once":Str)]:List Str) r228)⟩:(T4 Str Str Str Str))]) := ⟨_,rfl⟩
  replace h := letW_out hl232 h
  replace hc:Cells A0 [[(n1,(Nd.lst (List.map en st30)))],[(n39,(Nd.lst (List.map en st51)))],[(n70,(Nd.lst (List.map en st160.1)))],[(n72,(Nd.lst (List.map en l232)))],[(n74,(Nd.lst (List.map en (st206.2 ++ [r218]))))]] A231 := by rw [hl232]; exact hc
  refine nx_lp ?_
  exact hN203 _ _ _ h ⟨_,_,_,rfl,hc⟩
 rintro st233 _ A237 h ⟨j234,j235,j236,rfl,hc⟩
 refine nx_sq ?_
 refine s_sq ?_
 refine u_setE ?_
 obtain ⟨hS238,h⟩ := h
 refine w_drawA (pa_cons' (pv_var rfl) (pa_cons' (pv_op2 (pv_cbB (pa_cons' (pv_var rfl) pa_nil') (pb_lenI (ItL.toS (il_n (hc.at 3 rfl))))) pv_c p2_addI) pa_nil')) (hc.le _ _ hp) (hS238).1 (dr_small hS238) ?_
 intro r239 h0r239 h1r239
 replace h := h r239 h0r239 h1r239
 refine at_n (s' := [some (D.ref n0),some (D.int a1),some (D.ref n1),j234,some (D.ref n39),some (D.lst (List.map en v69)),some (D.ref n70),some (D.ref n72),some (D.ref n74),j162,j235,j236,some (D.int r239)]) rfl ?_
 refine nx_sq ?_
 refine u_retE ?_
 refine w_tupX ?_
 refine w_consX ?_
 refine w_fzL (n := n70) rfl (hc.at 2 rfl) ?_
 replace hc := hc.cut 2 rfl
 generalize rem A237 n70=A240 at hc ⊢
 refine w_consX ?_
 obtain ⟨hS241,h⟩ := h
 refine Pv.wp ?_ (pv_op2 (pv_slG (pv_var rfl) (po_so (pv_var rfl)) po_no (il_n (hc.at 2 rfl))) (pv_slG (pv_var rfl) po_no (po_so (pv_var rfl)) (il_n (hc.at 2 rfl))) (p2_addLI il_l il_l hS241))
 refine w_nilX ?_
 refine ⟨sz (Nat.le_of_ble_eq_true rfl), ?_⟩
 refine u_rt hc ?_
 exact hQ _ h
end Lw
namespace Lw
open PySem PySem.Spec PyProof.Rows L2 Am
open PySem.W (Datum Tup T3 T4)
section
variable {α β:Type} {xs ys:List α} {d a:α} {i:Int}
theorem ixG_at (h:0≤i∧i < (xs.length:Int)):xs[i.toNat]? = some (ixG d xs i) := by
 have:i.toNat < xs.length := by omega
 unfold ixG
 rw [List.getElem?_eq_getElem this]
 rfl
theorem ixG_mem (h:0≤i∧i < (xs.length:Int)):ixG d xs i∈xs := List.mem_of_getElem? (ixG_at h)
theorem ixG_eq (h:xs[i.toNat]? = some a):ixG d xs i=a := by unfold ixG; rw [h]; rfl
theorem enu_mem {p:Int × α} (h:p∈enu xs):0≤p.1∧p.1 < (xs.length:Int)∧xs[p.1.toNat]? = some p.2 := by
 unfold enu at h
 obtain ⟨q,hq,e⟩ := List.mem_map.mp h
 have := List.mem_zipIdx_iff_getElem?.mp hq
 subst e
 have hl := (List.getElem?_eq_some_iff.mp this).1
 refine ⟨by simp,by simp; omega,by simpa using this⟩
theorem enu_len:(enu xs).length=xs.length := by unfold enu; simp
theorem enu_pre {pre post:List (Int × α)} {x:Int × α} (h:enu xs=pre ++ x :: post):x.1=(pre.length:Int)∧xs[pre.length]? = some x.2∧pre=enu (xs.take pre.length) := by
 have hx:(enu xs)[pre.length]? = some x := by rw [h]; simp
 unfold enu at hx
 rw [List.getElem?_map,List.getElem?_zipIdx] at hx
 cases e:xs[pre.length]? with
 | none=>rw [e] at hx; cases hx
 | some y =>
  rw [e] at hx
  simp at hx
  subst hx
  refine ⟨by simp,rfl, ?_⟩
  have h2:pre=(enu xs).take pre.length := by rw [h]; simp
  conv=>lhs; rw [h2]
  unfold enu
  rw [← List.map_take]
  congr 1
  apply List.ext_getElem?
  intro j
  rw [List.getElem?_take,List.getElem?_zipIdx,List.getElem?_zipIdx,List.getElem?_take]
  split
  ·rfl
  ·rfl
theorem rng_len {j:Int}:(rng j).length=j.toNat := by unfold rng; simp
theorem rng_pre {j x:Int} {pre post:List Int} (h:rng j=pre ++ x :: post):x=(pre.length:Int)∧(pre.length:Int) < j := by
 have hx:(rng j)[pre.length]? = some x := by rw [h]; simp
 have hl:pre.length < (rng j).length := by rw [h]; simp
 rw [rng_len] at hl
 unfold rng at hx
 rw [List.getElem?_map,List.getElem?_range hl] at hx
 simp at hx
 exact ⟨hx.symm,by omega⟩
theorem cutL_to {n:Int} (h:0≤n):cutL xs none (some n)=xs.take n.toNat := by
 obtain ⟨k,rfl⟩:∃ k:Nat,n=k := ⟨n.toNat,by omega⟩
 unfold cutL
 rw [HT.sIx_none,HT.sIx_nat,List.drop_zero,Nat.sub_zero,Int.toNat_natCast]
 by_cases h:k≤xs.length
 ·rw [Nat.min_eq_left h]
 ·rw [Nat.min_eq_right (by omega),List.take_of_length_le (Nat.le_refl _),List.take_of_length_le (by omega)]
theorem cutL_from {n:Int} (h:0≤n):cutL xs (some n) none=xs.drop n.toNat := by
 obtain ⟨k,rfl⟩:∃ k:Nat,n=k := ⟨n.toNat,by omega⟩
 unfold cutL
 rw [HT.sIx_none,HT.sIx_nat,Int.toNat_natCast]
 by_cases h:k≤xs.length
 ·rw [Nat.min_eq_left h,List.take_of_length_le (by rw [List.length_drop]; exact Nat.le_refl _)]
 ·rw [Nat.min_eq_right (by omega),List.drop_of_length_le (Nat.le_refl _),List.drop_of_length_le (by omega)]; simp
theorem getLast_app {x:α}:((xs ++ [x]).getLast?).getD d=x := by simp
theorem mem_set_or {x y:α} {j:Nat} (h:y∈xs.set j x):y=x∨y∈xs := by
 rcases List.mem_or_eq_of_mem_set h with h | h
 ·exact .inr h
 ·exact .inl h
end
theorem paired_map {α:Type} {P:α→Prop} {ι:Type}:∀ {is:List ι} {ys:List α},Paired (fun _ y=>P y) is ys→ys.length=is.length∧∀ y∈ys,P y
 | _,_, .nil=>⟨rfl,fun _ h=>nomatch h⟩
 | _,_, .cons h r=>by
  obtain ⟨h1,h2⟩ := paired_map r
  exact ⟨by simp [h1],fun y hy=>by
   rcases List.mem_cons.mp hy with e | hy
   ·rw [e]; exact h
   ·exact h2 y hy⟩
theorem three_lit {r:Int} {a b c d:Str} (h0:0≤r) (h1:r < 3):ixG d [a,b,c] r=a∨ixG d [a,b,c] r=b∨ixG d [a,b,c] r=c := by
 have:r=0∨r=1∨r=2 := by omega
 rcases this with e | e | e <;> subst e
 ·exact .inl rfl
 ·exact .inr (.inl rfl)
 ·exact .inr (.inr rfl)
theorem two_lit {r:Int} {a b d:Str} (h0:0≤r) (h1:r < 2):ixG d [a,b] r=a∨ixG d [a,b] r=b := by
 have:r=0∨r=1 := by omega
 rcases this with e | e <;> subst e
 ·exact .inl rfl
 ·exact .inr rfl
end Lw
namespace Lw
open PySem PySem.Spec PyProof.Rows L2 Am
open PySem.W (Datum Tup T3 T4)
section
variable {ks:List Kd} {ls ls':List Lk}
def okRule (k:Kd):Prop := (k.b = "under" ∧ ∃ o,k.c=some o)∨((k.b = "loose" ∨ k.b = "once")∧k.c=none)
structure Sch (ks:List Kd) (ls:List Lk):Prop where
 nd:(ks.map (·.a) ++ ls.map (·.a)).Nodup
 kw:∀ k∈ks,isW k.a=true
 kr:∀ k∈ks,okRule k
 lw:∀ l∈ls,isW l.a=true∧l.b∈ks.map (·.a)∧l.c∈ks.map (·.a)∧(l.d = "loose" ∨ l.d = "once")
 ow:∀ k∈ks,∀ o,k.c=some o→∃ l∈ls,l.a=o∧l.c=k.a∧∃ h∈ks,h.a=l.b∧h.b ≠ "under"
 k1:1≤ks.length
 k4:ks.length≤4
 l6:ls.length≤6
theorem sch_perm (g:Sch ks ls) (h:ls'.Perm ls):Sch ks ls' where
 nd := ((List.Perm.refl (ks.map (·.a))).append (h.map (·.a))).nodup_iff.mpr g.nd
 kw := g.kw
 kr := g.kr
 lw := fun l hl=>g.lw l (h.mem_iff.mp hl)
 ow := fun k hk o ho=>by
  obtain ⟨l,hl,r⟩ := g.ow k hk o ho
  exact ⟨l,h.mem_iff.mpr hl,r⟩
 k1 := g.k1
 k4 := g.k4
 l6 := by rw [h.length_eq]; exact g.l6
theorem turn_perm (ls:List Lk) (n:Nat):(ls.drop n ++ ls.take n).Perm ls := by
 have := List.perm_append_comm (l₁ := ls.drop n) (l₂ := ls.take n)
 rw [List.take_append_drop] at this
 exact this
end
def R3 (y:Str):Prop := y = "loose" ∨ y = "once" ∨ y = "under"
theorem nodup_snoc {α:Type} {xs:List α} {x:α} (h:xs.Nodup) (n:x ∉ xs):(xs ++ [x]).Nodup := by
 rw [List.nodup_append]
 refine ⟨h,by simp,fun a ha b hb=>?_⟩
 rw [List.mem_singleton.mp hb]
 exact fun e=>n (e ▸ ha)
theorem take_succ' {α:Type} {xs:List α} {i:Nat} {x:α} (h:xs[i]? = some x):xs.take (i + 1)=xs.take i ++ [x] := by rw [List.take_succ,h]; rfl
structure St2 (ns rs hs:List Str) (i:Nat) (ks:List Kd) (ls:List Lk) (us:List Str):Prop where
 ka:ks.map (·.a)=ns.take i
 eu:us=ns ++ ls.map (·.a)
 nd:us.Nodup
 ll:ls.length≤i
 lw:∀ l∈ls,isW l.a=true∧l.b∈hs∧l.c∈ns∧(l.d = "loose" ∨ l.d = "once")
 kr:∀ k∈ks,okRule k
 ko:∀ k∈ks,∀ o,k.c=some o→∃ l∈ls,l.a=o∧l.c=k.a∧l.b∈hs
 kb:ks.map (·.b)=rs.take i
theorem spec_schema {m:Int} (hm:1≤m∧m≤4) {Q:(List Kd × List Lk)→Prop} {E:Exv→Prop} (q:∀ ks ls,Sch ks ls→Q (ks,ls)):W_law_schema m Q E := by
 unfold W_law_schema
 refine ⟨by omega,fun r h0 h1=>⟨by omega, ?_⟩⟩
 refine forW_inv (fun pre (ns:List Str)=>ns.length=pre.length∧ns.Nodup∧∀ w∈ns,isW w=true) ⟨rfl, .nil,fun _ h=>nomatch h⟩ (fun pre x post ns N e ⟨j1,j2,j3⟩ hN=>?_) (fun ns ⟨j1,j2,j3⟩=>?_)
 ·obtain ⟨_,hl⟩ := rng_pre e
  exact ⟨by omega,fun w ⟨w1,w2⟩=>⟨Sz.of (by omega),hN _ ⟨by simp [j1],nodup_snoc j2 w2,fun v hv=>by
   rcases List.mem_append.mp hv with h | h
   ·exact j3 v h
   ·rw [List.mem_singleton.mp h]; exact w1⟩⟩⟩
 rw [rng_len] at j1
 have n1:1≤ns.length := by omega
 have n4:ns.length≤4 := by omega
 refine ⟨Sz.of (by omega),lcW_all (fun _ y=>R3 y) (fun x hx N hN s0 s1 s2=>⟨⟨s1,by simpa using s2⟩,hN _ (three_lit s1 s2)⟩) fun ys hys=>?_⟩
 obtain ⟨yl,yr⟩ := paired_map hys
 clear hys
 refine joinW_by (J := fun rs:List Str=>rs.length=ns.length∧(∀ y∈rs,R3 y)∧∃ y∈rs,y ≠ "under") (fun rs ⟨k1,k2,k3⟩=>?_) (fun N hN=>?_)
 rotate_left
 ·split
  ·intro s0 s1 s2
   refine ⟨⟨s1,by simpa using s2⟩,by omega,fun t t0 t1=>⟨⟨t0,t1⟩,letW_in fun v hv=>hN v ?_⟩⟩
   have hz:ixG ("":Str) ["loose","once"] s0 = "loose" ∨ ixG ("":Str) ["loose","once"] s0 = "once" := two_lit s1 s2
   subst hv
   refine ⟨by simpa using yl,fun y hy=>?_,ixG ("":Str) ["loose","once"] s0, ?_, ?_⟩
   ·rcases mem_set_or hy with e | h
    ·rw [e]; rcases hz with e | e <;> rw [e]
     ·exact .inl rfl
     ·exact .inr (.inl rfl)
    ·exact yr y h
   ·exact List.mem_set (by omega) _
   ·rcases hz with e | e <;> rw [e] <;> decide +kernel
  ·rename_i hno
   refine hN ys ⟨yl,yr, ?_⟩
   simp only [Bool.and_eq_true,Bool.not_eq_true',inB_no,not_and,Classical.not_not] at hno
   by_cases hm:("loose":Str)∈ys
   ·exact ⟨_,hm,by decide +kernel⟩
   ·exact ⟨_,hno hm,by decide +kernel⟩
 refine ⟨⟨fun x hx=>?_,Sz.of (by rw [enu_len]; omega)⟩,letW_in fun hs ehs=>?_⟩
 ·obtain ⟨e1,e2,_⟩ := enu_mem hx
  omega
 have hsn:∀ h∈hs,∃ i:Nat,ns[i]? = some h∧∃ y,rs[i]? = some y∧y ≠ "under" := fun h hh=>by
  rw [ehs] at hh
  obtain ⟨p,hp,e⟩ := List.mem_map.mp hh
  obtain ⟨hp,hq⟩ := List.mem_filter.mp hp
  obtain ⟨e1,e2,e3⟩ := enu_mem hp
  subst e
  refine ⟨_,e3,_,ixG_at (xs := rs) (d := ("":Str)) ⟨e1,by omega⟩, ?_⟩
  simpa [eqB] using hq
 have hs1:0 < hs.length := by
  obtain ⟨y,hy,hyn⟩ := k3
  obtain ⟨i,hi,ei⟩ := List.getElem_of_mem hy
  have hin:i < ns.length := by omega
  have:ns[i]∈hs := by
   rw [ehs]
   refine List.mem_map.mpr ⟨((i:Int),ns[i]),List.mem_filter.mpr ⟨?_, ?_⟩,rfl⟩
   ·unfold enu
    exact List.mem_map.mpr ⟨(ns[i],i),List.mem_zipIdx_iff_getElem?.mpr (List.getElem?_eq_getElem hin),rfl⟩
   ·have:ixG ("":Str) rs (i:Int)=y := ixG_eq (by simpa using (List.getElem?_eq_getElem hi).trans (congrArg some ei))
    simp only [this,Bool.not_eq_true',eqB_no]
    exact hyn
  exact List.length_pos_of_mem this
 have hs4:hs.length≤4 := by
  rw [ehs,List.length_map]
  exact Nat.le_trans (List.length_filter_le _ _) (by rw [enu_len]; exact n4)
 clear ehs k3
 refine forW_inv (fun pre (st:List Kd × List Lk × List Str)=>St2 ns rs hs pre.length st.1 st.2.1 st.2.2) ⟨rfl,by simp,j2,Nat.le_refl _,fun _ h=>(nomatch h),fun _ h=>(nomatch h),fun _ h=>(nomatch h),rfl⟩ (fun pre x post st N e g hN=>?_) (fun st g=>?_)
 ·obtain ⟨ks,ls,us⟩ := st
  obtain ⟨ex,ea,_⟩ := enu_pre e
  have hi := (List.getElem?_eq_some_iff.mp ea).1
  have hb:0≤x.1∧x.1 < (rs.length:Int) := by omega
  have er:rs[pre.length]? = some (ixG ("":Str) rs x.1) := by rw [show pre.length=x.1.toNat by omega]; exact ixG_at hb
  have hR:R3 (ixG ("":Str) rs x.1) := k2 _ (ixG_mem hb)
  have hkl:ks.length=pre.length := by have := congrArg List.length g.ka; simpa [Nat.min_eq_left (Nat.le_of_lt hi)] using this
  have hlen:(pre ++ [x]).length=pre.length + 1 := by simp
  refine ⟨hb, ?_⟩
  dsimp only at g ⊢
  have ul:us.length < 26 := by rw [g.eu,List.length_append,List.length_map]; have := g.ll; omega
  have lll := g.ll
  split
  ·rename_i hu
   have hu := eqB_iff.mp hu
   refine ⟨ul,fun w ⟨w1,w2⟩=>⟨Sz.of (by omega),by simp,by omega,fun t t0 t1=>⟨⟨t0,t1⟩,fun z z0 z1=>⟨⟨z0,by simpa using z1⟩,Sz.of (by omega),letW_in fun l1 e1=>⟨by simp,Sz.of (by omega),letW_in fun l2 e2=>hN _ ?_⟩⟩⟩⟩⟩
   subst e1 e2
   have hm:ixG ("":Str) hs t∈hs := ixG_mem ⟨t0,t1⟩
   rw [hlen]
   simp only [getLast_app]
   refine ⟨?_, ?_,nodup_snoc g.nd w2, ?_, ?_, ?_, ?_, ?_⟩
   ·simp only [List.map_append,List.map_cons,List.map_nil]
    rw [g.ka,take_succ' ea]
   ·simp only [List.map_append,List.map_cons,List.map_nil]
    rw [g.eu,List.append_assoc]
   ·simp; omega
   ·intro l hl
    rcases List.mem_append.mp hl with h | h
    ·exact g.lw l h
    ·rw [List.mem_singleton.mp h]
     exact ⟨w1,hm,List.mem_of_getElem? ea,two_lit z0 z1⟩
   ·intro k hk
    rcases List.mem_append.mp hk with h | h
    ·exact g.kr k h
    ·rw [List.mem_singleton.mp h]
     exact .inl ⟨rfl,_,rfl⟩
   ·intro k hk o ho
    rcases List.mem_append.mp hk with h | h
    ·obtain ⟨l,hl,r⟩ := g.ko k h o ho
     exact ⟨l,List.mem_append.mpr (.inl hl),r⟩
    ·rw [List.mem_singleton.mp h] at ho ⊢
     refine ⟨_,List.mem_append.mpr (.inr (List.mem_singleton.mpr rfl)),Option.some.inj ho,rfl,hm⟩
   ·simp only [List.map_append,List.map_cons,List.map_nil]
    rw [g.kb,take_succ' er,hu]
  ·rename_i hu
   have hu:ixG ("":Str) rs x.1 ≠ "under" := fun e=>hu (eqB_iff.mpr e)
   refine ⟨hb,Sz.of (by omega),letW_in fun l2 e2=>hN _ ?_⟩
   subst e2
   rw [hlen]
   refine ⟨?_,g.eu,g.nd,(by show ls.length≤_; omega),g.lw, ?_, ?_, ?_⟩
   ·simp only [List.map_append,List.map_cons,List.map_nil]
    rw [g.ka,take_succ' ea]
   ·intro k hk
    rcases List.mem_append.mp hk with h | h
    ·exact g.kr k h
    ·rw [List.mem_singleton.mp h]
     refine .inr ⟨?_,rfl⟩
     rcases hR with e | e | e
     ·exact .inl e
     ·exact .inr e
     ·exact absurd e hu
   ·intro k hk o ho
    rcases List.mem_append.mp hk with h | h
    ·exact g.ko k h o ho
    ·rw [List.mem_singleton.mp h] at ho; cases ho
   ·simp only [List.map_append,List.map_cons,List.map_nil]
    rw [g.kb,take_succ' er]
 obtain ⟨ks,l0,u0⟩ := st
 dsimp only at g ⊢
 rw [enu_len] at g
 have gka:ks.map (·.a)=ns := by rw [g.ka,List.take_length]
 have hkl:ks.length=ns.length := by rw [← gka,List.length_map]
 have l4 := g.ll
 have hkb:ks.map (·.b)=rs := by rw [g.kb,← k1,List.take_length]
 have hhd:∀ h∈hs,∃ k∈ks,k.a=h∧k.b ≠ "under" := fun h hh=>by
  obtain ⟨i,e1,y,e2,e3⟩ := hsn h hh
  rw [← gka,List.getElem?_map] at e1
  rw [← hkb,List.getElem?_map] at e2
  obtain ⟨k,hk,ek⟩ := Option.map_eq_some_iff.mp e1
  rw [hk] at e2
  exact ⟨k,List.mem_of_getElem? hk,ek,by rw [show k.b=y from Option.some.inj e2]; exact e3⟩
 have hsub:∀ h∈hs,h∈ns := fun h hh=>by
  obtain ⟨i,e1,_⟩ := hsn h hh
  exact List.mem_of_getElem? e1
 refine ⟨by omega,fun m m0 m1=>⟨by omega, ?_⟩⟩
 refine forW_inv (fun pre (st:List Lk × List Str)=>st.2=ns ++ st.1.map (·.a)∧st.2.Nodup∧st.1.length=l0.length + pre.length∧(∀ l∈l0,l∈st.1)∧∀ l∈st.1,isW l.a=true∧l.b∈ns∧l.c∈ns∧(l.d = "loose" ∨ l.d = "once")) ⟨g.eu,g.nd,by simp,fun l h=>h,fun l hl=>?_⟩ (fun pre x post st N e ⟨a1,a2,a3,a4,a5⟩ hN=>?_) (fun st ⟨a1,a2,a3,a4,a5⟩=>?_)
 ·obtain ⟨b1,b2,b3,b4⟩ := g.lw l hl
  exact ⟨b1,hsub _ b2,b3,b4⟩
 ·obtain ⟨ls,us⟩ := st
  obtain ⟨_,hl⟩ := rng_pre e
  dsimp only at a1 a2 a3 a4 a5 ⊢
  have ul:us.length < 26 := by rw [a1,List.length_append,List.length_map]; omega
  refine ⟨ul,fun w ⟨w1,w2⟩=>⟨Sz.of (by omega),by omega,fun s s0 s1=>⟨⟨s0,s1⟩,by omega,fun t t0 t1=>⟨⟨t0,t1⟩,by simp,fun z z0 z1=>⟨⟨z0,by simpa using z1⟩,Sz.of (by omega),letW_in fun l1 e1=>hN _ ?_⟩⟩⟩⟩⟩
  subst e1
  simp only [getLast_app]
  refine ⟨?_,nodup_snoc a2 w2, ?_,fun l hl=>List.mem_append.mpr (.inl (a4 l hl)),fun l hl=>?_⟩
  ·simp only [List.map_append,List.map_cons,List.map_nil]
   rw [a1,List.append_assoc]
  ·simp; omega
  ·rcases List.mem_append.mp hl with h | h
   ·exact a5 l h
   ·rw [List.mem_singleton.mp h]
    exact ⟨w1,ixG_mem ⟨s0,s1⟩,ixG_mem ⟨t0,t1⟩,two_lit z0 z1⟩
 obtain ⟨ls,us⟩ := st
 dsimp only at a1 a2 a3 a4 a5 ⊢
 rw [rng_len] at a3
 have hl6:ls.length≤6 := by omega
 refine ⟨by omega,fun t t0 t1=>?_⟩
 rw [cutL_from t0,cutL_to t0]
 refine ⟨Sz.of (by rw [List.length_drop,List.length_take]; omega),q _ _ (sch_perm ?_ (turn_perm ls _))⟩
 refine ⟨by rw [gka,← a1]; exact a2,fun k hk=>j3 _ (by rw [← gka]; exact List.mem_map.mpr ⟨k,hk,rfl⟩),g.kr,fun l hl=>by rw [gka]; exact a5 l hl,fun k hk o ho=>?_,by omega,by omega,hl6⟩
 obtain ⟨l,hl,c1,c2,c3⟩ := g.ko k hk o ho
 obtain ⟨h,hh,c4,c5⟩ := hhd _ c3
 exact ⟨l,a4 l hl,c1,c2,h,hh,c4,c5⟩
end Lw
namespace Lw
open PySem PySem.Spec PyProof.Rows L2 Am
open PySem.W (Datum Tup T3 T4)
section
variable {α β κ:Type} [DecidableEq κ]
def enuF:Int→List α→List (Int × α)
 | _,[]=>[]
 | i,x :: xs=>(i,x) :: enuF (i + 1) xs
theorem enuF_zip:∀ (xs:List α) (n:Nat),enuF (n:Int) xs=(xs.zipIdx n).map fun p=>((p.2:Int),p.1)
 | [],_=>rfl
 | x :: xs,n=>by
  rw [enuF,List.zipIdx_cons,List.map_cons,← enuF_zip xs (n + 1)]
  rfl
theorem enu_eq (xs:List α):enu xs=enuF 0 xs := by
 have := enuF_zip xs 0
 exact this.symm
theorem dcA_fold {g:α→κ} {v:α→β}:∀ {xs:List α} {acc:List (κ × β)},(acc.map (·.1) ++ xs.map g).Nodup→xs.foldl (fun acc x=>putA acc (g x) (v x)) acc=acc ++ xs.map fun x=>(g x,v x)
 | [],acc,_=>by simp
 | x :: xs,acc,h=>by
  rw [List.foldl_cons]
  have hx:g x ∉ acc.map (·.1) := fun e=>(List.nodup_append.mp h).2.2 _ e _ (List.mem_cons_self ..) rfl
  rw [putA_new hx,dcA_fold (by simpa using h)]
  simp
theorem dcA_nodup {g:α→κ} {v:α→β} {xs:List α} (h:(xs.map g).Nodup):dcA g v (fun _=>true) xs=xs.map fun x=>(g x,v x) := by
 unfold dcA
 rw [List.filter_eq_self.mpr (fun _ _=>rfl),dcA_fold (by simpa using h)]
 rfl
theorem valA_map {g:α→κ} {v:α→β} {xs:List α} {k:κ}:valA (xs.map fun x=>(g x,v x)) k=(xs.find? fun x=>decide (g x=k)).map v := by
 unfold valA
 rw [List.find?_map,Option.map_map]
 rfl
theorem valA_some {l:List (κ × β)} {k:κ}:(valA l k).isSome=true↔k∈l.map (·.1) := by
 cases e:valA l k with
 | none=>simp [valA_none.mp e]
 | some v =>
  simp only [Option.isSome_some,true_iff]
  exact Classical.byContradiction fun h=>by rw [valA_none.mpr h] at e; cases e
end
def badK (kn:List Str) (k:Kd):Bool := (!isW k.a || inB k.a kn) || (!inB k.b [("loose":Str),("once":Str),("under":Str)] || !eqB k.c.isNone (!eqB k.b ("under":Str)))
def badL (ns kn:List Str) (l:Lk):Bool := (!isW l.a || (inB l.a kn || !inB l.d [("loose":Str),("once":Str)])) || (!inB l.b ns || !inB l.c ns)
def cnK:List Kd→Int→List Str→Int ⊕ List Str
 | [],_,kn=>.inr kn
 | k :: ks,i,kn=>if badK kn k=true then .inl i else cnK ks (i + 1) (kn ++ [k.a])
def cnL (ns:List Str):List Lk→Int→List Str→Option Int
 | [],_,_=>none
 | l :: ls,i,kn=>if badL ns kn l=true then some i else cnL ns ls (i + 1) (kn ++ [l.a])
def cn (ks:List Kd) (ls:List Lk):Option Int := match cnK ks 0 [] with
 | .inl i=>some i
 | .inr kn=>cnL kn ls ks.length kn
def starts (ls:List Lk) (k:Kd):List Str := (ls.filter fun l=>eqB (some l.a) k.c && eqB l.c k.a).map (·.b)
def badO (ks:List Kd) (ls:List Lk) (k:Kd):Bool := eqB k.b ("under":Str) && (match starts ls k with
 | []=>true
 | z :: _=>eqB (((ks.find? fun h:Kd=>decide (h.a=z)).map (fun h:Kd=>h.b)).getD ("":Str)) ("under":Str))
def co (ks:List Kd) (ls:List Lk):List Kd→Int→Option Int
 | [],_=>none
 | k :: r,i=>if badO ks ls k=true then some i else co ks ls r (i + 1)
section
variable {ks:List Kd} {ls:List Lk}
theorem w_names {Q:Unit→Prop} {E:Exv→Prop} (hk:∀ k∈ks,k.a.length≤1000) (hl:∀ l∈ls,l.a.length≤1000) (hz:ks.length + ls.length≤1000) (h:match cn ks ls with
  | some i=>E (.badSchema (some i))
  | none=>Q ()):W_check_names ks ls Q E := by
 unfold W_check_names
 rw [enu_eq,enu_eq]
 unfold cn at h
 have main:∀ (r:List Kd) (i:Int) (kn:List Str),(∀ k∈r,k.a.length≤1000)→kn.length + r.length≤1000→∀ K:List Str→Prop,(match cnK r i kn with
   | .inl j=>E (.badSchema (some j))
   | .inr kn=>K kn)→forW (enuF i r) kn (fun (x3:Int × Kd) (st25:List Str) N22 (B23:List Str→Prop)=>x3.2.a.length≤1000∧if (!isW x3.2.a || inB x3.2.a st25)=true then E (Exv.badSchema (some x3.1)) else if (!inB x3.2.b [("loose":Str),"once","under"] || !eqB x3.2.c.isNone (!eqB x3.2.b ("under":Str)))=true then E (Exv.badSchema (some x3.1)) else Sz (st25.length + 1)∧N22 (st25 ++ [x3.2.a])) K := by
  intro r
  induction r with
  | nil=>intro i kn _ _ K h; exact h
  | cons k r ih =>
   intro i kn hw hz K h
   unfold cnK badK at h
   refine ⟨hw k (List.mem_cons_self ..), ?_⟩
   dsimp only
   split
   ·rename_i c
    rw [c] at h
    exact h
   ·rename_i c
    rw [Bool.not_eq_true] at c
    rw [c,Bool.false_or] at h
    split
    ·rename_i c2
     rw [c2] at h
     exact h
    ·rename_i c2
     rw [if_neg c2] at h
     simp only [List.length_cons] at hz
     exact ⟨Sz.of (by omega),ih _ _ (fun k hk=>hw k (List.mem_cons_of_mem _ hk)) (by simp; omega) K h⟩
 refine main ks 0 [] hk (by simp; omega) _ ?_
 cases e:cnK ks 0 [] with
 | inl i=>rw [e] at h; exact h
 | inr ns =>
  rw [e] at h
  dsimp only at h ⊢
  have nl:∀ (r:List Kd) (i:Int) (kn ns:List Str),cnK r i kn = .inr ns→ns.length=kn.length + r.length := by
   intro r
   induction r with
   | nil=>intro i kn ns e; cases e; rfl
   | cons k r ih =>
    intro i kn ns e
    unfold cnK at e
    split at e
    ·cases e
    ·have := ih _ _ _ e
     simp at this ⊢
     omega
  have hns := nl _ _ _ _ e
  simp at hns
  have main2:∀ (r:List Lk) (i:Int) (kn:List Str),(∀ k∈r,k.a.length≤1000)→kn.length + r.length≤1000→(match cnL ns r (ks.length + i) kn with
    | some j=>E (.badSchema (some j))
    | none=>Q ())→forW (enuF i r) kn (fun (x51:Int × Lk) (st76:List Str) N73 (B74:List Str→Prop)=>x51.2.a.length≤1000∧if (!isW x51.2.a || (inB x51.2.a st76 || !inB x51.2.d [("loose":Str),"once"]))=true then E (Exv.badSchema (some (↑ks.length + x51.1))) else if (!inB x51.2.b ns || !inB x51.2.c ns)=true then E (Exv.badSchema (some (↑ks.length + x51.1))) else Sz (st76.length + 1)∧N73 (st76 ++ [x51.2.a])) fun _=>Q () := by
   intro r
   induction r with
   | nil=>intro i kn _ _ h; exact h
   | cons k r ih =>
    intro i kn hw hz h
    unfold cnL badL at h
    refine ⟨hw k (List.mem_cons_self ..), ?_⟩
    dsimp only
    split
    ·rename_i c
     rw [c] at h
     exact h
    ·rename_i c
     rw [Bool.not_eq_true] at c
     rw [c,Bool.false_or] at h
     split
     ·rename_i c2
      rw [c2] at h
      exact h
     ·rename_i c2
      rw [if_neg c2] at h
      simp only [List.length_cons] at hz
      exact ⟨Sz.of (by omega),ih _ _ (fun k hk=>hw k (List.mem_cons_of_mem _ hk)) (by simp; omega) (by rw [Int.add_assoc] at h; exact h)⟩
  refine main2 ls 0 ns hl (by omega) (by rw [Int.add_zero]; exact h)
theorem cnK_ok:∀ {r:List Kd} {i:Int} {kn ns:List Str},cnK r i kn = .inr ns→ns=kn ++ r.map (·.a)∧(kn.Nodup→ns.Nodup)∧∀ k∈r,isW k.a=true∧okRule k
 | [],_,_,_,e=>by cases e; exact ⟨by simp,id,fun _ h=>nomatch h⟩
 | k :: r,i,kn,ns,e=>by
  unfold cnK at e
  split at e
  ·cases e
  ·rename_i c
   obtain ⟨h1,h2,h3⟩ := cnK_ok e
   have c := Bool.eq_false_iff.mpr c
   unfold badK at c
   simp only [Bool.or_eq_false_iff,Bool.not_eq_false',inB_no,inB_iff,eqB_iff,List.mem_cons,List.not_mem_nil,or_false] at c
   obtain ⟨⟨c1,c2⟩,c3,c4⟩ := c
   refine ⟨by rw [h1]; simp,fun h=>h2 (nodup_snoc h c2),fun m hm=>?_⟩
   rcases List.mem_cons.mp hm with e | hm
   ·rw [e]
    refine ⟨c1, ?_⟩
    cases hc:k.c with
    | none =>
     rw [hc] at c4
     have:k.b ≠ "under" := fun e2=>by rw [e2] at c4; exact absurd c4 (by decide +kernel)
     rcases c3 with e2 | e2 | e2
     ·exact .inr ⟨.inl e2,hc⟩
     ·exact .inr ⟨.inr e2,hc⟩
     ·exact absurd e2 this
    | some o =>
     rw [hc] at c4
     have:k.b = "under" := eqB_iff.mp (by simpa using c4)
     exact .inl ⟨this,o,hc⟩
   ·exact h3 m hm
theorem cnL_ok {ns:List Str}:∀ {r:List Lk} {i:Int} {kn:List Str},cnL ns r i kn=none→(kn.Nodup→(kn ++ r.map (·.a)).Nodup)∧∀ l∈r,isW l.a=true∧l.b∈ns∧l.c∈ns∧(l.d = "loose" ∨ l.d = "once")
 | [],_,_,_=>⟨fun h=>by simpa using h,fun _ h=>nomatch h⟩
 | l :: r,i,kn,e=>by
  unfold cnL at e
  split at e
  ·cases e
  ·rename_i c
   obtain ⟨h2,h3⟩ := cnL_ok e
   have c := Bool.eq_false_iff.mpr c
   unfold badL at c
   simp only [Bool.or_eq_false_iff,Bool.not_eq_false',inB_no,inB_iff,List.mem_cons,List.not_mem_nil,or_false] at c
   obtain ⟨⟨c1,c2,c3⟩,c4,c5⟩ := c
   refine ⟨fun h=>by have := h2 (nodup_snoc h c2); simpa using this,fun m hm=>?_⟩
   rcases List.mem_cons.mp hm with e | hm
   ·rw [e]; exact ⟨c1,c4,c5,c3⟩
   ·exact h3 m hm
theorem co_ok {r:List Kd} {i:Int} (e:co ks ls r i=none):∀ k∈r,badO ks ls k=false := by
 induction r generalizing i with
 | nil=>exact fun _ h=>nomatch h
 | cons k r ih =>
  unfold co at e
  split at e
  ·cases e
  ·rename_i c
   intro m hm
   rcases List.mem_cons.mp hm with e2 | hm
   ·rw [e2]; simpa using c
   ·exact ih e m hm
structure Nm (ks:List Kd) (ls:List Lk):Prop where
 nd:(ks.map (·.a) ++ ls.map (·.a)).Nodup
 kw:∀ k∈ks,isW k.a=true∧okRule k
 lw:∀ l∈ls,isW l.a=true∧l.b∈ks.map (·.a)∧l.c∈ks.map (·.a)∧(l.d = "loose" ∨ l.d = "once")
theorem nm_of (e:cn ks ls=none):Nm ks ls := by
 unfold cn at e
 split at e
 ·cases e
 ·rename_i kn e1
  obtain ⟨h1,h2,h3⟩ := cnK_ok e1
  rw [List.nil_append] at h1
  obtain ⟨h4,h5⟩ := cnL_ok e
  rw [h1] at h4 h5 h2
  exact ⟨h4 (h2 .nil),h3,h5⟩
theorem find_name (nd:(ks.map (·.a)).Nodup) {k:Kd} (hk:k∈ks):(ks.find? fun h=>decide (h.a=k.a))=some k := by
 induction ks with
 | nil=>cases hk
 | cons h r ih =>
  rw [List.find?_cons]
  rw [List.map_cons,List.nodup_cons] at nd
  rcases List.mem_cons.mp hk with e | hk
  ·subst e; simp
  ·have:h.a≠k.a := fun e=>nd.1 (e ▸ List.mem_map.mpr ⟨k,hk,rfl⟩)
   simp only [this,decide_false]
   exact ih nd.2 hk
theorem find_link (nd:(ls.map (·.a)).Nodup) {k:Lk} (hk:k∈ls):(ls.find? fun h=>decide (h.a=k.a))=some k := by
 induction ls with
 | nil=>cases hk
 | cons h r ih =>
  rw [List.find?_cons]
  rw [List.map_cons,List.nodup_cons] at nd
  rcases List.mem_cons.mp hk with e | hk
  ·subst e; simp
  ·have:h.a≠k.a := fun e=>nd.1 (e ▸ List.mem_map.mpr ⟨k,hk,rfl⟩)
   simp only [this,decide_false]
   exact ih nd.2 hk
theorem sch_of (n:Nm ks ls) (k1:1≤ks.length) (k4:ks.length≤4) (l6:ls.length≤6) (e:co ks ls ks 0=none):Sch ks ls := by
 refine ⟨n.nd,fun k hk=>(n.kw k hk).1,fun k hk=>(n.kw k hk).2,n.lw,fun k hk o ho=>?_,k1,k4,l6⟩
 have nd1 := (List.nodup_append.mp n.nd).1
 have hb := co_ok e k hk
 have hu:k.b = "under" := by
  rcases (n.kw k hk).2 with ⟨h,_⟩ | ⟨_,h⟩
  ·exact h
  ·rw [ho] at h; cases h
 unfold badO at hb
 rw [eqB_iff.mpr hu,Bool.true_and] at hb
 split at hb
 ·cases hb
 ·rename_i z r es
  have hz:z∈starts ls k := by rw [es]; exact List.mem_cons_self ..
  unfold starts at hz
  obtain ⟨l,hl,ez⟩ := List.mem_map.mp hz
  obtain ⟨hl,hp⟩ := List.mem_filter.mp hl
  simp only [Bool.and_eq_true,eqB_iff] at hp
  obtain ⟨_,hb',_,_⟩ := n.lw l hl
  obtain ⟨h,hh,eh⟩ := List.mem_map.mp hb'
  refine ⟨l,hl,by rw [ho] at hp; exact Option.some.inj hp.1,hp.2,h,hh,eh, ?_⟩
  rw [← ez,← eh,find_name nd1 hh] at hb
  simpa [eqB] using hb
theorem cn_sch (g:Sch ks ls):cn ks ls=none := by
 have nd := g.nd
 have a1:∀ (r:List Kd) (i:Int) (kn:List Str),(∀ k∈r,isW k.a=true∧okRule k)→(kn ++ r.map (·.a)).Nodup→cnK r i kn = .inr (kn ++ r.map (·.a)) := by
  intro r
  induction r with
  | nil=>intro i kn _ _; simp [cnK]
  | cons k r ih =>
   intro i kn h1 h2
   obtain ⟨w,ok⟩ := h1 k (List.mem_cons_self ..)
   have hn:k.a ∉ kn := fun h=>(List.nodup_append.mp h2).2.2 _ h _ (by simp) rfl
   unfold cnK
   have:badK kn k=false := by
    unfold badK
    rw [w,inB_no.mpr hn]
    rcases ok with ⟨e,o,eo⟩ | ⟨e | e,eo⟩
    ·rw [e,eo,show (some o).isNone=false from rfl]; decide +kernel
    ·rw [e,eo]; decide +kernel
    ·rw [e,eo]; decide +kernel
   rw [this,if_neg (by decide),ih _ _ (fun m hm=>h1 m (List.mem_cons_of_mem _ hm)) (by simpa using h2)]
   simp
 have a2:∀ (r:List Lk) (i:Int) (kn:List Str),(∀ l∈r,isW l.a=true∧l.b∈ks.map (·.a)∧l.c∈ks.map (·.a)∧(l.d = "loose" ∨ l.d = "once"))→(kn ++ r.map (·.a)).Nodup→cnL (ks.map (·.a)) r i kn=none := by
  intro r
  induction r with
  | nil=>intro i kn _ _; rfl
  | cons l r ih =>
   intro i kn h1 h2
   obtain ⟨w,hb,hc,hd⟩ := h1 l (List.mem_cons_self ..)
   have hn:l.a ∉ kn := fun h=>(List.nodup_append.mp h2).2.2 _ h _ (by simp) rfl
   unfold cnL
   have:badL (ks.map (·.a)) kn l=false := by
    unfold badL
    rw [w,inB_no.mpr hn,inB_iff.mpr hb,inB_iff.mpr hc]
    rcases hd with e | e <;> (rw [e]; decide +kernel)
   rw [this,if_neg (by decide),ih _ _ (fun m hm=>h1 m (List.mem_cons_of_mem _ hm)) (by simpa using h2)]
 unfold cn
 rw [a1 ks 0 [] (fun k hk=>⟨g.kw k hk,g.kr k hk⟩) (by simpa using (List.nodup_append.mp nd).1)]
 rw [List.nil_append]
 exact a2 ls _ _ g.lw nd
theorem co_sch (g:Sch ks ls):co ks ls ks 0=none := by
 have nd1 := (List.nodup_append.mp g.nd).1
 have nd2 := (List.nodup_append.mp g.nd).2.1
 have all:∀ k∈ks,badO ks ls k=false := fun k hk=>by
  unfold badO
  by_cases hu:k.b = "under"
  ·rw [eqB_iff.mpr hu,Bool.true_and]
   have ho:∃ o,k.c=some o := by
    rcases g.kr k hk with ⟨_,h⟩ | ⟨h | h,_⟩
    ·exact h
    ·rw [h] at hu; exact absurd hu (by decide +kernel)
    ·rw [h] at hu; exact absurd hu (by decide +kernel)
   obtain ⟨o,ho⟩ := ho
   obtain ⟨l,hl,c1,c2,h,hh,c3,c4⟩ := g.ow k hk o ho
   have only:∀ m∈ls,eqB (some m.a) k.c=true→m=l := fun m hm e=>by
    rw [eqB_iff,ho] at e
    have e1 := find_link nd2 hm
    have e2 := find_link nd2 hl
    rw [show m.a=l.a by rw [c1]; exact Option.some.inj e] at e1
    rw [e1] at e2
    exact Option.some.inj e2
   cases es:starts ls k with
   | nil =>
    have:l.b∈starts ls k := List.mem_map.mpr ⟨l,List.mem_filter.mpr ⟨hl,by simp only [Bool.and_eq_true,eqB_iff]; exact ⟨by rw [ho,c1],c2⟩⟩,rfl⟩
    rw [es] at this; cases this
   | cons z r =>
    have hz:z∈starts ls k := by rw [es]; exact List.mem_cons_self ..
    unfold starts at hz
    obtain ⟨m,hm,ez⟩ := List.mem_map.mp hz
    obtain ⟨hm,hp⟩ := List.mem_filter.mp hm
    rw [Bool.and_eq_true] at hp
    have := only m hm hp.1
    subst this
    show eqB (((ks.find? fun h:Kd=>decide (h.a=z)).map (fun h:Kd=>h.b)).getD ("":Str)) ("under":Str)=false
    rw [← ez,← c3,find_name nd1 hh]
    exact eqB_no.mpr c4
  ·rw [eqB_no.mpr hu]; rfl
 have go:∀ (r:List Kd) (i:Int),(∀ k∈r,badO ks ls k=false)→co ks ls r i=none := by
  intro r
  induction r with
  | nil=>intro i _; rfl
  | cons k r ih=>intro i h; unfold co; rw [h k (List.mem_cons_self ..),if_neg (by decide)]; exact ih _ fun m hm=>h m (List.mem_cons_of_mem _ hm)
 exact go ks 0 all
theorem w_owners {Q:Unit→Prop} {E:Exv→Prop} (n:Nm ks ls) (hz:ks.length≤1000) (hz2:ls.length≤1000) (h:match co ks ls ks 0 with
  | some i=>E (.badSchema (some i))
  | none=>Q ()):W_check_owners ks ls Q E := by
 unfold W_check_owners
 have nd1 := (List.nodup_append.mp n.nd).1
 refine ⟨Sz.of (by omega),letW_in fun v ev=>?_⟩
 rw [dcA_nodup nd1] at ev
 rw [enu_eq]
 have main:∀ (r:List Kd) (i:Int),(match co ks ls r i with
   | some i=>E (.badSchema (some i))
   | none=>Q ())→forW (enuF i r) () (fun (x5:Int × Kd) (st32:Unit) N29 (B30:Unit→Prop)=>if eqB x5.2.b ("under":Str)=true then Sz ls.length∧letW (List.map (fun x48:Lk=>x48.b) (List.filter (fun x48:Lk=>eqB (some x48.a) x5.2.c && eqB x48.c x5.2.a) ls)) fun v52=>((!!v52.isEmpty)=false→(0≤(0:Int)∧(0:Int) < ↑v52.length)∧(valA v (ixG ("":Str) v52 0)).isSome=true)∧if (!!v52.isEmpty || eqB ((valA v (ixG ("":Str) v52 0)).getD ("":Str)) ("under":Str))=true then E (Exv.badSchema (some x5.1)) else N29 () else N29 ()) fun _=>Q () := by
  intro r
  induction r with
  | nil=>intro i h; exact h
  | cons k r ih =>
   intro i h
   unfold co badO at h
   show (if eqB k.b ("under":Str)=true then _ else _)
   split
   ·rename_i hu
    rw [hu,Bool.true_and] at h
    refine ⟨Sz.of (by omega),letW_in fun s es=>?_⟩
    have es':s=starts ls k := es
    cases hs:s with
    | nil =>
     rw [← es',hs] at h
     exact ⟨fun h=>(nomatch h),h⟩
    | cons z q =>
     rw [← es',hs] at h
     have hz:z∈starts ls k := by rw [← es',hs]; exact List.mem_cons_self ..
     unfold starts at hz
     obtain ⟨m,hm,ez⟩ := List.mem_map.mp hz
     obtain ⟨hm,_⟩ := List.mem_filter.mp hm
     have hin:z∈ks.map (·.a) := by rw [← ez]; exact (n.lw m hm).2.1
     have e0:ixG ("":Str) (z :: q) 0=z := rfl
     have e1:valA v z=(ks.find? fun h:Kd=>decide (h.a=z)).map (fun h:Kd=>h.b) := by rw [ev,valA_map]
     refine ⟨fun _=>⟨⟨by decide,by simp⟩, ?_⟩, ?_⟩
     ·rw [e0,valA_some,ev,List.map_map]; exact hin
     ·rw [e0,e1]
      simp only [List.isEmpty_cons,Bool.not_false,Bool.not_true,Bool.false_or]
      dsimp only at h
      cases c:eqB (((ks.find? fun h:Kd=>decide (h.a=z)).map (fun h:Kd=>h.b)).getD ("":Str)) ("under":Str) with
      | true=>simp only [c,if_true] at h; exact h
      | false=>simp only [c,if_false,Bool.false_eq_true] at h; exact ih _ h
   ·rename_i hu
    rw [Bool.not_eq_true] at hu
    rw [hu,Bool.false_and,if_neg (by decide)] at h
    exact ih _ h
 exact main ks 0 h
def ownerOf (ls:List Lk) (k:Kd):Option (Str × Str) := k.c.map fun o=>(o,((ls.find? fun l:Lk=>decide (l.a=o)).map (fun l:Lk=>l.b)).getD ("":Str))
def mkSch (ks:List Kd) (ls:List Lk):R_Schema := ⟨⟨ks⟩,⟨ls⟩,⟨ks.map (·.a)⟩,⟨ls.map (·.a)⟩,(ks.map fun k=>(k.a,k.b)) ++ ls.map fun l=>(l.a,l.d),ls.map fun l=>(l.a,(l.b,l.c)),ks.map fun k=>(k.a,ownerOf ls k),(enu (ks.map (·.a))).map fun p=>(p.2,p.1),(enu (ls.map (·.a))).map fun p=>(p.2,p.1)⟩
theorem enu_snd {α:Type} (xs:List α):(enu xs).map (·.2)=xs := by
 rw [enu_eq]
 have:∀ (xs:List α) (i:Int),(enuF i xs).map (·.2)=xs := by
  intro xs
  induction xs with
  | nil=>intro i; rfl
  | cons x xs ih=>intro i; rw [enuF,List.map_cons,ih]
 exact this xs 0
theorem w_init {Q:R_Schema→Prop} {E:Exv→Prop} (hk:∀ k∈ks,k.a.length≤1000) (hl:∀ l∈ls,l.a.length≤1000) (hz:ks.length + ls.length≤1000) (h:match cn ks ls with
  | some i=>E (.badSchema (some i))
  | none=>if (1≤ks.length∧ks.length≤4)∧ls.length≤6 then (match co ks ls ks 0 with
   | some i=>E (.badSchema (some i))
   | none=>Q (mkSch ks ls)) else E (.badSchema none)):W_Schema_init ks ls Q E := by
 unfold W_Schema_init
 refine w_names hk hl hz ?_
 cases e:cn ks ls with
 | some i=>rw [e] at h; exact h
 | none =>
  rw [e] at h
  dsimp only at h ⊢
  have n := nm_of e
  have nd1 := (List.nodup_append.mp n.nd).1
  have nd2 := (List.nodup_append.mp n.nd).2.1
  by_cases hs:(1≤ks.length∧ks.length≤4)∧ls.length≤6
  rotate_left
  ·rw [if_neg hs] at h
   rw [if_pos]
   ·exact h
   ·simp only [Bool.or_eq_true,Bool.not_eq_true',Bool.and_eq_false_iff,decide_eq_false_iff_not,decide_eq_true_eq]
    omega
  rw [if_pos hs] at h
  rw [if_neg (by simp only [Bool.or_eq_true,Bool.not_eq_true',Bool.and_eq_false_iff,decide_eq_false_iff_not,decide_eq_true_eq]; omega)]
  refine w_owners n (by omega) (by omega) ?_
  cases e2:co ks ls ks 0 with
  | some i=>rw [e2] at h; exact h
  | none =>
   rw [e2] at h
   dsimp only at h ⊢
   have g := sch_of n hs.1.1 hs.1.2 hs.2 e2
   refine ⟨Sz.of (by omega),letW_in fun v10 e10=>⟨Sz.of (by omega),letW_in fun v15 e15=>⟨Sz.of (by omega), ?_⟩⟩⟩
   subst e10 e15
   rw [dcA_nodup nd1]
   refine forW_inv (fun pre (st:List (Str × Str) × List (Str × (Str × Str)))=>st.1=(ks.map fun k=>(k.a,k.b)) ++ pre.map (fun l:Lk=>(l.a,l.d))∧st.2=pre.map fun l:Lk=>(l.a,(l.b,l.c))) ⟨by simp,rfl⟩ (fun pre x post st N eq ⟨j1,j2⟩ hN=>?_) (fun st ⟨j1,j2⟩=>?_)
   ·obtain ⟨s1,s2⟩ := st
    dsimp only at j1 j2 ⊢
    have nd := n.nd
    rw [eq,List.map_append,List.map_cons] at nd
    have hn1:x.a ∉ s1.map (·.1) := by
     rw [j1,List.map_append,List.map_map,List.map_map]
     rw [← List.append_assoc] at nd
     have := (List.nodup_append.mp nd).2.2
     exact fun hm=>this x.a hm x.a (by simp) rfl
    have hn2:x.a ∉ s2.map (·.1) := by
     rw [j2,List.map_map]
     rw [← List.append_assoc] at nd
     have := (List.nodup_append.mp nd).2.2
     exact fun hm=>this x.a (List.mem_append.mpr (.inr hm)) x.a (by simp) rfl
    have pl:pre.length≤ls.length := by rw [eq]; simp
    refine ⟨Sz.of (by rw [j1]; simp; omega),Sz.of (by rw [j2]; simp; omega),hN _ ⟨?_, ?_⟩⟩
    ·rw [putA_new hn1,j1]; simp
    ·rw [putA_new hn2,j2]; simp
   obtain ⟨s1,s2⟩ := st
   dsimp only at j1 j2 ⊢
   subst j1 j2
   refine forW_inv (fun pre (st:List (Str × Option (Str × Str)))=>st=pre.map fun k:Kd=>(k.a,ownerOf ls k)) rfl (fun pre x post st N eq j hN=>?_) (fun st j=>?_)
   ·have hx:x∈ks := by rw [eq]; simp
    have nd := nd1
    rw [eq,List.map_append,List.map_cons] at nd
    have hn1:x.a ∉ st.map (·.1) := by
     rw [j,List.map_map]
     have := (List.nodup_append.mp nd).2.2
     exact fun hm=>this x.a hm x.a (by simp) rfl
    have pl:pre.length≤ks.length := by rw [eq]; simp
    refine ⟨fun hc=>?_,Sz.of (by rw [j]; simp; omega),letW_in fun v ev=>hN _ ?_⟩
    ·cases ho:x.c with
     | none=>rw [ho] at hc; cases hc
     | some o =>
      obtain ⟨l,hl,c1,_⟩ := g.ow x hx o ho
      rw [valA_some,List.map_map]
      exact List.mem_map.mpr ⟨l,hl,c1⟩
    ·rw [ev,putA_new hn1,j,List.map_append]
     congr 1
     show [(x.a,_)]=[(x.a,_)]
     congr 2
     unfold ownerOf
     cases ho:x.c with
     | none=>rfl
     | some o =>
      obtain ⟨l,hl,c1,_⟩ := g.ow x hx o ho
      show (if false=true then none else some (o,((valA (ls.map fun l:Lk=>(l.a,(l.b,l.c))) o).getD (("":Str),("":Str))).1))=_
      rw [if_neg (by decide),valA_map,← c1,find_link nd2 hl]
      show some (l.a,l.b)=some (l.a,((ls.find? fun m:Lk=>decide (m.a=l.a)).map (fun l:Lk=>l.b)).getD ("":Str))
      rw [find_link nd2 hl]
      rfl
   subst j
   refine ⟨Sz.of (by rw [enu_len]; simp; omega),letW_in fun v ev=>⟨Sz.of (by rw [enu_len]; simp; omega),letW_in fun w ew=>?_⟩⟩
   rw [dcA_nodup (by rw [enu_snd]; exact nd1)] at ev
   rw [dcA_nodup (by rw [enu_snd]; exact nd2)] at ew
   subst ev ew
   exact h
theorem spec_init {Q:R_Schema→Prop} {E:Exv→Prop} (g:Sch ks ls) (q:Q (mkSch ks ls)):W_Schema_init ks ls Q E := by
 have k4 := g.k4
 have l6 := g.l6
 refine w_init (fun k hk=>Nat.le_trans (word_len (g.kw k hk)).1 (by decide)) (fun l hl=>Nat.le_trans (word_len (g.lw l hl).1).1 (by decide)) (by omega) ?_
 rw [cn_sch g]
 dsimp only
 rw [if_pos ⟨⟨g.k1,g.k4⟩,g.l6⟩,co_sch g]
 exact q
end
end Lw
namespace Lw
open PySem PySem.Spec PyProof.Rows L2 Am
open PySem.W (Datum Tup T3 T4)
theorem putA_is {l:Gr} {k c:Int} {v:Int}:(valA (putA l k v) c).isSome=true↔c=k∨(valA l c).isSome=true := by
 rw [valA_put]
 split
 ·rename_i h; simp [h]
 ·rename_i h; simp [h]
theorem fold_is {ι:Type} {f h:ι→Int} {c:Int}:∀ {xs:List ι} {acc:Gr},(valA (xs.foldl (fun acc x=>putA acc (f x) (h x)) acc) c).isSome=true↔(valA acc c).isSome=true∨∃ x∈xs,f x=c
 | [],acc=>by simp
 | x :: xs,acc=>by
  rw [List.foldl_cons,fold_is,putA_is]
  constructor
  ·rintro ((e | h) | ⟨y,hy,e⟩)
   ·exact .inr ⟨x,List.mem_cons_self ..,e.symm⟩
   ·exact .inl h
   ·exact .inr ⟨y,List.mem_cons_of_mem _ hy,e⟩
  ·rintro (h | ⟨y,hy,e⟩)
   ·exact .inl (.inr h)
   ·rcases List.mem_cons.mp hy with e2 | h2
    ·subst e2; exact .inl (.inl e.symm)
    ·exact .inr ⟨y,h2,e⟩
theorem inG_iff {g:Gr} {c:Int}:inG c g=true↔c∈gK g := valA_some
theorem inG_gI {pls:List PlT} {c:Int}:inG c (gI pls)=true↔∃ p∈pls,p.c=c := by
 unfold inG gI dcA
 rw [fold_is]
 simp [valA]
theorem inG_gS {g:Gr} {p q:PlT} {c:Int}:inG c (gS g p q)=true↔inG c g=true := by
 unfold gS
 split
 ·rw [show inG c (dcA (fun c=>c) (fun c=>if eqB (gV g c) (gV g p.c)=true then gV g q.c else gV g c) (fun _=>true) (gK g))=(valA (dcA (fun c=>c) (fun c=>if eqB (gV g c) (gV g p.c)=true then gV g q.c else gV g c) (fun _=>true) (gK g)) c).isSome from rfl]
  unfold dcA
  rw [fold_is]
  simp [valA,inG_iff]
 ·exact Iff.rfl
theorem putA_len1 {g:Gr} {k v:Int}:(putA g k v).length≤g.length + 1 := putA_len
theorem fold_len {ι:Type} {f h:ι→Int}:∀ {xs:List ι} {acc:Gr},(xs.foldl (fun acc x=>putA acc (f x) (h x)) acc).length≤acc.length + xs.length
 | [],acc=>by simp
 | x :: xs,acc=>by
  rw [List.foldl_cons]
  refine Nat.le_trans fold_len ?_
  have := putA_len1 (g := acc) (k := f x) (v := h x)
  rw [List.length_cons]
  omega
theorem gI_len {pls:List PlT}:(gI pls).length≤pls.length := by
 unfold gI dcA
 refine Nat.le_trans fold_len ?_
 rw [show ([]:Gr).length=0 from rfl,Nat.zero_add]
 exact List.length_filter_le ..
theorem gS_len {g:Gr} {p q:PlT}:(gS g p q).length≤g.length := by
 unfold gS
 split
 ·unfold dcA
  refine Nat.le_trans fold_len ?_
  rw [show ([]:Gr).length=0 from rfl,Nat.zero_add]
  exact Nat.le_trans (List.length_filter_le ..) (by unfold gK; rw [List.length_map]; exact Nat.le_refl _)
 ·exact Nat.le_refl _
structure GrOk (pls:List PlT) (g:Gr):Prop where
 k:∀ p∈pls,inG p.c g=true
 z:g.length≤pls.length
theorem gI_ok {pls:List PlT}:GrOk pls (gI pls) := ⟨fun p hp=>inG_gI.mpr ⟨p,hp,rfl⟩,gI_len⟩
theorem gS_ok {pls:List PlT} {g:Gr} {p q:PlT} (h:GrOk pls g):GrOk pls (gS g p q) := ⟨fun r hr=>inG_gS.mpr (h.k r hr),Nat.le_trans gS_len h.z⟩
theorem gfold_ok {pls:List PlT} {p:PlT}:∀ {xs:List PlT} {g:Gr},GrOk pls g→GrOk pls (xs.foldl (fun g q=>gS g p q) g)
 | [],g,h=>h
 | x :: xs,g,h=>gfold_ok (xs := xs) (gS_ok h)
theorem gfold2_ok {pls:List PlT}:∀ {xs:List PlT} {g:Gr},GrOk pls g→GrOk pls (xs.foldl (fun g p=>pls.foldl (fun g q=>gS g p q) g) g)
 | [],g,h=>h
 | x :: xs,g,h=>gfold2_ok (xs := xs) (gfold_ok h)
theorem gF_ok {pls:List PlT}:GrOk pls (gF pls) := gfold2_ok gI_ok
theorem lI_ok {pls:List PlT}:GrOk pls (lI pls) := by
 have:lI pls=gI pls := by unfold lI gI dcA; rw [List.filter_eq_self.mpr fun _ _=>rfl]
 rw [this]
 exact gI_ok
theorem put_in_len {g:Gr} {k v:Int} (h:inG k g=true):(putA g k v).length=g.length := by
 obtain ⟨x,hx,e⟩ := List.mem_map.mp (inG_iff.mp h)
 unfold putA
 rw [if_pos (List.any_eq_true.mpr ⟨x,hx,decide_eq_true e⟩),List.length_map]
theorem lS_ok {pls:List PlT} {g:Gr} {p q:PlT} (hp:p∈pls) (hq:q∈pls) (h:GrOk pls g):GrOk pls (lS g p q) := by
 unfold lS
 split
 ·have h1:∀ c:Int,inG c (putA g p.c (min (gV g p.c) (gV g q.c)))=true↔c=p.c∨inG c g=true := fun c=>putA_is
  refine ⟨fun r hr=>putA_is.mpr (.inr (putA_is.mpr (.inr (h.k r hr)))), ?_⟩
  rw [put_in_len ((h1 _).mpr (.inr (h.k q hq))),put_in_len (h.k p hp)]
  exact h.z
 ·exact h
theorem lfold_ok {pls:List PlT} {p:PlT} (hp:p∈pls):∀ {xs:List PlT} {g:Gr},(∀ x∈xs,x∈pls)→GrOk pls g→GrOk pls (xs.foldl (fun g q=>lS g p q) g)
 | [],g,_,h=>h
 | x :: xs,g,hx,h=>lfold_ok hp (xs := xs) (fun y hy=>hx y (List.mem_cons_of_mem _ hy)) (lS_ok hp (hx x (List.mem_cons_self ..)) h)
theorem lfold2_ok {pls:List PlT}:∀ {xs:List PlT} {g:Gr},(∀ x∈xs,x∈pls)→GrOk pls g→GrOk pls (xs.foldl (fun g p=>pls.foldl (fun g q=>lS g p q) g) g)
 | [],g,_,h=>h
 | x :: xs,g,hx,h=>lfold2_ok (xs := xs) (fun y hy=>hx y (List.mem_cons_of_mem _ hy)) (lfold_ok (hx x (List.mem_cons_self ..)) (fun _ h=>h) h)
theorem lR_ok {pls:List PlT} {g:Gr} (h:GrOk pls g):GrOk pls (lR pls g) := lfold2_ok (fun _ h=>h) h
theorem lF_ok' {pls:List PlT}:∀ {xs:List Int} {g:Gr},GrOk pls g→GrOk pls (xs.foldl (fun g _=>lR pls g) g)
 | [],_,h=>h
 | _ :: xs,_,h=>lF_ok' (xs := xs) (lR_ok h)
theorem lF_ok {pls:List PlT}:GrOk pls (lF pls) := lF_ok' lI_ok
end Lw
namespace Lw
open PySem PySem.Spec PyProof.Rows L2 Am
open PySem.W (Datum Tup T3 T4)
structure R_Pattern where
 f_places:(Tup (T3 Str Str Int))
 f_links:(Tup (T3 Str Str Str))
def enc_Pattern (r:R_Pattern):D := .ins "Pattern" [("places",(D.tup (List.map en r.f_places.1))),("links",(D.tup (List.map en r.f_links.1)))]
instance:Inhabited R_Pattern := ⟨⟨⟨[]⟩,⟨[]⟩⟩⟩
def W_Pattern_init (a1:(List (T3 Str Str Int))) (a2:(List (T3 Str Str Str))) (Q:R_Pattern→Prop) (E:Exv→Prop):Prop :=
 Q (⟨(Tup.mk a1),(Tup.mk a2)⟩:R_Pattern)
theorem c_Pattern_init {A0:AH} {y1:D} {a1:(List (T3 Str Str Int))} (hx1:ItL A0 y1 a1 en) {y2:D} {a2:(List (T3 Str Str Str))} (hx2:ItL A0 y2 a2 en) {Q0:R_Pattern→Prop} {E0:Exv→Prop} {Q:QE} {E:QX} (h:W_Pattern_init a1 a2 Q0 E0) (hQ:∀ r A,Q0 r→Les A0 A→Q (enc_Pattern r) A) (hE:∀ x,E0 x→E (encX x) A0):∀ m0,A0 m0=none→m_Pattern_init [.ref m0,y1,y2] (put A0 m0 (.ins "Pattern" [])) (fun d A2=>d = .non∧frzF A2 (.ref m0) Q) E := by
 unfold W_Pattern_init at h
 intro m0 hn
 have hc:Cells A0 [] A0 := Cells.nil_
 replace hc := hc.new (Nd.ins "Pattern" []) hn
 generalize put A0 m0 (Nd.ins "Pattern" [])=A1 at hc ⊢
 replace hc:Cells A0 [[(m0,(Nd.ins "Pattern" ([]:List (Str × D))))]] A1 := hc
 refine fn_in (s := [some (D.ref m0),some y1,some y2]) ?_ rfl rfl
 refine s_sq ?_
 refine u_sfldS ?_
 refine Pv.wp ?_ (pv_cbB (pa_cons' (pv_var rfl) pa_nil') (pb_tupI (hx1.les hc.le)))
 refine Pv.wp ?_ (pv_var rfl)
 refine u_sfld1 (fs' := ([(("places":Str),(D.tup (List.map en a1)))]:List (Str × D))) (hc.at 0 rfl) (by simp) (Nat.le_of_ble_eq_true rfl) rfl ?_
 replace hc := hc.put 0 rfl (Nd.ins "Pattern" ([(("places":Str),(D.tup (List.map en a1)))]:List (Str × D)))
 generalize put A1 m0 (Nd.ins "Pattern" ([(("places":Str),(D.tup (List.map en a1)))]:List (Str × D)))=A1 at hc ⊢
 replace hc:Cells A0 [[(m0,(Nd.ins "Pattern" ([(("places":Str),(D.tup (List.map en a1)))]:List (Str × D))))]] A1 := hc
 refine nx_sq ?_
 refine u_sfldS ?_
 refine Pv.wp ?_ (pv_cbB (pa_cons' (pv_var rfl) pa_nil') (pb_tupI (hx2.les hc.le)))
 refine Pv.wp ?_ (pv_var rfl)
 refine u_sfld1 (fs' := ([(("places":Str),(D.tup (List.map en a1))),(("links":Str),(D.tup (List.map en a2)))]:List (Str × D))) (hc.at 0 rfl) (by simp) (Nat.le_of_ble_eq_true rfl) rfl ?_
 replace hc := hc.put 0 rfl (Nd.ins "Pattern" ([(("places":Str),(D.tup (List.map en a1))),(("links":Str),(D.tup (List.map en a2)))]:List (Str × D)))
 generalize put A1 m0 (Nd.ins "Pattern" ([(("places":Str),(D.tup (List.map en a1))),(("links":Str),(D.tup (List.map en a2)))]:List (Str × D)))=A2 at hc ⊢
 replace hc:Cells A0 [[(m0,(Nd.ins "Pattern" ([(("places":Str),(D.tup (List.map en a1))),(("links":Str),(D.tup (List.map en a2)))]:List (Str × D))))]] A2 := hc
 refine u_nxi ?_
 refine frz_ins (hc.at 0 rfl) ?_
 replace hc := hc.cut 0 rfl
 generalize rem A2 m0=A3 at hc ⊢
 refine frzL_cons ?_
 refine frz_tre (fun n e=>by cases e) ?_
 refine frzL_cons ?_
 refine frz_tre (fun n e=>by cases e) ?_
 refine frzL_nil ?_
 exact hQ _ _ h hc.le
structure R_Statement where
 f_how:Str
 f_pattern:R_Pattern
def enc_Statement (r:R_Statement):D := .ins "Statement" [("how",(D.str r.f_how)),("pattern",(enc_Pattern r.f_pattern))]
instance:Inhabited R_Statement := ⟨⟨("":Str),default⟩⟩
def W_Statement_init (a1:Str) (a2:R_Pattern) (Q:R_Statement→Prop) (E:Exv→Prop):Prop :=
 Q (⟨a1,a2⟩:R_Statement)
theorem c_Statement_init {A0:AH} {a1:Str} {a2:R_Pattern} {Q0:R_Statement→Prop} {E0:Exv→Prop} {Q:QE} {E:QX} (h:W_Statement_init a1 a2 Q0 E0) (hQ:∀ r A,Q0 r→Les A0 A→Q (enc_Statement r) A) (hE:∀ x,E0 x→E (encX x) A0):∀ m0,A0 m0=none→m_Statement_init [.ref m0,(D.str a1),(enc_Pattern a2)] (put A0 m0 (.ins "Statement" [])) (fun d A2=>d = .non∧frzF A2 (.ref m0) Q) E := by
 unfold W_Statement_init at h
 intro m0 hn
 have hc:Cells A0 [] A0 := Cells.nil_
 replace hc := hc.new (Nd.ins "Statement" []) hn
 generalize put A0 m0 (Nd.ins "Statement" [])=A1 at hc ⊢
 replace hc:Cells A0 [[(m0,(Nd.ins "Statement" ([]:List (Str × D))))]] A1 := hc
 refine fn_in (s := [some (D.ref m0),some (D.str a1),some (enc_Pattern a2)]) ?_ rfl rfl
 refine s_sq ?_
 refine u_sfldS ?_
 refine Pv.wp ?_ (pv_var rfl)
 refine Pv.wp ?_ (pv_var rfl)
 refine u_sfld1 (fs' := ([(("how":Str),(D.str a1))]:List (Str × D))) (hc.at 0 rfl) (by simp) (Nat.le_of_ble_eq_true rfl) rfl ?_
 replace hc := hc.put 0 rfl (Nd.ins "Statement" ([(("how":Str),(D.str a1))]:List (Str × D)))
 generalize put A1 m0 (Nd.ins "Statement" ([(("how":Str),(D.str a1))]:List (Str × D)))=A1 at hc ⊢
 replace hc:Cells A0 [[(m0,(Nd.ins "Statement" ([(("how":Str),(D.str a1))]:List (Str × D))))]] A1 := hc
 refine nx_sq ?_
 refine u_sfldS ?_
 refine Pv.wp ?_ (pv_var rfl)
 refine Pv.wp ?_ (pv_var rfl)
 refine u_sfld1 (fs' := ([(("how":Str),(D.str a1)),(("pattern":Str),(enc_Pattern a2))]:List (Str × D))) (hc.at 0 rfl) (by simp) (Nat.le_of_ble_eq_true rfl) rfl ?_
 replace hc := hc.put 0 rfl (Nd.ins "Statement" ([(("how":Str),(D.str a1)),(("pattern":Str),(enc_Pattern a2))]:List (Str × D)))
 generalize put A1 m0 (Nd.ins "Statement" ([(("how":Str),(D.str a1)),(("pattern":Str),(enc_Pattern a2))]:List (Str × D)))=A2 at hc ⊢
 replace hc:Cells A0 [[(m0,(Nd.ins "Statement" ([(("how":Str),(D.str a1)),(("pattern":Str),(enc_Pattern a2))]:List (Str × D))))]] A2 := hc
 refine u_nxi ?_
 refine frz_ins (hc.at 0 rfl) ?_
 replace hc := hc.cut 0 rfl
 generalize rem A2 m0=A3 at hc ⊢
 refine frzL_cons ?_
 refine frz_tre (fun n e=>by cases e) ?_
 refine frzL_cons ?_
 refine frz_tre (fun n e=>by cases e) ?_
 refine frzL_nil ?_
 exact hQ _ _ h hc.le
def W_clash (a0:R_Pattern) (a1:R_Pattern) (Q:((Option Str))→Prop) (E:Exv→Prop):Prop :=
 (((Sz (a0.f_places.1).length))∧(letW (dcA (fun x1:(T3 Str Str Int)=>x1.a) (fun x1:(T3 Str Str Int)=>(⟨x1.a,x1.b,x1.c⟩:(T3 Str Str Int))) (fun x1:(T3 Str Str Int)=>true) a0.f_places.1) (fun (v4:(List (Str × (T3 Str Str Int))))=>(forW a1.f_places.1 (():Unit) (fun (x5:(T3 Str Str Int)) (st12:Unit) N9 B10=>(if (!eqB (Option.getD (valA v4 x5.a) x5) x5)=true then Q (some x5.a) else N9 ())) (fun (st20:Unit)=>Q (none:(Option Str)))))))
theorem c_clash {A0:AH} {a0:R_Pattern} {a1:R_Pattern} {Q0:(Option Str)→Prop} {E0:Exv→Prop} {Q:QE} {E:QX} (h:W_clash a0 a1 Q0 E0) (hQ:∀ r,Q0 r→Q (en r) A0) (hE:∀ x,E0 x→E (encX x) A0):m_clash [(enc_Pattern a0),(enc_Pattern a1)] A0 Q E := by
 unfold W_clash at h
 have hc:Cells A0 [] A0 := Cells.nil_
 refine fn_in (s := [some (enc_Pattern a0),some (enc_Pattern a1),none,none,none,none,none]) ?_ rfl rfl
 refine s_sq ?_
 obtain ⟨hS3,h⟩ := h
 obtain ⟨v4,hv4⟩:∃ v:(List (Str × (T3 Str Str Int))),v=(dcA (fun x1:(T3 Str Str Int)=>x1.a) (fun x1:(T3 Str Str Int)=>(⟨x1.a,x1.b,x1.c⟩:(T3 Str Str Int))) (fun x1:(T3 Str Str Int)=>true) a0.f_places.1) := ⟨_,rfl⟩
 replace h := letW_out hv4 h
 refine u_set (s' := [some (enc_Pattern a0),some (enc_Pattern a1),some (D.dK (List.map (eD kS en) v4)),none,none,none,none]) (Pv.is (v_dc (e := en) (e' := en) (g := (fun x1:(T3 Str Str Int)=>x1.a)) (v := (fun x1:(T3 Str Str Int)=>(⟨x1.a,x1.b,x1.c⟩:(T3 Str Str Int)))) (p := (fun x1:(T3 Str Str Int)=>true)) (fun _ _=>kS_inj) (mi_seq (pv_fld (pv_var rfl) rfl (by simp) rfl) it_t) rfl hS3 (fun x1 hx1=>dcb (tg_tp rfl rfl (tgz_cons (tg_n rfl) (tgz_cons (tg_n rfl) (tgz_cons (tg_n rfl) tgz_nil)))) pt_yes (fun hh2=>(pv_var rfl)) rfl (fun hh2=>(pv_tup (ds := [(D.str x1.a),(D.str x1.b),(D.int x1.c)]) (pa_cons' (pv_var rfl) (pa_cons' (pv_var rfl) (pa_cons' (pv_var rfl) pa_nil'))))))) (congrArg (fun z:(List (Str × (T3 Str Str Int)))=>(D.dK (List.map (eD kS en) z))) hv4.symm)) rfl ?_
 refine nx_sq ?_
 refine s_sq ?_
 refine u_forC (σ := Unit) (e := en) (fun st13 s14 A15=>∃ (j16:Option D),s14=[some (enc_Pattern a0),some (enc_Pattern a1),some (D.dK (List.map (eD kS en) v4)),j16,none,none,none]∧Cells A0 [] A15) (mi_seq (pv_fld (pv_var rfl) rfl (by simp) rfl) it_t) h ⟨_,rfl,hc⟩ (fun _ _ _ ⟨_,_,hcP⟩=>(fun n e=>nomatch e)) ?_ ?_
 ·rintro x5 hx5 st12 _ A18 N9 B10 Nm11 h ⟨j17,rfl,hc⟩ hN9 hB10
  refine at_s (s' := [some (enc_Pattern a0),some (enc_Pattern a1),some (D.dK (List.map (eD kS en) v4)),some (D.tup [(D.str x5.a),(D.str x5.b),(D.int x5.c)]),none,none,none]) rfl ?_
  refine u_if (pt_b (pv_op2 (pv_get2K (k := x5.a) (w := x5) (fun _ _=>kS_inj) (pv_var rfl) (pv_op2 (pv_var rfl) pv_c (p2_ixT (ds := [(D.str x5.a),(D.str x5.b),(D.int x5.c)]) (d := (D.str x5.a)) rfl rfl)) (pv_var rfl) dk_t rfl) (pv_var rfl) (q2_ne (a := (Option.getD (valA v4 x5.a) x5)) (b := x5) (ue_r rfl) (ue_r rfl) (by decide)))) h ?_ ?_
  ·intro hb19 h
   refine u_ret (pv_op2 (pv_var rfl) pv_c (p2_ixT (ds := [(D.str x5.a),(D.str x5.b),(D.int x5.c)]) (d := (D.str x5.a)) rfl rfl)) ?_
   refine rt_lp ?_
   refine rt_sq ?_
   refine u_rt hc ?_
   exact hQ _ h
  ·intro hb19 h
   refine t_next ?_
   refine nx_lp ?_
   exact hN9 _ _ _ h ⟨_,rfl,hc⟩
 rintro st20 _ A22 h ⟨j21,rfl,hc⟩
 refine nx_sq ?_
 refine u_ret pv_c ?_
 refine u_rt hc ?_
 exact hQ _ h
def W_Pattern_place (a0:Str) (a1:Str) (a2:Int) (Q:(R_Pattern)→Prop) (E:Exv→Prop):Prop :=
 (((a0.length≤1000)∧((!(isW a0))=false→(a1.length≤1000)))∧(if ((!(isW a0)) || ((!(isW a1)) || (!((decide ((0:Int)≤a2)) && (decide (a2≤(3:Int)))))))=true then E (Exv.badPattern a0) else (W_Pattern_init ([(⟨a0,a1,a2⟩:(T3 Str Str Int))]:List (T3 Str Str Int)) ([]:List (T3 Str Str Str)) (fun r5=>Q r5) E)))
theorem c_Pattern_place {A0:AH} {a0:Str} {a1:Str} {a2:Int} {Q0:R_Pattern→Prop} {E0:Exv→Prop} {Q:QE} {E:QX} (h:W_Pattern_place a0 a1 a2 Q0 E0) (hQ:∀ r,Q0 r→Q (enc_Pattern r) A0) (hE:∀ x,E0 x→E (encX x) A0):m_Pattern_place [(D.str a0),(D.str a1),(D.int a2)] A0 Q E := by
 unfold W_Pattern_place at h
 have hc:Cells A0 [] A0 := Cells.nil_
 refine fn_in (s := [some (D.str a0),some (D.str a1),some (D.int a2)]) ?_ rfl rfl
 refine s_sq ?_
 obtain ⟨hS3,h⟩ := h
 refine u_if (Am.pt_or (Am.pt_not (pt_b (pv_call (pa_cons' (pv_var rfl) pa_nil') (fv_is_word hS3.1)))) (fun hh1=>(Am.pt_or (Am.pt_not (pt_b (pv_call (pa_cons' (pv_var rfl) pa_nil') (fv_is_word (hS3.2 hh1))))) (fun hh2=>(Am.pt_not (pt_b (pv_chainB pv_c (pv_var rfl) p2_le (fun _=>pv_c) p2_le))))))) h ?_ ?_
 ·intro hb4 h
  refine u_rz1 (pv_var rfl) ?_
  refine ex_sq ?_
  exact u_exf hc (hE _ h)
 ·intro hb4 h
  refine t_next ?_
  refine nx_sq ?_
  refine u_retE ?_
  refine w_makeD (pa_cons' (pv_lst (pa_cons' (pv_tup (ds := [(D.str a0),(D.str a1),(D.int a2)]) (pa_cons' (pv_var rfl) (pa_cons' (pv_var rfl) (pa_cons' (pv_var rfl) pa_nil')))) pa_nil')) (pa_cons' (pv_lst pa_nil') pa_nil')) ?_
  refine c_Pattern_init (il_r (xs := ([(⟨a0,a1,a2⟩:(T3 Str Str Int))]:List (T3 Str Str Int))) (e := en) rfl) (il_r (xs := ([]:List (T3 Str Str Str))) (e := en) rfl) h ?_ ?_
  rotate_left
  ·intro x h
   exact u_exf hc (hE _ h)
  intro r5 A6 h hle
  replace hc := hc.les hle
  refine u_rt hc ?_
  exact hQ _ h
def W_Pattern_or (a0:R_Pattern) (a1:R_Pattern) (Q:(R_Pattern)→Prop) (E:Exv→Prop):Prop :=
 (W_clash a0 a1 (fun r1=>(if (!Option.isNone r1)=true then E (Exv.badPattern (Option.getD r1 ("":Str))) else (((Sz (a1.f_places.1).length))∧(letW (List.filter (fun x3:(T3 Str Str Int)=>(!inB x3 a0.f_places.1)) a1.f_places.1) (fun (v6:(List (T3 Str Str Int)))=>(((Sz (a1.f_links.1).length))∧(letW (List.filter (fun x7:(T3 Str Str Str)=>(!inB x7 a0.f_links.1)) a1.f_links.1) (fun (v10:(List (T3 Str Str Str)))=>(((Sz ((a0.f_places.1 ++ v6)).length)∧(Sz ((a0.f_links.1 ++ v10)).length))∧(W_Pattern_init (a0.f_places.1 ++ v6) (a0.f_links.1 ++ v10) (fun r12=>Q r12) E)))))))))) E)
theorem c_Pattern_or {A0:AH} {a0:R_Pattern} {a1:R_Pattern} {Q0:R_Pattern→Prop} {E0:Exv→Prop} {Q:QE} {E:QX} (h:W_Pattern_or a0 a1 Q0 E0) (hQ:∀ r,Q0 r→Q (enc_Pattern r) A0) (hE:∀ x,E0 x→E (encX x) A0):m_Pattern_or [(enc_Pattern a0),(enc_Pattern a1)] A0 Q E := by
 unfold W_Pattern_or at h
 have hc:Cells A0 [] A0 := Cells.nil_
 refine fn_in (s := [some (enc_Pattern a0),some (enc_Pattern a1),none,none,none,none,none]) ?_ rfl rfl
 refine s_sq ?_
 refine u_setE ?_
 refine w_callW ?_ (pa_cons' (pv_var rfl) (pa_cons' (pv_var rfl) pa_nil'))
 refine c_clash  h ?_ ?_
 rotate_left
 ·intro x h
  refine ex_sq ?_
  exact u_exf hc (hE _ h)
 intro r1 h
 refine at_n (s' := [some (enc_Pattern a0),some (enc_Pattern a1),some (en r1),none,none,none,none]) rfl ?_
 refine nx_sq ?_
 refine s_sq ?_
 refine u_if (pt_b (pv_op2 (pv_var rfl) pv_c p2_notNO)) h ?_ ?_
 ·intro hb2 h
  refine u_rz1 (Pv.is (pv_var rfl) (en_optS (nn_of hb2))) ?_
  refine ex_sq ?_
  exact u_exf hc (hE _ h)
 ·intro hb2 h
  refine t_next ?_
  refine nx_sq ?_
  refine s_sq ?_
  obtain ⟨hS5,h⟩ := h
  obtain ⟨v6,hv6⟩:∃ v:(List (T3 Str Str Int)),v=(List.filter (fun x3:(T3 Str Str Int)=>(!inB x3 a0.f_places.1)) a1.f_places.1) := ⟨_,rfl⟩
  replace h := letW_out hv6 h
  refine u_set (s' := [some (enc_Pattern a0),some (enc_Pattern a1),some (en r1),some (D.lst (List.map en v6)),none,none,none]) (Pv.is (v_lcF (e := en) (p := fun x3:(T3 Str Str Int)=>(!inB x3 a0.f_places.1)) (mi_seq (pv_fld (pv_var rfl) rfl (by simp) rfl) it_t) rfl hS5 (fun x3 hx3=>lcb (tg_n rfl) (pt_b (pv_op2 (pv_var rfl) (pv_fld (pv_var rfl) rfl (by simp) rfl) (q2_nin (a := x3) (xs := a0.f_places.1) (ue_r rfl) (ItS.sq it_t) (by decide)))) (fun hh4=>(pv_var rfl)))) (congrArg (fun z:(List (T3 Str Str Int))=>(D.lst (List.map en z))) hv6.symm)) rfl ?_
  refine nx_sq ?_
  refine s_sq ?_
  obtain ⟨hS9,h⟩ := h
  obtain ⟨v10,hv10⟩:∃ v:(List (T3 Str Str Str)),v=(List.filter (fun x7:(T3 Str Str Str)=>(!inB x7 a0.f_links.1)) a1.f_links.1) := ⟨_,rfl⟩
  replace h := letW_out hv10 h
  refine u_set (s' := [some (enc_Pattern a0),some (enc_Pattern a1),some (en r1),some (D.lst (List.map en v6)),some (D.lst (List.map en v10)),none,none]) (Pv.is (v_lcF (e := en) (p := fun x7:(T3 Str Str Str)=>(!inB x7 a0.f_links.1)) (mi_seq (pv_fld (pv_var rfl) rfl (by simp) rfl) it_t) rfl hS9 (fun x7 hx7=>lcb (tg_n rfl) (pt_b (pv_op2 (pv_var rfl) (pv_fld (pv_var rfl) rfl (by simp) rfl) (q2_nin (a := x7) (xs := a0.f_links.1) (ue_r rfl) (ItS.sq it_t) (by decide)))) (fun hh8=>(pv_var rfl)))) (congrArg (fun z:(List (T3 Str Str Str))=>(D.lst (List.map en z))) hv10.symm)) rfl ?_
  refine nx_sq ?_
  refine u_retE ?_
  obtain ⟨hS11,h⟩ := h
  refine w_makeD (pa_cons' (pv_lst (pa_starI (pv_fld (pv_var rfl) rfl (by simp) rfl) it_t (pa_starN (e := en) (pv_var rfl) (ItL.toS il_l))) (by rw [List.length_map]; exact hS11.1)) (pa_cons' (pv_lst (pa_starI (pv_fld (pv_var rfl) rfl (by simp) rfl) it_t (pa_starN (e := en) (pv_var rfl) (ItL.toS il_l))) (by rw [List.length_map]; exact hS11.2)) pa_nil')) ?_
  refine c_Pattern_init il_l il_l h ?_ ?_
  rotate_left
  ·intro x h
   exact u_exf hc (hE _ h)
  intro r12 A13 h hle
  replace hc := hc.les hle
  refine u_rt hc ?_
  exact hQ _ h
def W_Pattern_rshift (a0:R_Pattern) (a1:(Str × R_Pattern)) (Q:(R_Pattern)→Prop) (E:Exv→Prop):Prop :=
 (((a1.1.length≤1000))∧(if ((!(isW a1.1)) || ((eqB a0.f_places (Tup.mk [])) || (eqB a1.2.f_places (Tup.mk []))))=true then E (Exv.badPattern a1.1) else (W_Pattern_or a0 a1.2 (fun r5=>(((a0.f_places.1≠[])∧(0≤(0:Int)∧(0:Int) < ((a1.2.f_places.1).length:Int)))∧(((a1.2.f_places.1≠[]))∧(letW ((List.getLast? a1.2.f_places.1).getD (⟨("":Str),("":Str),(0:Int)⟩:(T3 Str Str Int))) (fun (v8:(T3 Str Str Int))=>(((Sz (r5.f_places.1).length))∧(letW (List.filter (fun x9:(T3 Str Str Int)=>(!eqB x9 v8)) r5.f_places.1) (fun (v12:(List (T3 Str Str Int)))=>(((Sz (r5.f_links.1).length))∧(letW (List.map (fun x13:(T3 Str Str Str)=>x13) r5.f_links.1) (fun (v16:(List (T3 Str Str Str)))=>(joinW (σ := (List (T3 Str Str Str))) (fun N20=>(if (!inB (⟨a1.1,((List.getLast? a0.f_places.1).getD (⟨("":Str),("":Str),(0:Int)⟩:(T3 Str Str Int))).a,(ixG (⟨("":Str),("":Str),(0:Int)⟩:(T3 Str Str Int)) a1.2.f_places.1 (0:Int)).a⟩:(T3 Str Str Str)) v16)=true then (((Sz ((v16).length + (([(⟨a1.1,((List.getLast? a0.f_places.1).getD (⟨("":Str),("":Str),(0:Int)⟩:(T3 Str Str Int))).a,(ixG (⟨("":Str),("":Str),(0:Int)⟩:(T3 Str Str Int)) a1.2.f_places.1 (0:Int)).a⟩:(T3 Str Str Str))]:List (T3 Str Str Str))).length)))∧(letW (v16 ++ ([(⟨a1.1,((List.getLast? a0.f_places.1).getD (⟨("":Str),("":Str),(0:Int)⟩:(T3 Str Str Int))).a,(ixG (⟨("":Str),("":Str),(0:Int)⟩:(T3 Str Str Int)) a1.2.f_places.1 (0:Int)).a⟩:(T3 Str Str Str))]:List (T3 Str Str Str))) (fun (v27:(List (T3 Str Str Str)))=>N20 v27))) else N20 v16)) (fun (st21:(List (T3 Str Str Str)))=>(((Sz ((v12 ++ (v8 :: ([]:List (T3 Str Str Int))))).length))∧(W_Pattern_init (v12 ++ (v8 :: ([]:List (T3 Str Str Int)))) st21 (fun r31=>Q r31) E))))))))))))))) E)))
theorem c_Pattern_rshift {A0:AH} {a0:R_Pattern} {a1:(Str × R_Pattern)} {Q0:R_Pattern→Prop} {E0:Exv→Prop} {Q:QE} {E:QX} (h:W_Pattern_rshift a0 a1 Q0 E0) (hQ:∀ r,Q0 r→Q (enc_Pattern r) A0) (hE:∀ x,E0 x→E (encX x) A0):m_Pattern_rshift [(enc_Pattern a0),(D.tup [(D.str a1.1),(enc_Pattern a1.2)])] A0 Q E := by
 unfold W_Pattern_rshift at h
 have hc:Cells A0 [] A0 := Cells.nil_
 refine fn_in (s := [some (enc_Pattern a0),some (D.tup [(D.str a1.1),(enc_Pattern a1.2)]),none,none,none,none,none,none,none,none,none]) ?_ rfl rfl
 refine s_sq ?_
 refine u_setG (pv_var rfl) ?_
 refine ⟨[(D.str a1.1),(enc_Pattern a1.2)], .inl rfl,rfl,_,_,rfl,_,_,rfl,rfl, ?_⟩
 refine at_n (s' := [some (enc_Pattern a0),some (D.tup [(D.str a1.1),(enc_Pattern a1.2)]),some (D.str a1.1),some (enc_Pattern a1.2),none,none,none,none,none,none,none]) rfl ?_
 refine nx_sq ?_
 refine s_sq ?_
 obtain ⟨hS3,h⟩ := h
 refine u_if (Am.pt_or (Am.pt_not (pt_b (pv_call (pa_cons' (pv_var rfl) pa_nil') (fv_is_word hS3)))) (fun hh1=>(Am.pt_or (pt_b (pv_op2 (pv_fld (pv_var rfl) rfl (by simp) rfl) (pv_tup pa_nil') (q2_eq (a := a0.f_places) (b := (Tup.mk [])) ue_t (ue_r rfl) (by decide)))) (fun hh2=>(pt_b (pv_op2 (pv_fld (pv_var rfl) rfl (by simp) rfl) (pv_tup pa_nil') (q2_eq (a := a1.2.f_places) (b := (Tup.mk [])) ue_t (ue_r rfl) (by decide)))))))) h ?_ ?_
 ·intro hb4 h
  refine u_rz1 (pv_var rfl) ?_
  refine ex_sq ?_
  exact u_exf hc (hE _ h)
 ·intro hb4 h
  refine t_next ?_
  refine nx_sq ?_
  refine s_sq ?_
  refine u_setE ?_
  refine w_ownX ?_
  refine Pv.wp ?_ (pv_var rfl)
  refine Pv.wp ?_ (pv_var rfl)
  refine ⟨⟨_,rfl⟩,⟨_,rfl⟩, ?_⟩
  refine c_Pattern_or  h ?_ ?_
  rotate_left
  ·intro x h
   refine ex_sq ?_
   exact u_exf hc (hE _ h)
  intro r5 h
  refine at_n (s' := [some (enc_Pattern a0),some (D.tup [(D.str a1.1),(enc_Pattern a1.2)]),some (D.str a1.1),some (enc_Pattern a1.2),some (enc_Pattern r5),none,none,none,none,none,none]) rfl ?_
  refine nx_sq ?_
  refine s_sq ?_
  obtain ⟨hS6,h⟩ := h
  refine u_set (s' := [some (enc_Pattern a0),some (D.tup [(D.str a1.1),(enc_Pattern a1.2)]),some (D.str a1.1),some (enc_Pattern a1.2),some (enc_Pattern r5),some (D.tup [(D.str a1.1),(D.str ((List.getLast? a0.f_places.1).getD (⟨("":Str),("":Str),(0:Int)⟩:(T3 Str Str Int))).a),(D.str (ixG (⟨("":Str),("":Str),(0:Int)⟩:(T3 Str Str Int)) a1.2.f_places.1 (0:Int)).a)]),none,none,none,none,none]) (pv_tup (ds := [(D.str a1.1),(D.str ((List.getLast? a0.f_places.1).getD (⟨("":Str),("":Str),(0:Int)⟩:(T3 Str Str Int))).a),(D.str (ixG (⟨("":Str),("":Str),(0:Int)⟩:(T3 Str Str Int)) a1.2.f_places.1 (0:Int)).a)]) (pa_cons' (pv_var rfl) (pa_cons' (pv_op2 (pv_op2 (pv_fld (pv_var rfl) rfl (by simp) rfl) (pv_un1 pv_c p1_neg) (p2_ixL (d0 := (⟨("":Str),("":Str),(0:Int)⟩:(T3 Str Str Int))) it_t hS6.1)) pv_c (p2_ixT (ds := [(D.str ((List.getLast? a0.f_places.1).getD (⟨("":Str),("":Str),(0:Int)⟩:(T3 Str Str Int))).a),(D.str ((List.getLast? a0.f_places.1).getD (⟨("":Str),("":Str),(0:Int)⟩:(T3 Str Str Int))).b),(D.int ((List.getLast? a0.f_places.1).getD (⟨("":Str),("":Str),(0:Int)⟩:(T3 Str Str Int))).c)]) (d := (D.str ((List.getLast? a0.f_places.1).getD (⟨("":Str),("":Str),(0:Int)⟩:(T3 Str Str Int))).a)) rfl rfl)) (pa_cons' (pv_op2 (pv_op2 (pv_fld (pv_var rfl) rfl (by simp) rfl) pv_c (p2_ixG (d0 := (⟨("":Str),("":Str),(0:Int)⟩:(T3 Str Str Int))) it_t hS6.2)) pv_c (p2_ixT (ds := [(D.str (ixG (⟨("":Str),("":Str),(0:Int)⟩:(T3 Str Str Int)) a1.2.f_places.1 (0:Int)).a),(D.str (ixG (⟨("":Str),("":Str),(0:Int)⟩:(T3 Str Str Int)) a1.2.f_places.1 (0:Int)).b),(D.int (ixG (⟨("":Str),("":Str),(0:Int)⟩:(T3 Str Str Int)) a1.2.f_places.1 (0:Int)).c)]) (d := (D.str (ixG (⟨("":Str),("":Str),(0:Int)⟩:(T3 Str Str Int)) a1.2.f_places.1 (0:Int)).a)) rfl rfl)) pa_nil')))) rfl ?_
  refine nx_sq ?_
  refine s_sq ?_
  obtain ⟨hS7,h⟩ := h
  obtain ⟨v8,hv8⟩:∃ v:(T3 Str Str Int),v=((List.getLast? a1.2.f_places.1).getD (⟨("":Str),("":Str),(0:Int)⟩:(T3 Str Str Int))) := ⟨_,rfl⟩
  replace h := letW_out hv8 h
  refine u_set (s' := [some (enc_Pattern a0),some (D.tup [(D.str a1.1),(enc_Pattern a1.2)]),some (D.str a1.1),some (enc_Pattern a1.2),some (enc_Pattern r5),some (D.tup [(D.str a1.1),(D.str ((List.getLast? a0.f_places.1).getD (⟨("":Str),("":Str),(0:Int)⟩:(T3 Str Str Int))).a),(D.str (ixG (⟨("":Str),("":Str),(0:Int)⟩:(T3 Str Str Int)) a1.2.f_places.1 (0:Int)).a)]),some (D.tup [(D.str v8.a),(D.str v8.b),(D.int v8.c)]),none,none,none,none]) (Pv.is (pv_op2 (pv_fld (pv_var rfl) rfl (by simp) rfl) (pv_un1 pv_c p1_neg) (p2_ixL (d0 := (⟨("":Str),("":Str),(0:Int)⟩:(T3 Str Str Int))) it_t hS7)) (congrArg (fun z:(T3 Str Str Int)=>(D.tup [(D.str z.a),(D.str z.b),(D.int z.c)])) hv8.symm)) rfl ?_
  refine nx_sq ?_
  refine s_sq ?_
  obtain ⟨hS11,h⟩ := h
  obtain ⟨v12,hv12⟩:∃ v:(List (T3 Str Str Int)),v=(List.filter (fun x9:(T3 Str Str Int)=>(!eqB x9 v8)) r5.f_places.1) := ⟨_,rfl⟩
  replace h := letW_out hv12 h
  refine u_set (s' := [some (enc_Pattern a0),some (D.tup [(D.str a1.1),(enc_Pattern a1.2)]),some (D.str a1.1),some (enc_Pattern a1.2),some (enc_Pattern r5),some (D.tup [(D.str a1.1),(D.str ((List.getLast? a0.f_places.1).getD (⟨("":Str),("":Str),(0:Int)⟩:(T3 Str Str Int))).a),(D.str (ixG (⟨("":Str),("":Str),(0:Int)⟩:(T3 Str Str Int)) a1.2.f_places.1 (0:Int)).a)]),some (D.tup [(D.str v8.a),(D.str v8.b),(D.int v8.c)]),some (D.lst (List.map en v12)),none,none,none]) (Pv.is (v_lcF (e := en) (p := fun x9:(T3 Str Str Int)=>(!eqB x9 v8)) (mi_seq (pv_fld (pv_var rfl) rfl (by simp) rfl) it_t) rfl hS11 (fun x9 hx9=>lcb (tg_n rfl) (pt_b (pv_op2 (pv_var rfl) (pv_var rfl) (q2_ne (a := x9) (b := v8) (ue_r rfl) (ue_r rfl) (by decide)))) (fun hh10=>(pv_var rfl)))) (congrArg (fun z:(List (T3 Str Str Int))=>(D.lst (List.map en z))) hv12.symm)) rfl ?_
  refine nx_sq ?_
  refine s_sq ?_
  obtain ⟨hS15,h⟩ := h
  obtain ⟨v16,hv16⟩:∃ v:(List (T3 Str Str Str)),v=(List.map (fun x13:(T3 Str Str Str)=>x13) r5.f_links.1) := ⟨_,rfl⟩
  replace h := letW_out hv16 h
  refine u_set (s' := [some (enc_Pattern a0),some (D.tup [(D.str a1.1),(enc_Pattern a1.2)]),some (D.str a1.1),some (enc_Pattern a1.2),some (enc_Pattern r5),some (D.tup [(D.str a1.1),(D.str ((List.getLast? a0.f_places.1).getD (⟨("":Str),("":Str),(0:Int)⟩:(T3 Str Str Int))).a),(D.str (ixG (⟨("":Str),("":Str),(0:Int)⟩:(T3 Str Str Int)) a1.2.f_places.1 (0:Int)).a)]),some (D.tup [(D.str v8.a),(D.str v8.b),(D.int v8.c)]),some (D.lst (List.map en v12)),some (D.lst (List.map en v16)),none,none]) (Pv.is (v_lcM (e := en) (g := fun x13:(T3 Str Str Str)=>x13) (e' := en) (mi_seq (pv_fld (pv_var rfl) rfl (by simp) rfl) it_t) rfl hS15 (fun x13 hx13=>lcb (tg_n rfl) pt_yes (fun hh14=>(pv_var rfl)))) (congrArg (fun z:(List (T3 Str Str Str))=>(D.lst (List.map en z))) hv16.symm)) rfl ?_
  refine nx_sq ?_
  refine u_join (σ := (List (T3 Str Str Str))) (fun st22 s23 A24=>s23=[some (enc_Pattern a0),some (D.tup [(D.str a1.1),(enc_Pattern a1.2)]),some (D.str a1.1),some (enc_Pattern a1.2),some (enc_Pattern r5),some (D.tup [(D.str a1.1),(D.str ((List.getLast? a0.f_places.1).getD (⟨("":Str),("":Str),(0:Int)⟩:(T3 Str Str Int))).a),(D.str (ixG (⟨("":Str),("":Str),(0:Int)⟩:(T3 Str Str Int)) a1.2.f_places.1 (0:Int)).a)]),some (D.tup [(D.str v8.a),(D.str v8.b),(D.int v8.c)]),some (D.lst (List.map en v12)),some (D.lst (List.map en st22)),none,none]∧Cells A0 [] A24) h ?_ ?_
  ·intro N20 h hN20
   refine u_if (pt_b (pv_op2 (pv_var rfl) (pv_var rfl) (q2_nin (a := (⟨a1.1,((List.getLast? a0.f_places.1).getD (⟨("":Str),("":Str),(0:Int)⟩:(T3 Str Str Int))).a,(ixG (⟨("":Str),("":Str),(0:Int)⟩:(T3 Str Str Int)) a1.2.f_places.1 (0:Int)).a⟩:(T3 Str Str Str))) (xs := v16) (ue_r rfl) (ItS.sq (ItL.toS il_l)) (by decide)))) h ?_ ?_
   ·intro hb25 h
    obtain ⟨hS26,h⟩ := h
    obtain ⟨v27,hv27⟩:∃ v:(List (T3 Str Str Str)),v=(v16 ++ ([(⟨a1.1,((List.getLast? a0.f_places.1).getD (⟨("":Str),("":Str),(0:Int)⟩:(T3 Str Str Int))).a,(ixG (⟨("":Str),("":Str),(0:Int)⟩:(T3 Str Str Int)) a1.2.f_places.1 (0:Int)).a⟩:(T3 Str Str Str))]:List (T3 Str Str Str))) := ⟨_,rfl⟩
    replace h := letW_out hv27 h
    refine u_set (s' := [some (enc_Pattern a0),some (D.tup [(D.str a1.1),(enc_Pattern a1.2)]),some (D.str a1.1),some (enc_Pattern a1.2),some (enc_Pattern r5),some (D.tup [(D.str a1.1),(D.str ((List.getLast? a0.f_places.1).getD (⟨("":Str),("":Str),(0:Int)⟩:(T3 Str Str Int))).a),(D.str (ixG (⟨("":Str),("":Str),(0:Int)⟩:(T3 Str Str Int)) a1.2.f_places.1 (0:Int)).a)]),some (D.tup [(D.str v8.a),(D.str v8.b),(D.int v8.c)]),some (D.lst (List.map en v12)),some (D.lst (List.map en v27)),none,none]) (Pv.is (pv_op2 (pv_var rfl) (pv_lst (pa_cons' (pv_var rfl) pa_nil')) (p2_addLI il_l (il_r (xs := ([(⟨a1.1,((List.getLast? a0.f_places.1).getD (⟨("":Str),("":Str),(0:Int)⟩:(T3 Str Str Int))).a,(ixG (⟨("":Str),("":Str),(0:Int)⟩:(T3 Str Str Int)) a1.2.f_places.1 (0:Int)).a⟩:(T3 Str Str Str))]:List (T3 Str Str Str))) (e := en) rfl) hS26)) (congrArg (fun z:(List (T3 Str Str Str))=>(D.lst (List.map en z))) hv27.symm)) rfl ?_
    refine nx_sq ?_
    exact hN20 _ _ _ h ⟨rfl,hc⟩
   ·intro hb25 h
    refine t_next ?_
    refine nx_sq ?_
    exact hN20 _ _ _ h ⟨rfl,hc⟩
  rintro st21 s29 A28 h ⟨rfl,hc⟩
  refine u_retE ?_
  obtain ⟨hS30,h⟩ := h
  refine w_makeD (pa_cons' (pv_lst (pa_starI (pv_var rfl) (ItL.toS il_l) (pa_consI (z := v8) (ys := ([]:List (T3 Str Str Int))) (e := en) (pv_var rfl) pa_nil')) (by rw [List.length_map]; exact hS30)) (pa_cons' (pv_var rfl) pa_nil')) ?_
  refine c_Pattern_init il_l il_l h ?_ ?_
  rotate_left
  ·intro x h
   exact u_exf hc (hE _ h)
  intro r31 A32 h hle
  replace hc := hc.les hle
  refine u_rt hc ?_
  exact hQ _ h
def W_check_statements (a0:R_Schema) (a1:(List R_Statement)) (Q:(Unit)→Prop) (E:Exv→Prop):Prop :=
 (forW (enu a1) (([]:List (Str × (T3 Str Str Int))):(List (Str × (T3 Str Str Int)))) (fun (x3:(Int × R_Statement)) (st198:(List (Str × (T3 Str Str Int)))) N195 B196=>(forW x3.2.f_pattern.f_places.1 (([]:List (Str × (T3 Str Str Int))):(List (Str × (T3 Str Str Int)))) (fun (x219:(T3 Str Str Int)) (st232:(List (Str × (T3 Str Str Int)))) N229 B230=>(if ((!(Option.isSome (valA a0.f_kind_codes x219.b))) || (!eqB (Option.getD (valA st198 x219.a) x219) x219))=true then E (Exv.misfit x3.1 x219.a) else (((Sz ((st232).length + 1)))∧N229 (putA st232 x219.a x219)))) (fun (st243:(List (Str × (T3 Str Str Int))))=>(forW x3.2.f_pattern.f_links.1 (():Unit) (fun (x246:(T3 Str Str Str)) (st259:Unit) N256 B257=>((((!(Option.isSome (valA a0.f_link_codes x246.a)))=false→(Option.isSome (valA a0.f_spans x246.a)=true)∧(Option.isSome (valA st243 x246.b)=true)∧(Option.isSome (valA st243 x246.c)=true)))∧(if ((!(Option.isSome (valA a0.f_link_codes x246.a))) || (!eqB (Option.getD (valA a0.f_spans x246.a) (⟨("":Str),("":Str)⟩:(Str × Str))) (⟨(Option.getD (valA st243 x246.b) (⟨("":Str),("":Str),(0:Int)⟩:(T3 Str Str Int))).b,(Option.getD (valA st243 x246.c) (⟨("":Str),("":Str),(0:Int)⟩:(T3 Str Str Int))).b⟩:(Str × Str))))=true then E (Exv.misfit x3.1 x246.a) else N256 ()))) (fun (st273:Unit)=>(forW (List.map (fun p=>p.1) st243) (st198:(List (Str × (T3 Str Str Int)))) (fun (x281:Str) (st294:(List (Str × (T3 Str Str Int)))) N291 B292=>(((Option.isSome (valA st243 x281)=true))∧(((Sz ((st294).length + 1)))∧(letW (putA st294 x281 (Option.getD (valA st243 x281) (⟨("":Str),("":Str),(0:Int)⟩:(T3 Str Str Int)))) (fun (l304:(List (Str × (T3 Str Str Int))))=>N291 l304))))) (fun (st305:(List (Str × (T3 Str Str Int))))=>N195 st305))))))) (fun (st309:(List (Str × (T3 Str Str Int))))=>Q ()))
theorem c_check_statements {A0:AH} {a0:R_Schema} {y1:D} {a1:(List R_Statement)} (hx1:ItL A0 y1 a1 enc_Statement) {Q0:Unit→Prop} {E0:Exv→Prop} {Q:QE} {E:QX} (h:W_check_statements a0 a1 Q0 E0) (hQ:∀ r,Q0 r→Q D.non A0) (hE:∀ x,E0 x→E (encX x) A0):m_check_statements [(enc_Schema a0),y1] A0 Q E := by
 unfold W_check_statements at h
 have hc:Cells A0 [] A0 := Cells.nil_
 refine fn_in (s := [some (enc_Schema a0),some y1,none,none,none,none,none,none,none,none]) ?_ rfl rfl
 refine s_sq ?_
 refine u_setE ?_
 refine w_dnK ?_
 intro n1 hn
 replace hc := hc.new (Nd.dK []) hn
 generalize put A0 n1 (Nd.dK [])=A2 at hc ⊢
 replace hc:Cells A0 [[(n1,(Nd.dK (List.map (eD kS en) ([]:List (Str × (T3 Str Str Int))))))]] A2 := hc
 refine at_n (s' := [some (enc_Schema a0),some y1,some (D.ref n1),none,none,none,none,none,none,none]) rfl ?_
 refine nx_sq ?_
 refine u_forC (σ := (List (Str × (T3 Str Str Int)))) (e := (eE enc_Statement)) (fun st199 s200 A201=>∃ (j202 j203 j204 j205 j206 j207 j208:Option D),s200=[some (enc_Schema a0),some y1,some (D.ref n1),j202,j203,j204,j205,j206,j207,j208]∧Cells A0 [[(n1,(Nd.dK (List.map (eD kS en) st199)))]] A201) (mi_enum (pv_var rfl) (hx1.les hc.le)) h ⟨_,_,_,_,_,_,_,rfl,hc⟩ (fun _ _ _ ⟨_,_,_,_,_,_,_,_,hcP⟩=>(hx1.same hc.le hcP.le)) ?_ ?_
 ·rintro x3 hx3 st198 _ A216 N195 B196 Nm197 h ⟨j209,j210,j211,j212,j213,j214,j215,rfl,hc⟩ hN195 hB196
  refine ⟨[(D.int x3.1),(enc_Statement x3.2)], .inl rfl,rfl,_,_,rfl,_,_,rfl,rfl, ?_⟩
  refine at_s (s' := [some (enc_Schema a0),some y1,some (D.ref n1),some (D.int x3.1),some (enc_Statement x3.2),j211,j212,j213,j214,j215]) rfl ?_
  refine s_sq ?_
  refine u_setE ?_
  refine w_dnK ?_
  intro n217 hn
  replace hc := hc.new (Nd.dK []) hn
  generalize put A216 n217 (Nd.dK [])=A218 at hc ⊢
  replace hc:Cells A0 [[(n1,(Nd.dK (List.map (eD kS en) st198)))],[(n217,(Nd.dK (List.map (eD kS en) ([]:List (Str × (T3 Str Str Int))))))]] A218 := hc
  refine at_n (s' := [some (enc_Schema a0),some y1,some (D.ref n1),some (D.int x3.1),some (enc_Statement x3.2),some (D.ref n217),j212,j213,j214,j215]) rfl ?_
  refine nx_sq ?_
  refine s_sq ?_
  refine u_forC (σ := (List (Str × (T3 Str Str Int)))) (e := en) (fun st233 s234 A235=>∃ (j236:Option D),s234=[some (enc_Schema a0),some y1,some (D.ref n1),some (D.int x3.1),some (enc_Statement x3.2),some (D.ref n217),j236,j213,j214,j215]∧Cells A0 [[(n1,(Nd.dK (List.map (eD kS en) st198)))],[(n217,(Nd.dK (List.map (eD kS en) st233)))]] A235) (mi_seq (pv_fld (pv_fld (pv_var rfl) rfl (by simp) rfl) rfl (by simp) rfl) it_t) h ⟨_,rfl,hc⟩ (fun _ _ _ ⟨_,_,hcP⟩=>(fun n e=>nomatch e)) ?_ ?_
  ·rintro x219 hx219 st232 _ A238 N229 B230 Nm231 h ⟨j237,rfl,hc⟩ hN229 hB230
   refine at_s (s' := [some (enc_Schema a0),some y1,some (D.ref n1),some (D.int x3.1),some (enc_Statement x3.2),some (D.ref n217),some (D.tup [(D.str x219.a),(D.str x219.b),(D.int x219.c)]),j213,j214,j215]) rfl ?_
   refine s_sq ?_
   refine u_if (Am.pt_or (pt_b (pv_inK1 (k := x219.b) (fun _ _=>kS_inj) (pv_op2 (pv_var rfl) pv_c (p2_ixT (ds := [(D.str x219.a),(D.str x219.b),(D.int x219.c)]) (d := (D.str x219.b)) rfl rfl)) (pv_fld (pv_var rfl) rfl (by simp) rfl) dk_t rfl)) (fun hh239=>(pt_b (pv_op2 (pv_get2K (k := x219.a) (w := x219) (fun _ _=>kS_inj) (pv_var rfl) (pv_op2 (pv_var rfl) pv_c (p2_ixT (ds := [(D.str x219.a),(D.str x219.b),(D.int x219.c)]) (d := (D.str x219.a)) rfl rfl)) (pv_var rfl) (dk_n (hc.at 0 rfl)) rfl) (pv_var rfl) (q2_ne (a := (Option.getD (valA st198 x219.a) x219)) (b := x219) (ue_r rfl) (ue_r rfl) (by decide)))))) h ?_ ?_
   ·intro hb240 h
    refine u_rz2 (pv_var rfl) (pv_op2 (pv_var rfl) pv_c (p2_ixT (ds := [(D.str x219.a),(D.str x219.b),(D.int x219.c)]) (d := (D.str x219.a)) rfl rfl)) ?_
    refine ex_sq ?_
    refine ex_lp ?_
    refine ex_sq ?_
    refine ex_lp ?_
    exact u_exf hc (hE _ h)
   ·intro hb240 h
    refine t_next ?_
    refine nx_sq ?_
    refine u_dputS ?_
    refine Pv.wp ?_ (pv_var rfl)
    refine Pv.wp ?_ (pv_var rfl)
    refine Pv.wp ?_ (pv_op2 (pv_var rfl) pv_c (p2_ixT (ds := [(D.str x219.a),(D.str x219.b),(D.int x219.c)]) (d := (D.str x219.a)) rfl rfl))
    obtain ⟨hS241,h⟩ := h
    refine u_dputK (l := st232) (k := x219.a) (e := en) (v := x219) (fun _ _=>kS_inj) (hc.at 1 rfl) rfl hS241 ?_
    replace hc := hc.put 1 rfl (Nd.dK (List.map (eD kS en) (putA st232 x219.a x219)))
    generalize put A238 n217 (Nd.dK (List.map (eD kS en) (putA st232 x219.a x219)))=A242 at hc ⊢
    replace hc:Cells A0 [[(n1,(Nd.dK (List.map (eD kS en) st198)))],[(n217,(Nd.dK (List.map (eD kS en) (putA st232 x219.a x219))))]] A242 := hc
    refine nx_lp ?_
    exact hN229 _ _ _ h ⟨_,rfl,hc⟩
  rintro st243 _ A245 h ⟨j244,rfl,hc⟩
  refine nx_sq ?_
  refine s_sq ?_
  refine u_forC (σ := Unit) (e := en) (fun st260 s261 A262=>∃ (j263 j264 j265:Option D),s261=[some (enc_Schema a0),some y1,some (D.ref n1),some (D.int x3.1),some (enc_Statement x3.2),some (D.ref n217),j244,j263,j264,j265]∧Cells A0 [[(n1,(Nd.dK (List.map (eD kS en) st198)))],[(n217,(Nd.dK (List.map (eD kS en) st243)))]] A262) (mi_seq (pv_fld (pv_fld (pv_var rfl) rfl (by simp) rfl) rfl (by simp) rfl) it_t) h ⟨_,_,_,rfl,hc⟩ (fun _ _ _ ⟨_,_,_,_,hcP⟩=>(fun n e=>nomatch e)) ?_ ?_
  ·rintro x246 hx246 st259 _ A269 N256 B257 Nm258 h ⟨j266,j267,j268,rfl,hc⟩ hN256 hB257
   refine ⟨[(D.str x246.a),(D.str x246.b),(D.str x246.c)], .inl rfl,rfl,_,_,rfl,_,_,rfl,_,_,rfl,rfl, ?_⟩
   refine at_s (s' := [some (enc_Schema a0),some y1,some (D.ref n1),some (D.int x3.1),some (enc_Statement x3.2),some (D.ref n217),j244,some (D.str x246.a),some (D.str x246.b),some (D.str x246.c)]) rfl ?_
   obtain ⟨hS271,h⟩ := h
   refine u_if (Am.pt_or (pt_b (pv_inK1 (k := x246.a) (fun _ _=>kS_inj) (pv_var rfl) (pv_fld (pv_var rfl) rfl (by simp) rfl) dk_t rfl)) (fun hh270=>(pt_b (pv_op2 (pv_getK (k := x246.a) (d0 := (⟨("":Str),("":Str)⟩:(Str × Str))) (fun _ _=>kS_inj) (pv_fld (pv_var rfl) rfl (by simp) rfl) (pv_var rfl) dk_t rfl (hS271 hh270).1) (pv_tup (ds := [(D.str (Option.getD (valA st243 x246.b) (⟨("":Str),("":Str),(0:Int)⟩:(T3 Str Str Int))).b),(D.str (Option.getD (valA st243 x246.c) (⟨("":Str),("":Str),(0:Int)⟩:(T3 Str Str Int))).b)]) (pa_cons' (pv_op2 (pv_getK (k := x246.b) (d0 := (⟨("":Str),("":Str),(0:Int)⟩:(T3 Str Str Int))) (fun _ _=>kS_inj) (pv_var rfl) (pv_var rfl) (dk_n (hc.at 1 rfl)) rfl (hS271 hh270).2.1) pv_c (p2_ixT (ds := [(D.str (Option.getD (valA st243 x246.b) (⟨("":Str),("":Str),(0:Int)⟩:(T3 Str Str Int))).a),(D.str (Option.getD (valA st243 x246.b) (⟨("":Str),("":Str),(0:Int)⟩:(T3 Str Str Int))).b),(D.int (Option.getD (valA st243 x246.b) (⟨("":Str),("":Str),(0:Int)⟩:(T3 Str Str Int))).c)]) (d := (D.str (Option.getD (valA st243 x246.b) (⟨("":Str),("":Str),(0:Int)⟩:(T3 Str Str Int))).b)) rfl rfl)) (pa_cons' (pv_op2 (pv_getK (k := x246.c) (d0 := (⟨("":Str),("":Str),(0:Int)⟩:(T3 Str Str Int))) (fun _ _=>kS_inj) (pv_var rfl) (pv_var rfl) (dk_n (hc.at 1 rfl)) rfl (hS271 hh270).2.2) pv_c (p2_ixT (ds := [(D.str (Option.getD (valA st243 x246.c) (⟨("":Str),("":Str),(0:Int)⟩:(T3 Str Str Int))).a),(D.str (Option.getD (valA st243 x246.c) (⟨("":Str),("":Str),(0:Int)⟩:(T3 Str Str Int))).b),(D.int (Option.getD (valA st243 x246.c) (⟨("":Str),("":Str),(0:Int)⟩:(T3 Str Str Int))).c)]) (d := (D.str (Option.getD (valA st243 x246.c) (⟨("":Str),("":Str),(0:Int)⟩:(T3 Str Str Int))).b)) rfl rfl)) pa_nil'))) (q2_ne (a := (Option.getD (valA a0.f_spans x246.a) (⟨("":Str),("":Str)⟩:(Str × Str)))) (b := (⟨(Option.getD (valA st243 x246.b) (⟨("":Str),("":Str),(0:Int)⟩:(T3 Str Str Int))).b,(Option.getD (valA st243 x246.c) (⟨("":Str),("":Str),(0:Int)⟩:(T3 Str Str Int))).b⟩:(Str × Str))) (ue_r rfl) (ue_r rfl) (by decide)))))) h ?_ ?_
   ·intro hb272 h
    refine u_rz2 (pv_var rfl) (pv_var rfl) ?_
    refine ex_lp ?_
    refine ex_sq ?_
    refine ex_lp ?_
    exact u_exf hc (hE _ h)
   ·intro hb272 h
    refine t_next ?_
    refine nx_lp ?_
    exact hN256 _ _ _ h ⟨_,_,_,rfl,hc⟩
  rintro st273 _ A277 h ⟨j274,j275,j276,rfl,hc⟩
  refine nx_sq ?_
  refine u_lockK (hc.at 1 rfl) fun o278 us279=>?_
  replace hc := hc.put 1 rfl (Nd.lkK o278 us279 (List.map (eD kS en) st243))
  generalize put A277 n217 (Nd.lkK o278 us279 (List.map (eD kS en) st243))=A280 at hc ⊢
  replace hc:Cells A0 [[(n1,(Nd.dK (List.map (eD kS en) st198)))],[(n217,(Nd.lkK o278 us279 (List.map (eD kS en) st243)))]] A280 := hc
  refine u_forC (σ := (List (Str × (T3 Str Str Int)))) (e := en) (fun st295 s296 A297=>∃ (j298:Option D),s296=[some (enc_Schema a0),some y1,some (D.ref n1),some (D.int x3.1),some (enc_Statement x3.2),some (D.ref n217),j244,j298,j275,j276]∧Cells A0 [[(n1,(Nd.dK (List.map (eD kS en) st295)))],[(n217,(Nd.lkK o278 us279 (List.map (eD kS en) st243)))]] A297) (mi_keysK (pv_var rfl) (hc.at 1 rfl) (fun _=>rfl)) h ⟨_,rfl,hc⟩ (fun _ _ _ ⟨_,_,hcP⟩=>(hcP.at 1 rfl).trans (hc.at 1 rfl).symm) ?_ ?_
  ·rintro x281 hx281 st294 _ A300 N291 B292 Nm293 h ⟨j299,rfl,hc⟩ hN291 hB292
   refine at_s (s' := [some (enc_Schema a0),some y1,some (D.ref n1),some (D.int x3.1),some (enc_Statement x3.2),some (D.ref n217),j244,some (D.str x281),j275,j276]) rfl ?_
   refine u_dputS ?_
   obtain ⟨hS301,h⟩ := h
   refine Pv.wp ?_ (pv_getK (k := x281) (d0 := (⟨("":Str),("":Str),(0:Int)⟩:(T3 Str Str Int))) (fun _ _=>kS_inj) (pv_var rfl) (pv_var rfl) (dk_lk (hc.at 1 rfl)) rfl hS301)
   refine Pv.wp ?_ (pv_var rfl)
   refine Pv.wp ?_ (pv_var rfl)
   obtain ⟨hS302,h⟩ := h
   refine u_dputK (l := st294) (k := x281) (e := en) (v := (Option.getD (valA st243 x281) (⟨("":Str),("":Str),(0:Int)⟩:(T3 Str Str Int)))) (fun _ _=>kS_inj) (hc.at 0 rfl) rfl hS302 ?_
   replace hc := hc.put 0 rfl (Nd.dK (List.map (eD kS en) (putA st294 x281 (Option.getD (valA st243 x281) (⟨("":Str),("":Str),(0:Int)⟩:(T3 Str Str Int))))))
   generalize put A300 n1 (Nd.dK (List.map (eD kS en) (putA st294 x281 (Option.getD (valA st243 x281) (⟨("":Str),("":Str),(0:Int)⟩:(T3 Str Str Int))))))=A303 at hc ⊢
   replace hc:Cells A0 [[(n1,(Nd.dK (List.map (eD kS en) (putA st294 x281 (Option.getD (valA st243 x281) (⟨("":Str),("":Str),(0:Int)⟩:(T3 Str Str Int)))))))],[(n217,(Nd.lkK o278 us279 (List.map (eD kS en) st243)))]] A303 := hc
   obtain ⟨l304,hl304⟩:∃ v:(List (Str × (T3 Str Str Int))),v=(putA st294 x281 (Option.getD (valA st243 x281) (⟨("":Str),("":Str),(0:Int)⟩:(T3 Str Str Int)))) := ⟨_,rfl⟩
   replace h := letW_out hl304 h
   replace hc:Cells A0 [[(n1,(Nd.dK (List.map (eD kS en) l304)))],[(n217,(Nd.lkK o278 us279 (List.map (eD kS en) st243)))]] A303 := by rw [hl304]; exact hc
   refine nx_lp ?_
   exact hN291 _ _ _ h ⟨_,rfl,hc⟩
  rintro st305 _ A307 h ⟨j306,rfl,hc⟩
  refine nx_lk (hc.at 1 rfl) ?_
  replace hc := hc.put 1 rfl (Nd.dK (List.map (eD kS en) st243))
  generalize put A307 n217 (Nd.dK (List.map (eD kS en) st243))=A308 at hc ⊢
  replace hc:Cells A0 [[(n1,(Nd.dK (List.map (eD kS en) st305)))],[(n217,(Nd.dK (List.map (eD kS en) st243)))]] A308 := hc
  refine nx_lp ?_
  exact hN195 _ _ _ h ⟨_,_,_,_,_,_,_,rfl,(hc.take 1)⟩
 rintro st309 _ A317 h ⟨j310,j311,j312,j313,j314,j315,j316,rfl,hc⟩
 refine u_nxf hc ?_
 exact hQ _ h
structure R_Program where
 f_schema:R_Schema
 f_body:(List R_Statement)
 f_watched:KTs
def enc_Program (r:R_Program):D := .ins "Program" [("schema",(enc_Schema r.f_schema)),("body",(D.lst (List.map enc_Statement r.f_body))),("watched",(enKT r.f_watched))]
instance:Inhabited R_Program := ⟨⟨default,[],(⟨false,[]⟩:KTs)⟩⟩
def W_Program_init (a1:R_Schema) (a2:(List R_Statement)) (a3:KTs) (Q:R_Program→Prop) (E:Exv→Prop):Prop :=
 (W_check_statements a1 a2 (fun r1=>Q (⟨a1,a2,a3⟩:R_Program)) E)
theorem c_Program_init {A0:AH} {a1:R_Schema} {y2:D} {a2:(List R_Statement)} (hx2:ItL A0 y2 a2 enc_Statement) {a3:KTs} {Q0:R_Program→Prop} {E0:Exv→Prop} {Q:QE} {E:QX} (h:W_Program_init a1 a2 a3 Q0 E0) (hQ:∀ r A,Q0 r→Les A0 A→Q (enc_Program r) A) (hE:∀ x,E0 x→E (encX x) A0):∀ m0,A0 m0=none→m_Program_init [.ref m0,(enc_Schema a1),y2,(enKT a3)] (put A0 m0 (.ins "Program" [])) (fun d A2=>d = .non∧frzF A2 (.ref m0) Q) E := by
 unfold W_Program_init at h
 intro m0 hn
 have hc:Cells A0 [] A0 := Cells.nil_
 replace hc := hc.new (Nd.ins "Program" []) hn
 generalize put A0 m0 (Nd.ins "Program" [])=A1 at hc ⊢
 replace hc:Cells A0 [[(m0,(Nd.ins "Program" ([]:List (Str × D))))]] A1 := hc
 refine fn_in (s := [some (D.ref m0),some (enc_Schema a1),some y2,some (enKT a3)]) ?_ rfl rfl
 refine s_sq ?_
 refine u_dropE ?_
 refine w_callW ?_ (pa_cons' (pv_var rfl) (pa_cons' (pv_var rfl) pa_nil'))
 refine c_check_statements (hx2.les hc.le) h ?_ ?_
 rotate_left
 ·intro x h
  refine ex_sq ?_
  exact u_exf hc (hE _ h)
 intro r1 h
 refine nx_sq ?_
 refine s_sq ?_
 refine u_sfldS ?_
 refine Pv.wp ?_ (pv_var rfl)
 refine Pv.wp ?_ (pv_var rfl)
 refine u_sfld1 (fs' := ([(("schema":Str),(enc_Schema a1))]:List (Str × D))) (hc.at 0 rfl) (by simp) (Nat.le_of_ble_eq_true rfl) rfl ?_
 replace hc := hc.put 0 rfl (Nd.ins "Program" ([(("schema":Str),(enc_Schema a1))]:List (Str × D)))
 generalize put A1 m0 (Nd.ins "Program" ([(("schema":Str),(enc_Schema a1))]:List (Str × D)))=A2 at hc ⊢
 replace hc:Cells A0 [[(m0,(Nd.ins "Program" ([(("schema":Str),(enc_Schema a1))]:List (Str × D))))]] A2 := hc
 refine nx_sq ?_
 refine s_sq ?_
 refine u_sfldS ?_
 refine Pv.wp ?_ (pv_cbB (pa_cons' (pv_var rfl) pa_nil') (pb_listI (ItL.toS (hx2.les hc.le))))
 refine Pv.wp ?_ (pv_var rfl)
 refine u_sfld1 (fs' := ([(("schema":Str),(enc_Schema a1)),(("body":Str),(D.lst (List.map enc_Statement a2)))]:List (Str × D))) (hc.at 0 rfl) (by simp) (Nat.le_of_ble_eq_true rfl) rfl ?_
 replace hc := hc.put 0 rfl (Nd.ins "Program" ([(("schema":Str),(enc_Schema a1)),(("body":Str),(D.lst (List.map enc_Statement a2)))]:List (Str × D)))
 generalize put A2 m0 (Nd.ins "Program" ([(("schema":Str),(enc_Schema a1)),(("body":Str),(D.lst (List.map enc_Statement a2)))]:List (Str × D)))=A3 at hc ⊢
 replace hc:Cells A0 [[(m0,(Nd.ins "Program" ([(("schema":Str),(enc_Schema a1)),(("body":Str),(D.lst (List.map enc_Statement a2)))]:List (Str × D))))]] A3 := hc
 refine nx_sq ?_
 refine u_sfldS ?_
 refine Pv.wp ?_ (pv_cbB (pa_cons' (pv_var rfl) pa_nil') pb_tupKK)
 refine Pv.wp ?_ (pv_var rfl)
 refine u_sfld1 (fs' := ([(("schema":Str),(enc_Schema a1)),(("body":Str),(D.lst (List.map enc_Statement a2))),(("watched":Str),(enKT a3))]:List (Str × D))) (hc.at 0 rfl) (by simp) (Nat.le_of_ble_eq_true rfl) rfl ?_
 replace hc := hc.put 0 rfl (Nd.ins "Program" ([(("schema":Str),(enc_Schema a1)),(("body":Str),(D.lst (List.map enc_Statement a2))),(("watched":Str),(enKT a3))]:List (Str × D)))
 generalize put A3 m0 (Nd.ins "Program" ([(("schema":Str),(enc_Schema a1)),(("body":Str),(D.lst (List.map enc_Statement a2))),(("watched":Str),(enKT a3))]:List (Str × D)))=A4 at hc ⊢
 replace hc:Cells A0 [[(m0,(Nd.ins "Program" ([(("schema":Str),(enc_Schema a1)),(("body":Str),(D.lst (List.map enc_Statement a2))),(("watched":Str),(enKT a3))]:List (Str × D))))]] A4 := hc
 refine u_nxi ?_
 refine frz_ins (hc.at 0 rfl) ?_
 replace hc := hc.cut 0 rfl
 generalize rem A4 m0=A5 at hc ⊢
 refine frzL_cons ?_
 refine frz_tre (fun n e=>by cases e) ?_
 refine frzL_cons ?_
 refine frz_tre (fun n e=>by cases e) ?_
 refine frzL_cons ?_
 refine frz_tre (fun n e=>(enKT_no e).elim) ?_
 refine frzL_nil ?_
 exact hQ _ _ h hc.le
end Lw
namespace Lw
open PySem PySem.Spec PyProof.Rows L2 Am
open PySem.W (Datum Tup T3 T4)
section
variable {s:Sl} {A:AH} {D0:AEnds} {t:MT} {U V:MS} {b:Bool}
theorem w_makeDX {c:Str} {f:FN} {mr:MA} {Q:QE} {E:QX} (h:mr s A (fun ds A1=>∀ n,A1 n=none→f (.ref n :: ds) (put A1 n (.ins c [])) (fun d A2=>d = .non∧frzF A2 (.ref n) Q) E) E):mMakeD c f mr s A Q E := h
theorem w_callX {f:FN} {mr:MA} {Q:QE} {E:QX} (h:mr s A (fun ds A1=>f ds A1 Q E) E):mCall f mr s A Q E := h
end
section
variable {ι β:Type} {s s':Sl} {A:AH} {te:ME} {t:MT} {tg:MG} {xs:List ι} {e:ι→D} {mi:MI} {P:AH→Prop}
theorem lc_corrC {I:AH→Prop} {f:β→D} {ck:AH→Prop} {b:ι→(Option β→Prop)→Prop} (hc:∀ A,I A→ck A) (hb:∀ a∈xs,∀ A,I A→∀ (K:Option β→Prop) (R:D→AH→Prop) (R':AH→Prop),b a K→(∀ y A2,I A2→K (some y)→R (f y) A2)→(∀ A2,I A2→K none→R' A2)→tg (e a) s A fun s1 A1=>t s1 A1 (fun b A2=>if b=true then te s1 A2 R NX else R' A2) NX) :
  ∀ {K:List β→Prop} {Q:List D→AH→Prop} {A:AH},I A→lcW xs b K→(∀ ys A2,I A2→K ys→Q (ys.map f) A2)→lcL ck tg t te s (xs.map e) A Q := by
 induction xs with
 | nil=>intro K Q A hI h q; exact ⟨hc _ hI,q [] _ hI h⟩
 | cons a xs ih =>
  intro K Q A hI h q
  refine ⟨hc _ hI,hb a (List.mem_cons_self ..) _ hI _ _ _ h (fun y A2 hI2 hy=>?_) (fun A2 hI2 hn=>?_)⟩
  ·exact ih (fun b hb'=>hb b (List.mem_cons_of_mem _ hb')) hI2 hy fun ys A3 hI3 hys=>q (y :: ys) A3 hI3 hys
  ·exact ih (fun b hb'=>hb b (List.mem_cons_of_mem _ hb')) hI2 hn q
theorem u_lcC (I:AH→Prop) {f:β→D} {vs:List Nat} {b:ι→(Option β→Prop)→Prop} {K:List β→Prop} {Q:QE} {E:QX} (hm:Mi mi s A (xs.map e) P) (hw:wipeD s vs=s') (hz:Sz xs.length) (h:lcW xs b K) (hI:I A) (hP:∀ A,I A→P A)
 (hb:∀ a∈xs,∀ A,I A→∀ (K:Option β→Prop) (R:D→AH→Prop) (R':AH→Prop),b a K→(∀ y A2,I A2→K (some y)→R (f y) A2)→(∀ A2,I A2→K none→R' A2)→tg (e a) s' A fun s1 A1=>t s1 A1 (fun b A2=>if b=true then te s1 A2 R NX else R' A2) NX) (q:∀ ys A2,I A2→K ys→Q (.lst (ys.map f)) A2):mLc mi tg t te vs s A Q E := hm _ _ fun ck hck h1=>⟨by rw [List.length_map]; exact hz,by rw [hw]; exact lc_corrC (fun A hA=>h1 A (hP A hA)) hb hI h q⟩
end
end Lw
namespace Lw
open PySem PySem.Spec PyProof.Rows L2 Am
open PySem.W (Datum Tup T3 T4)
def W_Program_placed (a0:R_Program) (Q:((Tup (T3 Str Str Int)))→Prop) (E:Exv→Prop):Prop :=
 (forW a0.f_body (([]:List (T3 Str Str Int)):(List (T3 Str Str Int))) (fun (x1:R_Statement) (st55:(List (T3 Str Str Int))) N52 B53=>(forW x1.f_pattern.f_places.1 (st55:(List (T3 Str Str Int))) (fun (x64:(T3 Str Str Int)) (st75:(List (T3 Str Str Int))) N72 B73=>(if (!inB x64 st75)=true then (((Sz ((st75).length + (([x64]:List (T3 Str Str Int))).length)))∧(letW (st75 ++ ([x64]:List (T3 Str Str Int))) (fun (v84:(List (T3 Str Str Int)))=>N72 v84))) else N72 st75)) (fun (st85:(List (T3 Str Str Int)))=>N52 st85))) (fun (st88:(List (T3 Str Str Int)))=>Q (Tup.mk st88)))
theorem c_Program_placed {A0:AH} {a0:R_Program} {Q0:(Tup (T3 Str Str Int))→Prop} {E0:Exv→Prop} {Q:QE} {E:QX} (h:W_Program_placed a0 Q0 E0) (hQ:∀ r,Q0 r→Q (D.tup (List.map en r.1)) A0) (hE:∀ x,E0 x→E (encX x) A0):m_Program_placed [(enc_Program a0)] A0 Q E := by
 unfold W_Program_placed at h
 have hc:Cells A0 [] A0 := Cells.nil_
 refine fn_in (s := [some (enc_Program a0),none,none,none]) ?_ rfl rfl
 refine s_sq ?_
 refine u_set (s' := [some (enc_Program a0),some (D.lst (List.map en ([]:List (T3 Str Str Int)))),none,none]) (pv_lst pa_nil') rfl ?_
 refine nx_sq ?_
 refine s_sq ?_
 refine u_forC (σ := (List (T3 Str Str Int))) (e := enc_Statement) (fun st56 s57 A58=>∃ (j59 j60:Option D),s57=[some (enc_Program a0),some (D.lst (List.map en st56)),j59,j60]∧Cells A0 [] A58) (mi_seq (pv_fld (pv_var rfl) rfl (by simp) rfl) (ItL.toS il_l)) h ⟨_,_,rfl,hc⟩ (fun _ _ _ ⟨_,_,_,hcP⟩=>(fun n e=>nomatch e)) ?_ ?_
 ·rintro x1 hx1 st55 _ A63 N52 B53 Nm54 h ⟨j61,j62,rfl,hc⟩ hN52 hB53
  refine at_s (s' := [some (enc_Program a0),some (D.lst (List.map en st55)),some (enc_Statement x1),j62]) rfl ?_
  refine u_forC (σ := (List (T3 Str Str Int))) (e := en) (fun st76 s77 A78=>∃ (j79:Option D),s77=[some (enc_Program a0),some (D.lst (List.map en st76)),some (enc_Statement x1),j79]∧Cells A0 [] A78) (mi_seq (pv_fld (pv_fld (pv_var rfl) rfl (by simp) rfl) rfl (by simp) rfl) it_t) h ⟨_,rfl,hc⟩ (fun _ _ _ ⟨_,_,hcP⟩=>(fun n e=>nomatch e)) ?_ ?_
  ·rintro x64 hx64 st75 _ A81 N72 B73 Nm74 h ⟨j80,rfl,hc⟩ hN72 hB73
   refine at_s (s' := [some (enc_Program a0),some (D.lst (List.map en st75)),some (enc_Statement x1),some (D.tup [(D.str x64.a),(D.str x64.b),(D.int x64.c)])]) rfl ?_
   refine u_if (pt_b (pv_op2 (pv_var rfl) (pv_var rfl) (q2_nin (a := x64) (xs := st75) (ue_r rfl) (ItS.sq (ItL.toS il_l)) (by decide)))) h ?_ ?_
   ·intro hb82 h
    obtain ⟨hS83,h⟩ := h
    obtain ⟨v84,hv84⟩:∃ v:(List (T3 Str Str Int)),v=(st75 ++ ([x64]:List (T3 Str Str Int))) := ⟨_,rfl⟩
    replace h := letW_out hv84 h
    refine u_set (s' := [some (enc_Program a0),some (D.lst (List.map en v84)),some (enc_Statement x1),some (D.tup [(D.str x64.a),(D.str x64.b),(D.int x64.c)])]) (Pv.is (pv_op2 (pv_var rfl) (pv_lst (pa_cons' (pv_var rfl) pa_nil')) (p2_addLI il_l (il_r (xs := ([x64]:List (T3 Str Str Int))) (e := en) rfl) hS83)) (congrArg (fun z:(List (T3 Str Str Int))=>(D.lst (List.map en z))) hv84.symm)) rfl ?_
    refine nx_lp ?_
    exact hN72 _ _ _ h ⟨_,rfl,hc⟩
   ·intro hb82 h
    refine t_next ?_
    refine nx_lp ?_
    exact hN72 _ _ _ h ⟨_,rfl,hc⟩
  rintro st85 _ A87 h ⟨j86,rfl,hc⟩
  refine nx_lp ?_
  exact hN52 _ _ _ h ⟨_,_,rfl,hc⟩
 rintro st88 _ A91 h ⟨j89,j90,rfl,hc⟩
 refine nx_sq ?_
 refine u_ret (pv_cbB (pa_cons' (pv_var rfl) pa_nil') (pb_tupI il_l)) ?_
 refine u_rt hc ?_
 exact hQ _ h
end Lw
namespace Lw
open PySem PySem.Spec PyProof.Rows L2 Am
open PySem.W (Datum Tup T3 T4)
abbrev Pl := T3 Str Str Int
abbrev Ln := T3 Str Str Str
abbrev Rw := T3 Str (List Pl) (List Ln)
def PatOk (p:R_Pattern):Prop := p.f_places.1.length≤1000∧p.f_links.1.length≤1000
def StmOk (s:R_Statement):Prop := PatOk s.f_pattern
def ddA (acc xs:List Pl):List Pl := xs.foldl (fun a x=>if inB x a=true then a else a ++ [x]) acc
def placedL (ss:List R_Statement):List Pl := ss.foldl (fun a s=>ddA a s.f_pattern.f_places.1) []
def placedF (p:R_Program):List Pl := placedL p.f_body
def widthF (p:R_Program):Int := maxI ([(0:Int)] ++ (placedF p).map fun x=>x.c + (1:Int))
def PrgOk (p:R_Program):Prop := (∀ s∈p.f_body,StmOk s)∧p.f_body.length≤1000∧p.f_schema.f_kinds.1.length≤1000∧p.f_schema.f_links.1.length≤1000
theorem szk {n:Nat} (h:n≤2000000):Sz n := Nat.le_trans h (Nat.le_of_ble_eq_true rfl)
section
variable {A:AH} {p q:R_Pattern} {s t:R_Statement} {g:R_Program}
theorem eqB_rfl {α:Type} [DecidableEq α] [Datum α] {a:α}:eqB a a=true := eqB_iff.mpr rfl
theorem no_out {α:Type} [DecidableEq α] [Datum α] {xs ys:List α} (h:∀ x∈xs,x∈ys):xs.filter (fun x=>!inB x ys)=[] := by
 rw [List.filter_eq_nil_iff]
 intro x hx
 simp [inB_iff.mpr (h x hx)]
theorem flen {α:Type} {xs:List α} {f:α→Bool}:(xs.filter f).length≤xs.length := List.length_filter_le _ _
theorem ddA_len (acc xs:List Pl):(ddA acc xs).length≤acc.length + xs.length := by
 unfold ddA
 induction xs generalizing acc with
 | nil=>simp
 | cons x xs ih =>
  rw [List.foldl_cons]
  refine Nat.le_trans (ih _) ?_
  split <;> simp <;> omega
theorem ddA_snoc (acc xs:List Pl) (x:Pl):ddA acc (xs ++ [x])=if inB x (ddA acc xs)=true then ddA acc xs else ddA acc xs ++ [x] := by
 unfold ddA; rw [List.foldl_append]; rfl
theorem placedL_snoc (ss:List R_Statement) (s:R_Statement):placedL (ss ++ [s])=ddA (placedL ss) s.f_pattern.f_places.1 := by
 unfold placedL; rw [List.foldl_append]; rfl
theorem placedL_len {ss:List R_Statement} (h:∀ s∈ss,StmOk s):(placedL ss).length≤ss.length * 1000 := by
 suffices g:∀ n,∀ ss:List R_Statement,ss.length=n→(∀ s∈ss,StmOk s)→(placedL ss).length≤ss.length * 1000 from g _ _ rfl h
 intro n
 induction n with
 | zero=>intro ss e _; rw [List.length_eq_zero_iff] at e; subst e; simp [placedL]
 | succ n ih =>
  intro ss e hs
  have hne:ss≠[] := by intro z; rw [z] at e; cases e
  have e1 := List.dropLast_concat_getLast hne
  rw [← e1,placedL_snoc]
  have h1 := ih ss.dropLast (by simp [e]) (fun s h=>hs s (List.dropLast_subset _ h))
  have h2 := (hs _ (List.getLast_mem hne)).1
  have h3 := ddA_len (placedL ss.dropLast) (ss.getLast hne).f_pattern.f_places.1
  simp only [List.length_append,List.length_cons,List.length_nil]
  omega
theorem placed_len (h:PrgOk g):(placedF g).length≤1000000 := by
 have h1 := placedL_len h.1
 have h2 := h.2.1
 unfold placedF
 omega
theorem fv_placed (h:PrgOk g):Fv m_Program_placed [enc_Program g] A (.tup ((placedF g).map en)) := fun Q E hq =>
 c_Program_placed (Q0 := fun r=>r=⟨placedF g⟩) (E0 := fun _=>False) (by
  unfold W_Program_placed
  refine forW_inv (fun pre st=>st=placedL pre) rfl (fun pre s post st N e hst hN=>?_) fun st e=>by rw [e]; rfl
  have h1 := placedL_len (ss := pre) fun s hs=>h.1 s (by rw [e]; simp [hs])
  have h2 := (h.1 s (by rw [e]; simp)).1
  have h3:pre.length≤g.f_body.length := by rw [e]; simp
  have h4 := h.2.1
  refine forW_inv (fun pr st=>st=ddA (placedL pre) pr) hst (fun pr x po st N' e' hst' hN'=>?_) fun st e=>hN _ (by rw [e,placedL_snoc])
  have h5 := ddA_len (placedL pre) pr
  have h6:pr.length≤s.f_pattern.f_places.1.length := by rw [e']; simp
  have h7:st.length≤2000000 - 1 := by rw [hst']; omega
  by_cases hx:inB x st=true
  ·rw [if_neg (by simp [hx])]
   exact hN' _ (by rw [ddA_snoc,← hst',if_pos hx])
  ·rw [if_pos (by simp [hx])]
   exact ⟨szk (by simp; omega),letW_in fun v hv=>hN' _ (by rw [ddA_snoc,← hst',if_neg hx,hv])⟩) (fun r hr=>by subst hr; exact hq) (fun _ h=>h.elim)
theorem ins_prg:insOf A (enc_Program g)=some (("Program":Str),([(("schema":Str),enc_Schema g.f_schema),(("body":Str),D.lst (g.f_body.map enc_Statement)),(("watched":Str),enKT g.f_watched)]:List (Str × D))) := rfl
end
theorem c_Program_init_dflt {A0:AH} {a1:R_Schema} {y2:D} {a2:List R_Statement} (hx2:ItL A0 y2 a2 enc_Statement) {Q0:R_Program→Prop} {E0:Exv→Prop} {Q:QE} {E:QX} (h:W_Program_init a1 a2 (⟨true,[]⟩:KTs) Q0 E0) (hQ:∀ r A,Q0 r→Les A0 A→Q (enc_Program r) A) (hE:∀ x,E0 x→E (encX x) A0):∀ m0,A0 m0=none→m_Program_init_dflt [.ref m0,enc_Schema a1,y2] (put A0 m0 (.ins "Program" [])) (fun d A2=>d = .non∧frzF A2 (.ref m0) Q) E := fun m0 hn=>by
 have := c_Program_init (a3 := (⟨true,[]⟩:KTs)) hx2 h hQ hE m0 hn
 exact this
end Lw
namespace Lw
open PySem PySem.Spec PyProof.Rows L2 Am
open PySem.W (Datum Tup T3 T4)
def W_Program_width (a0:R_Program) (Q:(Int)→Prop) (E:Exv→Prop):Prop :=
 (((PrgOk a0)∧(Sz ((⟨placedF a0⟩:Tup (T3 Str Str Int)).1).length)∧(Sz ((([(0:Int)]:List Int)).length + ((List.map (fun x1:(T3 Str Str Int)=>(x1.c + (1:Int))) (⟨placedF a0⟩:Tup (T3 Str Str Int)).1)).length))∧(0 < ((([(0:Int)]:List Int) ++ (List.map (fun x1:(T3 Str Str Int)=>(x1.c + (1:Int))) (⟨placedF a0⟩:Tup (T3 Str Str Int)).1))).length))∧Q (maxI (([(0:Int)]:List Int) ++ (List.map (fun x1:(T3 Str Str Int)=>(x1.c + (1:Int))) (⟨placedF a0⟩:Tup (T3 Str Str Int)).1))))
theorem c_Program_width {A0:AH} {a0:R_Program} {Q0:Int→Prop} {E0:Exv→Prop} {Q:QE} {E:QX} (h:W_Program_width a0 Q0 E0) (hQ:∀ r,Q0 r→Q (D.int r) A0) (hE:∀ x,E0 x→E (encX x) A0):m_Program_width [(enc_Program a0)] A0 Q E := by
 unfold W_Program_width at h
 have hc:Cells A0 [] A0 := Cells.nil_
 refine fn_in (s := [some (enc_Program a0),none,none,none]) ?_ rfl rfl
 obtain ⟨hS3,h⟩ := h
 refine u_ret (pv_cbB (pa_cons' (pv_op2 (pv_lst (pa_cons' pv_c pa_nil')) (v_lcM (e := en) (g := fun x1:(T3 Str Str Int)=>(x1.c + (1:Int))) (e' := en) (mi_seq (pv_propI (pv_var rfl) rfl (fv_placed hS3.1)) it_t) rfl hS3.2.1 (fun x1 hx1=>lcb (tg_tp rfl rfl (tgz_cons (tg_n rfl) (tgz_cons (tg_n rfl) (tgz_cons (tg_n rfl) tgz_nil)))) pt_yes (fun hh2=>(pv_op2 (pv_var rfl) pv_c p2_addI)))) (p2_addLI (il_r (xs := ([(0:Int)]:List Int)) (e := en) rfl) il_l hS3.2.2.1)) pa_nil') (pb_maxI il_l hS3.2.2.2)) ?_
 refine u_rt hc ?_
 exact hQ _ h
end Lw
namespace Lw
open PySem PySem.Spec PyProof.Rows L2 Am
open PySem.W (Datum Tup T3 T4)
def W_law_few (a1:(List (T3 Str Str (Option Str)))) (a2:Int) (a3:Int) (Q:((List (T3 Str Str Int)))→Prop) (E:Exv→Prop):Prop :=
 (((0 < a2∧a2≤1000000000))∧(∀ r4:Int,0≤r4→r4 < a2→(((-(2 ^ 62)≤((1:Int) + r4)∧((1:Int) + r4) < 2 ^ 62))∧(forW (rng ((1:Int) + r4)) (([]:List (T3 Str Str Int)):(List (T3 Str Str Int))) (fun (x6:Int) (st47:(List (T3 Str Str Int))) N44 B45=>(((0 < ((a1).length:Int)∧((a1).length:Int)≤1000000000))∧(∀ r59:Int,0≤r59→r59 < ((a1).length:Int)→(((0≤r59∧r59 < ((a1).length:Int)))∧(((0 < a3∧a3≤1000000000))∧(∀ r62:Int,0≤r62→r62 < a3→(((Sz (st47).length))∧(if (eqB (List.filter (fun x63:(T3 Str Str Int)=>((eqB x63.b (ixG (⟨("":Str),("":Str),none⟩:(T3 Str Str (Option Str))) a1 r59).a) && (eqB x63.c r62))) st47) ([]:List (T3 Str Str Int)))=true then (((Sz (st47).length)∧((List.map (fun x68:(T3 Str Str Int)=>x68.a) st47).length < 26))∧(∀ r71:Str,(isW r71=true∧r71 ∉ (List.map (fun x68:(T3 Str Str Int)=>x68.a) st47))→(((Sz ((st47).length + 1)))∧(letW (st47 ++ [(⟨r71,(ixG (⟨("":Str),("":Str),none⟩:(T3 Str Str (Option Str))) a1 r59).a,r62⟩:(T3 Str Str Int))]) (fun (l74:(List (T3 Str Str Int)))=>N44 l74))))) else N44 st47)))))))) (fun (st75:(List (T3 Str Str Int)))=>Q st75)))))
theorem c_law_few {A0:AH} {n0:Nat} (hp:A0 n0=some .pool) {y1:D} {a1:(List (T3 Str Str (Option Str)))} (hx1:ItL A0 y1 a1 en) {a2:Int} {a3:Int} {Q0:(List (T3 Str Str Int))→Prop} {E0:Exv→Prop} {Q:QE} {E:QX} (h:W_law_few a1 a2 a3 Q0 E0) (hQ:∀ r,Q0 r→Q (D.lst (List.map en r)) A0) (hE:∀ x,E0 x→E (encX x) A0):m_law_few [.ref n0,y1,(D.int a2),(D.int a3)] A0 Q E := by
 unfold W_law_few at h
 have hc:Cells A0 [] A0 := Cells.nil_
 refine fn_in (s := [some (D.ref n0),some y1,some (D.int a2),some (D.int a3),none,none,none,none,none]) ?_ rfl rfl
 refine s_sq ?_
 refine u_setE ?_
 refine w_nilM ?_
 intro n1 hn
 replace hc := hc.new (Nd.lst []) hn
 generalize put A0 n1 (Nd.lst [])=A2 at hc ⊢
 replace hc:Cells A0 [[(n1,(Nd.lst (List.map en ([]:List (T3 Str Str Int)))))]] A2 := hc
 refine at_n (s' := [some (D.ref n0),some y1,some (D.int a2),some (D.int a3),some (D.ref n1),none,none,none,none]) rfl ?_
 refine nx_sq ?_
 refine s_sq ?_
 refine u_rngE ?_
 refine w_opW ?_
 refine Pv.wp ?_ pv_c
 obtain ⟨hS3,h⟩ := h
 refine w_drawA (pa_cons' (pv_var rfl) (pa_cons' (pv_var rfl) pa_nil')) (hc.le _ _ hp) (hS3).1 (dr_small hS3) ?_
 intro r4 h0r4 h1r4
 replace h := h r4 h0r4 h1r4
 refine P2.wp ?_ p2_addI
 obtain ⟨hS5,h⟩ := h
 refine ⟨_,rfl,(hS5).1,(hS5).2, ?_⟩
 rw [intsD_rng]
 refine for_corr (σ := (List (T3 Str Str Int))) (e := en) (fun st48 s49 A50=>∃ (j51 j52 j53:Option D),s49=[some (D.ref n0),some y1,some (D.int a2),some (D.int a3),some (D.ref n1),j51,j52,j53,none]∧Cells A0 [[(n1,(Nd.lst (List.map en st48)))]] A50) h ⟨_,_,_,rfl,hc⟩ (fun _ _ _ ⟨_,_,_,_,hcP⟩=>True.intro) ?_ ?_
 ·rintro x6 hx6 st47 _ A57 N44 B45 Nm46 h ⟨j54,j55,j56,rfl,hc⟩ hN44 hB45
  refine at_s (s' := [some (D.ref n0),some y1,some (D.int a2),some (D.int a3),some (D.ref n1),some (D.int x6),j55,j56,none]) rfl ?_
  refine s_sq ?_
  refine u_setE ?_
  refine w_opW ?_
  refine w_opW ?_
  refine Pv.wp ?_ (pv_var rfl)
  obtain ⟨hS58,h⟩ := h
  refine w_drawA (pa_cons' (pv_var rfl) (pa_cons' (pv_cbB (pa_cons' (pv_var rfl) pa_nil') (pb_lenI (ItL.toS (hx1.les hc.le)))) pa_nil')) (hc.le _ _ hp) (hS58).1 (dr_small hS58) ?_
  intro r59 h0r59 h1r59
  replace h := h r59 h0r59 h1r59
  obtain ⟨hS60,h⟩ := h
  refine P2.wp ?_ (p2_ixG (d0 := (⟨("":Str),("":Str),none⟩:(T3 Str Str (Option Str)))) (ItL.toS (hx1.les hc.le)) hS60)
  refine Pv.wp ?_ pv_c
  refine P2.wp ?_ (p2_ixT (ds := [(D.str (ixG (⟨("":Str),("":Str),none⟩:(T3 Str Str (Option Str))) a1 r59).a),(D.str (ixG (⟨("":Str),("":Str),none⟩:(T3 Str Str (Option Str))) a1 r59).b),(en (ixG (⟨("":Str),("":Str),none⟩:(T3 Str Str (Option Str))) a1 r59).c)]) (d := (D.str (ixG (⟨("":Str),("":Str),none⟩:(T3 Str Str (Option Str))) a1 r59).a)) rfl rfl)
  refine at_n (s' := [some (D.ref n0),some y1,some (D.int a2),some (D.int a3),some (D.ref n1),some (D.int x6),some (D.str (ixG (⟨("":Str),("":Str),none⟩:(T3 Str Str (Option Str))) a1 r59).a),j56,none]) rfl ?_
  refine nx_sq ?_
  refine s_sq ?_
  refine u_setE ?_
  obtain ⟨hS61,h⟩ := h
  refine w_drawA (pa_cons' (pv_var rfl) (pa_cons' (pv_var rfl) pa_nil')) (hc.le _ _ hp) (hS61).1 (dr_small hS61) ?_
  intro r62 h0r62 h1r62
  replace h := h r62 h0r62 h1r62
  refine at_n (s' := [some (D.ref n0),some y1,some (D.int a2),some (D.int a3),some (D.ref n1),some (D.int x6),some (D.str (ixG (⟨("":Str),("":Str),none⟩:(T3 Str Str (Option Str))) a1 r59).a),some (D.int r62),none]) rfl ?_
  refine nx_sq ?_
  obtain ⟨hS66,h⟩ := h
  refine u_if (pt_b (pv_op2 (v_lcF (e := en) (p := fun x63:(T3 Str Str Int)=>((eqB x63.b (ixG (⟨("":Str),("":Str),none⟩:(T3 Str Str (Option Str))) a1 r59).a) && (eqB x63.c r62))) (mi_seq (pv_var rfl) (ItL.toS (il_n (hc.at 0 rfl)))) rfl hS66 (fun x63 hx63=>lcb (tg_n rfl) (Am.pt_and (pt_b (pv_op2 (pv_op2 (pv_var rfl) pv_c (p2_ixT (ds := [(D.str x63.a),(D.str x63.b),(D.int x63.c)]) (d := (D.str x63.b)) rfl rfl)) (pv_var rfl) (q2_eq (a := x63.b) (b := (ixG (⟨("":Str),("":Str),none⟩:(T3 Str Str (Option Str))) a1 r59).a) (ue_r rfl) (ue_r rfl) (by decide)))) (fun hh64=>(pt_b (pv_op2 (pv_op2 (pv_var rfl) pv_c (p2_ixT (ds := [(D.str x63.a),(D.str x63.b),(D.int x63.c)]) (d := (D.int x63.c)) rfl rfl)) (pv_var rfl) (q2_eq (a := x63.c) (b := r62) (ue_r rfl) (ue_r rfl) (by decide)))))) (fun hh65=>(pv_var rfl)))) (pv_lst pa_nil') (q2_eqL il_l (il_r (xs := ([]:List (T3 Str Str Int))) (e := en) rfl) (by decide)))) h ?_ ?_
  ·intro hb67 h
   refine u_appS ?_
   refine Pv.wp ?_ (pv_var rfl)
   refine ⟨u_it (hc.at 0 rfl), ?_⟩
   refine w_tupX ?_
   refine w_consX ?_
   obtain ⟨hS70,h⟩ := h
   refine w_callW ?_ (pa_cons' (pv_var rfl) (pa_cons' (v_lcM (e := en) (g := fun x68:(T3 Str Str Int)=>x68.a) (e' := en) (mi_seq (pv_var rfl) (ItL.toS (il_n (hc.at 0 rfl)))) rfl hS70.1 (fun x68 hx68=>lcb (tg_n rfl) pt_yes (fun hh69=>(pv_op2 (pv_var rfl) pv_c (p2_ixT (ds := [(D.str x68.a),(D.str x68.b),(D.int x68.c)]) (d := (D.str x68.a)) rfl rfl))))) pa_nil'))
   refine fw_word (hc.le _ _ hp) il_l hS70.2 ?_
   intro r71 hr71
   replace h := h r71 hr71
   refine w_consX ?_
   refine Pv.wp ?_ (pv_var rfl)
   refine w_consX ?_
   refine Pv.wp ?_ (pv_var rfl)
   refine w_nilX ?_
   refine ⟨sz (Nat.le_of_ble_eq_true rfl), ?_⟩
   obtain ⟨hS72,h⟩ := h
   refine u_app2 (xs := st47) (e := en) (v := (⟨r71,(ixG (⟨("":Str),("":Str),none⟩:(T3 Str Str (Option Str))) a1 r59).a,r62⟩:(T3 Str Str Int))) (hc.at 0 rfl) hS72 ?_
   replace hc := hc.put 0 rfl (Nd.lst (List.map en (st47 ++ [(⟨r71,(ixG (⟨("":Str),("":Str),none⟩:(T3 Str Str (Option Str))) a1 r59).a,r62⟩:(T3 Str Str Int))])))
   generalize put A57 n1 (Nd.lst (List.map en (st47 ++ [(⟨r71,(ixG (⟨("":Str),("":Str),none⟩:(T3 Str Str (Option Str))) a1 r59).a,r62⟩:(T3 Str Str Int))])))=A73 at hc ⊢
   replace hc:Cells A0 [[(n1,(Nd.lst (List.map en (st47 ++ [(⟨r71,(ixG (⟨("":Str),("":Str),none⟩:(T3 Str Str (Option Str))) a1 r59).a,r62⟩:(T3 Str Str Int))]))))]] A73 := hc
   obtain ⟨l74,hl74⟩:∃ v:(List (T3 Str Str Int)),v=(st47 ++ [(⟨r71,(ixG (⟨("":Str),("":Str),none⟩:(T3 Str Str (Option Str))) a1 r59).a,r62⟩:(T3 Str Str Int))]) := ⟨_,rfl⟩
   replace h := letW_out hl74 h
   replace hc:Cells A0 [[(n1,(Nd.lst (List.map en l74)))]] A73 := by rw [hl74]; exact hc
   refine nx_lp ?_
   exact hN44 _ _ _ h ⟨_,_,_,rfl,hc⟩
  ·intro hb67 h
   refine t_next ?_
   refine nx_lp ?_
   exact hN44 _ _ _ h ⟨_,_,_,rfl,hc⟩
 rintro st75 _ A79 h ⟨j76,j77,j78,rfl,hc⟩
 refine nx_sq ?_
 refine u_retE ?_
 refine w_fzL (n := n1) rfl (hc.at 0 rfl) ?_
 replace hc := hc.cut 0 rfl
 generalize rem A79 n1=A80 at hc ⊢
 refine u_rt hc ?_
 exact hQ _ h
def W_law_statements (a1:(List (T4 Str Str Str Str))) (a2:(List (T3 Str Str Int))) (a3:Int) (Q:((List (T3 Str (List (T3 Str Str Int)) (List (T3 Str Str Str)))))→Prop) (E:Exv→Prop):Prop :=
 (((0 < a3∧a3≤1000000000))∧(∀ r4:Int,0≤r4→r4 < a3→(((-(2 ^ 62)≤((1:Int) + r4)∧((1:Int) + r4) < 2 ^ 62))∧(forW (rng ((1:Int) + r4)) (([]:List (T3 Str (List (T3 Str Str Int)) (List (T3 Str Str Str)))):(List (T3 Str (List (T3 Str Str Int)) (List (T3 Str Str Str))))) (fun (x6:Int) (st329:(List (T3 Str (List (T3 Str Str Int)) (List (T3 Str Str Str))))) N326 B327=>(((Sz (a2).length))∧(lcW a2 (fun (x353:(T3 Str Str Int)) (N354:Option (T3 Str Str Int)→Prop)=>((∀ r356:Int,0≤r356→r356 < (3:Int)→(if (decide ((0:Int) < r356))=true then N354 (some x353) else N354 none)))) (fun (ys355:List (T3 Str Str Int))=>(joinW (σ := (List (T3 Str Str Int))) (fun N361=>(if (eqB ys355 ([]:List (T3 Str Str Int)))=true then (((0 < ((a2).length:Int)∧((a2).length:Int)≤1000000000))∧(∀ r368:Int,0≤r368→r368 < ((a2).length:Int)→(((0≤r368∧r368 < ((a2).length:Int)))∧N361 ([(ixG (⟨("":Str),("":Str),(0:Int)⟩:(T3 Str Str Int)) a2 r368)]:List (T3 Str Str Int))))) else N361 ys355)) (fun (st362:(List (T3 Str Str Int)))=>(joinW (σ := (List (T3 Str Str Int))) (fun N374=>((∀ r379:Int,0≤r379→r379 < (2:Int)→(if (eqB r379 (1:Int))=true then N374 (List.reverse st362) else N374 st362)))) (fun (st375:(List (T3 Str Str Int)))=>(forW a1 (([]:List (T3 Str Str Str)):(List (T3 Str Str Str))) (fun (x385:(T4 Str Str Str Str)) (st449:(List (T3 Str Str Str))) N446 B447=>(((Sz (st375).length))∧(letW (List.map (fun x466:(T3 Str Str Int)=>x466.a) (List.filter (fun x466:(T3 Str Str Int)=>(eqB x466.b x385.b)) st375)) (fun (v469:(List Str))=>(((Sz (st375).length))∧(letW (List.map (fun x470:(T3 Str Str Int)=>x470.a) (List.filter (fun x470:(T3 Str Str Int)=>(eqB x470.b x385.c)) st375)) (fun (v473:(List Str))=>((joinW (σ := Bool) (fun N474=>(if (!eqB v469 ([]:List Str))=true then (joinW (σ := Bool) (fun N477=>(if (!eqB v473 ([]:List Str))=true then (∀ r480:Int,0≤r480→r480 < (3:Int)→N477 (decide ((0:Int) < r480))) else N477 false)) (fun (b478:Bool)=>N474 b478)) else N474 false)) (fun (b475:Bool)=>(if b475=true then (((0 < ((v469).length:Int)∧((v469).length:Int)≤1000000000))∧(∀ r485:Int,0≤r485→r485 < ((v469).length:Int)→(((0≤r485∧r485 < ((v469).length:Int)))∧(((0 < ((v473).length:Int)∧((v473).length:Int)≤1000000000))∧(∀ r488:Int,0≤r488→r488 < ((v473).length:Int)→(((0≤r488∧r488 < ((v473).length:Int)))∧(((Sz ((st449).length + 1)))∧(letW (st449 ++ [(⟨x385.a,(ixG ("":Str) v469 r485),(ixG ("":Str) v473 r488)⟩:(T3 Str Str Str))]) (fun (l492:(List (T3 Str Str Str)))=>N446 l492))))))))) else N446 st449))))))))))) (fun (st493:(List (T3 Str Str Str)))=>(∀ r501:Int,0≤r501→r501 < (4:Int)→(((0≤r501∧r501 < ((([("find":Str),("make":Str),("both":Str),("both":Str)]:List Str)).length:Int)))∧(((Sz ((st329).length + 1)))∧(letW (st329 ++ [(⟨(ixG ("":Str) ([("find":Str),("make":Str),("both":Str),("both":Str)]:List Str) r501),st375,st493⟩:(T3 Str (List (T3 Str Str Int)) (List (T3 Str Str Str))))]) (fun (l506:(List (T3 Str (List (T3 Str Str Int)) (List (T3 Str Str Str)))))=>N326 l506))))))))))))))) (fun (st507:(List (T3 Str (List (T3 Str Str Int)) (List (T3 Str Str Str)))))=>Q st507)))))
theorem c_law_statements {A0:AH} {n0:Nat} (hp:A0 n0=some .pool) {y1:D} {a1:(List (T4 Str Str Str Str))} (hx1:ItL A0 y1 a1 en) {y2:D} {a2:(List (T3 Str Str Int))} (hx2:ItL A0 y2 a2 en) {a3:Int} {Q0:(List (T3 Str (List (T3 Str Str Int)) (List (T3 Str Str Str))))→Prop} {E0:Exv→Prop} {Q:QE} {E:QX} (h:W_law_statements a1 a2 a3 Q0 E0) (hQ:∀ r,Q0 r→Q (D.lst (List.map en r)) A0) (hE:∀ x,E0 x→E (encX x) A0):m_law_statements [.ref n0,y1,y2,(D.int a3)] A0 Q E := by
 unfold W_law_statements at h
 have hc:Cells A0 [] A0 := Cells.nil_
 refine fn_in (s := [some (D.ref n0),some y1,some y2,some (D.int a3),none,none,none,none,none,none,none,none,none,none,none]) ?_ rfl rfl
 refine s_sq ?_
 refine u_setE ?_
 refine w_nilM ?_
 intro n1 hn
 replace hc := hc.new (Nd.lst []) hn
 generalize put A0 n1 (Nd.lst [])=A2 at hc ⊢
 replace hc:Cells A0 [[(n1,(Nd.lst (List.map en ([]:List (T3 Str (List (T3 Str Str Int)) (List (T3 Str Str Str)))))))]] A2 := hc
 refine at_n (s' := [some (D.ref n0),some y1,some y2,some (D.int a3),some (D.ref n1),none,none,none,none,none,none,none,none,none,none]) rfl ?_
 refine nx_sq ?_
 refine s_sq ?_
 refine u_rngE ?_
 refine w_opW ?_
 refine Pv.wp ?_ pv_c
 obtain ⟨hS3,h⟩ := h
 refine w_drawA (pa_cons' (pv_var rfl) (pa_cons' (pv_var rfl) pa_nil')) (hc.le _ _ hp) (hS3).1 (dr_small hS3) ?_
 intro r4 h0r4 h1r4
 replace h := h r4 h0r4 h1r4
 refine P2.wp ?_ p2_addI
 obtain ⟨hS5,h⟩ := h
 refine ⟨_,rfl,(hS5).1,(hS5).2, ?_⟩
 rw [intsD_rng]
 refine for_corr (σ := (List (T3 Str (List (T3 Str Str Int)) (List (T3 Str Str Str))))) (e := en) (fun st330 s331 A332=>∃ (j333 j334 j335 j336 j337 j338 j339 j340 j341:Option D),s331=[some (D.ref n0),some y1,some y2,some (D.int a3),some (D.ref n1),j333,j334,j335,j336,j337,j338,j339,j340,j341,none]∧Cells A0 [[(n1,(Nd.lst (List.map en st330)))]] A332) h ⟨_,_,_,_,_,_,_,_,_,rfl,hc⟩ (fun _ _ _ ⟨_,_,_,_,_,_,_,_,_,_,hcP⟩=>True.intro) ?_ ?_
 ·rintro x6 hx6 st329 _ A351 N326 B327 Nm328 h ⟨j342,j343,j344,j345,j346,j347,j348,j349,j350,rfl,hc⟩ hN326 hB327
  refine at_s (s' := [some (D.ref n0),some y1,some y2,some (D.int a3),some (D.ref n1),some (D.int x6),j343,j344,j345,j346,j347,j348,j349,j350,none]) rfl ?_
  refine s_sq ?_
  refine u_setE ?_
  obtain ⟨hS352,h⟩ := h
  refine u_lc (e := en) (f := en) (s' := [some (D.ref n0),some y1,some y2,some (D.int a3),some (D.ref n1),some (D.int x6),j343,j344,j345,j346,j347,j348,j349,j350,none]) (mi_seq (pv_var rfl) (ItL.toS (hx2.les hc.le))) rfl hS352 h ?_ ?_
  ·intro x353 hx353 N354 R R2 h hR hR2
   refine u_gN (s' := [some (D.ref n0),some y1,some y2,some (D.int a3),some (D.ref n1),some (D.int x6),j343,j344,j345,j346,j347,j348,j349,j350,some (D.tup [(D.str x353.a),(D.str x353.b),(D.int x353.c)])]) rfl ?_
   refine w_mB ?_
   refine w_opW ?_
   refine w_drawA (pa_cons' (pv_var rfl) (pa_cons' pv_c pa_nil')) (hc.le _ _ hp) (by decide) (by decide) ?_
   intro r356 h0r356 h1r356
   replace h := h r356 h0r356 h1r356
   refine Pv.wp ?_ pv_c
   refine P2.wp ?_ p2_gt
   refine ⟨_,rfl, ?_⟩
   refine u_ifB h ?_ ?_
   ·intro hb h
    refine Pv.wp ?_ (pv_var rfl)
    exact hR _ h
   ·intro hb h
    exact hR2 h
  intro ys355 h
  refine at_n (s' := [some (D.ref n0),some y1,some y2,some (D.int a3),some (D.ref n1),some (D.int x6),some (D.lst (List.map en ys355)),j344,j345,j346,j347,j348,j349,j350,none]) rfl ?_
  refine nx_sq ?_
  refine u_join (σ := (List (T3 Str Str Int))) (fun st363 s364 A365=>s364=[some (D.ref n0),some y1,some y2,some (D.int a3),some (D.ref n1),some (D.int x6),some (D.lst (List.map en st363)),j344,j345,j346,j347,j348,j349,j350,none]∧Cells A0 [[(n1,(Nd.lst (List.map en st329)))]] A365) h ?_ ?_
  ·intro N361 h hN361
   refine u_if (pt_b (pv_op2 (pv_var rfl) (pv_lst pa_nil') (q2_eqL il_l (il_r (xs := ([]:List (T3 Str Str Int))) (e := en) rfl) (by decide)))) h ?_ ?_
   ·intro hb366 h
    refine u_setE ?_
    refine w_lstX ?_
    refine w_consX ?_
    refine w_opW ?_
    refine Pv.wp ?_ (pv_var rfl)
    obtain ⟨hS367,h⟩ := h
    refine w_drawA (pa_cons' (pv_var rfl) (pa_cons' (pv_cbB (pa_cons' (pv_var rfl) pa_nil') (pb_lenI (ItL.toS (hx2.les hc.le)))) pa_nil')) (hc.le _ _ hp) (hS367).1 (dr_small hS367) ?_
    intro r368 h0r368 h1r368
    replace h := h r368 h0r368 h1r368
    obtain ⟨hS369,h⟩ := h
    refine P2.wp ?_ (p2_ixG (d0 := (⟨("":Str),("":Str),(0:Int)⟩:(T3 Str Str Int))) (ItL.toS (hx2.les hc.le)) hS369)
    refine w_nilX ?_
    refine ⟨sz (Nat.le_of_ble_eq_true rfl), ?_⟩
    refine at_n (s' := [some (D.ref n0),some y1,some y2,some (D.int a3),some (D.ref n1),some (D.int x6),some (D.lst [(D.tup [(D.str (ixG (⟨("":Str),("":Str),(0:Int)⟩:(T3 Str Str Int)) a2 r368).a),(D.str (ixG (⟨("":Str),("":Str),(0:Int)⟩:(T3 Str Str Int)) a2 r368).b),(D.int (ixG (⟨("":Str),("":Str),(0:Int)⟩:(T3 Str Str Int)) a2 r368).c)])]),j344,j345,j346,j347,j348,j349,j350,none]) rfl ?_
    refine nx_sq ?_
    exact hN361 _ _ _ h ⟨rfl,hc⟩
   ·intro hb366 h
    refine t_next ?_
    refine nx_sq ?_
    exact hN361 _ _ _ h ⟨rfl,hc⟩
  rintro st362 s371 A370 h ⟨rfl,hc⟩
  refine u_join (σ := (List (T3 Str Str Int))) (fun st376 s377 A378=>s377=[some (D.ref n0),some y1,some y2,some (D.int a3),some (D.ref n1),some (D.int x6),some (D.lst (List.map en st376)),j344,j345,j346,j347,j348,j349,j350,none]∧Cells A0 [[(n1,(Nd.lst (List.map en st329)))]] A378) h ?_ ?_
  ·intro N374 h hN374
   refine u_ifE ?_
   refine w_mB ?_
   refine w_opW ?_
   refine w_drawA (pa_cons' (pv_var rfl) (pa_cons' pv_c pa_nil')) (hc.le _ _ hp) (by decide) (by decide) ?_
   intro r379 h0r379 h1r379
   replace h := h r379 h0r379 h1r379
   refine Pv.wp ?_ pv_c
   refine P2.wp ?_ (q2_eq (a := r379) (b := (1:Int)) (ue_r rfl) (ue_r rfl) (by decide))
   refine ⟨_,rfl, ?_⟩
   refine u_ifB h ?_ ?_
   ·intro hb380 h
    refine u_set (s' := [some (D.ref n0),some y1,some y2,some (D.int a3),some (D.ref n1),some (D.int x6),some (D.lst (List.map en (List.reverse st362))),j344,j345,j346,j347,j348,j349,j350,none]) (pv_revI (pv_var rfl) il_l) rfl ?_
    refine nx_sq ?_
    exact hN374 _ _ _ h ⟨rfl,hc⟩
   ·intro hb380 h
    refine t_next ?_
    refine nx_sq ?_
    exact hN374 _ _ _ h ⟨rfl,hc⟩
  rintro st375 s382 A381 h ⟨rfl,hc⟩
  refine s_sq ?_
  refine u_setE ?_
  refine w_nilM ?_
  intro n383 hn
  replace hc := hc.new (Nd.lst []) hn
  generalize put A381 n383 (Nd.lst [])=A384 at hc ⊢
  replace hc:Cells A0 [[(n1,(Nd.lst (List.map en st329)))],[(n383,(Nd.lst (List.map en ([]:List (T3 Str Str Str)))))]] A384 := hc
  refine at_n (s' := [some (D.ref n0),some y1,some y2,some (D.int a3),some (D.ref n1),some (D.int x6),some (D.lst (List.map en st375)),some (D.ref n383),j345,j346,j347,j348,j349,j350,none]) rfl ?_
  refine nx_sq ?_
  refine s_sq ?_
  refine u_forC (σ := (List (T3 Str Str Str))) (e := en) (fun st450 s451 A452=>∃ (j453 j454 j455 j456 j457 j458:Option D),s451=[some (D.ref n0),some y1,some y2,some (D.int a3),some (D.ref n1),some (D.int x6),some (D.lst (List.map en st375)),some (D.ref n383),j453,j454,j455,j456,j457,j458,none]∧Cells A0 [[(n1,(Nd.lst (List.map en st329)))],[(n383,(Nd.lst (List.map en st450)))]] A452) (mi_seq (pv_var rfl) (ItL.toS (hx1.les hc.le))) h ⟨_,_,_,_,_,_,rfl,hc⟩ (fun _ _ _ ⟨_,_,_,_,_,_,_,hcP⟩=>(hx1.same hc.le hcP.le)) ?_ ?_
  ·rintro x385 hx385 st449 _ A465 N446 B447 Nm448 h ⟨j459,j460,j461,j462,j463,j464,rfl,hc⟩ hN446 hB447
   refine ⟨[(D.str x385.a),(D.str x385.b),(D.str x385.c),(D.str x385.d)], .inl rfl,rfl,_,_,rfl,_,_,rfl,_,_,rfl,_,_,rfl,rfl, ?_⟩
   refine at_s (s' := [some (D.ref n0),some y1,some y2,some (D.int a3),some (D.ref n1),some (D.int x6),some (D.lst (List.map en st375)),some (D.ref n383),some (D.str x385.a),some (D.str x385.b),some (D.str x385.c),some (D.str x385.d),j463,j464,none]) rfl ?_
   refine s_sq ?_
   obtain ⟨hS468,h⟩ := h
   obtain ⟨v469,hv469⟩:∃ v:(List Str),v=(List.map (fun x466:(T3 Str Str Int)=>x466.a) (List.filter (fun x466:(T3 Str Str Int)=>(eqB x466.b x385.b)) st375)) := ⟨_,rfl⟩
   replace h := letW_out hv469 h
   refine u_set (s' := [some (D.ref n0),some y1,some y2,some (D.int a3),some (D.ref n1),some (D.int x6),some (D.lst (List.map en st375)),some (D.ref n383),some (D.str x385.a),some (D.str x385.b),some (D.str x385.c),some (D.str x385.d),some (D.lst (List.map en v469)),j464,none]) (Pv.is (v_lcFM (e := en) (p := fun x466:(T3 Str Str Int)=>(eqB x466.b x385.b)) (g := fun x466:(T3 Str Str Int)=>x466.a) (e' := en) (mi_seq (pv_var rfl) (ItL.toS il_l)) rfl hS468 (fun x466 hx466=>lcb (tg_n rfl) (pt_b (pv_op2 (pv_op2 (pv_var rfl) pv_c (p2_ixT (ds := [(D.str x466.a),(D.str x466.b),(D.int x466.c)]) (d := (D.str x466.b)) rfl rfl)) (pv_var rfl) (q2_eq (a := x466.b) (b := x385.b) (ue_r rfl) (ue_r rfl) (by decide)))) (fun hh467=>(pv_op2 (pv_var rfl) pv_c (p2_ixT (ds := [(D.str x466.a),(D.str x466.b),(D.int x466.c)]) (d := (D.str x466.a)) rfl rfl))))) (congrArg (fun z:(List Str)=>(D.lst (List.map en z))) hv469.symm)) rfl ?_
   refine nx_sq ?_
   refine s_sq ?_
   obtain ⟨hS472,h⟩ := h
   obtain ⟨v473,hv473⟩:∃ v:(List Str),v=(List.map (fun x470:(T3 Str Str Int)=>x470.a) (List.filter (fun x470:(T3 Str Str Int)=>(eqB x470.b x385.c)) st375)) := ⟨_,rfl⟩
   replace h := letW_out hv473 h
   refine u_set (s' := [some (D.ref n0),some y1,some y2,some (D.int a3),some (D.ref n1),some (D.int x6),some (D.lst (List.map en st375)),some (D.ref n383),some (D.str x385.a),some (D.str x385.b),some (D.str x385.c),some (D.str x385.d),some (D.lst (List.map en v469)),some (D.lst (List.map en v473)),none]) (Pv.is (v_lcFM (e := en) (p := fun x470:(T3 Str Str Int)=>(eqB x470.b x385.c)) (g := fun x470:(T3 Str Str Int)=>x470.a) (e' := en) (mi_seq (pv_var rfl) (ItL.toS il_l)) rfl hS472 (fun x470 hx470=>lcb (tg_n rfl) (pt_b (pv_op2 (pv_op2 (pv_var rfl) pv_c (p2_ixT (ds := [(D.str x470.a),(D.str x470.b),(D.int x470.c)]) (d := (D.str x470.b)) rfl rfl)) (pv_var rfl) (q2_eq (a := x470.b) (b := x385.c) (ue_r rfl) (ue_r rfl) (by decide)))) (fun hh471=>(pv_op2 (pv_var rfl) pv_c (p2_ixT (ds := [(D.str x470.a),(D.str x470.b),(D.int x470.c)]) (d := (D.str x470.a)) rfl rfl))))) (congrArg (fun z:(List Str)=>(D.lst (List.map en z))) hv473.symm)) rfl ?_
   refine nx_sq ?_
   refine u_ifE ?_
   refine w_mAndJ (pt_b (pv_op2 (pv_var rfl) (pv_lst pa_nil') (q2_neL il_l (il_r (xs := ([]:List Str)) (e := en) rfl) (by decide)))) h ?_ ?_
   ·intro N474 h hN474
    refine u_ifB h ?_ ?_
    ·intro hb476 h
     refine w_mAndJ (pt_b (pv_op2 (pv_var rfl) (pv_lst pa_nil') (q2_neL il_l (il_r (xs := ([]:List Str)) (e := en) rfl) (by decide)))) h ?_ ?_
     ·intro N477 h hN477
      refine u_ifB h ?_ ?_
      ·intro hb479 h
       refine w_mB ?_
       refine w_opW ?_
       refine w_drawA (pa_cons' (pv_var rfl) (pa_cons' pv_c pa_nil')) (hc.le _ _ hp) (by decide) (by decide) ?_
       intro r480 h0r480 h1r480
       replace h := h r480 h0r480 h1r480
       refine Pv.wp ?_ pv_c
       refine P2.wp ?_ p2_gt
       refine ⟨_,rfl, ?_⟩
       exact hN477 _ _ .refl h
      ·intro hb479 h
       exact hN477 _ _ .refl h
     intro b478 A481 hle h
     replace hc := hc.les hle
     exact hN474 _ _ hle h
    ·intro hb476 h
     exact hN474 _ _ .refl h
   intro b475 A482 hle h
   replace hc := hc.les hle
   refine u_ifB h ?_ ?_
   ·intro hb483 h
    refine u_appS ?_
    refine Pv.wp ?_ (pv_var rfl)
    refine ⟨u_it (hc.at 1 rfl), ?_⟩
    refine w_tupX ?_
    refine w_consX ?_
    refine Pv.wp ?_ (pv_var rfl)
    refine w_consX ?_
    refine w_opW ?_
    refine Pv.wp ?_ (pv_var rfl)
    obtain ⟨hS484,h⟩ := h
    refine w_drawA (pa_cons' (pv_var rfl) (pa_cons' (pv_cbB (pa_cons' (pv_var rfl) pa_nil') (pb_lenI (ItL.toS il_l))) pa_nil')) (hc.le _ _ hp) (hS484).1 (dr_small hS484) ?_
    intro r485 h0r485 h1r485
    replace h := h r485 h0r485 h1r485
    obtain ⟨hS486,h⟩ := h
    refine P2.wp ?_ (p2_ixG (d0 := ("":Str)) (ItL.toS il_l) hS486)
    refine w_consX ?_
    refine w_opW ?_
    refine Pv.wp ?_ (pv_var rfl)
    obtain ⟨hS487,h⟩ := h
    refine w_drawA (pa_cons' (pv_var rfl) (pa_cons' (pv_cbB (pa_cons' (pv_var rfl) pa_nil') (pb_lenI (ItL.toS il_l))) pa_nil')) (hc.le _ _ hp) (hS487).1 (dr_small hS487) ?_
    intro r488 h0r488 h1r488
    replace h := h r488 h0r488 h1r488
    obtain ⟨hS489,h⟩ := h
    refine P2.wp ?_ (p2_ixG (d0 := ("":Str)) (ItL.toS il_l) hS489)
    refine w_nilX ?_
    refine ⟨sz (Nat.le_of_ble_eq_true rfl), ?_⟩
    obtain ⟨hS490,h⟩ := h
    refine u_app2 (xs := st449) (e := en) (v := (⟨x385.a,(ixG ("":Str) v469 r485),(ixG ("":Str) v473 r488)⟩:(T3 Str Str Str))) (hc.at 1 rfl) hS490 ?_
    replace hc := hc.put 1 rfl (Nd.lst (List.map en (st449 ++ [(⟨x385.a,(ixG ("":Str) v469 r485),(ixG ("":Str) v473 r488)⟩:(T3 Str Str Str))])))
    generalize put A482 n383 (Nd.lst (List.map en (st449 ++ [(⟨x385.a,(ixG ("":Str) v469 r485),(ixG ("":Str) v473 r488)⟩:(T3 Str Str Str))])))=A491 at hc ⊢
    replace hc:Cells A0 [[(n1,(Nd.lst (List.map en st329)))],[(n383,(Nd.lst (List.map en (st449 ++ [(⟨x385.a,(ixG ("":Str) v469 r485),(ixG ("":Str) v473 r488)⟩:(T3 Str Str Str))]))))]] A491 := hc
    obtain ⟨l492,hl492⟩:∃ v:(List (T3 Str Str Str)),v=(st449 ++ [(⟨x385.a,(ixG ("":Str) v469 r485),(ixG ("":Str) v473 r488)⟩:(T3 Str Str Str))]) := ⟨_,rfl⟩
    replace h := letW_out hl492 h
    replace hc:Cells A0 [[(n1,(Nd.lst (List.map en st329)))],[(n383,(Nd.lst (List.map en l492)))]] A491 := by rw [hl492]; exact hc
    refine nx_lp ?_
    exact hN446 _ _ _ h ⟨_,_,_,_,_,_,rfl,hc⟩
   ·intro hb483 h
    refine t_next ?_
    refine nx_lp ?_
    exact hN446 _ _ _ h ⟨_,_,_,_,_,_,rfl,hc⟩
  rintro st493 _ A500 h ⟨j494,j495,j496,j497,j498,j499,rfl,hc⟩
  refine nx_sq ?_
  refine u_appS ?_
  refine Pv.wp ?_ (pv_var rfl)
  refine ⟨u_it (hc.at 0 rfl), ?_⟩
  refine w_tupX ?_
  refine w_consX ?_
  refine w_opW ?_
  refine Pv.wp ?_ (pv_lst (pa_cons' pv_c (pa_cons' pv_c (pa_cons' pv_c (pa_cons' pv_c pa_nil')))))
  refine w_drawA (pa_cons' (pv_var rfl) (pa_cons' pv_c pa_nil')) (hc.le _ _ hp) (by decide) (by decide) ?_
  intro r501 h0r501 h1r501
  replace h := h r501 h0r501 h1r501
  obtain ⟨hS502,h⟩ := h
  refine P2.wp ?_ (p2_ixG (d0 := ("":Str)) (ItL.toS (il_r (xs := ([("find":Str),("make":Str),("both":Str),("both":Str)]:List Str)) (e := en) rfl)) hS502)
  refine w_consX ?_
  refine Pv.wp ?_ (pv_var rfl)
  refine w_consX ?_
  refine w_fzL (n := n383) rfl (hc.at 1 rfl) ?_
  replace hc := hc.cut 1 rfl
  generalize rem A500 n383=A503 at hc ⊢
  refine w_nilX ?_
  refine ⟨sz (Nat.le_of_ble_eq_true rfl), ?_⟩
  obtain ⟨hS504,h⟩ := h
  refine u_appU (xs := st329) (v := (⟨(ixG ("":Str) ([("find":Str),("make":Str),("both":Str),("both":Str)]:List Str) r501),st375,st493⟩:(T3 Str (List (T3 Str Str Int)) (List (T3 Str Str Str))))) (hc.at 0 rfl) hS504 (ue_t3 (ue_r rfl) ue_l ue_l) ?_
  replace hc := hc.put 0 rfl (Nd.lst (List.map en (st329 ++ [(⟨(ixG ("":Str) ([("find":Str),("make":Str),("both":Str),("both":Str)]:List Str) r501),st375,st493⟩:(T3 Str (List (T3 Str Str Int)) (List (T3 Str Str Str))))])))
  generalize put A503 n1 (Nd.lst (List.map en (st329 ++ [(⟨(ixG ("":Str) ([("find":Str),("make":Str),("both":Str),("both":Str)]:List Str) r501),st375,st493⟩:(T3 Str (List (T3 Str Str Int)) (List (T3 Str Str Str))))])))=A505 at hc ⊢
  replace hc:Cells A0 [[(n1,(Nd.lst (List.map en (st329 ++ [(⟨(ixG ("":Str) ([("find":Str),("make":Str),("both":Str),("both":Str)]:List Str) r501),st375,st493⟩:(T3 Str (List (T3 Str Str Int)) (List (T3 Str Str Str))))]))))]] A505 := hc
  obtain ⟨l506,hl506⟩:∃ v:(List (T3 Str (List (T3 Str Str Int)) (List (T3 Str Str Str)))),v=(st329 ++ [(⟨(ixG ("":Str) ([("find":Str),("make":Str),("both":Str),("both":Str)]:List Str) r501),st375,st493⟩:(T3 Str (List (T3 Str Str Int)) (List (T3 Str Str Str))))]) := ⟨_,rfl⟩
  replace h := letW_out hl506 h
  replace hc:Cells A0 [[(n1,(Nd.lst (List.map en l506)))]] A505 := by rw [hl506]; exact hc
  refine nx_lp ?_
  exact hN326 _ _ _ h ⟨_,_,_,_,_,_,_,_,_,rfl,hc⟩
 rintro st507 _ A517 h ⟨j508,j509,j510,j511,j512,j513,j514,j515,j516,rfl,hc⟩
 refine nx_sq ?_
 refine u_retE ?_
 refine w_fzL (n := n1) rfl (hc.at 0 rfl) ?_
 replace hc := hc.cut 0 rfl
 generalize rem A517 n1=A518 at hc ⊢
 refine u_rt hc ?_
 exact hQ _ h
def W_law_pattern (a0:(List (T3 Str Str Int))) (a1:(List (T3 Str Str Str))) (Q:(R_Pattern)→Prop) (E:Exv→Prop):Prop :=
 (((0≤(0:Int)∧(0:Int) < ((a0).length:Int))∧(0≤(0:Int)∧(0:Int) < ((a0).length:Int))∧(0≤(0:Int)∧(0:Int) < ((a0).length:Int)))∧(W_Pattern_place (ixG (⟨("":Str),("":Str),(0:Int)⟩:(T3 Str Str Int)) a0 (0:Int)).a (ixG (⟨("":Str),("":Str),(0:Int)⟩:(T3 Str Str Int)) a0 (0:Int)).b (ixG (⟨("":Str),("":Str),(0:Int)⟩:(T3 Str Str Int)) a0 (0:Int)).c (fun r2=>(forW a0 (r2:R_Pattern) (fun (x3:(T3 Str Str Int)) (st14:R_Pattern) N11 B12=>(W_Pattern_place x3.a x3.b x3.c (fun r25=>(W_Pattern_or st14 r25 (fun r26=>N11 r26) E)) E)) (fun (st27:R_Pattern)=>(forW a0 (([]:List (Str × R_Pattern)):(List (Str × R_Pattern))) (fun (x34:(T3 Str Str Int)) (st47:(List (Str × R_Pattern))) N44 B45=>(W_Pattern_place x34.a x34.b x34.c (fun r58=>(((Sz ((st47).length + 1)))∧N44 (putA st47 x34.a r58))) E)) (fun (st61:(List (Str × R_Pattern)))=>(forW a1 (st27:R_Pattern) (fun (x66:(T3 Str Str Str)) (st81:R_Pattern) N78 B79=>(((Option.isSome (valA st61 x66.b)=true))∧(((Option.isSome (valA st61 x66.c)=true))∧(W_Pattern_rshift (Option.getD (valA st61 x66.b) default) (⟨x66.a,(Option.getD (valA st61 x66.c) default)⟩:(Str × R_Pattern)) (fun r94=>(W_Pattern_or st81 r94 (fun r95=>N78 r95) E)) E)))) (fun (st96:R_Pattern)=>Q st96))))))) E))
theorem c_law_pattern {A0:AH} {y0:D} {a0:(List (T3 Str Str Int))} (hx0:ItL A0 y0 a0 en) {y1:D} {a1:(List (T3 Str Str Str))} (hx1:ItL A0 y1 a1 en) {Q0:R_Pattern→Prop} {E0:Exv→Prop} {Q:QE} {E:QX} (h:W_law_pattern a0 a1 Q0 E0) (hQ:∀ r,Q0 r→Q (enc_Pattern r) A0) (hE:∀ x,E0 x→E (encX x) A0):m_law_pattern [y0,y1] A0 Q E := by
 unfold W_law_pattern at h
 have hc:Cells A0 [] A0 := Cells.nil_
 refine fn_in (s := [some y0,some y1,none,none,none,none,none,none,none,none]) ?_ rfl rfl
 refine s_sq ?_
 refine u_setE ?_
 obtain ⟨hS1,h⟩ := h
 refine w_callW ?_ (pa_cons' (pv_op2 (pv_op2 (pv_var rfl) pv_c (p2_ixG (d0 := (⟨("":Str),("":Str),(0:Int)⟩:(T3 Str Str Int))) (ItL.toS (hx0.les hc.le)) hS1.1)) pv_c (p2_ixT (ds := [(D.str (ixG (⟨("":Str),("":Str),(0:Int)⟩:(T3 Str Str Int)) a0 (0:Int)).a),(D.str (ixG (⟨("":Str),("":Str),(0:Int)⟩:(T3 Str Str Int)) a0 (0:Int)).b),(D.int (ixG (⟨("":Str),("":Str),(0:Int)⟩:(T3 Str Str Int)) a0 (0:Int)).c)]) (d := (D.str (ixG (⟨("":Str),("":Str),(0:Int)⟩:(T3 Str Str Int)) a0 (0:Int)).a)) rfl rfl)) (pa_cons' (pv_op2 (pv_op2 (pv_var rfl) pv_c (p2_ixG (d0 := (⟨("":Str),("":Str),(0:Int)⟩:(T3 Str Str Int))) (ItL.toS (hx0.les hc.le)) hS1.2.1)) pv_c (p2_ixT (ds := [(D.str (ixG (⟨("":Str),("":Str),(0:Int)⟩:(T3 Str Str Int)) a0 (0:Int)).a),(D.str (ixG (⟨("":Str),("":Str),(0:Int)⟩:(T3 Str Str Int)) a0 (0:Int)).b),(D.int (ixG (⟨("":Str),("":Str),(0:Int)⟩:(T3 Str Str Int)) a0 (0:Int)).c)]) (d := (D.str (ixG (⟨("":Str),("":Str),(0:Int)⟩:(T3 Str Str Int)) a0 (0:Int)).b)) rfl rfl)) (pa_cons' (pv_op2 (pv_op2 (pv_var rfl) pv_c (p2_ixG (d0 := (⟨("":Str),("":Str),(0:Int)⟩:(T3 Str Str Int))) (ItL.toS (hx0.les hc.le)) hS1.2.2)) pv_c (p2_ixT (ds := [(D.str (ixG (⟨("":Str),("":Str),(0:Int)⟩:(T3 Str Str Int)) a0 (0:Int)).a),(D.str (ixG (⟨("":Str),("":Str),(0:Int)⟩:(T3 Str Str Int)) a0 (0:Int)).b),(D.int (ixG (⟨("":Str),("":Str),(0:Int)⟩:(T3 Str Str Int)) a0 (0:Int)).c)]) (d := (D.int (ixG (⟨("":Str),("":Str),(0:Int)⟩:(T3 Str Str Int)) a0 (0:Int)).c)) rfl rfl)) pa_nil')))
 refine c_Pattern_place  h ?_ ?_
 rotate_left
 ·intro x h
  refine ex_sq ?_
  exact u_exf hc (hE _ h)
 intro r2 h
 refine at_n (s' := [some y0,some y1,some (enc_Pattern r2),none,none,none,none,none,none,none]) rfl ?_
 refine nx_sq ?_
 refine s_sq ?_
 refine u_forC (σ := R_Pattern) (e := en) (fun st15 s16 A17=>∃ (j18 j19 j20:Option D),s16=[some y0,some y1,some (enc_Pattern st15),j18,j19,j20,none,none,none,none]∧Cells A0 [] A17) (mi_seq (pv_var rfl) (ItL.toS (hx0.les hc.le))) h ⟨_,_,_,rfl,hc⟩ (fun _ _ _ ⟨_,_,_,_,hcP⟩=>(hx0.same hc.le hcP.le)) ?_ ?_
 ·rintro x3 hx3 st14 _ A24 N11 B12 Nm13 h ⟨j21,j22,j23,rfl,hc⟩ hN11 hB12
  refine ⟨[(D.str x3.a),(D.str x3.b),(D.int x3.c)], .inl rfl,rfl,_,_,rfl,_,_,rfl,_,_,rfl,rfl, ?_⟩
  refine at_s (s' := [some y0,some y1,some (enc_Pattern st14),some (D.str x3.a),some (D.str x3.b),some (D.int x3.c),none,none,none,none]) rfl ?_
  refine u_setE ?_
  refine w_ownX ?_
  refine Pv.wp ?_ (pv_var rfl)
  refine w_callW ?_ (pa_cons' (pv_var rfl) (pa_cons' (pv_var rfl) (pa_cons' (pv_var rfl) pa_nil')))
  refine c_Pattern_place  h ?_ ?_
  rotate_left
  ·intro x h
   refine ex_lp ?_
   refine ex_sq ?_
   exact u_exf hc (hE _ h)
  intro r25 h
  refine ⟨⟨_,rfl⟩,⟨_,rfl⟩, ?_⟩
  refine c_Pattern_or  h ?_ ?_
  rotate_left
  ·intro x h
   refine ex_lp ?_
   refine ex_sq ?_
   exact u_exf hc (hE _ h)
  intro r26 h
  refine at_n (s' := [some y0,some y1,some (enc_Pattern r26),some (D.str x3.a),some (D.str x3.b),some (D.int x3.c),none,none,none,none]) rfl ?_
  refine nx_lp ?_
  exact hN11 _ _ _ h ⟨_,_,_,rfl,hc⟩
 rintro st27 _ A31 h ⟨j28,j29,j30,rfl,hc⟩
 refine nx_sq ?_
 refine s_sq ?_
 refine u_setE ?_
 refine w_dnK ?_
 intro n32 hn
 replace hc := hc.new (Nd.dK []) hn
 generalize put A31 n32 (Nd.dK [])=A33 at hc ⊢
 replace hc:Cells A0 [[(n32,(Nd.dK (List.map (eD kS enc_Pattern) ([]:List (Str × R_Pattern)))))]] A33 := hc
 refine at_n (s' := [some y0,some y1,some (enc_Pattern st27),j28,j29,j30,some (D.ref n32),none,none,none]) rfl ?_
 refine nx_sq ?_
 refine s_sq ?_
 refine u_forC (σ := (List (Str × R_Pattern))) (e := en) (fun st48 s49 A50=>∃ (j51 j52 j53:Option D),s49=[some y0,some y1,some (enc_Pattern st27),j51,j52,j53,some (D.ref n32),none,none,none]∧Cells A0 [[(n32,(Nd.dK (List.map (eD kS enc_Pattern) st48)))]] A50) (mi_seq (pv_var rfl) (ItL.toS (hx0.les hc.le))) h ⟨_,_,_,rfl,hc⟩ (fun _ _ _ ⟨_,_,_,_,hcP⟩=>(hx0.same hc.le hcP.le)) ?_ ?_
 ·rintro x34 hx34 st47 _ A57 N44 B45 Nm46 h ⟨j54,j55,j56,rfl,hc⟩ hN44 hB45
  refine ⟨[(D.str x34.a),(D.str x34.b),(D.int x34.c)], .inl rfl,rfl,_,_,rfl,_,_,rfl,_,_,rfl,rfl, ?_⟩
  refine at_s (s' := [some y0,some y1,some (enc_Pattern st27),some (D.str x34.a),some (D.str x34.b),some (D.int x34.c),some (D.ref n32),none,none,none]) rfl ?_
  refine u_dputS ?_
  refine w_callW ?_ (pa_cons' (pv_var rfl) (pa_cons' (pv_var rfl) (pa_cons' (pv_var rfl) pa_nil')))
  refine c_Pattern_place  h ?_ ?_
  rotate_left
  ·intro x h
   refine ex_lp ?_
   refine ex_sq ?_
   exact u_exf hc (hE _ h)
  intro r58 h
  refine Pv.wp ?_ (pv_var rfl)
  refine Pv.wp ?_ (pv_var rfl)
  obtain ⟨hS59,h⟩ := h
  refine u_dputK (l := st47) (k := x34.a) (e := enc_Pattern) (v := r58) (fun _ _=>kS_inj) (hc.at 0 rfl) rfl hS59 ?_
  replace hc := hc.put 0 rfl (Nd.dK (List.map (eD kS enc_Pattern) (putA st47 x34.a r58)))
  generalize put A57 n32 (Nd.dK (List.map (eD kS enc_Pattern) (putA st47 x34.a r58)))=A60 at hc ⊢
  replace hc:Cells A0 [[(n32,(Nd.dK (List.map (eD kS enc_Pattern) (putA st47 x34.a r58))))]] A60 := hc
  refine nx_lp ?_
  exact hN44 _ _ _ h ⟨_,_,_,rfl,hc⟩
 rintro st61 _ A65 h ⟨j62,j63,j64,rfl,hc⟩
 refine nx_sq ?_
 refine s_sq ?_
 refine u_forC (σ := R_Pattern) (e := en) (fun st82 s83 A84=>∃ (j85 j86 j87:Option D),s83=[some y0,some y1,some (enc_Pattern st82),j62,j63,j64,some (D.ref n32),j85,j86,j87]∧Cells A0 [[(n32,(Nd.dK (List.map (eD kS enc_Pattern) st61)))]] A84) (mi_seq (pv_var rfl) (ItL.toS (hx1.les hc.le))) h ⟨_,_,_,rfl,hc⟩ (fun _ _ _ ⟨_,_,_,_,hcP⟩=>(hx1.same hc.le hcP.le)) ?_ ?_
 ·rintro x66 hx66 st81 _ A91 N78 B79 Nm80 h ⟨j88,j89,j90,rfl,hc⟩ hN78 hB79
  refine ⟨[(D.str x66.a),(D.str x66.b),(D.str x66.c)], .inl rfl,rfl,_,_,rfl,_,_,rfl,_,_,rfl,rfl, ?_⟩
  refine at_s (s' := [some y0,some y1,some (enc_Pattern st81),j62,j63,j64,some (D.ref n32),some (D.str x66.a),some (D.str x66.b),some (D.str x66.c)]) rfl ?_
  refine u_setE ?_
  refine w_ownX ?_
  refine Pv.wp ?_ (pv_var rfl)
  refine w_ownTX ?_
  obtain ⟨hS92,h⟩ := h
  refine Pv.wp ?_ (pv_getK (k := x66.b) (d0 := default) (fun _ _=>kS_inj) (pv_var rfl) (pv_var rfl) (dk_n (hc.at 0 rfl)) rfl hS92)
  obtain ⟨hS93,h⟩ := h
  refine Pv.wp ?_ (pv_tup (ds := [(D.str x66.a),(enc_Pattern (Option.getD (valA st61 x66.c) default))]) (pa_cons' (pv_var rfl) (pa_cons' (pv_getK (k := x66.c) (d0 := default) (fun _ _=>kS_inj) (pv_var rfl) (pv_var rfl) (dk_n (hc.at 0 rfl)) rfl hS93) pa_nil')))
  refine ⟨⟨_,rfl⟩,⟨_,rfl⟩, ?_⟩
  refine c_Pattern_rshift  h ?_ ?_
  rotate_left
  ·intro x h
   refine ex_lp ?_
   refine ex_sq ?_
   exact u_exf hc (hE _ h)
  intro r94 h
  refine ⟨⟨_,rfl⟩,⟨_,rfl⟩, ?_⟩
  refine c_Pattern_or  h ?_ ?_
  rotate_left
  ·intro x h
   refine ex_lp ?_
   refine ex_sq ?_
   exact u_exf hc (hE _ h)
  intro r95 h
  refine at_n (s' := [some y0,some y1,some (enc_Pattern r95),j62,j63,j64,some (D.ref n32),some (D.str x66.a),some (D.str x66.b),some (D.str x66.c)]) rfl ?_
  refine nx_lp ?_
  exact hN78 _ _ _ h ⟨_,_,_,rfl,hc⟩
 rintro st96 _ A100 h ⟨j97,j98,j99,rfl,hc⟩
 refine nx_sq ?_
 refine u_ret (pv_var rfl) ?_
 refine u_rt hc ?_
 exact hQ _ h
end Lw
namespace Lw
open PySem PySem.Spec PyProof.Rows L2 Am
open PySem.W (Datum Tup T3 T4)
section
variable {z:Str} {ks:List Kd} {ls:List Lk}
theorem spanL (g:Sch ks ls) {l:Lk} (hl:l∈ls):valA (mkSch ks ls).f_spans l.a=some (l.b,l.c) := by
 show valA (ls.map fun l=>(l.a,(l.b,l.c))) l.a=_
 rw [valA_map,find_link (List.nodup_append.mp g.nd).2.1 hl]
 rfl
end
end Lw
namespace Lw
open PySem PySem.Spec PyProof.Rows L2 Am
open PySem.W (Datum Tup T3 T4)
def oP (p:Pl):Prop := isW p.a=true∧isW p.b=true∧0≤p.c∧p.c≤3
def nmP (ps:List Pl):List Str := ps.map (·.a)
theorem pl_of {ps:List Pl} (h:(nmP ps).Nodup) {x y:Pl} (hx:x∈ps) (hy:y∈ps) (e:x.a=y.a):x=y := by
 unfold nmP at h
 induction ps with
 | nil=>cases hx
 | cons z r ih =>
  rw [List.map_cons,List.nodup_cons] at h
  rcases List.mem_cons.mp hx with rfl | hx' <;> rcases List.mem_cons.mp hy with rfl | hy'
  ·rfl
  ·exact absurd (List.mem_map.mpr ⟨y,hy',e.symm⟩) h.1
  ·exact absurd (List.mem_map.mpr ⟨x,hx',e⟩) h.1
  ·exact ih h.2 hx' hy'
theorem spec_place {x:Pl} {Q:R_Pattern→Prop} {E:Exv→Prop} (h:oP x) (q:Q ⟨⟨[x]⟩,⟨[]⟩⟩):W_Pattern_place x.a x.b x.c Q E := by
 obtain ⟨h1,h2,h3,h4⟩ := h
 have l1 := (word_len h1).1
 have l2 := (word_len h2).1
 refine ⟨⟨by omega,fun _=>by omega⟩, ?_⟩
 rw [if_neg (by simp [h1,h2,h3,h4])]
 exact q
theorem dcA_from {α κ β:Type} [DecidableEq κ] {g:α→κ} {v:α→β} {p:α→Bool} {xs:List α} {k:κ} {w:β} (h:valA (dcA g v p xs) k=some w):∃ x∈xs,g x=k∧v x=w := by
 unfold dcA at h
 have key:∀ (ys:List α) (acc:List (κ × β)),valA (ys.foldl (fun acc x=>putA acc (g x) (v x)) acc) k=some w→(∃ x∈ys,g x=k∧v x=w)∨valA acc k=some w := by
  intro ys
  induction ys with
  | nil=>intro acc h; exact .inr h
  | cons y ys ih =>
   intro acc h
   rw [List.foldl_cons] at h
   rcases ih _ h with ⟨x,hx,e⟩ | h
   ·exact .inl ⟨x,List.mem_cons_of_mem _ hx,e⟩
   ·rw [valA_put] at h
    split at h
    ·rename_i e; exact .inl ⟨y,List.mem_cons_self ..,e.symm,Option.some.inj h⟩
    ·exact .inr h
 rcases key _ _ h with ⟨x,hx,e⟩ | h
 ·exact ⟨x,(List.mem_filter.mp hx).1,e⟩
 ·cases h
theorem inB_nil {α:Type} [DecidableEq α] [Datum α] {a:α}:inB a []=false := by
 cases e:inB a [] with
 | false=>rfl
 | true=>exact absurd (inB_iff.mp e) (by simp)
def oPl (ps qs:List Pl):List Pl := ps ++ qs.filter fun q=>!inB q ps
def oLn (ls ks:List Ln):List Ln := ls ++ ks.filter fun k=>!inB k ls
theorem spec_or {p q:R_Pattern} {Q:R_Pattern→Prop} {E:Exv→Prop} (hp:PatOk p) (hq:PatOk q) (hc:∀ x∈p.f_places.1,∀ y∈q.f_places.1,x.a=y.a→x=y)
  (h:Q ⟨⟨oPl p.f_places.1 q.f_places.1⟩,⟨oLn p.f_links.1 q.f_links.1⟩⟩):W_Pattern_or p q Q E := by
 obtain ⟨hp1,hp2⟩ := hp
 obtain ⟨hq1,hq2⟩ := hq
 refine ⟨szk (by omega),letW_in fun v hv=>?_⟩
 refine forW_same (fun _=>True) True.intro (fun y hy st N _ hN=>?_) (fun st _=>?_)
 ·rw [if_neg]
  ·exact hN () True.intro
  ·rw [hv]
   cases e:valA (dcA (fun x1:Pl=>x1.a) (fun x1:Pl=>(⟨x1.a,x1.b,x1.c⟩:Pl)) (fun _=>true) p.f_places.1) y.a with
   | none=>simp [eqB_rfl]
   | some w =>
    obtain ⟨x,hx,e1,e2⟩ := dcA_from e
    have e3:x=w := e2
    have e4 := hc x hx y hy e1
    subst e3; subst e4
    simp [eqB_rfl]
 ·dsimp only
  rw [if_neg (by simp)]
  refine ⟨szk (by omega),letW_in fun v6 h6=>⟨szk (by omega),letW_in fun v10 h10=>⟨⟨?_, ?_⟩, ?_⟩⟩⟩
  ·subst h6
   refine szk ?_
   rw [List.length_append]
   exact Nat.le_trans (Nat.add_le_add hp1 (Nat.le_trans flen hq1)) (by decide)
  ·subst h10
   refine szk ?_
   rw [List.length_append]
   exact Nat.le_trans (Nat.add_le_add hp2 (Nat.le_trans flen hq2)) (by decide)
  ·subst h6; subst h10
   exact h
theorem oPl_in {ps qs:List Pl} (h:∀ x∈qs,x∈ps):oPl ps qs=ps := by
 unfold oPl
 rw [no_out h,List.append_nil]
theorem spec_rs {x y:Pl} {z:Str} {Q:R_Pattern→Prop} {E:Exv→Prop} (hz:isW z=true) (hc:x.a=y.a→x=y)
  (q:∀ r:R_Pattern,(∀ w∈r.f_places.1,w=x∨w=y)→r.f_places.1.length≤1000→r.f_links.1=[⟨z,x.a,y.a⟩]→Q r):W_Pattern_rshift ⟨⟨[x]⟩,⟨[]⟩⟩ (z,⟨⟨[y]⟩,⟨[]⟩⟩) Q E := by
 have l1 := (word_len hz).1
 have ne:∀ x:Pl,eqB (⟨[x]⟩:Tup Pl) ⟨[]⟩=false := fun x=>by
  cases e:eqB (⟨[x]⟩:Tup Pl) ⟨[]⟩ with
  | false=>rfl
  | true=>exact absurd (eqB_iff.mp e) (by simp)
 refine ⟨by simpa using (by omega:z.length≤1000), ?_⟩
 rw [if_neg (by simp only [hz,ne]; decide)]
 refine spec_or ⟨by simp,by simp⟩ ⟨by simp,by simp⟩ (fun a ha b hb e=>?_) ?_
 ·rw [List.mem_singleton.mp ha,List.mem_singleton.mp hb] at e ⊢; exact hc e
 dsimp only
 refine ⟨⟨by simp,by simp⟩,by simp,letW_in fun v8 h8=>?_⟩
 have e8:v8=y := by rw [h8]; rfl
 clear h8; subst e8
 have hl:(oPl [x] [v8]).length≤2 := by
  unfold oPl
  rw [List.length_append]
  exact Nat.add_le_add (Nat.le_refl _) (Nat.le_trans flen (Nat.le_refl _))
 have hm:∀ w∈oPl [x] [v8],w=x∨w=v8 := fun w hw=>by
  rcases List.mem_append.mp hw with h | h
  ·exact .inl (List.mem_singleton.mp h)
  ·exact .inr (List.mem_singleton.mp (List.mem_filter.mp h).1)
 refine ⟨szk (by omega),letW_in fun v12 h12=>⟨by exact szk (by simp [oLn]),letW_in fun v16 h16=>?_⟩⟩
 have e16:v16=[] := by rw [h16]; rfl
 clear h16; subst e16
 have l12:v12.length≤2 := by rw [h12]; exact Nat.le_trans flen hl
 refine joinW_in ?_
 rw [if_pos (by rw [inB_nil]; rfl)]
 refine ⟨szk (by simp),letW_in fun v27 h27=>?_⟩
 refine ⟨szk (by simp; omega), ?_⟩
 refine q _ (fun w hw=>?_) (by simp; omega) (by rw [h27]; rfl)
 rcases List.mem_append.mp hw with h | h
 ·rw [h12] at h; exact hm w (List.mem_filter.mp h).1
 ·exact .inr (List.mem_singleton.mp h)
def ddT (acc xs:List Ln):List Ln := xs.foldl (fun a x=>if inB x a=true then a else a ++ [x]) acc
theorem ddT_snoc (acc xs:List Ln) (x:Ln):ddT acc (xs ++ [x])=if inB x (ddT acc xs)=true then ddT acc xs else ddT acc xs ++ [x] := by
 unfold ddT; rw [List.foldl_append]; rfl
theorem ddT_len (acc xs:List Ln):(ddT acc xs).length≤acc.length + xs.length := by
 unfold ddT
 induction xs generalizing acc with
 | nil=>simp
 | cons x xs ih =>
  rw [List.foldl_cons]
  refine Nat.le_trans (ih _) ?_
  split <;> simp <;> omega
structure RwG (n:Nat) (nl:List Str) (r:Rw):Prop where
 ne:r.b≠[]
 pl:r.b.length≤4
 ok:∀ p∈r.b,oP p
 nd:(nmP r.b).Nodup
 tl:r.c.length≤n
 tw:∀ t∈r.c,isW t.a=true∧t.b∈nmP r.b∧t.c∈nmP r.b
 tn:(r.c.filter fun t=>decide (t.a∈nl)).Nodup
theorem spec_pattern {n : Nat} {nl : List Str} {r : Rw} {Q : R_Pattern → Prop} {E : Exv → Prop} (hn : n ≤ 900) (g : RwG n nl r) (q : Q ⟨⟨r.b⟩, ⟨ddT [] r.c⟩⟩) : W_law_pattern r.b r.c Q E := by
  obtain ⟨x0, ps, e0⟩ : ∃ x0 ps, r.b = x0 :: ps := by
    cases e : r.b with
    | nil => exact absurd e g.ne
    | cons x0 ps => exact ⟨x0, ps, rfl⟩
  have h0 : 0 ≤ (0 : Int) ∧ (0 : Int) < (r.b.length : Int) := ⟨Int.le_refl _, by rw [e0]; simp⟩
  have i0 : ixG (⟨("" : Str), ("" : Str), (0 : Int)⟩ : Pl) r.b 0 = x0 := ixG_eq (by rw [e0]; rfl)
  have m0 : x0 ∈ r.b := by rw [e0]; exact List.mem_cons_self ..
  have pl := g.pl
  have tl := g.tl
  refine ⟨⟨h0, h0, h0⟩, ?_⟩
  rw [i0]
  refine spec_place (g.ok x0 m0) ?_
  refine forW_inv (fun pre (st : R_Pattern) => st.f_links.1 = [] ∧ st.f_places.1 = if pre = [] then [x0] else pre) ⟨rfl, rfl⟩ (fun pre x post st N e ⟨j1, j2⟩ hN => ?_) (fun st ⟨j1, j2⟩ => ?_)
  · have hx : x ∈ r.b := by rw [e]; simp
    have hpre : ∀ y ∈ st.f_places.1, y ∈ r.b := fun y hy => by
      rw [j2] at hy
      split at hy
      · rw [List.mem_singleton.mp hy]; exact m0
      · rw [e]; exact List.mem_append_left _ hy
    have lst : st.f_places.1.length ≤ 4 := by
      rw [j2]; split
      · simp
      · rw [e] at pl; simp at pl; omega
    refine spec_place (g.ok x hx) ?_
    refine spec_or ⟨by omega, by rw [j1]; simp⟩ ⟨by simp, by simp⟩ (fun a ha b hb ab => pl_of g.nd (hpre a ha) (by rw [List.mem_singleton.mp hb]; exact hx) ab) ?_
    refine hN _ ⟨by rw [j1]; rfl, ?_⟩
    dsimp only
    rw [j2, if_neg (show ¬ pre ++ [x] = [] by simp)]
    by_cases hp : pre = []
    · subst hp
      rw [e0] at e
      simp only [List.nil_append, List.cons.injEq] at e
      rw [if_pos rfl, e.1]
      exact oPl_in fun y hy => hy
    · rw [if_neg hp]
      unfold oPl
      have hout : inB x pre = false := by
        cases e' : inB x pre with
        | false => rfl
        | true =>
          exfalso
          have hnd := g.nd
          rw [e] at hnd
          unfold nmP at hnd
          rw [List.map_append, List.nodup_append] at hnd
          exact hnd.2.2 _ (List.mem_map.mpr ⟨x, inB_iff.mp e', rfl⟩) _ (List.mem_map.mpr ⟨x, List.mem_cons_self .., rfl⟩) rfl
      simp [List.filter, hout]
  have st1 : st.f_places.1 = r.b := by rw [j2, if_neg g.ne]
  refine forW_inv (fun pre (dc : List (Str × R_Pattern)) => dc.length ≤ pre.length ∧ ∀ x ∈ pre, valA dc x.a = some ⟨⟨[x]⟩, ⟨[]⟩⟩) ⟨Nat.le_refl _, fun _ h => nomatch h⟩ (fun pre x post dc N e ⟨k1, k2⟩ hN => ?_) (fun dc ⟨k1, k2⟩ => ?_)
  · have hx : x ∈ r.b := by rw [e]; simp
    have hl : pre.length ≤ 4 := by rw [e] at pl; simp at pl; omega
    refine spec_place (g.ok x hx) ⟨szk (by omega), hN _ ⟨?_, fun y hy => ?_⟩⟩
    · have := putA_len (l := dc) (k := x.a) (v := (⟨⟨[x]⟩, ⟨[]⟩⟩ : R_Pattern))
      simp; omega
    · rw [valA_put]
      rcases List.mem_append.mp hy with h | h
      · by_cases hya : y.a = x.a
        · have := pl_of g.nd (by rw [e]; exact List.mem_append_left _ h) hx hya
          subst this
          rw [if_pos rfl]
        · rw [if_neg hya]; exact k2 y h
      · rw [List.mem_singleton.mp h, if_pos rfl]
  refine forW_inv (fun pre (s : R_Pattern) => s.f_places.1 = r.b ∧ s.f_links.1 = ddT [] pre) ⟨st1, j1⟩ (fun pre t post s N e ⟨l1, l2⟩ hN => ?_) (fun s ⟨l1, l2⟩ => ?_)
  · obtain ⟨w1, w2, w3⟩ := g.tw t (by rw [e]; simp)
    obtain ⟨x, hx, ex⟩ := List.mem_map.mp w2
    obtain ⟨y, hy, ey⟩ := List.mem_map.mp w3
    have vx := k2 x hx
    have vy := k2 y hy
    rw [ex] at vx
    rw [ey] at vy
    have hl : pre.length ≤ n := by rw [e] at tl; simp at tl; omega
    refine ⟨by rw [vx]; rfl, by rw [vy]; rfl, ?_⟩
    rw [vx, vy]
    dsimp only [Option.getD_some]
    refine spec_rs w1 (fun ab => pl_of g.nd hx hy ab) fun r2 m1 m2 m3 => ?_
    have hd := ddT_len [] pre
    have hin : ∀ w ∈ r2.f_places.1, w ∈ r.b := fun w hw => (m1 w hw).elim (fun h => h ▸ hx) fun h => h ▸ hy
    refine spec_or ⟨by rw [l1]; omega, by rw [l2]; simp at hd; omega⟩ ⟨m2, by rw [m3]; simp⟩ (fun a ha b hb ab => pl_of g.nd (l1 ▸ ha) (hin b hb) ab) ?_
    refine hN _ ⟨?_, ?_⟩
    · dsimp only
      rw [l1]; exact oPl_in hin
    · dsimp only
      rw [l2, m3, ddT_snoc, ex, ey]
      unfold oLn
      cases e' : inB t (ddT [] pre) with
      | true => simp [List.filter, e', show (⟨t.a, t.b, t.c⟩ : Ln) = t from rfl]
      | false => simp [List.filter, e', show (⟨t.a, t.b, t.c⟩ : Ln) = t from rfl]
  · have : s = ⟨⟨r.b⟩, ⟨ddT [] r.c⟩⟩ := by
      obtain ⟨⟨a⟩, ⟨b⟩⟩ := s
      simp only at l1 l2
      rw [l1, l2]
    rw [this]; exact q
end Lw
namespace Lw
open PySem PySem.Spec PyProof.Rows L2 Am
open PySem.W (Datum Tup T3 T4)
abbrev PlZ:Pl := ⟨("":Str),("":Str),(0:Int)⟩
structure PlG (ps:List Pl):Prop where
 ne:ps≠[]
 pl:ps.length≤4
 ok:∀ p∈ps,oP p
 nd:(nmP ps).Nodup
section
variable {ks:List Kd} {ls lk:List Lk} {ps:List Pl} {E:Exv→Prop}
theorem lcW_sub {ι:Type} {xs:List ι} {b:ι→(Option ι→Prop)→Prop} {K:List ι→Prop} (hb:∀ x∈xs,∀ N:Option ι→Prop,N (some x)→N none→b x N) (q:∀ ys,ys.Sublist xs→K ys):lcW xs b K := by
 induction xs generalizing K with
 | nil=>exact q [] (List.Sublist.refl _)
 | cons x xs ih=>exact hb x (List.mem_cons_self ..) _ (ih (fun z hz=>hb z (List.mem_cons_of_mem _ hz)) fun ys h=>q (x :: ys) (h.cons₂ x)) (ih (fun z hz=>hb z (List.mem_cons_of_mem _ hz)) fun ys h=>q ys (h.cons x))
theorem plg_sub {ys:List Pl} (g:PlG ps) (h:ys.Sublist ps) (n:ys≠[]):PlG ys := ⟨n,Nat.le_trans h.length_le g.pl,fun p hp=>g.ok p (h.subset hp),(h.map _).nodup g.nd⟩
theorem plg_rev (g:PlG ps):PlG ps.reverse := ⟨by simpa using g.ne,by simpa using g.pl,fun p hp=>g.ok p (by simpa using hp),by
 unfold nmP
 rw [List.map_reverse]
 exact (List.reverse_perm _).nodup_iff.mpr g.nd⟩
theorem eqB_nil {α:Type} [DecidableEq α] [Datum α] {xs:List α}:eqB xs []=true↔xs=[] := eqB_iff
theorem eqB_nil' {α:Type} [DecidableEq α] [Datum α] {xs:List α} (h:(!eqB xs [])=true):xs≠[] := fun e=>by
 rw [e,eqB_rfl] at h; cases h
theorem nm_in {f:Pl→Bool} {st:List Pl} {i:Int} (h:0≤i∧i < (((st.filter f).map fun x=>x.a).length:Int)):ixG ("":Str) ((st.filter f).map fun x=>x.a) i∈nmP st := by
 obtain ⟨p,hp,e⟩ := List.mem_map.mp (ixG_mem (d := ("":Str)) h)
 exact List.mem_map.mpr ⟨p,(List.mem_filter.mp hp).1,e⟩
theorem nm_in2 {f:Pl→Bool} {st:List Pl} {i:Int} (h:0≤i∧i < (((st.filter f).map fun x=>x.a).length:Int)):∃ p∈st,p.a=ixG ("":Str) ((st.filter f).map fun x=>x.a) i∧f p=true := by
 obtain ⟨p,hp,e⟩ := List.mem_map.mp (ixG_mem (d := ("":Str)) h)
 exact ⟨p,(List.mem_filter.mp hp).1,e,(List.mem_filter.mp hp).2⟩
def LkOf (lk:List Lk) (c:List Pl) (t:Ln):Prop := ∃ l∈lk,l.a=t.a∧(∃ p∈c,p.a=t.b∧p.b=l.b)∧∃ p∈c,p.a=t.c∧p.b=l.c
structure RG (lk:List Lk) (ps:List Pl) (r:Rw):Prop where
 g:∀ nl,RwG 6 nl r
 sub:∀ p∈r.b,p∈ps
 lk:∀ t∈r.c,LkOf lk r.b t
 nn:(r.c.map (·.a)).Nodup
 hw:r.a = "find" ∨ r.a = "make" ∨ r.a = "both"
theorem spec_statements {Q:List Rw→Prop} (hw:∀ l∈lk,isW l.a=true) (hn:(lk.map (·.a)).Nodup) (h6:lk.length≤6) {many:Int} (hm:1≤many∧many≤4) (g:PlG ps) (q:∀ rs:List Rw,rs≠[]→rs.length≤4→(∀ r∈rs,RG lk ps r)→Q rs):W_law_statements lk ps many Q E := by
 have g4 := g.pl
 have g1:1≤ps.length := by
  cases e:ps with
  | nil=>exact absurd e g.ne
  | cons a b=>simp
 refine ⟨by omega,fun r h0 h1=>⟨by omega, ?_⟩⟩
 refine forW_inv (fun pre (st:List Rw)=>st.length=pre.length∧∀ r∈st,RG lk ps r) ⟨rfl,(fun _ h=>nomatch h)⟩ (fun pre x post st N e ⟨j1,j2⟩ hN=>?_) (fun st ⟨j1,j2⟩=>?_)
 rotate_left
 ·rw [rng_len] at j1
  exact q st (by intro z; rw [z] at j1; simp at j1; omega) (by omega) j2
 obtain ⟨_,hl⟩ := rng_pre e
 refine ⟨Sz.of (by omega),lcW_sub (fun x hx N h1 h2 d d0 d1=>by split; exact h1; exact h2) fun ys hys=>?_⟩
 refine joinW_by (J := fun c=>PlG c∧∀ p∈c,p∈ps) (fun c1 ⟨gc1,sb1⟩=>?_) (fun N hN=>?_)
 rotate_left
 ·split
  ·refine ⟨by omega,fun i i0 i1=>⟨⟨i0,i1⟩,hN _ ?_⟩⟩
   have hm := ixG_mem (d := PlZ) ⟨i0,i1⟩
   exact ⟨⟨by simp,by simp,fun p hp=>by rw [List.mem_singleton.mp hp]; exact g.ok _ hm,by simp [nmP]⟩,fun p hp=>by rw [List.mem_singleton.mp hp]; exact hm⟩
  ·rename_i h
   exact hN _ ⟨plg_sub g hys fun z=>h (by rw [z]; exact eqB_rfl),fun p hp=>hys.subset hp⟩
 refine joinW_by (J := fun c=>PlG c∧∀ p∈c,p∈ps) (fun c ⟨gc,sb⟩=>?_) (fun N hN d d0 d1=>?_)
 rotate_left
 ·split
  ·exact hN _ ⟨plg_rev gc1,fun p hp=>sb1 p (List.mem_reverse.mp hp)⟩
  ·exact hN _ ⟨gc1,sb1⟩
 have c4 := gc.pl
 refine forW_inv (fun pre (ts:List Ln)=>ts.length≤pre.length∧(∀ t∈ts,(isW t.a=true∧t.b∈nmP c∧t.c∈nmP c)∧LkOf lk c t)∧(∀ t∈ts,t.a∈pre.map (·.a))∧(ts.map (·.a)).Nodup) ⟨Nat.le_refl _,(fun _ h=>nomatch h),(fun _ h=>nomatch h), .nil⟩ (fun pr l po ts N e' ⟨t1,t2,t3,t4⟩ hN'=>?_) (fun ts ⟨t1,t2,t3,t4⟩=>?_)
 ·have hlen:pr.length + 1≤lk.length := by rw [e']; simp
  have hlm:l∈lk := by rw [e']; simp
  refine ⟨Sz.of (by omega),letW_in fun v1 hv1=>⟨Sz.of (by omega),letW_in fun v2 hv2=>?_⟩⟩
  refine joinW_by (J := fun b:Bool=>b=true→v1≠[]∧v2≠[]) (fun b hb=>?_) (fun N hN=>?_)
  rotate_left
  ·split
   ·rename_i n1
    refine joinW_by (J := fun b:Bool=>b=true→v1≠[]∧v2≠[]) (fun b hb=>hN b hb) (fun N hN=>?_)
    split
    ·rename_i n2
     exact fun d d0 d1=>hN _ fun _=>⟨eqB_nil' n1,eqB_nil' n2⟩
    ·exact hN _ fun h=>by cases h
   ·exact hN _ fun h=>by cases h
  split
  ·rename_i hb'
   obtain ⟨n1,n2⟩ := hb hb'
   have p1:0 < v1.length := List.length_pos_iff.mpr n1
   have p2:0 < v2.length := List.length_pos_iff.mpr n2
   have m1:v1.length≤4 := by rw [hv1,List.length_map]; exact Nat.le_trans flen c4
   have m2:v2.length≤4 := by rw [hv2,List.length_map]; exact Nat.le_trans flen c4
   refine ⟨by omega,fun i i0 i1=>⟨⟨i0,i1⟩,by omega,fun k k0 k1=>⟨⟨k0,k1⟩,Sz.of (by omega),letW_in fun v hv=>hN' v ?_⟩⟩⟩
   subst hv
   refine ⟨by simp; omega,fun t ht=>?_,fun t ht=>?_, ?_⟩
   ·rcases List.mem_append.mp ht with h | h
    ·exact t2 t h
    ·rw [List.mem_singleton.mp h]
     subst hv1; subst hv2
     obtain ⟨p,hp,e1,e2⟩ := nm_in2 ⟨i0,i1⟩
     obtain ⟨p',hp',e1',e2'⟩ := nm_in2 ⟨k0,k1⟩
     exact ⟨⟨hw l hlm,nm_in ⟨i0,i1⟩,nm_in ⟨k0,k1⟩⟩,l,hlm,rfl,⟨p,hp,e1,eqB_iff.mp e2⟩,p',hp',e1',eqB_iff.mp e2'⟩
   ·rcases List.mem_append.mp ht with h | h
    ·rw [List.map_append]; exact List.mem_append_left _ (t3 t h)
    ·rw [List.mem_singleton.mp h]; simp
   ·rw [List.map_append]
    refine nodup_snoc t4 fun h=>?_
    obtain ⟨t,ht,et⟩ := List.mem_map.mp h
    have h3 := t3 t ht
    rw [e',List.map_append,List.nodup_append] at hn
    exact hn.2.2 _ h3 _ (List.mem_map.mpr ⟨l,List.mem_cons_self ..,rfl⟩) et
  ·refine hN' _ ⟨by simp; omega,t2,fun t ht=>?_,t4⟩
   rw [List.map_append]; exact List.mem_append_left _ (t3 t ht)
 ·intro d d0 d1
  refine ⟨⟨d0,by simpa using d1⟩,Sz.of (by omega),letW_in fun v hv=>hN v ?_⟩
  subst hv
  refine ⟨by simp [j1],fun r hr=>?_⟩
  rcases List.mem_append.mp hr with h | h
  ·exact j2 r h
  ·rw [List.mem_singleton.mp h]
   refine ⟨fun nl=>?_,sb,fun t ht=>(t2 t ht).2,t4, ?_⟩
   ·exact ⟨gc.ne,gc.pl,gc.ok,gc.nd,by show ts.length≤6; omega,fun t ht=>(t2 t ht).1,((List.filter_sublist (l := ts) (p := fun t=>decide (t.a∈nl))).nodup (List.Pairwise.of_map (·.a) (fun a b h e=>h (e ▸ rfl)) t4))⟩
   ·have:d=0∨d=1∨d=2∨d=3 := by omega
    rcases this with e | e | e | e <;> subst e
    ·exact .inl rfl
    ·exact .inr (.inl rfl)
    ·exact .inr (.inr rfl)
    ·exact .inr (.inr rfl)
end
end Lw
namespace Lw
open PySem PySem.Spec PyProof.Rows L2 Am
open PySem.W (Datum Tup T3 T4)
abbrev Due := Sum (Int × Str) (List (T3 Str Str Int))
def badP (ks:List Kd) (known:List Pl) (p:Pl):Bool := (!inB p.b (ks.map fun x=>x.a)) || (!eqB (known.filter fun x=>eqB x.a p.a && !eqB x p) [])
def lowOf (ps:List Pl) (z:Str):Str := ixG ("":Str) ((ps.filter fun x=>eqB x.a z).map fun x=>x.b) (0:Int)
def badT (ls:List Lk) (ps:List Pl) (t:Ln):Bool := eqB (ls.filter fun x=>eqB x.a t.a && (eqB x.b (lowOf ps t.b) && eqB x.c (lowOf ps t.c))) []
def nextK (known:List Pl) (r:Rw):List Pl := known ++ r.b.filter fun x=>!inB x known
def dueGo (ks:List Kd) (ls:List Lk):Int→List Pl→List Rw→Due
 | _,known,[]=>.inr known
 | n,known,r :: rs=>match r.b.find? (badP ks known) with
  | some p=>.inl (n,p.a)
  | none=>match r.c.find? (badT ls r.b) with
   | some t=>.inl (n,t.a)
   | none=>dueGo ks ls (n + 1) (nextK known r) rs
theorem forW_find {ι:Type} {xs:List ι} {bad:ι→Bool} {ex:ι→Prop} {b:ι→Unit→(Unit→Prop)→(Unit→Prop)→Prop} {K:Unit→Prop} (h:∀ x,xs.find? bad=some x→ex x) (hK:xs.find? bad=none→K ())
  (hb:∀ x∈xs,∀ N B:Unit→Prop,(bad x=true→ex x)→(bad x=false→N ())→b x () N B):forW xs () b K := by
 induction xs with
 | nil=>exact hK rfl
 | cons x xs ih =>
  refine hb x (List.mem_cons_self ..) _ _ (fun e=>h x (by rw [List.find?_cons,e])) fun e=>ih (fun y hy=>h y (by rw [List.find?_cons,e]; exact hy)) (fun hy=>hK (by rw [List.find?_cons,e]; exact hy)) fun y hy=>hb y (List.mem_cons_of_mem _ hy)
theorem drop_at {α:Type} {xs:List α} {n:Nat} {a:α} (h:xs[n]? = some a):xs.drop n=a :: xs.drop (n + 1) := by
 obtain ⟨hl,e⟩ := List.getElem?_eq_some_iff.mp h
 rw [List.drop_eq_getElem_cons hl,e]
section
variable {ks:List Kd} {ls:List Lk} {E:Exv→Prop} {m:Nat} {rs:List Rw} {r:Rw} {known:List Pl} {n:Int} {ps:List Pl} {z:Str}
theorem due_p {p:Pl} {rest:List Rw} (h:r.b.find? (badP ks known)=some p):dueGo ks ls n known (r :: rest) = .inl (n,p.a) := by simp only [dueGo,h]
theorem due_t {t:Ln} {rest:List Rw} (h:r.b.find? (badP ks known)=none) (h2:r.c.find? (badT ls r.b)=some t):dueGo ks ls n known (r :: rest) = .inl (n,t.a) := by simp only [dueGo,h,h2]
theorem due_n {rest:List Rw} (h:r.b.find? (badP ks known)=none) (h2:r.c.find? (badT ls r.b)=none):dueGo ks ls n known (r :: rest)=dueGo ks ls (n + 1) (nextK known r) rest := by simp only [dueGo,h,h2]
end
end Lw
namespace Lw
open PySem PySem.Spec PyProof.Rows L2 Am
open PySem.W (Datum Tup T3 T4)
def stm (r:Rw):R_Statement := ⟨r.a,⟨⟨r.b⟩,⟨ddT [] r.c⟩⟩⟩
def fnd (ps:List Pl) (z:Str):Option Pl := ps.find? fun x=>decide (x.a=z)
section
variable {ks:List Kd} {ls:List Lk} {E:Exv→Prop} {m:Nat} {rs:List Rw} {r:Rw} {known ps:List Pl} {n:Int} {z:Str} {p:Pl}
theorem fnd_of (h:(nmP ps).Nodup) (hp:p∈ps):fnd ps p.a=some p := by
 cases e:fnd ps p.a with
 | none=>exact absurd (List.find?_eq_none.mp e p hp) (by simp)
 | some q =>
  have h1 := List.find?_some e
  exact congrArg some (pl_of h (List.mem_of_find?_eq_some e) hp (by simpa using h1))
theorem fnd_some (h:fnd ps z=some p):p∈ps∧p.a=z := ⟨List.mem_of_find?_eq_some h,by simpa using List.find?_some h⟩
theorem fnd_none:fnd ps z=none↔z ∉ nmP ps := by
 unfold fnd nmP
 rw [List.find?_eq_none]
 constructor
 ·intro h hm
  obtain ⟨p,hp,e⟩ := List.mem_map.mp hm
  exact h p hp (by simpa using e)
 ·intro h p hp e
  exact h (List.mem_map.mpr ⟨p,hp,by simpa using e⟩)
theorem fnd_app {qs:List Pl}:fnd (ps ++ qs) z=(fnd ps z).or (fnd qs z) := by unfold fnd; rw [List.find?_append]
theorem bnot_eq {a b:Bool} (h:a=true↔b=true):a=b := by cases a <;> cases b <;> simp_all
theorem codeK (z:Str):(valA (mkSch ks ls).f_kind_codes z).isSome=inB z (ks.map fun x=>x.a) := by
 refine bnot_eq ?_
 rw [valA_some,inB_iff]
 have e:(mkSch ks ls).f_kind_codes.map (·.1)=ks.map (·.a) := by
  show ((enu (ks.map (·.a))).map fun p=>(p.2,p.1)).map (·.1)=_
  rw [List.map_map]
  exact enu_snd _
 rw [e]
theorem codeL (z:Str):(valA (mkSch ks ls).f_link_codes z).isSome=inB z (ls.map fun x=>x.a) := by
 refine bnot_eq ?_
 rw [valA_some,inB_iff]
 have e:(mkSch ks ls).f_link_codes.map (·.1)=ls.map (·.a) := by
  show ((enu (ls.map (·.a))).map fun p=>(p.2,p.1)).map (·.1)=_
  rw [List.map_map]
  exact enu_snd _
 rw [e]
theorem clash_eq (h:(nmP known).Nodup) (p:Pl):(!eqB ((fnd known p.a).getD p) p) = !eqB (known.filter fun x=>eqB x.a p.a && !eqB x p) [] := by
 congr 1
 refine bnot_eq ?_
 rw [eqB_iff,eqB_nil,List.filter_eq_nil_iff]
 constructor
 ·intro e x hx hb
  rw [Bool.and_eq_true] at hb
  have e1 := eqB_iff.mp hb.1
  have := fnd_of h hx
  rw [e1] at this
  rw [this] at e
  have e2:x=p := e
  rw [e2] at hb
  exact absurd hb.2 (by rw [eqB_rfl]; simp)
 ·intro hh
  cases e:fnd known p.a with
  | none=>rfl
  | some x =>
   obtain ⟨hx,ex⟩ := fnd_some e
   show x=p
   have := hh x hx
   rw [show eqB x.a p.a=true from eqB_iff.mpr ex] at this
   cases e3:eqB x p with
   | true=>exact eqB_iff.mp e3
   | false=>rw [e3] at this; exact absurd rfl this
theorem badP_eq (h:(nmP known).Nodup) (p:Pl):((!(valA (mkSch ks ls).f_kind_codes p.b).isSome) || (!eqB ((fnd known p.a).getD p) p))=badP ks known p := by
 unfold badP
 rw [codeK,clash_eq h]
theorem low_eq (h:fnd ps z=some p):lowOf ps z=p.b := by
 unfold lowOf fnd at *
 induction ps with
 | nil=>cases h
 | cons x xs ih =>
  rw [List.find?_cons] at h
  by_cases e:x.a=z
  ·rw [show decide (x.a=z)=true by simpa using e] at h
   cases h
   rw [List.filter_cons,if_pos (eqB_iff.mpr e)]
   rfl
  ·rw [show decide (x.a=z)=false by simpa using e] at h
   rw [List.filter_cons,if_neg (fun h=>e (eqB_iff.mp h))]
   exact ih h
theorem badT_eq (g:Sch ks ls) {t:Ln} {p1 p2:Pl} (h1:fnd ps t.b=some p1) (h2:fnd ps t.c=some p2) :
  ((!(valA (mkSch ks ls).f_link_codes t.a).isSome) || (!eqB ((valA (mkSch ks ls).f_spans t.a).getD (⟨("":Str),("":Str)⟩:Str × Str)) (⟨p1.b,p2.b⟩:Str × Str)))=badT ls ps t := by
 unfold badT
 rw [codeL,low_eq h1,low_eq h2]
 refine bnot_eq ?_
 rw [eqB_nil,List.filter_eq_nil_iff,Bool.or_eq_true]
 constructor
 ·rintro (h | h) l hl hb
  ·rw [Bool.and_eq_true] at hb
   have := inB_iff.mpr (List.mem_map.mpr ⟨l,hl,eqB_iff.mp hb.1⟩:t.a∈ls.map fun x=>x.a)
   rw [this] at h; cases h
  ·rw [Bool.and_eq_true,Bool.and_eq_true] at hb
   have e1 := spanL g hl
   rw [eqB_iff.mp hb.1,eqB_iff.mp hb.2.1,eqB_iff.mp hb.2.2] at e1
   rw [e1] at h
   simp [eqB_rfl] at h
 ·intro h
  by_cases hm:t.a∈ls.map fun x=>x.a
  ·obtain ⟨l,hl,e⟩ := List.mem_map.mp hm
   refine .inr ?_
   have e1 := spanL g hl
   rw [e] at e1
   rw [e1]
   cases e2:eqB ((some (l.b,l.c)).getD (⟨("":Str),("":Str)⟩:Str × Str)) (⟨p1.b,p2.b⟩:Str × Str) with
   | false=>rfl
   | true =>
    have e3:(l.b,l.c)=(p1.b,p2.b) := eqB_iff.mp e2
    refine absurd ?_ (h l hl)
    rw [eqB_iff.mpr e,eqB_iff.mpr (congrArg Prod.fst e3),eqB_iff.mpr (congrArg Prod.snd e3)]
    rfl
  ·refine .inl ?_
   cases e:inB t.a (ls.map fun x=>x.a) with
   | false=>rfl
   | true=>exact absurd (inB_iff.mp e) hm
theorem ddT_mem {acc xs:List Ln} {t:Ln}:t∈ddT acc xs↔t∈acc∨t∈xs := by
 unfold ddT
 induction xs generalizing acc with
 | nil=>simp
 | cons x xs ih =>
  rw [List.foldl_cons,ih]
  split
  ·rename_i h
   have := inB_iff.mp h
   simp only [List.mem_cons]
   constructor
   ·rintro (h | h)
    ·exact .inl h
    ·exact .inr (.inr h)
   ·rintro (h | rfl | h)
    ·exact .inl h
    ·exact .inl this
    ·exact .inr h
  ·simp only [List.mem_append,List.mem_cons,List.not_mem_nil,or_false]
   constructor
   ·rintro ((h | h) | h)
    ·exact .inl h
    ·exact .inr (.inl h)
    ·exact .inr (.inr h)
   ·rintro (h | h | h)
    ·exact .inl (.inl h)
    ·exact .inl (.inr h)
    ·exact .inr h
theorem ddT_find {acc xs:List Ln} {f:Ln→Bool} (h:acc.find? f=none):(ddT acc xs).find? f=xs.find? f := by
 unfold ddT
 induction xs generalizing acc with
 | nil=>exact h
 | cons x xs ih =>
  rw [List.foldl_cons]
  by_cases hx:inB x acc=true
  ·rw [if_pos hx,ih h,List.find?_cons]
   have := List.find?_eq_none.mp h x (inB_iff.mp hx)
   rw [show f x=false by cases e:f x with | false=>rfl | true=>exact absurd e this]
  ·rw [if_neg hx,List.find?_cons]
   cases e:f x with
   | true =>
    have:(acc ++ [x]).find? f=some x := by rw [List.find?_append,h,List.find?_cons,e]; rfl
    have key:∀ (ys acc:List Ln),acc.find? f=some x→(ys.foldl (fun a x=>if inB x a=true then a else a ++ [x]) acc).find? f=some x := by
     intro ys
     induction ys with
     | nil=>intro acc h; exact h
     | cons y ys ih2 =>
      intro acc h
      rw [List.foldl_cons]
      split
      ·exact ih2 _ h
      ·exact ih2 _ (by rw [List.find?_append,h]; rfl)
    exact key xs _ this
   | false =>
    refine ih ?_
    rw [List.find?_append,h,List.find?_cons,e]; rfl
theorem nextK_nd (h:(nmP known).Nodup) (hr:(nmP r.b).Nodup) (hb:r.b.find? (badP ks known)=none):(nmP (nextK known r)).Nodup := by
 unfold nmP nextK
 rw [List.map_append,List.nodup_append]
 refine ⟨h,((List.filter_sublist (l := r.b) (p := fun x=>!inB x known)).map _).nodup hr,fun a ha b hb' e=>?_⟩
 obtain ⟨z,hz,ez⟩ := List.mem_map.mp ha
 obtain ⟨p,hp,ep⟩ := List.mem_map.mp hb'
 obtain ⟨hp1,hp2⟩ := List.mem_filter.mp hp
 have h1 := List.find?_eq_none.mp hb p hp1
 unfold badP at h1
 rw [← clash_eq h] at h1
 have e1:fnd known p.a=some z := by rw [ep,← e,← ez]; exact fnd_of h hz
 rw [e1] at h1
 have e2:z=p := by
  cases e3:eqB z p with
  | true=>exact eqB_iff.mp e3
  | false =>
   refine absurd ?_ h1
   show (_ || !eqB z p)=true
   rw [e3]; simp
 rw [e2] at hz
 rw [inB_iff.mpr hz] at hp2
 cases hp2
theorem nextK_fnd (h:(nmP known).Nodup) (hr:(nmP r.b).Nodup) (hb:r.b.find? (badP ks known)=none) (z:Str):fnd (nextK known r) z=if z∈nmP r.b then fnd r.b z else fnd known z := by
 have hn := nextK_nd h hr hb
 split
 ·rename_i hz
  obtain ⟨p,hp,e⟩ := List.mem_map.mp hz
  have h1:fnd r.b z=some p := by rw [← e]; exact fnd_of hr hp
  have h2:p∈nextK known r := by
   unfold nextK
   by_cases hk:p∈known
   ·exact List.mem_append_left _ hk
   ·refine List.mem_append_right _ (List.mem_filter.mpr ⟨hp, ?_⟩)
    cases e':inB p known with
    | false=>rfl
    | true=>exact absurd (inB_iff.mp e') hk
  rw [h1,← e]
  exact fnd_of hn h2
 ·rename_i hz
  unfold nextK
  rw [fnd_app]
  have:fnd (r.b.filter fun x=>!inB x known) z=none := by
   rw [fnd_none]
   intro hm
   obtain ⟨p,hp,e⟩ := List.mem_map.mp hm
   exact hz (List.mem_map.mpr ⟨p,(List.mem_filter.mp hp).1,e⟩)
  rw [this]
  cases fnd known z <;> rfl
end
end Lw
namespace Lw
open PySem PySem.Spec PyProof.Rows L2 Am
open PySem.W (Datum Tup T3 T4)
section
variable {ks:List Kd} {ls:List Lk} {m:Nat} {rs:List Rw} {r:Rw} {known ps:List Pl} {n:Int} {z:Str} {p:Pl}
theorem spec_check {Q:Unit→Prop} {E:Exv→Prop} (g:Sch ks ls) (h4:rs.length≤100) (hm:m≤900) (hr:∀ r∈rs,RwG m (ls.map (·.a)) r)
  (q:∀ l,dueGo ks ls 0 [] rs = .inr l→Q ()) (qe:∀ i s,dueGo ks ls 0 [] rs = .inl (i,s)→E (.misfit i s)):W_check_statements (mkSch ks ls) (rs.map stm) Q E := by
 refine forW_inv (fun pre (st:List (Str × Pl))=>st.length≤4 * pre.length∧∃ known,(nmP known).Nodup∧(∀ k,valA st k=fnd known k)∧dueGo ks ls 0 [] rs=dueGo ks ls pre.length known (rs.drop pre.length))
  ⟨Nat.le_refl _,[],by simp [nmP],fun k=>rfl,rfl⟩ (fun pre x post st N e ⟨j1,known,j2,j3,j4⟩ hN=>?_) (fun st ⟨j1,known,j2,j3,j4⟩=>?_)
 rotate_left
 ·have:(rs.drop (enu (rs.map stm)).length)=[] := by rw [enu_len]; simp
  rw [this] at j4
  exact q known j4
 obtain ⟨x1,x2,_⟩ := enu_pre e
 rw [List.getElem?_map] at x2
 obtain ⟨r,er,es⟩:∃ r,rs[pre.length]? = some r∧stm r=x.2 := by
  cases e':rs[pre.length]? with
  | none=>rw [e'] at x2; cases x2
  | some r=>rw [e'] at x2; exact ⟨r,rfl,Option.some.inj x2⟩
 have hpl:pre.length < 100 := by
  have := (List.getElem?_eq_some_iff.mp er).1
  omega
 have gr := hr _ (List.mem_of_getElem? er)
 have p4 := gr.pl
 have tl := gr.tl
 rw [drop_at er] at j4
 rw [x1,← es]
 show forW r.b _ _ _
 refine forW_inv (fun pr (own:List (Str × Pl))=>own.length≤pr.length∧(∀ k,valA own k=fnd pr k)∧pr.find? (badP ks known)=none) ⟨Nat.le_refl _,fun k=>rfl,rfl⟩ (fun pr p po own N' e' ⟨o1,o2,o3⟩ hN'=>?_) (fun own ⟨o1,o2,o3⟩=>?_)
 ·rw [j3,badP_eq j2]
  have hpr:pr.length≤4 := by rw [e'] at p4; simp at p4; omega
  split
  ·rename_i hb
   refine qe _ _ ?_
   rw [j4]
   exact due_p (by rw [e',List.find?_append,o3,List.find?_cons,hb]; rfl)
  ·rename_i hb
   refine ⟨szk (by omega),hN' _ ⟨?_,fun k=>?_, ?_⟩⟩
   ·have := putA_len (l := own) (k := p.a) (v := p)
    simp; omega
   ·rw [valA_put,o2]
    have hnd := gr.nd
    rw [e'] at hnd
    unfold nmP at hnd
    rw [List.map_append,List.nodup_append] at hnd
    rw [fnd_app]
    split
    ·rename_i ek
     subst ek
     have:fnd pr p.a=none := by
      rw [fnd_none]
      intro hmm
      exact hnd.2.2 _ hmm _ (List.mem_map.mpr ⟨p,List.mem_cons_self ..,rfl⟩) rfl
     rw [this]
     simp [fnd]
    ·rename_i ek
     have:fnd [p] k=none := by
      rw [fnd_none]
      intro hmm
      simp [nmP] at hmm
      exact ek hmm
     rw [this]
     cases fnd pr k <;> rfl
   ·rw [List.find?_append,o3,List.find?_cons]
    cases e5:badP ks known p with
    | true=>exact absurd e5 hb
    | false=>rfl
 have hl4:own.length≤4 := by omega
 show forW (ddT [] r.c) _ _ _
 have fd:(ddT [] r.c).find? (badT ls r.b)=r.c.find? (badT ls r.b) := ddT_find rfl
 refine forW_find (bad := badT ls r.b) (ex := fun t=>E (.misfit (pre.length:Int) t.a)) (fun t ht=>?_) (fun hnt=>?_) (fun t ht N2 B h1 h2=>?_)
 ·rw [fd] at ht
  refine qe _ _ ?_
  rw [j4]
  exact due_t o3 ht
 ·rw [fd] at hnt
  refine forW_inv (fun pr (st':List (Str × Pl))=>st'.length≤st.length + pr.length∧∀ k,valA st' k=if k∈pr then fnd r.b k else valA st k) ⟨by simp,fun k=>by simp⟩ (fun pr k po st' N2 e2 ⟨s1,s2⟩ hN2=>?_) (fun st' ⟨s1,s2⟩=>?_)
  ·have hk:k∈own.map (·.1) := by rw [e2]; simp
   have hsome := valA_some.mpr hk
   have hlen:pr.length + 1≤own.length := by
    have := congrArg List.length e2
    simp at this; omega
   refine ⟨hsome,szk (by omega),letW_in fun v hv=>hN2 v ?_⟩
   subst hv
   refine ⟨?_,fun k'=>?_⟩
   ·have := putA_len (l := st') (k := k) (v := (valA own k).getD (⟨("":Str),("":Str),(0:Int)⟩:Pl))
    simp; omega
   ·rw [valA_put,s2]
    by_cases ek:k' = k
    ·subst ek
     rw [if_pos rfl,if_pos (by simp),← o2]
     cases e6:valA own k' with
     | none=>rw [e6] at hsome; cases hsome
     | some w=>rfl
    ·rw [if_neg ek]
     simp [ek]
  ·refine hN _ ⟨?_,nextK known r,nextK_nd j2 gr.nd o3,fun k=>?_, ?_⟩
   ·simp at s1; simp; omega
   ·rw [s2,nextK_fnd j2 gr.nd o3,j3]
    have:k∈own.map (fun p=>p.1)↔k∈nmP r.b := by
     have h7 := @valA_some _ _ _ own k
     rw [← h7,o2]
     cases e8:fnd r.b k with
     | none=>simp [fnd_none.mp e8]
     | some w =>
      obtain ⟨w1,w2⟩ := fnd_some e8
      simp
      exact List.mem_map.mpr ⟨w,w1,w2⟩
    by_cases hk:k∈nmP r.b
    ·rw [if_pos hk,if_pos (this.mpr hk)]
    ·rw [if_neg hk,if_neg (fun h=>hk (this.mp h))]
   ·rw [j4,due_n o3 hnt]
    have:((pre ++ [x]).length:Int)=(pre.length:Int) + 1 := by simp
    rw [this]
    simp only [List.length_append,List.length_cons,List.length_nil,Nat.zero_add]
 ·have htc:t∈r.c := by
   rcases ddT_mem.mp ht with h | h
   ·cases h
   ·exact h
  obtain ⟨_,t2,t3⟩ := gr.tw t htc
  obtain ⟨a1,a2,a3⟩ := List.mem_map.mp t2
  obtain ⟨b1,b2,b3⟩ := List.mem_map.mp t3
  have f1:fnd r.b t.b=some a1 := by rw [← a3]; exact fnd_of gr.nd a2
  have f2:fnd r.b t.c=some b1 := by rw [← b3]; exact fnd_of gr.nd b2
  rw [o2,o2,f1,f2]
  have ee := badT_eq g (ps := r.b) (t := t) f1 f2
  refine ⟨fun hh=>⟨?_,rfl,rfl⟩, ?_⟩
  ·have hc:(valA (mkSch ks ls).f_link_codes t.a).isSome=true := by
    cases e9:(valA (mkSch ks ls).f_link_codes t.a).isSome with
    | true=>rfl
    | false=>rw [e9] at hh; cases hh
   rw [codeL] at hc
   obtain ⟨l,hl,el⟩ := List.mem_map.mp (inB_iff.mp hc)
   rw [← el,spanL g hl]; rfl
  ·split
   ·rename_i hb; exact h1 (ee.symm.trans hb)
   ·rename_i hb
    exact h2 (by
     cases e5:badT ls r.b t with
     | true=>exact absurd (ee.trans e5) hb
     | false=>rfl)
end
end Lw
namespace Lw
open PySem PySem.Spec PyProof.Rows L2 Am
open PySem.W (Datum Tup T3 T4)
section
variable {ks:List Kd} {ls:List Lk} {m:Nat} {nl:List Str} {rs:List Rw} {r a b:Rw} {known l:List Pl} {n:Int}
theorem stm_ok (hm:m≤900) (g:RwG m nl r):StmOk (stm r) := by
 have p4 := g.pl
 have tl := g.tl
 have := ddT_len [] r.c
 exact ⟨by show r.b.length≤1000; omega,by show (ddT [] r.c).length≤1000; simp at this; omega⟩
theorem ddA_next (h:(nmP r.b).Nodup):ddA known r.b=nextK known r := by
 unfold nextK
 have hn:r.b.Nodup := List.Pairwise.of_map (·.a) (fun a b h e=>h (e ▸ rfl)) h
 clear h
 generalize r.b=xs at hn
 have key:∀ (xs pre:List Pl),(pre ++ xs).Nodup→ddA (known ++ pre.filter fun x=>!inB x known) xs=known ++ (pre ++ xs).filter fun x=>!inB x known := by
  intro xs
  induction xs with
  | nil=>intro pre _; rw [List.append_nil]; rfl
  | cons x xs ih =>
   intro pre hp
   have hx:x ∉ pre := fun hm=>(List.nodup_append.mp hp).2.2 _ hm _ (List.mem_cons_self ..) rfl
   have e1:ddA (known ++ pre.filter fun x=>!inB x known) (x :: xs)=ddA (known ++ (pre ++ [x]).filter fun x=>!inB x known) xs := by
    unfold ddA
    rw [List.foldl_cons]
    congr 1
    rw [List.filter_append]
    by_cases hk:inB x known=true
    ·rw [if_pos (inB_iff.mpr (List.mem_append_left _ (inB_iff.mp hk)))]
     simp [List.filter,hk]
    ·have hk':inB x known=false := by simpa using hk
     rw [if_neg]
     ·simp [List.filter,hk']
     ·intro h
      rcases List.mem_append.mp (inB_iff.mp h) with h | h
      ·exact hk (inB_iff.mpr h)
      ·exact hx (List.mem_filter.mp h).1
   rw [e1,ih _ (by simpa using hp)]
   simp
 have := key xs [] (by simpa using hn)
 simpa using this
theorem due_placed:∀ {rs:List Rw} {n:Int} {known:List Pl},(∀ r∈rs,(nmP r.b).Nodup)→dueGo ks ls n known rs = .inr l→l=(rs.map stm).foldl (fun a s=>ddA a s.f_pattern.f_places.1) known
 | [],n,known,_,h=>by
  cases h; rfl
 | r :: rs,n,known,hr,h=>by
  cases e1:r.b.find? (badP ks known) with
  | some p=>rw [due_p e1] at h; cases h
  | none =>
   cases e2:r.c.find? (badT ls r.b) with
   | some t=>rw [due_t e1 e2] at h; cases h
   | none =>
    rw [due_n e1 e2] at h
    rw [due_placed (fun x hx=>hr x (List.mem_cons_of_mem _ hx)) h,List.map_cons,List.foldl_cons]
    show _=List.foldl _ (ddA known r.b) _
    rw [ddA_next (hr r (List.mem_cons_self ..))]
theorem paired_stm:∀ {rs:List Rw} {ys:List R_Statement},Paired (fun x y=>y=stm x) rs ys→ys=rs.map stm
 | _,_, .nil=>rfl
 | _,_, .cons h r=>by rw [List.map_cons,h,paired_stm r]
end
end Lw
namespace Lw
open PySem PySem.Spec PyProof.Rows L2 Am
open PySem.W (Datum Tup T3 T4)
section
variable {ks:List Kd} {ls:List Lk} {m:Nat} {nl:List Str} {rs rs':List Rw} {r a b:Rw} {known l ps:List Pl} {n:Int} {w:KTs} {c:List Str} {E:Exv→Prop}
def pg (ks:List Kd) (ls:List Lk) (rs:List Rw) (w:KTs):R_Program := ⟨mkSch ks ls,rs.map stm,w⟩
theorem pg_ok (g:Sch ks ls) (hr:∀ r∈rs,RwG 6 (ls.map (·.a)) r) (hl:rs.length≤20):PrgOk (pg ks ls rs w) := by
 have k4 := g.k4
 have l6 := g.l6
 refine ⟨fun s hs=>?_, ?_, ?_, ?_⟩
 ·obtain ⟨r,hr',er⟩ := List.mem_map.mp hs
  rw [← er]; exact stm_ok (m := 6) (by omega) (hr r hr')
 ·show (rs.map stm).length≤1000
  rw [List.length_map]; omega
 ·show (ks.map (·.a)).length≤1000
  rw [List.length_map]; omega
 ·show (ls.map (·.a)).length≤1000
  rw [List.length_map]; omega
theorem low_at (h:(nmP ps).Nodup) {p:Pl} (hp:p∈ps):lowOf ps p.a=p.b := low_eq (fnd_of h hp)
theorem due_good (gp:PlG ps) (hk:∀ p∈ps,p.b∈ks.map (·.a)):∀ {rs:List Rw} {n:Int} {known:List Pl},(∀ r∈rs,RG ls ps r)→(∀ p∈known,p∈ps) →
  ∃ l,dueGo ks ls n known rs = .inr l∧(∀ p∈l,p∈ps)∧(∀ p∈known,p∈l)∧∀ r∈rs,∀ p∈r.b,p∈l
 | [],n,known,_,hkn=>⟨known,rfl,hkn,fun _ h=>h,fun _ h=>nomatch h⟩
 | r :: rs,n,known,hr,hkn=>by
  have R := hr r (List.mem_cons_self ..)
  have nd := (R.g []).nd
  have e1:r.b.find? (badP ks known)=none := by
   rw [List.find?_eq_none]
   intro p hp hb
   have hps := R.sub p hp
   unfold badP at hb
   rw [inB_iff.mpr (hk p hps),Bool.not_true,Bool.false_or] at hb
   have:known.filter (fun x=>eqB x.a p.a && !eqB x p)=[] := by
    rw [List.filter_eq_nil_iff]
    intro x hx hx2
    rw [Bool.and_eq_true] at hx2
    have := pl_of gp.nd (hkn x hx) hps (eqB_iff.mp hx2.1)
    rw [this,eqB_rfl,eqB_rfl] at hx2
    exact absurd hx2.2 (by simp)
   rw [this,eqB_rfl] at hb
   cases hb
  have e2:r.c.find? (badT ls r.b)=none := by
   rw [List.find?_eq_none]
   intro t ht hb
   obtain ⟨l,hl,el,⟨p,hp,ep,epb⟩,q,hq,eq,eqb⟩ := R.lk t ht
   unfold badT at hb
   have hm:l∈ls.filter (fun x=>eqB x.a t.a && (eqB x.b (lowOf r.b t.b) && eqB x.c (lowOf r.b t.c))) := by
    refine List.mem_filter.mpr ⟨hl, ?_⟩
    rw [← ep,← eq,low_at nd hp,low_at nd hq,epb,eqb,el,eqB_rfl,eqB_rfl,eqB_rfl]
    rfl
   rw [eqB_nil.mp hb] at hm
   cases hm
  obtain ⟨l,h1,h2,h3,h4⟩ := due_good gp hk (rs := rs) (n := n + 1) (known := nextK known r) (fun x hx=>hr x (List.mem_cons_of_mem _ hx)) (fun p hp=>by
   rcases List.mem_append.mp hp with h | h
   ·exact hkn p h
   ·exact R.sub p (List.mem_filter.mp h).1)
  refine ⟨l,by rw [due_n e1 e2,h1],h2,fun p hp=>h3 p (List.mem_append_left _ hp),fun x hx p hp=>?_⟩
  rcases List.mem_cons.mp hx with rfl | hx
  ·refine h3 p ?_
   by_cases hk:p∈known
   ·exact List.mem_append_left _ hk
   ·refine List.mem_append_right _ (List.mem_filter.mpr ⟨hp, ?_⟩)
    cases e':inB p known with
    | false=>rfl
    | true=>exact absurd (inB_iff.mp e') hk
  ·exact h4 x hx p hp
def one (h:Str) (p:Pl):Rw := ⟨h,[p],[]⟩
theorem chk_inr {Q:Unit→Prop} (g:Sch ks ls) (h4:rs.length≤100) (hr:∀ r∈rs,RwG 6 (ls.map (·.a)) r) (e:dueGo ks ls 0 [] rs = .inr l) (q:Q ()):W_check_statements (mkSch ks ls) (rs.map stm) Q E :=
 spec_check g h4 (m := 6) (by omega) hr (fun _ _=>q) fun i s h=>by rw [e] at h; cases h
end
end Lw
namespace Lw
open PySem PySem.Spec PyProof.Rows L2 Am
open PySem.W (Datum Tup T3 T4)
theorem fv_width {A:AH} {g:R_Program} (h:PrgOk g):Fv m_Program_width [enc_Program g] A (.int (widthF g)) := fun Q E hq =>
 c_Program_width (Q0 := fun r=>r=widthF g) (E0 := fun _=>False) (by
  have h1 := placed_len h
  unfold W_Program_width
  refine ⟨?_,rfl⟩
  refine ⟨h,szk (by show (placedF g).length≤_; omega),szk (by show ([(0:Int)]).length + ((placedF g).map fun x=>x.c + (1:Int)).length≤_; simp; omega),by simp⟩) (fun r hr=>by subst hr; exact hq) (fun _ h=>h.elim)
end Lw
namespace Lw
open PySem PySem.Spec PyProof.Rows L2 Am
open PySem.W (Datum Tup T3 T4)
def W_law_keys  (Q:((List Int))→Prop) (E:Exv→Prop):Prop :=
 (∀ r3:Int,0≤r3→r3 < (4:Int)→(((-(2 ^ 62)≤((1:Int) + r3)∧((1:Int) + r3) < 2 ^ 62))∧(forW (rng ((1:Int) + r3)) (([]:List Int):(List Int)) (fun (x5:Int) (st29:(List Int)) N26 B27=>(∀ r38:Int,0≤r38→r38 < (2:Int)→(joinW (σ := Int) (fun N39=>(if (eqB r38 (0:Int))=true then (∀ r42:Int,0≤r42→r42 < (3:Int)→N39 r42) else (((0 < (((10:Int) ^ Int.toNat (18:Int)) + (1:Int))∧(((10:Int) ^ Int.toNat (18:Int)) + (1:Int))≤2 ^ 64))∧(∀ r44:Int,0≤r44→r44 < (((10:Int) ^ Int.toNat (18:Int)) + (1:Int))→N39 r44)))) (fun (v40:Int)=>(((Sz ((st29).length + 1)))∧N26 (st29 ++ [v40])))))) (fun (st47:(List Int))=>Q st47))))
theorem c_law_keys {A0:AH} {n0:Nat} (hp:A0 n0=some .pool) {Q0:(List Int)→Prop} {E0:Exv→Prop} {Q:QE} {E:QX} (h:W_law_keys  Q0 E0) (hQ:∀ r,Q0 r→Q (D.lst (List.map en r)) A0) (hE:∀ x,E0 x→E (encX x) A0):m_law_keys [.ref n0] A0 Q E := by
 unfold W_law_keys at h
 have hc:Cells A0 [] A0 := Cells.nil_
 refine fn_in (s := [some (D.ref n0),none,none,none]) ?_ rfl rfl
 refine s_sq ?_
 refine u_setE ?_
 refine w_nilM ?_
 intro n1 hn
 replace hc := hc.new (Nd.lst []) hn
 generalize put A0 n1 (Nd.lst [])=A2 at hc ⊢
 replace hc:Cells A0 [[(n1,(Nd.lst (List.map en ([]:List Int))))]] A2 := hc
 refine at_n (s' := [some (D.ref n0),some (D.ref n1),none,none]) rfl ?_
 refine nx_sq ?_
 refine s_sq ?_
 refine u_rngE ?_
 refine w_opW ?_
 refine Pv.wp ?_ pv_c
 refine w_drawA (pa_cons' (pv_var rfl) (pa_cons' pv_c pa_nil')) (hc.le _ _ hp) (by decide) (by decide) ?_
 intro r3 h0r3 h1r3
 replace h := h r3 h0r3 h1r3
 refine P2.wp ?_ p2_addI
 obtain ⟨hS4,h⟩ := h
 refine ⟨_,rfl,(hS4).1,(hS4).2, ?_⟩
 rw [intsD_rng]
 refine for_corr (σ := (List Int)) (e := en) (fun st30 s31 A32=>∃ (j33 j34:Option D),s31=[some (D.ref n0),some (D.ref n1),j33,j34]∧Cells A0 [[(n1,(Nd.lst (List.map en st30)))]] A32) h ⟨_,_,rfl,hc⟩ (fun _ _ _ ⟨_,_,_,hcP⟩=>True.intro) ?_ ?_
 ·rintro x5 hx5 st29 _ A37 N26 B27 Nm28 h ⟨j35,j36,rfl,hc⟩ hN26 hB27
  refine at_s (s' := [some (D.ref n0),some (D.ref n1),some (D.int x5),j36]) rfl ?_
  refine s_sq ?_
  refine u_setE ?_
  refine w_drawA (pa_cons' (pv_var rfl) (pa_cons' pv_c pa_nil')) (hc.le _ _ hp) (by decide) (by decide) ?_
  intro r38 h0r38 h1r38
  replace h := h r38 h0r38 h1r38
  refine at_n (s' := [some (D.ref n0),some (D.ref n1),some (D.int x5),some (D.int r38)]) rfl ?_
  refine nx_sq ?_
  refine u_appS ?_
  refine Pv.wp ?_ (pv_var rfl)
  refine ⟨u_it (hc.at 0 rfl), ?_⟩
  refine w_ifX ?_
  refine Pt.wp ?_ (pt_b (pv_op2 (pv_var rfl) pv_c (q2_eq (a := r38) (b := (0:Int)) (ue_r rfl) (ue_r rfl) (by decide))))
  refine u_ifJ (f := (fun z=>(D.int z):Int→D)) h ?_ ?_
  ·intro N39 h hN39
   refine u_ifB h ?_ ?_
   ·intro hb41 h
    refine w_drawA (pa_cons' (pv_var rfl) (pa_cons' pv_c pa_nil')) (hc.le _ _ hp) (by decide) (by decide) ?_
    intro r42 h0r42 h1r42
    replace h := h r42 h0r42 h1r42
    exact hN39 _ h
   ·intro hb41 h
    obtain ⟨hS43,h⟩ := h
    refine w_drawA (pa_cons' (pv_var rfl) (pa_cons' (pv_op2 (pv_op2 pv_c pv_c (p2_powI ⟨by decide,by decide,by decide⟩)) pv_c p2_addI) pa_nil')) (hc.le _ _ hp) (hS43).1 (dr_big hS43) ?_
    intro r44 h0r44 h1r44
    replace h := h r44 h0r44 h1r44
    exact hN39 _ h
  intro v40 h
  obtain ⟨hS45,h⟩ := h
  refine u_app2 (xs := st29) (e := en) (v := v40) (hc.at 0 rfl) hS45 ?_
  replace hc := hc.put 0 rfl (Nd.lst (List.map en (st29 ++ [v40])))
  generalize put A37 n1 (Nd.lst (List.map en (st29 ++ [v40])))=A46 at hc ⊢
  replace hc:Cells A0 [[(n1,(Nd.lst (List.map en (st29 ++ [v40]))))]] A46 := hc
  refine nx_lp ?_
  exact hN26 _ _ _ h ⟨_,_,rfl,hc⟩
 rintro st47 _ A50 h ⟨j48,j49,rfl,hc⟩
 refine nx_sq ?_
 refine u_retE ?_
 refine w_fzL (n := n1) rfl (hc.at 0 rfl) ?_
 replace hc := hc.cut 0 rfl
 generalize rem A50 n1=A51 at hc ⊢
 refine u_rt hc ?_
 exact hQ _ h
end Lw
namespace Lw
open PySem PySem.Spec PyProof.Rows L2 Am
open PySem.W (Datum Tup T3 T4)
def W_law_rows (a1:(List Int)) (a2:Int) (a3:Int) (Q:((List (Tup Int)))→Prop) (E:Exv→Prop):Prop :=
 (letW (if a2 > (1:Int) then a2 else (1:Int)) (fun (v1:Int)=>(((-(2 ^ 62)≤a3∧a3 < 2 ^ 62)∧(Sz ((rng a3)).length))∧(lcW (rng a3) (fun (x3:Int) (N4:Option (Tup Int)→Prop)=>(((-(2 ^ 62)≤v1∧v1 < 2 ^ 62)∧(Sz ((rng v1)).length))∧(lcW (rng v1) (fun (x7:Int) (N8:Option Int→Prop)=>(((0 < ((a1).length:Int)∧((a1).length:Int)≤1000000000))∧(∀ r11:Int,0≤r11→r11 < ((a1).length:Int)→(((0≤r11∧r11 < ((a1).length:Int)))∧N8 (some (ixG (0:Int) a1 r11)))))) (fun (ys9:List Int)=>N4 (some (Tup.mk ys9)))))) (fun (ys5:List (Tup Int))=>Q ys5)))))
theorem c_law_rows {A0:AH} {n0:Nat} (hp:A0 n0=some .pool) {y1:D} {a1:(List Int)} (hx1:ItL A0 y1 a1 en) {a2:Int} {a3:Int} {Q0:(List (Tup Int))→Prop} {E0:Exv→Prop} {Q:QE} {E:QX} (h:W_law_rows a1 a2 a3 Q0 E0) (hQ:∀ r,Q0 r→Q (D.lst (List.map en r)) A0) (hE:∀ x,E0 x→E (encX x) A0):m_law_rows [.ref n0,y1,(D.int a2),(D.int a3)] A0 Q E := by
 unfold W_law_rows at h
 have hc:Cells A0 [] A0 := Cells.nil_
 refine fn_in (s := [some (D.ref n0),some y1,some (D.int a2),some (D.int a3),none,none,none]) ?_ rfl rfl
 refine s_sq ?_
 obtain ⟨v1,hv1⟩:∃ v:Int,v=(if a2 > (1:Int) then a2 else (1:Int)) := ⟨_,rfl⟩
 replace h := letW_out hv1 h
 refine u_set (s' := [some (D.ref n0),some y1,some (D.int a2),some (D.int a3),some (D.int v1),none,none]) (Pv.is (pv_cbB (pa_cons' pv_c (pa_cons' (pv_var rfl) pa_nil')) (fun Q q=>pb_max2 q)) (congrArg (fun z:Int=>(D.int z)) hv1.symm)) rfl ?_
 refine nx_sq ?_
 refine u_retE ?_
 obtain ⟨hS2,h⟩ := h
 refine u_lc (e := en) (f := en) (s' := [some (D.ref n0),some y1,some (D.int a2),some (D.int a3),some (D.int v1),none,none]) (mi_rng (pv_var rfl) hS2.1) rfl hS2.2 h ?_ ?_
 ·intro x3 hx3 N4 R R2 h hR hR2
  refine u_gN (s' := [some (D.ref n0),some y1,some (D.int a2),some (D.int a3),some (D.int v1),some (D.int x3),none]) rfl ?_
  refine lc_yes ?_
  refine w_cbX ?_
  refine w_consX ?_
  obtain ⟨hS6,h⟩ := h
  refine u_lc (e := en) (f := en) (s' := [some (D.ref n0),some y1,some (D.int a2),some (D.int a3),some (D.int v1),some (D.int x3),none]) (mi_rng (pv_var rfl) hS6.1) rfl hS6.2 h ?_ ?_
  ·intro x7 hx7 N8 R R2 h hR hR2
   refine u_gN (s' := [some (D.ref n0),some y1,some (D.int a2),some (D.int a3),some (D.int v1),some (D.int x3),some (D.int x7)]) rfl ?_
   refine lc_yes ?_
   refine w_opW ?_
   refine Pv.wp ?_ (pv_var rfl)
   obtain ⟨hS10,h⟩ := h
   refine w_drawA (pa_cons' (pv_var rfl) (pa_cons' (pv_cbB (pa_cons' (pv_var rfl) pa_nil') (pb_lenI (ItL.toS (hx1.les hc.le)))) pa_nil')) (hc.le _ _ hp) (hS10).1 (dr_small hS10) ?_
   intro r11 h0r11 h1r11
   replace h := h r11 h0r11 h1r11
   obtain ⟨hS12,h⟩ := h
   refine P2.wp ?_ (p2_ixG (d0 := (0:Int)) (ItL.toS (hx1.les hc.le)) hS12)
   exact hR _ h
  intro ys9 h
  refine w_nilX ?_
  refine PB.wp ?_ (pb_tupI il_l)
  rw [show (D.tup (List.map en ys9))=en ((Tup.mk ys9):(Tup Int)) from ue_t]
  exact hR _ h
 intro ys5 h
 refine u_rt hc ?_
 exact hQ _ h
end Lw
namespace Lw
open PySem PySem.Spec PyProof.Rows L2 Am
open PySem.W (Datum Tup T3 T4)
section
variable {A:AH} {ks:List Kd} {ls lk:List Lk} {ps l:List Pl} {E:Exv→Prop} {rs:List Rw} {r:Rw} {row:List Int}
theorem fv_lawprog (g:Sch ks ls) (hr:∀ r∈rs,RwG 6 (ls.map (·.a)) r) (hl:rs.length≤20) (e:dueGo ks ls 0 [] rs = .inr l):Fv m_law_program [enc_Schema (mkSch ks ls), .lst (rs.map en)] A (enc_Program (pg ks ls rs ⟨true,[]⟩)) := by
 refine fv_in (s := [some (enc_Schema (mkSch ks ls)),some (.lst (rs.map en)),none,none,none]) (fun Q E q=>?_) rfl rfl
 refine u_retE (w_makeDX (w_consX (Pv.wp ?_ (pv_var rfl))))
 refine w_consX ?_
 refine u_lcC (fun A'=>Cells A [] A') (e := en) (f := enc_Statement) (b := fun (x:Rw) (N:Option R_Statement→Prop)=>W_law_pattern x.b x.c (fun r=>N (some ⟨x.a,r⟩)) (fun _=>False)) (K := fun ys=>ys=rs.map stm) (s' := [some (enc_Schema (mkSch ks ls)),some (.lst (rs.map en)),none,none,none]) (mi_seq (pv_var rfl) (ItL.toS il_l)) rfl (szk (by omega))
  (lcW_all (fun x y=>y=stm x) (fun x hx N hN=>spec_pattern (n := 6) (by omega) (hr x hx) (hN _ rfl)) fun ys hys=>paired_stm hys) Cells.nil_ (fun _ hcP=>(fun n e=>nomatch e)) ?_ ?_
 ·intro x38 hx38 A41 hc N39 R R2 h hR hR2
  refine ⟨[(D.str x38.a),(en x38.b),(en x38.c)], .inl rfl,rfl,_,_,rfl,_,_,rfl,_,_,rfl,rfl, ?_⟩
  refine lc_yes ?_
  refine w_makeDX ?_
  refine w_consX ?_
  refine Pv.wp ?_ (pv_var rfl)
  refine w_consX ?_
  refine w_callW ?_ (pa_cons' (pv_var rfl) (pa_cons' (pv_var rfl) pa_nil'))
  refine c_law_pattern il_en il_en h ?_ ?_
  rotate_left
  ·intro x h
   exact h.elim
  intro r42 h
  refine w_nilX ?_
  refine c_Statement_init (Q0 := fun r=>N39 (some r)) (E0 := fun _=>False) h ?_ ?_
  rotate_left
  ·intro x h
   exact h.elim
  intro r43 A44 h hle
  replace hc := hc.les hle
  exact hR _ _ hc h
 intro ys40 A45 hc h
 subst h
 refine w_nilX ?_
 intro m hm
 exact c_Program_init_dflt il_l (Q0 := fun r=>r=pg ks ls rs ⟨true,[]⟩) (E0 := fun _=>False) (chk_inr g (by omega) hr e rfl) (fun r A' er hle=>by subst er; exact ⟨_,hc.le.trans hle,q⟩) (fun _ h=>h.elim) m hm
theorem spec_keys {Q:List Int→Prop} {E:Exv→Prop} (q:∀ xs,1≤xs.length→xs.length≤4→Q xs):W_law_keys Q E := by
 unfold W_law_keys
 intro r h0 h1
 refine ⟨⟨by omega,by omega⟩, ?_⟩
 refine forW_inv (fun pre (st:List Int)=>st.length=pre.length) rfl (fun pre x post st N e hst hN=>?_) fun st hst=>?_
 ·have h2:pre.length≤4 := by have := congrArg List.length e; rw [rng_len] at this; simp at this; omega
  intro w _ _
  refine joinW_by (fun _=>True) (fun v _=>⟨Sz.of (by omega),hN _ (by simp [hst])⟩) fun M hM=>?_
  split
  ·exact fun _ _ _=>hM _ trivial
  ·exact ⟨⟨by decide,by decide⟩,fun _ _ _=>hM _ trivial⟩
 ·rw [rng_len] at hst
  exact q st (by omega) (by omega)
theorem spec_few {Q:List Pl→Prop} (g:Sch ks ls) (q:∀ ps,PlG ps→ps.length≤2→(∀ p∈ps,p.b∈ks.map (·.a))→Q ps):W_law_few ks 2 4 Q E := by
 have k1 := g.k1
 have k4 := g.k4
 refine ⟨by decide,fun r h0 h1=>⟨by omega, ?_⟩⟩
 refine forW_inv (fun pre (st:List Pl)=>st.length≤pre.length∧(pre≠[]→st≠[])∧(∀ p∈st,oP p)∧(nmP st).Nodup∧∀ p∈st,p.b∈ks.map (·.a)) ⟨Nat.le_refl _,(fun h=>absurd rfl h),(fun _ h=>nomatch h), .nil,(fun _ h=>nomatch h)⟩ (fun pre x post st N e ⟨j1,j0,j2,j3,j4⟩ hN=>?_) (fun st ⟨j1,j0,j2,j3,j4⟩=>?_)
 ·obtain ⟨_,hl⟩ := rng_pre e
  refine ⟨by omega,fun i i0 i1=>⟨⟨i0,i1⟩,by decide,fun c c0 c1=>⟨Sz.of (by omega), ?_⟩⟩⟩
  split
  ·refine ⟨⟨Sz.of (by omega),by rw [List.length_map]; omega⟩,fun w ⟨w1,w2⟩=>⟨Sz.of (by omega),letW_in fun v hv=>hN v ?_⟩⟩
   subst hv
   refine ⟨by rw [List.length_append,List.length_append]; exact Nat.add_le_add_right j1 _,fun _=>by simp,fun p hp=>?_, ?_,fun p hp=>?_⟩
   ·rcases List.mem_append.mp hp with h | h
    ·exact j2 p h
    ·rw [List.mem_singleton.mp h]
     exact ⟨w1,g.kw _ (ixG_mem ⟨i0,i1⟩),c0,by show c≤3; omega⟩
   ·unfold nmP
    rw [List.map_append]
    exact nodup_snoc j3 w2
   ·rcases List.mem_append.mp hp with h | h
    ·exact j4 p h
    ·rw [List.mem_singleton.mp h]
     exact List.mem_map.mpr ⟨_,ixG_mem ⟨i0,i1⟩,rfl⟩
  ·rename_i hne
   refine hN st ⟨by rw [List.length_append]; omega,fun _ e0=>?_,j2,j3,j4⟩
   subst e0
   exact hne (eqB_iff.mpr rfl)
 ·have hne:rng (1 + r)≠[] := fun e=>by have := congrArg List.length e; rw [rng_len] at this; simp at this; omega
  rw [rng_len] at j1
  exact q st ⟨j0 hne,by omega,j2,j3⟩ (by omega) j4
theorem spec_rowsW {keys:List Int} {a m:Int} (hk:1≤keys.length∧keys.length≤4) (ha:a≤4) (h1:m≤20) {Q:List (Tup Int)→Prop} (q:∀ rows:List (Tup Int),rows.length=m.toNat→(∀ r∈rows,(r.items.length:Int)=if a > 1 then a else 1)→Q rows) (h0:0≤m):W_law_rows keys a m Q E := by
 refine letW_in fun v hv=>⟨⟨by omega,by rw [rng_len]; exact szk (by omega)⟩, ?_⟩
 have v1:1≤v∧v≤4 := by rw [hv]; split <;> omega
 refine lcW_all (fun _ y=>(y.items.length:Int)=v) (fun x hx N hN=>⟨⟨by omega,by rw [rng_len]; exact szk (by omega)⟩,lcW_all (fun _ _=>True) (fun x hx N hN=>⟨by omega,fun r r0 r1=>⟨⟨r0,r1⟩,hN _ trivial⟩⟩) fun ys hys=>hN _ ?_⟩) fun ys hys=>?_
 ·have := (paired_map (P := fun _=>True) hys).1
  rw [rng_len] at this
  show (ys.length:Int)=v
  omega
 ·have := paired_map (P := fun y:Tup Int=>(y.items.length:Int)=v) hys
  rw [rng_len] at this
  exact q ys this.1 fun r hr=>by rw [this.2 r hr,hv]
theorem rg_take (h:RG lk ps r) (n:Nat):RG lk ps ⟨r.a,r.b,r.c.take n⟩ := by
 refine ⟨fun nl=>?_,h.sub,fun t ht=>h.lk t (List.mem_of_mem_take ht), ?_,h.hw⟩
 ·have G := h.g nl
  exact ⟨G.ne,G.pl,G.ok,G.nd,(Nat.le_trans (by rw [List.length_take]; exact Nat.min_le_right ..) G.tl:(r.c.take n).length≤6),fun t ht=>G.tw t (List.mem_of_mem_take ht),G.tn.sublist ((List.take_sublist n r.c).filter _)⟩
 ·exact h.nn.sublist ((List.take_sublist n r.c).map _)
theorem wid_is (hr:∀ r∈rs,RG ls ps r) {w:KTs} (du:dueGo ks ls 0 [] rs = .inr l):widthF (pg ks ls rs w)=(l.map fun x=>x.c + (1:Int)).foldl max 0 := by
 have e:placedF (pg ks ls rs w)=l := (due_placed (fun r hr2=>((hr r hr2).g []).nd) du).symm
 unfold widthF
 rw [e]
 rfl
end
end Lw
namespace Lw
open PySem PySem.Spec PyProof.Rows L2 Am
open PySem.W (Datum Tup T3 T4)
section
variable {ι:Type} {A A':AH} {s s':Sl} {ma mb m:ME} {x y d:D} {Q:QE} {E:QX} {D0:AEnds} {pls:List PlT} {g:Gr} {n:Nat} {c:Int}
abbrev plD (pls:List PlT):D := .tup (pls.map en)
abbrev tupI (row:List Int):D := .tup (row.map en)
theorem kIi:∀ a b:Int,kI a=kI b→a=b := fun _ _ h=>kI_inj h
theorem for_xs {xs:List ι} {e:ι→D} {ck:AH→Prop} {tg:MG} {tb:MS} (J:Nat→Sl→AH→Prop) (h0:J 0 s A) (hck:∀ i s A,J i s A→ck A)
  (step:∀ i x s A (N:Sl→AH→Prop),xs[i]? = some x→J i s A→(∀ s' A',J (i + 1) s' A'→N s' A')→tg (e x) s A fun s1 A1=>tb { D0 with nx := N,ct := N,bk := D0.nx } s1 A1)
  (fin:∀ s A,J xs.length s A→D0.nx s A):forL ck tg tb (xs.map e) D0 s A := by
 refine for_inv (xs.map e) J h0 hck (fun i d s A N hd hJ hN=>?_) (fun s A h=>fin s A (by rw [List.length_map] at h; exact h))
 rw [List.getElem?_map] at hd
 cases hx:xs[i]? with
 | none=>rw [hx] at hd; cases hd
 | some x =>
  rw [hx] at hd
  cases hd
  exact step i x s A N hx hJ hN
theorem pv_gv (h1:Pv ma s A x) (h2:Pv mb s A (.int c)) (hd:DcK A x kI en g) (hk:inG c g=true):Pv (mDGet ma mb) s A (.int (gV g c)) := pv_getK (d0 := (0:Int)) kIi h1 h2 hd rfl hk
theorem unlock_eq {m n:Nat} {X Y Z:Nd} (hA:A m=some Z) (hn:put A m X n=none):put (put (put A m X) n Y) m Z=put A n Y∧A n=none∧(put (put A m X) n Y) m=some X := by
 have hne:n≠m := by
  intro e
  rw [e,put_same] at hn
  cases hn
 refine ⟨?_,by rw [put_ne hne] at hn; exact hn,by rw [put_ne (Ne.symm hne)]; exact put_same⟩
 funext k
 unfold put
 by_cases h1:k=m
 ·rw [if_pos h1,if_neg (by rw [h1]; exact Ne.symm hne),h1,hA]
 ·rw [if_neg h1,if_neg h1]
theorem gone {n:Nat} (h:A' n=none) (l:Les A A'):A n=none := by
 cases e:A n with
 | none=>rfl
 | some x=>rw [l _ _ e] at h; cases h
theorem t_dputP {mo mi mv:ME} {v:D} {y z:D} (hv:Pv mv s A v) (ho:Pv mo s A y) (hi:Pv mi s A z) (h:dput A y z v fun A4=>D0.nx s A4):mDPut mo mi mv D0 s A := u_dputS (Pv.wp (Pv.wp (Pv.wp h hi) ho) hv)
theorem take_sn {l:List ι} {i:Nat} {x:ι} (h:l[i]? = some x):l.take (i + 1)=l.take i ++ [x] := by
 rw [List.take_add_one,h]; rfl
theorem w_cg (hz:pls.length≤2) (q:∀ n A2,Les A A2→A2 n=some (.dK ((gF pls).map (eD kI en)))→Q (.ref n) A2):m_column_groups [plD pls] A Q E := by
 refine fn_in (s := [some (plD pls),none,none,none,none,none,none,none,none,none,none]) ?_ rfl rfl
 refine s_sq (u_setE (w_dcM' (xs := pls) (e := en) (fk := kI) (e' := en) (g := fun p=>p.c) (v := fun p=>p.c) (p := fun _=>true) (s' := [some (plD pls),none,none,none,none,none,none,none,none,none,none]) kIi (mi_seq (pv_var rfl) it_t) rfl (szk (by omega)) (fun p hp=>dcb (s1 := [some (plD pls),none,some (.str p.a),some (.str p.b),some (.int p.c),none,none,none,none,none,none]) (fun _ _ h=>⟨[.str p.a, .str p.b, .int p.c], .inl rfl,rfl,_,_,rfl,_,_,rfl,_,_,rfl,rfl,h⟩) pt_yes (fun _=>pv_var rfl) rfl (fun _=>pv_var rfl)) fun n hn=>?_))
 have hle0:Les A (put A n (.dK ((gI pls).map (eD kI en)))) := Les.refl.put' hn
 have hg0:(put A n (.dK ((gI pls).map (eD kI en)))) n=some (.dK ((gI pls).map (eD kI en))) := put_same
 show (sqE _ _).nx _ (put A n (.dK ((gI pls).map (eD kI en))))
 generalize put A n (.dK ((gI pls).map (eD kI en)))=A1 at hle0 hg0 ⊢
 refine at_n (s' := [some (plD pls),some (.ref n),none,none,none,none,none,none,none,none,none]) rfl (nx_sq (s_sq ?_))
 refine u_for (xs := pls) (e := en) (mi_seq (pv_var rfl) it_t) (Wb := True) fun ck hck hP=>?_
 refine for_xs (xs := pls) (fun i s A'=>∃ (m:Nat) (g:Gr) (j2 j3 j4 j5 j6 j7 j8 j9 j10:Option D),s=[some (plD pls),some (.ref m),j2,j3,j4,j5,j6,j7,j8,j9,j10]∧Les A A'∧A' m=some (.dK (g.map (eD kI en)))∧g=(pls.take i).foldl (fun g p=>pls.foldl (fun g q=>gS g p q) g) (gI pls)∧GrOk pls g) ⟨n,gI pls,_,_,_,_,_,_,_,_,_,rfl,hle0,hg0,rfl,gI_ok⟩ (fun _ _ A' _=>hP A' fun m e=>nomatch e) ?_ ?_
 ·rintro i p s A2 N hp ⟨m,g,j2,j3,j4,j5,j6,j7,j8,j9,j10,rfl,hle,hg,eg,ok⟩ hN
  have hpm:p∈pls := List.mem_of_getElem? hp
  refine ⟨[.str p.a, .str p.b, .int p.c], .inl rfl,rfl,_,_,rfl,_,_,rfl,_,_,rfl,rfl, ?_⟩
  refine at_s (s' := [some (plD pls),some (.ref m),some (.str p.a),some (.str p.b),some (.int p.c),j5,j6,j7,j8,j9,j10]) rfl ?_
  refine u_for (xs := pls) (e := en) (mi_seq (pv_var rfl) it_t) (Wb := True) fun ck2 hck2 hP2=>?_
  refine for_xs (xs := pls) (fun k s A'=>∃ (m:Nat) (h:Gr) (j5 j6 j7 j8 j9 j10:Option D),s=[some (plD pls),some (.ref m),some (.str p.a),some (.str p.b),some (.int p.c),j5,j6,j7,j8,j9,j10]∧Les A A'∧A' m=some (.dK (h.map (eD kI en)))∧h=(pls.take k).foldl (fun g q=>gS g p q) g∧GrOk pls h) ⟨m,g,_,_,_,_,_,_,rfl,hle,hg,rfl,ok⟩ (fun _ _ A' _=>hP2 A' fun m e=>nomatch e) ?_ ?_
  ·clear hle hg
   rintro k r s A3 N3 hr ⟨m,h,j5,j6,j7,j8,j9,j10,rfl,hle,hg,eh,okh⟩ hN3
   have hrm:r∈pls := List.mem_of_getElem? hr
   have est:(pls.take (k + 1)).foldl (fun g q=>gS g p q) g=gS h p r := by rw [take_sn hr,List.foldl_append,← eh]; rfl
   refine ⟨[.str r.a, .str r.b, .int r.c], .inl rfl,rfl,_,_,rfl,_,_,rfl,_,_,rfl,rfl, ?_⟩
   refine at_s (s' := [some (plD pls),some (.ref m),some (.str p.a),some (.str p.b),some (.int p.c),some (.str r.a),some (.str r.b),some (.int r.c),j8,j9,j10]) rfl ?_
   have hd:DcK A3 (.ref m) kI en h := dk_n hg
   refine u_if (W1 := True) (W2 := True) (pt_and (pt_b (pv_op2 (pv_var rfl) (pv_var rfl) (q2_eq (a := p.b) (b := r.b) (ue_r rfl) (ue_r rfl) (by decide)))) fun _=>pt_b (pv_op2 (pv_gv (pv_var rfl) (pv_var rfl) hd (okh.k p hpm)) (pv_gv (pv_var rfl) (pv_var rfl) hd (okh.k r hrm)) (q2_ne (a := gV h p.c) (b := gV h r.c) (ue_r rfl) (ue_r rfl) (by decide)))) (by split <;> trivial) (fun hb _=>?_) (fun hb _=>?_)
   ·refine s_sq (u_setGE (Pv.wp ?_ (pv_tup (pa_2 (pv_gv (pv_var rfl) (pv_var rfl) hd (okh.k p hpm)) (pv_gv (pv_var rfl) (pv_var rfl) hd (okh.k r hrm))))))
    refine ⟨[.int (gV h p.c), .int (gV h r.c)], .inl rfl,rfl,_,_,rfl,_,_,rfl,rfl, ?_⟩
    refine at_n (s' := [some (plD pls),some (.ref m),some (.str p.a),some (.str p.b),some (.int p.c),some (.str r.a),some (.str r.b),some (.int r.c),some (.int (gV h p.c)),some (.int (gV h r.c)),j10]) rfl (nx_sq ?_)
    refine u_setE ⟨m, .inl ⟨_,hg,fun o us=>?_⟩⟩
    refine w_dcM' (xs := gK h) (e := en) (fk := kI) (e' := en) (g := fun c=>c) (v := fun c=>if eqB (gV h c) (gV h p.c)=true then gV h r.c else gV h c) (p := fun _=>true) (s' := [some (plD pls),some (.ref m),some (.str p.a),some (.str p.b),some (.int p.c),some (.str r.a),some (.str r.b),some (.int r.c),some (.int (gV h p.c)),some (.int (gV h r.c)),none]) kIi (mi_keysK (l := h) (fk := kI) (e := en) (ek := en) (pv_var rfl) put_same fun z=>rfl) rfl (szk (by unfold gK; rw [List.length_map]; have := okh.z; omega)) (fun c hc=>?_) fun n2 hn2=>?_
    ·have hd2:DcK (put A3 m (.lkK o us (h.map (eD kI en)))) (.ref m) kI en h := dk_lk put_same
     have hin:inG c h=true := inG_iff.mpr hc
     refine dcb (s1 := [some (plD pls),some (.ref m),some (.str p.a),some (.str p.b),some (.int p.c),some (.str r.a),some (.str r.b),some (.int r.c),some (.int (gV h p.c)),some (.int (gV h r.c)),some (.int c)]) (tg_n rfl) pt_yes (fun _=>pv_var rfl) rfl (fun _=>pv_if (pt_b (pv_op2 (pv_gv (pv_var rfl) (pv_var rfl) hd2 hin) (pv_var rfl) (q2_eq (a := gV h c) (b := gV h p.c) (ue_r rfl) (ue_r rfl) (by decide)))) (fun e=>(pv_var rfl).is ?_) (fun e=>(pv_gv (pv_var rfl) (pv_var rfl) hd2 hin).is ?_))
     ·show D.int _=D.int (if _ then _ else _)
      rw [if_pos e]
     ·show D.int _=D.int (if _ then _ else _)
      rw [if_neg (by rw [e]; decide)]
    ·obtain ⟨e1,e2,e3⟩ := unlock_eq (Y := .dK ((dcA (fun c=>c) (fun c=>if eqB (gV h c) (gV h p.c)=true then gV h r.c else gV h c) (fun _=>true) (gK h)).map (eD kI en))) hg hn2
     refine ⟨e3, ?_⟩
     rw [e1]
     have eg2:gS h p r=dcA (fun c=>c) (fun c=>if eqB (gV h c) (gV h p.c)=true then gV h r.c else gV h c) (fun _=>true) (gK h) := by unfold gS; rw [if_pos hb]
     rw [← eg2]
     exact hN3 _ _ ⟨n2,gS h p r,_,_,_,_,_,_,rfl,hle.put' (gone e2 hle),put_same,est.symm,gS_ok okh⟩
   ·have eg2:gS h p r=h := by unfold gS; rw [if_neg (by rw [hb]; decide)]
    rw [eg2] at est
    exact t_next (hN3 _ _ ⟨m,h,_,_,_,_,_,_,rfl,hle,hg,est.symm,okh⟩)
  ·rintro s A3 ⟨m,h,j5,j6,j7,j8,j9,j10,rfl,hle,hg,eh,okh⟩
   rw [List.take_length] at eh
   refine hN _ _ ⟨m,h,_,_,_,_,_,_,_,_,_,rfl,hle,hg, ?_,okh⟩
   rw [take_sn hp,List.foldl_append,← eg,eh]
   rfl
 ·rintro s A2 ⟨m,g,j2,j3,j4,j5,j6,j7,j8,j9,j10,rfl,hle,hg,eg,ok⟩
  rw [List.take_length] at eg
  refine nx_sq (u_ret (pv_var rfl) ⟨A2,Les.refl, ?_⟩)
  rw [eg] at hg
  exact q m A2 hle hg
end
end Lw
namespace Lw
open PySem PySem.Spec PyProof.Rows L2 Am
open PySem.W (Datum Tup T3 T4)
section
variable {ι:Type} {A A':AH} {s s':Sl} {ma mb m:ME} {x y d:D} {Q:QE} {E:QX} {D0:AEnds} {pls:List PlT} {g:Gr} {n:Nat} {c:Int} {r1 r2:List Int}
theorem put_se {A:AH} {n:Nat} {y:Nd} (h:A n=some y):put A n y=A := by
 funext k
 unfold put
 split
 ·rename_i e; rw [e,h]
 ·rfl
theorem any_done {p:ι→Bool} {xs:List ι} (h:∀ x∈xs,p x=false):xs.any p=false := by
 rw [Bool.eq_false_iff]
 intro e
 obtain ⟨x,hx,hp⟩ := List.any_eq_true.mp e
 rw [h x hx] at hp
 cases hp
theorem take_no {p:ι→Bool} {xs:List ι} {i:Nat} {x:ι} (hx:xs[i]? = some x) (h:∀ y∈xs.take i,p y=false) (hp:p x=false):∀ y∈xs.take (i + 1),p y=false := by
 rw [take_sn hx]
 intro y hy
 rcases List.mem_append.mp hy with h1 | h1
 ·exact h y h1
 ·rw [List.mem_singleton.mp h1]; exact hp
def hitF (g:Gr) (r1 r2:List Int) (c:Int):Bool := inB (ixG 0 r2 c) (((gK g).filter fun o=>eqB (gV g o) (gV g c)).map fun o=>ixG 0 r1 o)
def hitL (g:Gr) (r1 r2:List Int) (c o:Int):Bool := eqB (gV g c) (gV g o) && eqB (ixG 0 r1 o) (ixG 0 r2 c)
theorem gK_len:(gK g).length=g.length := by unfold gK; rw [List.length_map]
theorem fv_meet (hg:A n=some (.dK (g.map (eD kI en)))) (h1:∀ c∈gK g,0≤c∧c < (r1.length:Int)) (h2:∀ c∈gK g,0≤c∧c < (r2.length:Int)) (hz:g.length≤2):Fv m_meet [.ref n,tupI r1,tupI r2] A (.bl (mtF g r1 r2)) := by
 refine fv_in (s := [some (.ref n),some (tupI r1),some (tupI r2),none,none]) (fun Q E q=>?_) rfl rfl
 refine s_sq (u_lockK hg fun o us=>?_)
 have hl:(put A n (.lkK o us (g.map (eD kI en)))) n=some (.lkK o us (g.map (eD kI en))) := put_same
 have back:put (put A n (.lkK o us (g.map (eD kI en)))) n (.dK (g.map (eD kI en)))=A := by rw [put_put,put_se hg]
 generalize put A n (.lkK o us (g.map (eD kI en)))=A1 at hl back ⊢
 have hd:DcK A1 (.ref n) kI en g := dk_lk hl
 refine u_for (xs := gK g) (e := en) (mi_keysK (l := g) (fk := kI) (e := en) (ek := en) (pv_var rfl) hl fun z=>rfl) (Wb := True) fun ck hck hP=>?_
 refine for_xs (xs := gK g) (fun i s A'=>∃ (j3:Option D),s=[some (.ref n),some (tupI r1),some (tupI r2),j3,none]∧A' = A1∧∀ c∈(gK g).take i,hitF g r1 r2 c=false) ⟨_,rfl,rfl,fun _ h=>nomatch h⟩ (fun _ _ A' ⟨_,_,e,_⟩=>by rw [e]; exact hck) ?_ ?_
 ·rintro i c s A2 N hc ⟨j3,rfl,rfl,hno⟩ hN
  have hcm:c∈gK g := List.mem_of_getElem? hc
  refine u_gN (s' := [some (.ref n),some (tupI r1),some (tupI r2),some (.int c),none]) rfl ?_
  refine u_if (b := hitF g r1 r2 c) (W1 := True) (W2 := True) (pt_b (pv_op2 (pv_op2 (pv_var rfl) (pv_var rfl) (p2_ixG (d0 := (0:Int)) (e := en) (xs := r2) it_t (h2 c hcm))) (v_lcFM (xs := gK g) (e := en) (p := fun o=>eqB (gV g o) (gV g c)) (g := fun o=>ixG 0 r1 o) (e' := en) (s' := [some (.ref n),some (tupI r1),some (tupI r2),some (.int c),none]) (mi_keysK (l := g) (fk := kI) (e := en) (ek := en) (pv_var rfl) hl fun z=>rfl) rfl (szk (by rw [gK_len]; omega)) (fun o ho=>lcb (s' := [some (.ref n),some (tupI r1),some (tupI r2),some (.int c),some (.int o)]) (tg_n rfl) (pt_b (pv_op2 (pv_gv (pv_var rfl) (pv_var rfl) hd (inG_iff.mpr ho)) (pv_gv (pv_var rfl) (pv_var rfl) hd (inG_iff.mpr hcm)) (q2_eq (a := gV g o) (b := gV g c) (ue_r rfl) (ue_r rfl) (by decide)))) fun _=>pv_op2 (pv_var rfl) (pv_var rfl) (p2_ixG (d0 := (0:Int)) (e := en) (xs := r1) it_t (h1 o ho)))) (q2_in (a := ixG 0 r2 c) (xs := ((gK g).filter fun o=>eqB (gV g o) (gV g c)).map fun o=>ixG 0 r1 o) (ue_r rfl) (ItS.sq it_l) (by decide)))) (by split <;> trivial) (fun hb _=>?_) (fun hb _=>?_)
  ·have e:mtF g r1 r2=true := List.any_eq_true.mpr ⟨c,hcm,hb⟩
   rw [e] at q
   refine u_ret pv_c ⟨hl, ?_⟩
   rw [back]
   exact ⟨A,Les.refl,q⟩
  ·exact t_next (hN _ _ ⟨_,rfl,rfl,take_no hc hno hb⟩)
 ·rintro s A2 ⟨j3,rfl,rfl,hno⟩
  rw [List.take_length] at hno
  refine nx_lk hl ?_
  rw [back]
  have e:mtF g r1 r2=false := any_done hno
  rw [e] at q
  exact nx_sq (u_ret pv_c ⟨A,Les.refl,q⟩)
theorem fv_lmeets (hg:A n=some (.dK (g.map (eD kI en)))) (h1:∀ c∈gK g,0≤c∧c < (r1.length:Int)) (h2:∀ c∈gK g,0≤c∧c < (r2.length:Int)):Fv m_law_meets [.ref n,tupI r1,tupI r2] A (.bl (lmF g r1 r2)) := by
 refine fv_in (s := [some (.ref n),some (tupI r1),some (tupI r2),none,none]) (fun Q E q=>?_) rfl rfl
 refine s_sq (u_lockK hg fun o us=>?_)
 have hl:(put A n (.lkK o us (g.map (eD kI en)))) n=some (.lkK o us (g.map (eD kI en))) := put_same
 have back:put (put A n (.lkK o us (g.map (eD kI en)))) n (.dK (g.map (eD kI en)))=A := by rw [put_put,put_se hg]
 generalize put A n (.lkK o us (g.map (eD kI en)))=A1 at hl back ⊢
 have hd:DcK A1 (.ref n) kI en g := dk_lk hl
 refine u_for (xs := gK g) (e := en) (mi_keysK (l := g) (fk := kI) (e := en) (ek := en) (pv_var rfl) hl fun z=>rfl) (Wb := True) fun ck hck hP=>?_
 refine for_xs (xs := gK g) (fun i s A'=>∃ (j3 j4:Option D),s=[some (.ref n),some (tupI r1),some (tupI r2),j3,j4]∧A' = A1∧∀ c∈(gK g).take i,((gK g).any fun o=>hitL g r1 r2 c o)=false) ⟨_,_,rfl,rfl,fun _ h=>nomatch h⟩ (fun _ _ A' ⟨_,_,_,e,_⟩=>by rw [e]; exact hck) ?_ ?_
 ·rintro i c s A2 N hc ⟨j3,j4,rfl,rfl,hno⟩ hN
  have hcm:c∈gK g := List.mem_of_getElem? hc
  refine u_gN (s' := [some (.ref n),some (tupI r1),some (tupI r2),some (.int c),j4]) rfl ?_
  refine u_for (xs := gK g) (e := en) (mi_keysK (l := g) (fk := kI) (e := en) (ek := en) (pv_var rfl) hl fun z=>rfl) (Wb := True) fun ck2 hck2 hP2=>?_
  refine for_xs (xs := gK g) (fun k s A'=>∃ (j4:Option D),s=[some (.ref n),some (tupI r1),some (tupI r2),some (.int c),j4]∧A' = A2∧∀ o∈(gK g).take k,hitL g r1 r2 c o=false) ⟨_,rfl,rfl,fun _ h=>nomatch h⟩ (fun _ _ A' ⟨_,_,e,_⟩=>by rw [e]; exact hck2) ?_ ?_
  ·rintro k o2 s A3 N3 ho ⟨j4,rfl,rfl,hno2⟩ hN3
   have hom:o2∈gK g := List.mem_of_getElem? ho
   refine u_gN (s' := [some (.ref n),some (tupI r1),some (tupI r2),some (.int c),some (.int o2)]) rfl ?_
   refine u_if (b := hitL g r1 r2 c o2) (W1 := True) (W2 := True) (pt_and (pt_b (pv_op2 (pv_gv (pv_var rfl) (pv_var rfl) hd (inG_iff.mpr hcm)) (pv_gv (pv_var rfl) (pv_var rfl) hd (inG_iff.mpr hom)) (q2_eq (a := gV g c) (b := gV g o2) (ue_r rfl) (ue_r rfl) (by decide)))) fun _=>pt_b (pv_op2 (pv_op2 (pv_var rfl) (pv_var rfl) (p2_ixG (d0 := (0:Int)) (e := en) (xs := r1) it_t (h1 o2 hom))) (pv_op2 (pv_var rfl) (pv_var rfl) (p2_ixG (d0 := (0:Int)) (e := en) (xs := r2) it_t (h2 c hcm))) (q2_eq (a := ixG 0 r1 o2) (b := ixG 0 r2 c) (ue_r rfl) (ue_r rfl) (by decide)))) (by split <;> trivial) (fun hb _=>?_) (fun hb _=>?_)
   ·have e:lmF g r1 r2=true := List.any_eq_true.mpr ⟨c,hcm,List.any_eq_true.mpr ⟨o2,hom,hb⟩⟩
    rw [e] at q
    refine u_ret pv_c ⟨hl, ?_⟩
    rw [back]
    exact ⟨A,Les.refl,q⟩
   ·exact t_next (hN3 _ _ ⟨_,rfl,rfl,take_no ho hno2 hb⟩)
  ·rintro s A3 ⟨j4,rfl,rfl,hno2⟩
   rw [List.take_length] at hno2
   exact hN _ _ ⟨_,_,rfl,rfl,take_no (p := fun c=>(gK g).any fun o=>hitL g r1 r2 c o) hc hno (any_done hno2)⟩
 ·rintro s A2 ⟨j3,j4,rfl,rfl,hno⟩
  rw [List.take_length] at hno
  refine nx_lk hl ?_
  rw [back]
  have e:lmF g r1 r2=false := any_done hno
  rw [e] at q
  exact nx_sq (u_ret pv_c ⟨A,Les.refl,q⟩)
theorem min_is {i j:Int}:(if j < i then j else i)=min i j := by split <;> omega
theorem w_lg (hz:pls.length≤2) (q:∀ n A2,Cells A [[(n, .dK ((lF pls).map (eD kI en)))]] A2→Q (.ref n) A2):m_law_groups [plD pls] A Q E := by
 refine fn_in (s := [some (plD pls),none,none,none,none,none,none,none,none,none]) ?_ rfl rfl
 refine s_sq (u_setE (w_dnK fun n hn=>?_))
 have hc0:Cells A [[(n, .dK (([]:Gr).map (eD kI en)))]] (put A n (.dK (([]:Gr).map (eD kI en)))) := Cells.nil_.new _ hn
 show (sqE _ _).nx _ (put A n (.dK (([]:Gr).map (eD kI en))))
 generalize put A n (.dK (([]:Gr).map (eD kI en)))=A1 at hc0 ⊢
 refine at_n (s' := [some (plD pls),some (.ref n),none,none,none,none,none,none,none,none]) rfl (nx_sq (s_sq ?_))
 refine u_for (xs := pls) (e := en) (mi_seq (pv_var rfl) it_t) (Wb := True) fun ck hck hP=>?_
 refine for_xs (xs := pls) (fun i s A'=>∃ (g:Gr) (j2 j3 j4:Option D),s=[some (plD pls),some (.ref n),j2,j3,j4,none,none,none,none,none]∧Cells A [[(n, .dK (g.map (eD kI en)))]] A'∧g=(pls.take i).foldl (fun g p=>putA g p.c p.c) []∧g.length≤i) ⟨[],_,_,_,rfl,hc0,rfl,Nat.le_refl _⟩ (fun _ _ A' _=>hP A' fun m e=>nomatch e) ?_ ?_
 ·rintro i p s A2 N hp ⟨g,j2,j3,j4,rfl,hc,eg,hl⟩ hN
  have hi := (List.getElem?_eq_some_iff.mp hp).1
  refine ⟨[.str p.a, .str p.b, .int p.c], .inl rfl,rfl,_,_,rfl,_,_,rfl,_,_,rfl,rfl, ?_⟩
  refine at_s (s' := [some (plD pls),some (.ref n),some (.str p.a),some (.str p.b),some (.int p.c),none,none,none,none,none]) rfl ?_
  refine t_dputP (pv_var rfl) (pv_var rfl) (pv_var rfl) (u_dputK (l := g) (k := p.c) (v := p.c) (e := en) kIi (hc.at 0 rfl) rfl (sz (by omega)) ?_)
  refine hN _ _ ⟨putA g p.c p.c,_,_,_,rfl,hc.put 0 rfl _, ?_,Nat.le_trans putA_len1 (by omega)⟩
  rw [take_sn hp,List.foldl_append,← eg]
  rfl
 ·rintro s A2 ⟨g,j2,j3,j4,rfl,hc,eg,hl⟩
  rw [List.take_length] at eg
  replace eg:g=lI pls := eg
  subst eg
  refine nx_sq (s_sq ?_)
  refine u_for (xs := rng 4) (e := en) (mi_rng pv_c (by decide)) (Wb := True) fun ck2 hck2 hP2=>?_
  refine for_xs (xs := rng 4) (fun i s A'=>∃ (g:Gr) (j2 j3 j4 j5 j6 j7 j8 j9:Option D),s=[some (plD pls),some (.ref n),j2,j3,j4,j5,j6,j7,j8,j9]∧Cells A [[(n, .dK (g.map (eD kI en)))]] A'∧g=((rng 4).take i).foldl (fun g _=>lR pls g) (lI pls)∧GrOk pls g) ⟨_,_,_,_,_,_,_,_,_,rfl,hc,rfl,lI_ok⟩ (fun _ _ A' _=>hP2 A' True.intro) ?_ ?_
  ·clear hc hl
   rintro i t s A3 N ht ⟨g,j2,j3,j4,j5,j6,j7,j8,j9,rfl,hc,eg,ok⟩ hN
   refine u_gN (s' := [some (plD pls),some (.ref n),j2,j3,j4,some (.int t),j6,j7,j8,j9]) rfl ?_
   refine u_for (xs := pls) (e := en) (mi_seq (pv_var rfl) it_t) (Wb := True) fun ck3 hck3 hP3=>?_
   refine for_xs (xs := pls) (fun k s A'=>∃ (h:Gr) (j2 j3 j4 j6 j7 j8 j9:Option D),s=[some (plD pls),some (.ref n),j2,j3,j4,some (.int t),j6,j7,j8,j9]∧Cells A [[(n, .dK (h.map (eD kI en)))]] A'∧h=(pls.take k).foldl (fun g p=>pls.foldl (fun g q=>lS g p q) g) g∧GrOk pls h) ⟨_,_,_,_,_,_,_,_,rfl,hc,rfl,ok⟩ (fun _ _ A' _=>hP3 A' fun m e=>nomatch e) ?_ ?_
   ·clear hc
    rintro k p s A4 N4 hp ⟨h,j2,j3,j4,j6,j7,j8,j9,rfl,hc,eh,okh⟩ hN4
    have hpm:p∈pls := List.mem_of_getElem? hp
    refine ⟨[.str p.a, .str p.b, .int p.c], .inl rfl,rfl,_,_,rfl,_,_,rfl,_,_,rfl,rfl, ?_⟩
    refine at_s (s' := [some (plD pls),some (.ref n),some (.str p.a),some (.str p.b),some (.int p.c),some (.int t),j6,j7,j8,j9]) rfl ?_
    refine u_for (xs := pls) (e := en) (mi_seq (pv_var rfl) it_t) (Wb := True) fun ck4 hck4 hP4=>?_
    refine for_xs (xs := pls) (fun k s A'=>∃ (f:Gr) (j6 j7 j8 j9:Option D),s=[some (plD pls),some (.ref n),some (.str p.a),some (.str p.b),some (.int p.c),some (.int t),j6,j7,j8,j9]∧Cells A [[(n, .dK (f.map (eD kI en)))]] A'∧f=(pls.take k).foldl (fun g q=>lS g p q) h∧GrOk pls f) ⟨_,_,_,_,_,rfl,hc,rfl,okh⟩ (fun _ _ A' _=>hP4 A' fun m e=>nomatch e) ?_ ?_
    ·clear hc
     rintro k5 r s A5 N5 hr ⟨f,j6,j7,j8,j9,rfl,hc,ef,okf⟩ hN5
     have hrm:r∈pls := List.mem_of_getElem? hr
     have est:(pls.take (k5 + 1)).foldl (fun g q=>lS g p q) h=lS f p r := by rw [take_sn hr,List.foldl_append,← ef]; rfl
     have hd:DcK A5 (.ref n) kI en f := dk_n (hc.at 0 rfl)
     have fz := okf.z
     refine ⟨[.str r.a, .str r.b, .int r.c], .inl rfl,rfl,_,_,rfl,_,_,rfl,_,_,rfl,rfl, ?_⟩
     refine at_s (s' := [some (plD pls),some (.ref n),some (.str p.a),some (.str p.b),some (.int p.c),some (.int t),some (.str r.a),some (.str r.b),some (.int r.c),j9]) rfl ?_
     refine u_if (W1 := True) (W2 := True) (pt_b (pv_op2 (pv_var rfl) (pv_var rfl) (q2_eq (a := p.b) (b := r.b) (ue_r rfl) (ue_r rfl) (by decide)))) (by split <;> trivial) (fun hb _=>?_) (fun hb _=>?_)
     ·have e2:lS f p r=putA (putA f p.c (min (gV f p.c) (gV f r.c))) r.c (min (gV f p.c) (gV f r.c)) := by unfold lS; rw [if_pos hb]
      refine s_sq (u_set (s' := [some (plD pls),some (.ref n),some (.str p.a),some (.str p.b),some (.int p.c),some (.int t),some (.str r.a),some (.str r.b),some (.int r.c),some (.int (min (gV f p.c) (gV f r.c)))]) ((pv_cbB (pa_2 (pv_gv (pv_var rfl) (pv_var rfl) hd (okf.k p hpm)) (pv_gv (pv_var rfl) (pv_var rfl) hd (okf.k r hrm))) (fun Q q=>pb_min2 q)).is (by rw [min_is])) rfl (nx_sq (s_sq ?_)))
      refine t_dputP (pv_var rfl) (pv_var rfl) (pv_var rfl) (u_dputK (l := f) (k := p.c) (v := min (gV f p.c) (gV f r.c)) (e := en) kIi (hc.at 0 rfl) rfl (sz (by omega)) (nx_sq ?_))
      have hc2 := hc.put 0 rfl (.dK ((putA f p.c (min (gV f p.c) (gV f r.c))).map (eD kI en)))
      have pl1 := putA_len1 (g := f) (k := p.c) (v := min (gV f p.c) (gV f r.c))
      refine t_dputP (pv_var rfl) (pv_var rfl) (pv_var rfl) (u_dputK (l := putA f p.c (min (gV f p.c) (gV f r.c))) (k := r.c) (v := min (gV f p.c) (gV f r.c)) (e := en) kIi (hc2.at 0 rfl) rfl (sz (by omega)) ?_)
      have hc3 := hc2.put 0 rfl (.dK ((putA (putA f p.c (min (gV f p.c) (gV f r.c))) r.c (min (gV f p.c) (gV f r.c))).map (eD kI en)))
      rw [e2] at est
      exact hN5 _ _ ⟨_,_,_,_,_,rfl,hc3,est.symm,e2 ▸ lS_ok hpm hrm okf⟩
     ·have e2:lS f p r=f := by unfold lS; rw [if_neg (by rw [hb]; decide)]
      rw [e2] at est
      exact t_next (hN5 _ _ ⟨f,_,_,_,_,rfl,hc,est.symm,okf⟩)
    ·rintro s A5 ⟨f,j6,j7,j8,j9,rfl,hc,ef,okf⟩
     rw [List.take_length] at ef
     refine hN4 _ _ ⟨f,_,_,_,_,_,_,_,rfl,hc, ?_,okf⟩
     rw [take_sn hp,List.foldl_append,← eh,ef]
     rfl
   ·rintro s A4 ⟨h,j2,j3,j4,j6,j7,j8,j9,rfl,hc,eh,okh⟩
    rw [List.take_length] at eh
    refine hN _ _ ⟨h,_,_,_,_,_,_,_,_,rfl,hc, ?_,okh⟩
    rw [take_sn ht,List.foldl_append,← eg,eh]
    rfl
  ·rintro s A3 ⟨g,j2,j3,j4,j5,j6,j7,j8,j9,rfl,hc,eg,ok⟩
   rw [List.take_length] at eg
   subst eg
   exact nx_sq (u_ret (pv_var rfl) ⟨A3,Les.refl,q n A3 hc⟩)
end
end Lw
namespace Lw
open PySem PySem.Spec PyProof.Rows L2 Am
open PySem.W (Datum Tup T3 T4)
section
variable {A A' B:AH} {sg sg':List (List (Nat × Nd))} {cs:List (Nat × Nd)} {c m:Nat} {X:Nd}
theorem cells_perm (h:Cells B sg A) (p:sg.flatten.Perm sg'.flatten):Cells B sg' A := Cells0.perm h p
theorem setAt_perm {α:Type} {x:α}:∀ {cs:List α} {i:Nat},cs[i]? = some x→∃ rest,cs.Perm (x :: rest)∧∀ y,(y :: rest).Perm (cs.set i y)
 | [],_,h=>by simp at h
 | a :: cs,0,h=>by simp at h; subst h; exact ⟨cs, .refl _,fun y=>.refl _⟩
 | a :: cs,i + 1,h=>by
  obtain ⟨rest,h1,h2⟩ := setAt_perm (cs := cs) (i := i) (by simpa using h)
  exact ⟨a :: rest,(h1.cons a).trans (.swap _ _ _),fun y=>(List.Perm.swap _ _ _).trans ((h2 y).cons a)⟩
theorem cells0_setAt (h:Cells0 B cs A) (i:Nat) (e:cs[i]? = some (m,X)) (Y:Nd):Cells0 B (cs.set i (m,Y)) (put A m Y) := by
 obtain ⟨rest,p1,p2⟩ := setAt_perm e
 have h1:Cells0 B ([(m,X)] ++ rest) A := h.perm p1
 exact (h1.back (h1.focus.put1 Y)).perm (p2 (m,Y))
theorem cells_upG (h : Cells (rem A c) ([(c, X)] :: sg) A') (e : A c = some X) : Cells A sg A' := by
  have h0 : Cells0 (rem A c) ((c, X) :: sg.flatten) A' := h
  have hn := h0.nd
  rw [List.map_cons, List.nodup_cons] at hn
  have hne : ∀ z ∈ sg.flatten, z.1 ≠ c := fun z hz q => hn.1 (List.mem_map.mpr ⟨z, hz, q⟩)
  refine (show Cells0 A sg.flatten A' from ⟨hn.2, fun z hz => h0.get z (List.mem_cons_of_mem _ hz), fun z hz => ?_, fun j x hj => ?_⟩)
  · have := h0.fr z (List.mem_cons_of_mem _ hz)
    rwa [rem_ne (hne z hz)] at this
  · by_cases hj2 : j = c
    · subst hj2
      rw [e] at hj
      cases hj
      exact h0.get (j, _) (List.mem_cons_self ..)
    · exact h0.le j x (by rw [rem_ne hj2]; exact hj)
theorem cells_dnG (h:Cells A sg A') (e:A c=some X):Cells (rem A c) ([(c,X)] :: sg) A' := by
 have h0:Cells0 A sg.flatten A' := h
 have hne:∀ z∈sg.flatten,z.1≠c := fun z hz q=>by have := h0.fr z hz; rw [q,e] at this; cases this
 refine (show Cells0 (rem A c) ((c,X) :: sg.flatten) A' from ⟨?_,fun z hz=>?_,fun z hz=>?_,fun j x hj=>?_⟩)
 ·rw [List.map_cons,List.nodup_cons]
  refine ⟨fun hm=>?_,h0.nd⟩
  obtain ⟨z,hz,q⟩ := List.mem_map.mp hm
  exact hne z hz q
 ·rcases List.mem_cons.mp hz with z1 | z1
  ·rw [z1]; exact h0.le _ _ e
  ·exact h0.get z z1
 ·rcases List.mem_cons.mp hz with z1 | z1
  ·rw [z1]; exact rem_same
  ·rw [rem_ne (hne z z1)]; exact h0.fr z z1
 ·by_cases hj2:j=c
  ·subst hj2; rw [rem_same] at hj; cases hj
  ·rw [rem_ne hj2] at hj; exact h0.le j x hj
end
section
variable {ι:Type} {A A' B:AH} {s s':Sl} {ma mb m:ME} {x y d:D} {Q:QE} {E:QX} {D0:AEnds} {pls:List PlT} {g:Gr} {n:Nat} {c:Int} {zs:List Int} {z:Int} {j:Nat}
theorem lay_ints:∀ zs:List Int,PyData.canLayAll0 (zs.map Datum.toD)=true
 | []=>rfl
 | z :: zs=>by
  rw [List.map_cons]
  unfold PyData.canLayAll0
  rw [lay_ints zs,Bool.and_true]
  rfl
theorem pv_indexN (ho:Pv ma s A x) (hx:ItL A x zs en) (h:Pv m s A (.int z)) (hj:zs[j]? = some z) (hf:∀ i,i < j→zs[i]?≠some z):Pv (mBM fIndex ma (mCons m mNil)) s A (.int (j:Int)) := fun Q E q=>ho _ _ ⟨⟨_,hx⟩,(pa_1 h) _ _ (by
 refine ⟨.int z,_,_,_,j,Datum.toD z,rfl,toPA_en z,hx,toPs_map zs, ?_, ?_,by rw [List.getElem?_map,hj]; rfl,by rw [Datum.eqv]; exact decide_eq_true rfl,fun i z' hi hz'=>?_,q⟩
 ·unfold SeqAt.shaped
  have h:(PyData.list (zs.map Datum.toD)).depth≤64 := Nat.le_trans (Datum.depth_le zs) (by decide)
  rw [decide_eq_true h,Bool.and_true]
  unfold PyData.canLay0
  exact lay_ints zs
 ·unfold SeqAt.shaped
  have h:(Datum.toD z).depth≤64 := Nat.le_trans (Datum.depth_le z) (by decide)
  rw [decide_eq_true h,Bool.and_true]
  rfl
 ·rw [List.getElem?_map] at hz'
  obtain ⟨y,hy,e⟩ := Option.map_eq_some_iff.mp hz'
  rw [← e,Datum.eqv,decide_eq_false fun e2=>hf i hi (by rw [hy,e2])])⟩
abbrev kR (kn:List (Int × Nat)):Nd := .dK (kn.map (eD kI fun m=>.ref m))
def nE (kn:List (Int × Nat)):List (Nat × Nd) := kn.map fun p=>(p.2, .lst [])
def cK (K:List (Int × List Int)) (k:Int):List Int := (valA K k).getD []
def nK (K:List (Int × List Int)) (kn:List (Int × Nat)):List (Nat × Nd) := kn.map fun p=>(p.2, .lst ((cK K p.1).map en))
theorem cells_sw {S:List (List (Nat × Nd))} {ws:List (Nat × Nd)} {w x:Nat × Nd} {i:Nat} (h:Cells B (S ++ [ws,[w]]) A) (e:ws[i]? = some x):Cells B (S ++ [ws.set i w]) A := by
 obtain ⟨rest,p1,p2⟩ := setAt_perm e
 have h0:Cells0 B (S.flatten ++ (ws ++ [w])) A := Cells0.perm h (by simp)
 have h1:Cells0 B (x :: (S.flatten ++ (rest ++ [w]))) A := Cells0.perm h0 ((List.Perm.append_left _ (p1.append_right [w])).trans List.perm_middle)
 have h2:Cells0 B (S.flatten ++ (rest ++ [w])) A := h1.sub (List.sublist_cons_self ..)
 have h3:Cells0 B (S.flatten ++ ws.set i w) A := h2.perm (List.Perm.append_left _ ((List.perm_append_comm (l₁ := rest) (l₂ := [w])).trans (p2 w)))
 exact Cells0.perm h3 (by simp)
theorem put_or {α:Type}:∀ {kn:List (Int × α)} {k:Int} (m:α),(kn.map (·.1)).Nodup→putA kn k m=kn ++ [(k,m)]∧k ∉ kn.map (·.1)∨∃ (j:Nat) (m0:α),kn[j]? = some (k,m0)∧putA kn k m=kn.set j (k,m)
 | kn,k,m,nd=>by
  by_cases h:k∈kn.map (·.1)
  ·refine .inr ?_
   obtain ⟨p,hp,e⟩ := List.mem_map.mp h
   obtain ⟨j,hj⟩ := List.mem_iff_getElem?.mp hp
   obtain ⟨a,b⟩ := p
   cases e
   refine ⟨j,b,hj, ?_⟩
   unfold putA
   rw [if_pos (List.any_eq_true.mpr ⟨_,hp,decide_eq_true rfl⟩)]
   refine List.ext_getElem? fun i=>?_
   rw [List.getElem?_map,List.getElem?_set]
   have hlt := (List.getElem?_eq_some_iff.mp hj).1
   by_cases hij:j=i
   ·subst hij
    rw [if_pos rfl,if_pos hlt,hj]
    simp
   ·rw [if_neg hij]
    cases hi:kn[i]? with
    | none=>rfl
    | some q =>
     have:q.1≠a := by
      intro e
      refine hij ((List.getElem?_inj (by rw [List.length_map]; exact hlt) nd).mp ?_)
      rw [List.getElem?_map,List.getElem?_map,hj,hi,Option.map_some,Option.map_some,e]
     rw [Option.map_some,if_neg this]
  ·exact .inl ⟨putA_new h,h⟩
theorem putK_fst {α:Type} {kn:List (Int × α)} {k:Int} (m:α):(putA kn k m).map (·.1)=if k∈kn.map (·.1) then kn.map (·.1) else kn.map (·.1) ++ [k] := by
 unfold putA
 by_cases h:k∈kn.map (·.1)
 ·obtain ⟨p,hp,e⟩ := List.mem_map.mp h
  rw [if_pos h,if_pos (List.any_eq_true.mpr ⟨p,hp,decide_eq_true e⟩),List.map_map]
  refine List.map_congr_left fun q _=>?_
  show (if q.1=k then (q.1,m) else q).1=q.1
  split <;> rfl
 ·rw [if_neg h,if_neg (fun h2=>by obtain ⟨p,hp,e⟩ := List.any_eq_true.mp h2; exact h (List.mem_map.mpr ⟨p,hp,of_decide_eq_true e⟩)),List.map_append]
  rfl
theorem putK_nd {α:Type} {kn:List (Int × α)} {k:Int} (m:α) (h:(kn.map (·.1)).Nodup):((putA kn k m).map (·.1)).Nodup := by
 rw [putK_fst]
 split
 ·exact h
 ·rename_i hn
  exact List.nodup_append.mpr ⟨h,by simp,fun a ha b hb=>by rw [List.mem_singleton.mp hb]; exact fun e=>hn (e ▸ ha)⟩
theorem cK_put {K:List (Int × List Int)} {k x:Int} {l:List Int}:cK (putA K k l) x=if x=k then l else cK K x := by
 unfold cK
 rw [valA_put]
 split <;> rfl
theorem nK_put {K:List (Int × List Int)} {kn:List (Int × Nat)} {k:Int} {m j:Nat} {l:List Int} (nd:(kn.map (·.1)).Nodup) (h:kn[j]? = some (k,m)):(nK K kn).set j (m, .lst (l.map en))=nK (putA K k l) kn := by
 refine List.ext_getElem? fun i=>?_
 unfold nK
 rw [List.getElem?_set,List.length_map,List.getElem?_map,List.getElem?_map]
 have hlt := (List.getElem?_eq_some_iff.mp h).1
 by_cases hij:j=i
 ·subst hij
  rw [if_pos rfl,if_pos hlt,h,Option.map_some,cK_put,if_pos rfl]
 ·rw [if_neg hij]
  cases hi:kn[i]? with
  | none=>rfl
  | some q =>
   have:q.1≠k := by
    intro e
    refine hij ((List.getElem?_inj (by rw [List.length_map]; exact hlt) nd).mp ?_)
    rw [List.getElem?_map,List.getElem?_map,h,hi,Option.map_some,Option.map_some,e]
   rw [Option.map_some,Option.map_some,cK_put,if_neg this]
theorem nK_nil {K:List (Int × List Int)} {kn:List (Int × Nat)} (h:∀ k,cK K k=[]):nE kn=nK K kn := List.map_congr_left fun p _=>by rw [h p.1]; rfl
theorem val_at {α:Type} {kn:List (Int × α)} {k:Int} (h:k∈kn.map (·.1)):∃ (j:Nat) (m:α),kn[j]? = some (k,m)∧valA kn k=some m := by
 obtain ⟨m,hv⟩ := Option.isSome_iff_exists.mp (valA_some.mpr h)
 unfold valA at hv
 obtain ⟨p,hp,e⟩ := Option.map_eq_some_iff.mp hv
 have h1 := List.mem_of_find?_eq_some hp
 have h2:p.1=k := by have := List.find?_some hp; exact of_decide_eq_true this
 obtain ⟨j,hj⟩ := List.mem_iff_getElem?.mp h1
 obtain ⟨a,b⟩ := p
 cases e
 cases h2
 exact ⟨j,_,hj,by unfold valA; rw [hp]; rfl⟩
theorem foldl_sn {α β:Type} {f:β→α→β} {b b':β} {l:List α} {i:Nat} {x:α} (h:l[i]? = some x) (e:b' = (l.take i).foldl f b):(l.take (i + 1)).foldl f b=f b' x := by
 rw [take_sn h,List.foldl_append,← e]
 rfl
structure NmK (g:Gr) (K:List (Int × List Int)) (kn:List (Int × Nat)) (b:Nat):Prop where
 nd:(kn.map (·.1)).Nodup
 lb:∀ c,inG c g=true→gV g c∈kn.map (·.1)
 ln:∀ k,(cK K k).length≤b
theorem nm_row (hg:A n=some (.dK (g.map (eD kI en)))) {rD:Option D} {row:List Int} {kn:List (Int × Nat)} {K0:List (Int × List Int)} {dn f b:Nat} {ys:List D} {j7 j8 j3:Option D} (h4:row.length≤4) (hb:b≤8) (hy:ys.length≤8)
  (hc:Cells A [[(dn,kR kn)],nK K0 kn,[(f, .lst ys)]] A') (ok:NmK g K0 kn b)
  (q:∀ K A2 j3 t j7 j8,K=((enu row).foldl (nmK g) (K0,[])).1→NmK g K kn (b + 4)→Cells A [[(dn,kR kn)],nK K kn,[(f, .lst (ys ++ [.tup (((enu row).foldl (nmK g) (K0,[])).2.map en)]))]] A2→D0.nx [some (.ref n),rD,some (.ref dn),j3,some (.ref f),some (tupI row),some (.ref t),j7,j8] A2) :
  (mSq (mSet (mLstM mNil) (gN 6))
  (mSq (mFor (mEnumT (mCons (mVar 5) mNil)) (gTp 2 (gCs (gN 3) (gCs (gN 7) gNl))) (mIfS (mB (mDIn false (mVar 3) (mVar 0))) (mSq (mSet (mDGet (mVar 2) (mDGet (mVar 0) (mVar 3))) (gN 8))
  (mSq (mIfS (mB (mOp (fIn true) (mVar 7) (mVar 8))) (mDrop (mBM fAppend (mVar 8) (mCons (mVar 7) mNil))) mNext)
  (mDrop (mBM fAppend (mVar 6) (mCons (mBM fIndex (mVar 8) (mCons (mVar 7) mNil)) mNil))))) (mDrop (mBM fAppend (mVar 6) (mCons (mC (.int 0)) mNil)))))
  (mDrop (mBM fAppend (mVar 4) (mCons (mCB fTupOf (mCons (mVar 6) mNil)) mNil))))) D0 [some (.ref n),rD,some (.ref dn),j3,some (.ref f),some (tupI row),j6,j7,j8] A' := by
 refine s_sq (u_setE (w_nilM fun t ht=>?_))
 have hc1:Cells A [[(dn,kR kn)],nK K0 kn,[(f, .lst ys)],[(t, .lst (([]:List Int).map en))]] (put A' t (.lst [])) := hc.new _ ht
 show (sqE _ _).nx _ (put A' t (.lst []))
 generalize put A' t (.lst [])=A1 at hc1 ⊢
 refine at_n (s' := [some (.ref n),rD,some (.ref dn),j3,some (.ref f),some (tupI row),some (.ref t),j7,j8]) rfl (nx_sq (s_sq ?_))
 have len:(enu row).length≤4 := by unfold enu; rw [List.length_map,List.length_zipIdx]; exact h4
 refine u_for (xs := enu row) (e := eE en) (mi_enumT (e := en) (pv_var rfl)) (Wb := True) fun ck hck hP=>?_
 refine for_xs (xs := enu row) (fun i s A2=>∃ (K:List (Int × List Int)) (ts:List Int) (j3 j7 j8:Option D),s=[some (.ref n),rD,some (.ref dn),j3,some (.ref f),some (tupI row),some (.ref t),j7,j8]∧Cells A [[(dn,kR kn)],nK K kn,[(f, .lst ys)],[(t, .lst (ts.map en))]] A2∧(K,ts)=((enu row).take i).foldl (nmK g) (K0,[])∧NmK g K kn (b + i)∧ts.length≤i) ⟨K0,[],j3,j7,j8,rfl,hc1,rfl,ok,Nat.le_refl _⟩ (fun _ _ A2 _=>hP A2 True.intro) ?_ ?_
 ·clear hc hc1
  rintro i p s A2 N hp ⟨K,ts,j3,j7,j8,rfl,hc,eK,ok,tl⟩ hN
  have hi:i < 4 := Nat.lt_of_lt_of_le (List.getElem?_eq_some_iff.mp hp).1 len
  have est := foldl_sn hp eK
  have hgA:A2 n=some (.dK (g.map (eD kI en))) := hc.le _ _ hg
  refine ⟨[.int p.1, .int p.2], .inl rfl,rfl,_,_,rfl,_,_,rfl,rfl, ?_⟩
  refine at_s (s' := [some (.ref n),rD,some (.ref dn),some (.int p.1),some (.ref f),some (tupI row),some (.ref t),some (.int p.2),j8]) rfl ?_
  refine u_if (b := inG p.1 g) (W1 := True) (W2 := True) (pt_b (pv_inK0 kIi (pv_var rfl) (pv_var rfl) (dk_n hgA) rfl)) (by split <;> trivial) (fun hb _=>?_) (fun hb _=>?_)
  ·have hl := ok.lb _ hb
   obtain ⟨j,m,hj,hv⟩ := val_at hl
   have hsm:(valA kn (gV g p.1)).isSome=true := by rw [hv]; rfl
   have hNj:(nK K kn)[j]? = some (m, .lst ((cK K (gV g p.1)).map en)) := by unfold nK; rw [List.getElem?_map,hj]; rfl
   have hm:A2 m=some (.lst ((cK K (gV g p.1)).map en)) := (hc.focus 1 rfl).get _ (List.mem_of_getElem? hNj)
   refine s_sq (u_set (s' := [some (.ref n),rD,some (.ref dn),some (.int p.1),some (.ref f),some (tupI row),some (.ref t),some (.int p.2),some (.ref m)]) ((pv_getK (d0 := 0) (e := fun m=>D.ref m) (l := kn) (k := gV g p.1) kIi (pv_var rfl) (pv_gv (pv_var rfl) (pv_var rfl) (dk_n hgA) hb) (dk_n (hc.at 0 rfl)) rfl hsm).is (by rw [hv]; rfl)) rfl (nx_sq ?_))
   have fin:∀ (D1:AEnds) (K':List (Int × List Int)) (l:List Int) (pos:Nat) (A3:AH),(∀ s A,N s A→D1.nx s A)→Cells A [[(dn,kR kn)],nK K' kn,[(f, .lst ys)],[(t, .lst (ts.map en))]] A3→A3 m=some (.lst (l.map en))→l[pos]? = some p.2→(∀ i,i < pos→l[i]?≠some p.2)→nmK g (K,ts) p=(K',ts ++ [(pos:Int)])→NmK g K' kn (b + (i + 1))→mDrop (mBM fAppend (mVar 6) (mCons (mBM fIndex (mVar 8) (mCons (mVar 7) mNil)) mNil)) D1 [some (.ref n),rD,some (.ref dn),some (.int p.1),some (.ref f),some (tupI row),some (.ref t),some (.int p.2),some (.ref m)] A3 := by
    intro D1 K' l pos A3 hD hc hm h1 h2 e ok'
    refine u_app (n := t) (ys := ts.map en) (pv_var rfl) (hc.at 3 rfl) (pv_indexN (pv_var rfl) (il_n hm) (pv_var rfl) h1 h2) (Sz.of (by rw [List.length_map]; omega)) ?_
    have eM:(ts ++ [(pos:Int)]).map en=ts.map en ++ [D.int pos] := by rw [List.map_append]; rfl
    rw [← eM]
    exact hD _ _ <| hN _ _ ⟨K',ts ++ [(pos:Int)],_,_,_,rfl,hc.put 3 rfl _,by rw [est,e],ok',by rw [List.length_append]; exact Nat.add_le_add_right tl 1⟩
   have lnb := ok.ln (gV g p.1)
   refine s_sq (u_if (b := !inB p.2 (cK K (gV g p.1))) (W1 := True) (W2 := True) (pt_b (pv_op2 (pv_var rfl) (pv_var rfl) (q2_nin (a := p.2) (xs := cK K (gV g p.1)) (ue_r rfl) (ItS.sq (ItL.toS (il_n hm))) (by decide)))) (by split <;> trivial) (fun hb2 _=>?_) (fun hb2 _=>?_))
   ·have hnm:p.2 ∉ cK K (gV g p.1) := fun h=>by rw [inB_iff.mpr h] at hb2; cases hb2
    refine u_app (n := m) (ys := (cK K (gV g p.1)).map en) (pv_var rfl) hm (pv_var rfl) (Sz.of (by rw [List.length_map]; omega)) (nx_sq ?_)
    have eM:(cK K (gV g p.1) ++ [p.2]).map en=(cK K (gV g p.1)).map en ++ [D.int p.2] := by rw [List.map_append]; rfl
    rw [← eM]
    have hc2 := hc.back 1 rfl (cells0_setAt (hc.focus 1 rfl) j hNj (.lst ((cK K (gV g p.1) ++ [p.2]).map en)))
    rw [nK_put ok.nd hj] at hc2
    refine fin _ (putA K (gV g p.1) (cK K (gV g p.1) ++ [p.2])) _ (cK K (gV g p.1)).length _ (fun _ _ h=>h) hc2 put_same ?_ ?_ ?_ ⟨ok.nd,ok.lb,fun k=>?_⟩
    ·rw [List.getElem?_append_right (Nat.le_refl _),Nat.sub_self]; rfl
    ·intro i hi e
     rw [List.getElem?_append_left hi] at e
     exact hnm (List.mem_of_getElem? e)
    ·unfold nmK
     rw [if_pos hb]
     exact if_neg (by intro h; exact hnm (inB_iff.mp h))
    ·rw [cK_put]
     split
     ·rw [List.length_append,List.length_singleton]; omega
     ·have := ok.ln k; omega
   ·have hnm:inB p.2 (cK K (gV g p.1))=true := by cases h:inB p.2 (cK K (gV g p.1)) with | true=>rfl | false=>rw [h] at hb2; cases hb2
    have hlt:(cK K (gV g p.1)).findIdx (fun x=>decide (x=p.2)) < (cK K (gV g p.1)).length := List.findIdx_lt_length_of_exists ⟨p.2,inB_iff.mp hnm,decide_eq_true rfl⟩
    refine t_next (nx_sq (fin _ K (cK K (gV g p.1)) ((cK K (gV g p.1)).findIdx (fun x=>decide (x=p.2))) _ (fun _ _ h=>h) hc hm ?_ ?_ ?_ ⟨ok.nd,ok.lb,fun k=>Nat.le_trans (ok.ln k) (by omega)⟩))
    ·rw [List.getElem?_eq_getElem hlt,of_decide_eq_true (List.findIdx_getElem (w := hlt) (p := fun x=>decide (x=p.2)))]
    ·intro i hi e
     have h := List.not_of_lt_findIdx hi
     obtain ⟨h1,h2⟩ := List.getElem?_eq_some_iff.mp e
     rw [h2] at h
     rw [decide_eq_true rfl] at h
     cases h
    ·unfold nmK
     rw [if_pos hb]
     exact if_pos hnm
  ·refine u_app (n := t) (ys := ts.map en) (pv_var rfl) (hc.at 3 rfl) pv_c (Sz.of (by rw [List.length_map]; omega)) ?_
   have eM:(ts ++ [(0:Int)]).map en=ts.map en ++ [D.int 0] := by rw [List.map_append]; rfl
   rw [← eM]
   refine hN _ _ ⟨K,ts ++ [(0:Int)],_,_,_,rfl,hc.put 3 rfl _, ?_,⟨ok.nd,ok.lb,fun k=>Nat.le_trans (ok.ln k) (by omega)⟩,by rw [List.length_append]; exact Nat.add_le_add_right tl 1⟩
   rw [est]
   unfold nmK
   rw [if_neg (by rw [hb]; decide)]
 ·rintro s A2 ⟨K,ts,j3,j7,j8,rfl,hc,eK,ok,tl⟩
  rw [List.take_length] at eK
  have e1:K=((enu row).foldl (nmK g) (K0,[])).1 := by rw [← eK]
  have e2:ts=((enu row).foldl (nmK g) (K0,[])).2 := by rw [← eK]
  refine nx_sq (u_app (n := f) (ys := ys) (pv_var rfl) (hc.at 2 rfl) (pv_cbB (pa_1 (pv_var rfl)) (pb_tupI (il_n (hc.at 3 rfl)))) (Sz.of (by omega)) ?_)
  rw [e2]
  refine q K _ j3 t j7 j8 e1 ⟨ok.nd,ok.lb,fun k=>Nat.le_trans (ok.ln k) (by omega)⟩ (((hc.put 2 rfl _).take 3))
theorem fv_num {gn:Nat} {rows:List (List Int)} (hg:A gn=some (.dK (g.map (eD kI en)))) (hz:g.length≤2) (hr:rows.length≤2) (h4:∀ r∈rows,r.length≤4):Fv m_law_numbered [.ref gn, .lst (rows.map tupI)] A (.lst ((nmF g rows).map en)) := by
 refine fv_in (s := [some (.ref gn),some (.lst (rows.map tupI)),none,none,none,none,none,none,none]) (fun Q E q=>?_) rfl rfl
 refine s_sq (u_setE (w_dnK fun dn hn=>?_))
 have hc0:Cells A [[(dn,kR [])]] (put A dn (kR [])) := Cells.nil_.new _ hn
 show (sqE _ _).nx _ (put A dn (kR []))
 generalize put A dn (kR [])=A1 at hc0 ⊢
 refine at_n (s' := [some (.ref gn),some (.lst (rows.map tupI)),some (.ref dn),none,none,none,none,none,none]) rfl (nx_sq (s_sq ?_))
 have hc1 := cells_dnG hc0 hg
 refine u_lockK (hc1.at 0 rfl) fun o us=>?_
 have hc2:Cells (rem A gn) [[(gn, .lkK o us (g.map (eD kI en)))],[(dn,kR [])],nE []] (put A1 gn (.lkK o us (g.map (eD kI en)))) := cells_perm (hc1.put 0 rfl (.lkK o us (g.map (eD kI en)))) (by simp [nE])
 generalize put A1 gn (.lkK o us (g.map (eD kI en)))=A2 at hc2 ⊢
 have hl := hc2.at 0 rfl
 refine u_for (xs := gK g) (e := en) (mi_keysK (l := g) (fk := kI) (e := en) (ek := en) (pv_var rfl) hl fun z=>rfl) (Wb := True) fun ck hck hP=>?_
 refine for_xs (xs := gK g) (fun i s A'=>∃ (kn:List (Int × Nat)) (K:List (Int × List Int)) (j3:Option D),s=[some (.ref gn),some (.lst (rows.map tupI)),some (.ref dn),j3,none,none,none,none,none]∧Cells (rem A gn) [[(gn, .lkK o us (g.map (eD kI en)))],[(dn,kR kn)],nE kn] A'∧K=((gK g).take i).foldl (fun k c=>putA k (gV g c) []) []∧kn.map (·.1)=K.map (·.1)∧(kn.map (·.1)).Nodup∧(∀ k,cK K k=[])∧kn.length≤i∧∀ c∈(gK g).take i,gV g c∈kn.map (·.1)) ⟨[],[],_,rfl,hc2,rfl,rfl, .nil,(fun _=>rfl),Nat.le_refl _,fun _ h=>nomatch h⟩ (fun _ _ A' ⟨_,_,_,_,hc,_⟩=>hP A' (by rw [hc.at 0 rfl,hl])) ?_ ?_
 ·rintro i c s A3 N hcx ⟨kn,K,j3,rfl,hc,eK,ks,nd,nil,kl,lb⟩ hN
  have hi:i < 2 := Nat.lt_of_lt_of_le (List.getElem?_eq_some_iff.mp hcx).1 (by rw [gK_len]; exact hz)
  have hin:inG c g=true := inG_iff.mpr (List.mem_of_getElem? hcx)
  have est := foldl_sn hcx eK
  refine u_gN (s' := [some (.ref gn),some (.lst (rows.map tupI)),some (.ref dn),some (.int c),none,none,none,none,none]) rfl ?_
  refine u_dputS (w_nilM fun m hm=>?_)
  have hc3:Cells (rem A gn) [[(gn, .lkK o us (g.map (eD kI en)))],[(dn,kR kn)],nE kn,[(m, .lst [])]] (put A3 m (.lst [])) := hc.new _ hm
  refine Pv.wp (Pv.wp (u_dputK (l := kn) (k := gV g c) (v := m) (e := fun m=>D.ref m) kIi (hc3.at 1 rfl) rfl (sz (by omega)) ?_) (pv_gv (pv_var rfl) (pv_var rfl) (dk_lk (hc3.at 0 rfl)) hin)) (pv_var rfl)
  have hc4 := hc3.put 1 rfl (kR (putA kn (gV g c) m))
  have hc5:Cells (rem A gn) [[(gn, .lkK o us (g.map (eD kI en)))],[(dn,kR (putA kn (gV g c) m))],nE (putA kn (gV g c) m)] (put (put A3 m (.lst [])) dn (kR (putA kn (gV g c) m))) := by
   rcases put_or (kn := kn) (k := gV g c) m nd with ⟨e,_⟩ | ⟨j,m0,hj,e⟩
   ·refine cells_perm hc4 ?_
    rw [e]
    simp [nE]
   ·have h := cells_sw (S := [[(gn, .lkK o us (g.map (eD kI en)))],[(dn,kR (putA kn (gV g c) m))]]) (i := j) (x := (m0, .lst [])) hc4 (by unfold nE; rw [List.getElem?_map,hj]; rfl)
    have e2:(nE kn).set j (m, .lst [])=nE (putA kn (gV g c) m) := by rw [e]; unfold nE; rw [List.map_set]
    rw [e2] at h
    exact h
  refine hN _ _ ⟨putA kn (gV g c) m,putA K (gV g c) [],_,rfl,hc5,est.symm, ?_,putK_nd m nd,fun k=>?_,Nat.le_trans putA_len (by omega),fun c2 h2=>?_⟩
  ·rw [putK_fst,putK_fst,ks]
  ·rw [cK_put]
   split
   ·rfl
   ·exact nil k
  ·rw [putK_fst]
   rw [take_sn hcx] at h2
   rcases List.mem_append.mp h2 with h3 | h3
   ·split
    ·exact lb c2 h3
    ·exact List.mem_append.mpr (.inl (lb c2 h3))
   ·rw [List.mem_singleton.mp h3]
    split
    ·assumption
    ·exact List.mem_append.mpr (.inr (List.mem_singleton.mpr rfl))
 ·rintro s A3 ⟨kn,K,j3,rfl,hc,eK,ks,nd,nil,kl,lb⟩
  rw [List.take_length] at eK lb
  refine nx_lk (hc.at 0 rfl) ?_
  have hc3 := cells_upG (hc.put 0 rfl (.dK (g.map (eD kI en)))) hg
  rw [nK_nil nil] at hc3
  generalize put A3 gn (.dK (g.map (eD kI en)))=A4 at hc3 ⊢
  refine nx_sq (s_sq (u_setE (w_nilM fun f hf=>?_)))
  have hc4:Cells A [[(dn,kR kn)],nK K kn,[(f, .lst (([]:List (Tup Int)).map en))]] (put A4 f (.lst [])) := hc3.new _ hf
  show (sqE _ _).nx _ (put A4 f (.lst []))
  generalize put A4 f (.lst [])=A5 at hc4 ⊢
  refine at_n (s' := [some (.ref gn),some (.lst (rows.map tupI)),some (.ref dn),j3,some (.ref f),none,none,none,none]) rfl (nx_sq (s_sq ?_))
  refine u_for (xs := rows) (e := tupI) (mi_seq (pv_var rfl) it_l) (Wb := True) fun ck2 hck2 hP2=>?_
  refine for_xs (xs := rows) (fun i s A'=>∃ (K2:List (Int × List Int)) (ys:List (Tup Int)) (j3 j5 j6 j7 j8:Option D),s=[some (.ref gn),some (.lst (rows.map tupI)),some (.ref dn),j3,some (.ref f),j5,j6,j7,j8]∧Cells A [[(dn,kR kn)],nK K2 kn,[(f, .lst (ys.map en))]] A'∧(K2,ys)=(rows.take i).foldl (nmR g) (K,[])∧NmK g K2 kn (4 * i)∧ys.length≤i) ⟨K,[],_,_,_,_,_,rfl,hc4,rfl,⟨nd,fun c hc=>lb c (inG_iff.mp hc),fun k=>by rw [nil k]; exact Nat.le_refl _⟩,Nat.le_refl _⟩ (fun _ _ A' _=>hP2 A' fun m e=>nomatch e) ?_ ?_
  ·clear hc hc3 hc4
   rintro i row s A6 N hrow ⟨K2,ys,j3,j5,j6,j7,j8,rfl,hc,eR,ok,yl⟩ hN
   have hi:i < 2 := Nat.lt_of_lt_of_le (List.getElem?_eq_some_iff.mp hrow).1 hr
   have est := foldl_sn hrow eR
   refine u_gN (s' := [some (.ref gn),some (.lst (rows.map tupI)),some (.ref dn),j3,some (.ref f),some (tupI row),j6,j7,j8]) rfl ?_
   refine nm_row (ys := ys.map en) hg (h4 row (List.mem_of_getElem? hrow)) (by omega) (by rw [List.length_map]; omega) hc ok fun K3 A7 j3 t j7 j8 e3 ok3 hc7=>?_
   have eM:(ys ++ [(⟨((enu row).foldl (nmK g) (K2,[])).2⟩:Tup Int)]).map en=ys.map en ++ [.tup (((enu row).foldl (nmK g) (K2,[])).2.map en)] := by rw [List.map_append,List.map_singleton,en_tup]
   rw [← eM] at hc7
   refine hN _ _ ⟨K3,_,_,_,_,_,_,rfl,hc7, ?_,ok3,by rw [List.length_append]; exact Nat.add_le_add_right yl 1⟩
   rw [est,e3]
   rfl
  ·rintro s A6 ⟨K2,ys,j3,j5,j6,j7,j8,rfl,hc,eR,ok,yl⟩
   rw [List.take_length] at eR
   have e2:ys=nmF g rows := by
    unfold nmF nmI
    rw [← eK,← eR]
   rw [← e2] at q
   exact nx_sq (u_retE (w_fzL rfl (hc.at 2 rfl) ⟨A,hc.le.rem' (Cells0.fr (show Cells0 A _ A6 from hc) (f, .lst (ys.map en)) (by simp)),q⟩))
end
end Lw
namespace Lw
open PySem PySem.Spec PyProof.Rows L2 Am
open PySem.W (Datum Tup T3 T4)
section
variable {ι β:Type} {A:AH} {s s':Sl} {mi:MI} {tg:MG} {te:ME} {vs:List Nat} {xs:List ι} {e:ι→D} {P:AH→Prop} {Q:QE} {E:QX}
theorem w_lcNew {g:ι→β} {e':β→D} (hm:Mi mi s A (xs.map e) P) (hw:wipeD s vs=s') (hz:Sz xs.length) (hb:∀ a∈xs,LcB tg mYes te s' A (e a) true (e' (g a))) (q:∀ n,A n=none→Q (.ref n) (put A n (.lst ((xs.map g).map e')))):mLcM mi tg mYes te vs s A Q E := hm _ _ fun ck hck _=>⟨by rw [List.length_map]; exact hz,by
 rw [hw]
 refine lc_map (p := fun _=>true) (f := fun a=>e' (g a)) hck (fun a ha R R' h1 h2=>?_) ?_
 ·obtain ⟨s1,k1,k2,k3⟩ := hb a ha
  refine k1 A _ (k2 _ _ ?_)
  exact iteT (k3 rfl _ _ (h1 rfl))
 ·intro n hn
  have := q n hn
  rw [List.map_map] at this
  rw [List.filter_eq_self.mpr fun _ _=>rfl]
  exact this⟩
end
section
variable {ι:Type} {A A' B:AH} {s s':Sl} {ma mb m:ME} {x y d:D} {Q:QE} {E:QX} {D0:AEnds} {pls:List PlT} {g:Gr} {n:Nat} {c w many:Int} {i:Nat}
abbrev lsI (l:List Int):D := .lst (l.map en)
abbrev twI (l:List (Tup Int)):D := .tup (l.map en)
theorem zipD_ii {xs ys:List Int}:zipD (xs.map en) (ys.map en)=(xs.zip ys).map fun p=>D.tup [.int p.1, .int p.2] := by
 unfold zipD
 rw [List.zip_map,List.map_map]
 rfl
theorem mi_zipLL {xs ys:List Int} (h1:Pv ma s A (.lst (xs.map en))) (h2:Pv mb s A (.lst (ys.map en))):Mi (mZip (mCons ma (mCons mb mNil))) s A ((xs.zip ys).map fun p=>D.tup [.int p.1, .int p.2]) (fun _=>True) := fun R E k=>(pa_2 h1 h2) _ _ ⟨xs.map en,ys.map en, .inr rfl,by rw [zipD_ii]; exact k ckT True.intro fun _ _=>True.intro⟩
theorem u_extS (h:ma s A (fun x A1=>(∃ xs,itL A1 x=some xs)∧m s A1 (fun d A2=>fExtend x [d] A2 fun _ A3=>D0.nx s A3) (fun x A1=>D0.ex x s A1)) (fun x A1=>D0.ex x s A1)):mDrop (mBM fExtend ma (mCons m mNil)) D0 s A := h
theorem max_is {i j:Int}:(if j > i then j else i)=max i j := by split <;> omega
theorem rep_cl {w:Int}:∀ n:Nat,(List.replicate n ((rng (szW w)).map en)).flatten=(clW w n).map en
 | 0=>rfl
 | n + 1=>by rw [List.replicate_succ,List.flatten_cons,rep_cl n,← List.map_append]; rfl
theorem foldl_mx:∀ {xs:List Int} {a b:Int},a≤b→(∀ x∈xs,x≤b)→xs.foldl max a≤b
 | [],_,_,h,_=>h
 | x :: xs,a,b,h,hx=>foldl_mx (xs := xs) (by have := hx x (List.mem_cons_self ..); omega) fun y hy=>hx y (List.mem_cons_of_mem _ hy)
def facP:Nat→Nat
 | 0=>1
 | n + 1=>facP n * (n + 1)
structure WyOk (i:Nat) (ways:List (List Int)):Prop where
 z:ways.length≤facP i
 l:∀ way∈ways,way.length=i
 k:∀ way∈ways,∀ x∈way,-1≤x∧x < i
theorem rngk_of {j k:Int} (h:k∈rng j):0≤k∧k < j := by
 unfold rng at h
 obtain ⟨i,hi,e⟩ := List.mem_map.mp h
 have := List.mem_range.mp hi
 omega
theorem mxI_le {xs:List Int} {b:Int} (hx:∀ x∈xs,x≤b) (hne:xs≠[]):maxI xs≤b := by
 cases xs with
 | nil=>exact absurd rfl hne
 | cons x xs =>
  have h := foldl_max xs x
  show xs.foldl max x≤b
  rcases h.1 with e | e
  ·rw [e]; exact hx x (List.mem_cons_self ..)
  ·exact hx _ (List.mem_cons_of_mem _ e)
theorem op_le {cols way:List Int} (hk:∀ x∈way,x < (i:Int)):opF g cols way c≤i + 1 := by
 unfold opF
 split
 ·have:maxI ((-1) :: usF g cols way c)≤(i:Int) - 1 := by
   refine mxI_le (fun x hx=>?_) (by simp)
   rcases List.mem_cons.mp hx with e | h
   ·omega
   ·unfold usF at h
    obtain ⟨p,hp,e⟩ := List.mem_map.mp h
    have := hk p.1 (List.of_mem_zip (List.mem_filter.mp hp).1).1
    omega
  omega
 ·omega
theorem wyS_ok {cols:List Int} {ways:List (List Int)} (h:WyOk i ways):WyOk (i + 1) (wyS g cols ways c) := by
 refine ⟨?_,fun way hw=>?_,fun way hw x hx=>?_⟩
 ·unfold wyS
  have:∀ ws:List (List Int),(∀ way∈ws,way∈ways)→(ws.flatMap fun way=>(rng (opF g cols way c)).map fun k=>way ++ [k]).length≤ws.length * (i + 1) := by
   intro ws
   induction ws with
   | nil=>intro _; exact Nat.zero_le _
   | cons x xs ih =>
    intro hs
    rw [List.flatMap_cons,List.length_append,List.length_map,rng_len,List.length_cons,Nat.succ_mul]
    have h1 := ih fun y hy=>hs y (List.mem_cons_of_mem _ hy)
    have h2 := op_le (g := g) (c := c) (cols := cols) (i := i) fun y hy=>(h.k x (hs x (List.mem_cons_self ..)) y hy).2
    omega
  exact Nat.le_trans (this ways fun _ h=>h) (Nat.mul_le_mul_right _ h.z)
 ·obtain ⟨v,hv,hw⟩ := List.mem_flatMap.mp hw
  obtain ⟨k,hk,e⟩ := List.mem_map.mp hw
  rw [← e,List.length_append,h.l v hv]
  rfl
 ·obtain ⟨v,hv,hw⟩ := List.mem_flatMap.mp hw
  obtain ⟨k,hk,e⟩ := List.mem_map.mp hw
  have h2 := op_le (g := g) (c := c) (cols := cols) (i := i) fun y hy=>(h.k v hv y hy).2
  rw [← e] at hx
  rcases List.mem_append.mp hx with h1 | h1
  ·have := h.k v hv x h1; omega
  ·rw [List.mem_singleton.mp h1]
   have := rngk_of hk
   omega
theorem fac_b:∀ i,i≤8→facP i≤40320 := by decide
theorem w_wider {a0 a1 a2:Option D} {wn:Nat} {cols:List Int} {ways:List (List Int)} {j8 j9 j10 j11 zz:Option D} (hg:A n=some (.dK (g.map (eD kI en)))) (hw:A wn=some (.lst (ways.map lsI))) (ok:WyOk i ways) (hi:i < 8)
  (q:∀ dn A2 j9 j10 j11,Les A A2→A2 dn=some (.lst ((wyS g cols ways c).map lsI))→D0.nx [a0,a1,a2,some (.ref n),zz,some (lsI cols),some (.ref dn),some (.int c),some (.ref dn),j9,j10,j11,none,none,none,none] A2) :
  (mSq (mSet (mLstM mNil) (gN 8))
  (mSq (mFor (mSeq (mCB fList (mCons (mVar 6) mNil))) (gN 9) (mSq (mSet (mLc (mZip (mCons (mVar 9) (mCons (mVar 5) mNil))) (gTp 2 (gCs (gN 13) (gCs (gN 14) gNl))) (mAnd (mB (mDIn false (mVar 14) (mVar 3))) (mAnd (mB (mDIn false (mVar 7) (mVar 3))) (mB (mOp (fEq false) (mDGet (mVar 3) (mVar 14)) (mDGet (mVar 3) (mVar 7)))))) (mVar 13) [13,14]) (gN 10))
  (mSq (mSet (mIf (mB (mDIn false (mVar 7) (mVar 3))) (mOp fAdd (mOp fAdd (mC (.int 1)) (mCB fMax (mCons (mOp fAdd (mLst (mCons (mUn fNeg (mC (.int 1))) mNil)) (mVar 10)) mNil))) (mC (.int 1))) (mC (.int 1))) (gN 11))
  (mDrop (mBM fExtend (mVar 8) (mCons (mLcM (mRng1 (mCons (mVar 11) mNil)) (gN 13) mYes (mOp fAdd (mVar 9) (mLst (mCons (mVar 13) mNil))) [13]) mNil))))))
  (mSet (mVar 8) (gN 6)))) D0 [a0,a1,a2,some (.ref n),zz,some (lsI cols),some (.ref wn),some (.int c),j8,j9,j10,j11,none,none,none,none] A := by
 refine s_sq (u_setE (w_nilM fun dn hdn=>?_))
 have hc1:Cells A [[(dn, .lst (([]:List (List Int)).map lsI))]] (put A dn (.lst [])) := Cells.nil_.new _ hdn
 show (sqE _ _).nx _ (put A dn (.lst []))
 generalize put A dn (.lst [])=A1 at hc1 ⊢
 refine at_n (s' := [a0,a1,a2,some (.ref n),zz,some (lsI cols),some (.ref wn),some (.int c),some (.ref dn),j9,j10,j11,none,none,none,none]) rfl (nx_sq (s_sq ?_))
 have wz:ways.length≤40320 := Nat.le_trans ok.z (fac_b i (by omega))
 refine u_for (xs := ways) (e := lsI) (mi_seq (pv_cbB (pa_1 (pv_var rfl)) (pb_listI (it_n (hc1.le _ _ hw)))) it_l) (Wb := True) fun ck hck hP=>?_
 refine for_xs (xs := ways) (fun j s A'=>∃ (ac:List (List Int)) (j9 j10 j11:Option D),s=[a0,a1,a2,some (.ref n),zz,some (lsI cols),some (.ref wn),some (.int c),some (.ref dn),j9,j10,j11,none,none,none,none]∧Cells A [[(dn, .lst (ac.map lsI))]] A'∧ac=(ways.take j).flatMap (fun way=>(rng (opF g cols way c)).map fun k=>way ++ [k])∧ac.length≤j * 9) ⟨[],_,_,_,rfl,hc1,rfl,Nat.zero_le _⟩ (fun _ _ A' _=>hP A' fun m e=>nomatch e) ?_ ?_
 ·clear hc1
  rintro j way s A2 N hwj ⟨ac,j9,j10,j11,rfl,hc,ea,al⟩ hN
  have hwm:way∈ways := List.mem_of_getElem? hwj
  have hj:j < 40320 := Nat.lt_of_lt_of_le (List.getElem?_eq_some_iff.mp hwj).1 wz
  have hwl := ok.l way hwm
  have hgA:A2 n=some (.dK (g.map (eD kI en))) := hc.le _ _ hg
  have ople := op_le (g := g) (c := c) (cols := cols) (i := i) fun y hy=>(ok.k way hwm y hy).2
  have opge:-(2 ^ 62)≤opF g cols way c := by
   unfold opF
   split
   ·have:(-1:Int)≤maxI ((-1) :: usF g cols way c) := (foldl_max (usF g cols way c) (-1)).2.1
    omega
   ·decide
  refine u_gN (s' := [a0,a1,a2,some (.ref n),zz,some (lsI cols),some (.ref wn),some (.int c),some (.ref dn),some (lsI way),j10,j11,none,none,none,none]) rfl ?_
  refine s_sq (u_set (s' := [a0,a1,a2,some (.ref n),zz,some (lsI cols),some (.ref wn),some (.int c),some (.ref dn),some (lsI way),some (lsI (usF g cols way c)),j11,none,none,none,none]) (v_lcFM (xs := way.zip cols) (e := fun p=>D.tup [.int p.1, .int p.2]) (p := fun p=>inG p.2 g && (inG c g && eqB (gV g p.2) (gV g c))) (g := fun p=>p.1) (e' := en) (s' := [a0,a1,a2,some (.ref n),zz,some (lsI cols),some (.ref wn),some (.int c),some (.ref dn),some (lsI way),j10,j11,none,none,none,none]) (mi_zipLL (pv_var rfl) (pv_var rfl)) rfl (szk (by rw [List.length_zip]; omega)) fun p hp=>lcb (s' := [a0,a1,a2,some (.ref n),zz,some (lsI cols),some (.ref wn),some (.int c),some (.ref dn),some (lsI way),j10,j11,none,some (.int p.1),some (.int p.2),none]) (fun _ _ h=>⟨[.int p.1, .int p.2], .inl rfl,rfl,_,_,rfl,_,_,rfl,rfl,h⟩) (pt_and (pt_b (pv_inK0 kIi (pv_var rfl) (pv_var rfl) (dk_n hgA) rfl)) fun h1=>pt_and (pt_b (pv_inK0 kIi (pv_var rfl) (pv_var rfl) (dk_n hgA) rfl)) fun h2=>pt_b (pv_op2 (pv_gv (pv_var rfl) (pv_var rfl) (dk_n hgA) h1) (pv_gv (pv_var rfl) (pv_var rfl) (dk_n hgA) h2) (q2_eq (a := gV g p.2) (b := gV g c) (ue_r rfl) (ue_r rfl) (by decide)))) fun _=>pv_var rfl) rfl (nx_sq ?_))
  have usl:(usF g cols way c).length≤8 := by
   unfold usF
   rw [List.length_map]
   refine Nat.le_trans (List.length_filter_le ..) ?_
   rw [List.length_zip]
   omega
  refine s_sq (u_set (s' := [a0,a1,a2,some (.ref n),zz,some (lsI cols),some (.ref wn),some (.int c),some (.ref dn),some (lsI way),some (lsI (usF g cols way c)),some (.int (opF g cols way c)),none,none,none,none]) (pv_if (a := inG c g) (pt_b (pv_inK0 kIi (pv_var rfl) (pv_var rfl) (dk_n hgA) rfl)) (fun h1=>(pv_op2 (pv_op2 pv_c (pv_cbB (pa_1 (pv_op2 (pv_lst (pa_1 (pv_neg pv_c))) (pv_var rfl) (p2_addLI (xs := [-1]) (ys := usF g cols way c) (e := en) (show ItL A2 (D.lst (([-1]:List Int).map en)) [-1] en from il_l) il_l (Sz.of (by simp; omega))))) (pb_maxI (xs := (-1) :: usF g cols way c) il_l (by simp))) p2_addI) pv_c p2_addI).is (by unfold opF; rw [if_pos h1])) (fun h1=>pv_c.is (by unfold opF; rw [if_neg (by rw [h1]; decide)]))) rfl (nx_sq ?_))
  refine u_extS (Pv.wp ?_ (pv_var rfl))
  refine ⟨⟨_,itL_ref (hc.at 0 rfl)⟩,w_lcNew (xs := rng (opF g cols way c)) (e := en) (g := fun k=>way ++ [k]) (e' := lsI) (s' := [a0,a1,a2,some (.ref n),zz,some (lsI cols),some (.ref wn),some (.int c),some (.ref dn),some (lsI way),some (lsI (usF g cols way c)),some (.int (opF g cols way c)),none,none,none,none]) (mi_rng (pv_var rfl) ⟨opge,by omega⟩) rfl (szk (by rw [rng_len]; omega)) (fun k hk=>lcb (s' := [a0,a1,a2,some (.ref n),zz,some (lsI cols),some (.ref wn),some (.int c),some (.ref dn),some (lsI way),some (lsI (usF g cols way c)),some (.int (opF g cols way c)),none,some (.int k),none,none]) (tg_n rfl) pt_yes fun _=>pv_op2 (pv_var rfl) (pv_lst (pa_1 (pv_var rfl))) (p2_addLI (xs := way) (ys := [k]) (e := en) il_l (show ItL A2 (D.lst (([k]:List Int).map en)) [k] en from il_l) (Sz.of (by simp; omega)))) fun m hm=>?_⟩
  have hc3 := hc.new (.lst (((rng (opF g cols way c)).map fun k=>way ++ [k]).map lsI)) hm
  refine ⟨dn,m,_,_,rfl,rfl,hc3.at 0 rfl,hc3.at 1 rfl, ?_, ?_⟩
  ·rw [List.length_map,List.length_map,List.length_map,rng_len]
   exact szk (by omega)
  ·rw [← List.map_append]
   refine hN _ _ ⟨ac ++ (rng (opF g cols way c)).map fun k=>way ++ [k],_,_,_,rfl,(hc3.put 0 rfl _).take 1, ?_, ?_⟩
   ·rw [take_sn hwj,List.flatMap_append,← ea]
    simp
   ·rw [List.length_append,List.length_map,rng_len]
    omega
 ·rintro s A2 ⟨ac,j9,j10,j11,rfl,hc,ea,al⟩
  rw [List.take_length] at ea
  refine nx_sq (u_set (s' := [a0,a1,a2,some (.ref n),zz,some (lsI cols),some (.ref dn),some (.int c),some (.ref dn),j9,j10,j11,none,none,none,none]) (pv_var rfl) rfl ?_)
  refine q dn A2 _ _ _ hc.le ?_
  have := hc.at 0 rfl
  rw [ea] at this
  exact this
end
end Lw
namespace Lw
open PySem PySem.Spec PyProof.Rows L2 Am
open PySem.W (Datum Tup T3 T4)
section
variable {ι:Type} {A A' B:AH} {s s':Sl} {ma mb m:ME} {x y d:D} {Q:QE} {E:QX} {D0:AEnds} {pls:List PlT} {g:Gr} {n:Nat} {c w many:Int} {i:Nat} {P:R_Program}
theorem pv_propW {c:Str} {fs:List (Str × D)} {f:FN} {d:D} (h:Pv m s A x) (hx:insOf A x=some (c,fs)) (hf:Fv f [x] A d):Pv (mProp c f m) s A d := fun Q E q=>h _ _ ⟨⟨fs,hx⟩,hf Q NX q⟩
theorem gfold_in {p:PlT} {c:Int}:∀ {xs:List PlT} {g:Gr},inG c (xs.foldl (fun g q=>gS g p q) g)=true↔inG c g=true
 | [],_=>Iff.rfl
 | x :: xs,g=>by rw [List.foldl_cons,gfold_in (xs := xs),inG_gS]
theorem gfold2_in {c:Int}:∀ {xs:List PlT} {g:Gr},inG c (xs.foldl (fun g p=>pls.foldl (fun g q=>gS g p q) g) g)=true↔inG c g=true
 | [],_=>Iff.rfl
 | x :: xs,g=>by rw [List.foldl_cons,gfold2_in (xs := xs),gfold_in]
theorem gF_in:inG c (gF pls)=true↔∃ p∈pls,p.c=c := by
 unfold gF
 rw [gfold2_in,inG_gI]
theorem clW_len:∀ k:Nat,(clW w k).length=k * (szW w).toNat
 | 0=>by simp [clW]
 | k + 1=>by rw [show clW w (k + 1)=rng (szW w) ++ clW w k from rfl,List.length_append,rng_len,clW_len k,Nat.succ_mul,Nat.add_comm]
theorem wyF_ok {cols:List Int}:∀ {cs:List Int} {i:Nat} {ways:List (List Int)},WyOk i ways→WyOk (i + cs.length) (cs.foldl (wyS g cols) ways)
 | [],i,ways,h=>h
 | c :: cs,i,ways,h=>by
  rw [List.foldl_cons,List.length_cons,show i + (cs.length + 1)=(i + 1) + cs.length by omega]
  exact wyF_ok (wyS_ok h)
theorem wy0_ok:WyOk 0 [[]] := ⟨Nat.le_refl _,fun way h=>by rw [List.mem_singleton.mp h]; rfl,fun way h x hx=>by rw [List.mem_singleton.mp h] at hx; cases hx⟩
theorem wy_len {k:Nat}:WyOk (k * (szW w).toNat) (wyF g (clW w k)) := by
 have h := wyF_ok (g := g) (cols := clW w k) (cs := clW w k) wy0_ok
 rw [clW_len,Nat.zero_add] at h
 exact h
abbrev b_tailP:MS := (mSq (mIfS (mB (mOp (fEq false) (mVar 2) (mC (.int 1)))) (mRet (mLc (mSeq (mVar 6)) (gN 9) mYes (mTup (mCons (mCB fTupOf (mCons (mVar 9) mNil)) mNil)) [9])) mNext)
 (mSq (mSet (mLc (mSeq (mVar 6)) (gN 9) mYes (mTup (mCons (mCB fTupOf (mCons (mSl (mVar 9) mNoPart (mPart (mVar 4))) mNil)) (mCons (mCB fTupOf (mCons (mSl (mVar 9) (mPart (mVar 4)) mNoPart) mNil)) mNil))) [9]) (gN 12))
 (mRet (mLc (mSeq (mVar 12)) (gN 15) (mB (mCall m_meet (mCons (mVar 3) (mCons (mOp fIx (mVar 15) (mC (.int 0))) (mCons (mOp fIx (mVar 15) (mC (.int 1))) mNil))))) (mVar 15) [15]))))
theorem t_plo {k:Nat} (hk:k≤2) (hz:pls.length≤2) (hw:0≤w∧w≤4) (q:∀ gn wn A2 j7 j8 j9 j10 j11,Les A A2→A2 gn=some (.dK ((gF pls).map (eD kI en)))→A2 wn=some (.lst ((wyF (gF pls) (clW w k)).map lsI))→b_tailP (fnE Q E) [some (plD pls),some (.int w),some (.int (k:Int)),some (.ref gn),some (.int (szW w)),some (lsI (clW w k)),some (.ref wn),j7,j8,j9,j10,j11,none,none,none,none] A2):m_plain_lists_of [plD pls, .int w, .int (k:Int)] A Q E := by
 refine fn_in (s := [some (plD pls),some (.int w),some (.int (k:Int)),none,none,none,none,none,none,none,none,none,none,none,none,none]) ?_ rfl rfl
 refine s_sq (u_setE ((pa_1 (pv_var rfl)) _ _ (w_cg hz fun gn A2 hle hg=>?_)))
 refine at_n (s' := [some (plD pls),some (.int w),some (.int (k:Int)),some (.ref gn),none,none,none,none,none,none,none,none,none,none,none,none]) rfl (nx_sq ?_)
 refine s_sq (u_set (s' := [some (plD pls),some (.int w),some (.int (k:Int)),some (.ref gn),some (.int (szW w)),none,none,none,none,none,none,none,none,none,none,none]) ((pv_cbB (pa_2 pv_c (pv_var rfl)) (fun Q q=>pb_max2 q)).is (by rw [max_is]; rfl)) rfl (nx_sq ?_))
 have s1:1≤szW w∧szW w≤4 := by unfold szW; omega
 refine s_sq (u_set (s' := [some (plD pls),some (.int w),some (.int (k:Int)),some (.ref gn),some (.int (szW w)),some (lsI (clW w k)),none,none,none,none,none,none,none,none,none,none]) ((pv_op2 (pv_lstRg1 (pv_var rfl) ⟨by omega,by omega,by omega,by omega,by omega⟩) (pv_var rfl) (p2_repL (i := (k:Int)) rfl (by omega) (by omega) (by rw [List.length_map,rng_len,Int.toNat_natCast]; exact Nat.le_trans (Nat.mul_le_mul (show (szW w).toNat≤4 by omega) hk) (by decide)))).is (by rw [Int.toNat_natCast,rep_cl])) rfl (nx_sq ?_))
 refine s_sq (u_setE ((pa_1 (pv_lst pa_nil')) _ _ ⟨sz (by simp),fun wn hwn=>?_⟩))
 have hc1:Cells A2 [[(wn, .lst (([[]]:List (List Int)).map lsI))]] (put A2 wn (.lst [.lst []])) := Cells.nil_.new _ hwn
 show (sqE _ _).nx _ (put A2 wn (.lst [.lst []]))
 generalize put A2 wn (.lst [.lst []])=A3 at hc1 ⊢
 refine at_n (s' := [some (plD pls),some (.int w),some (.int (k:Int)),some (.ref gn),some (.int (szW w)),some (lsI (clW w k)),some (.ref wn),none,none,none,none,none,none,none,none,none]) rfl (nx_sq (s_sq ?_))
 have cl:(clW w k).length≤8 := by rw [clW_len]; exact Nat.le_trans (Nat.mul_le_mul hk (show (szW w).toNat≤4 by omega)) (by decide)
 refine u_for (xs := clW w k) (e := en) (mi_seq (pv_var rfl) it_l) (Wb := True) fun ck hck hP=>?_
 refine for_xs (xs := clW w k) (fun i s A'=>∃ (ways:List (List Int)) (wn:Nat) (j7 j8 j9 j10 j11:Option D),s=[some (plD pls),some (.int w),some (.int (k:Int)),some (.ref gn),some (.int (szW w)),some (lsI (clW w k)),some (.ref wn),j7,j8,j9,j10,j11,none,none,none,none]∧Les A2 A'∧A' wn=some (.lst (ways.map lsI))∧ways=((clW w k).take i).foldl (wyS (gF pls) (clW w k)) [[]]∧WyOk i ways) ⟨[[]],wn,_,_,_,_,_,rfl,hc1.le,hc1.at 0 rfl,rfl,wy0_ok⟩ (fun _ _ A' _=>hP A' fun m e=>nomatch e) ?_ ?_
 ·clear hc1 hwn wn
  rintro i c s A4 N hci ⟨ways,wn,j7,j8,j9,j10,j11,rfl,hle4,hw4,ew,ok⟩ hN
  have hi:i < 8 := Nat.lt_of_lt_of_le (List.getElem?_eq_some_iff.mp hci).1 cl
  refine u_gN (s' := [some (plD pls),some (.int w),some (.int (k:Int)),some (.ref gn),some (.int (szW w)),some (lsI (clW w k)),some (.ref wn),some (.int c),j8,j9,j10,j11,none,none,none,none]) rfl ?_
  refine w_wider (hle4 _ _ hg) hw4 ok hi fun dn A5 j9 j10 j11 hle5 hd5=>?_
  refine hN _ _ ⟨_,dn,_,_,_,_,_,rfl,hle4.trans hle5,hd5, ?_,wyS_ok ok⟩
  rw [foldl_sn hci ew]
 ·rintro s A4 ⟨ways,wn,j7,j8,j9,j10,j11,rfl,hle4,hw4,ew,ok⟩
  rw [List.take_length] at ew
  refine nx_sq (q gn wn A4 j7 j8 j9 j10 j11 (hle.trans hle4) (hle4 _ _ hg) ?_)
  rw [hw4,ew]
  rfl
theorem fv_plo1 (hz:pls.length≤2) (hw:0≤w∧w≤4):Fv m_plain_lists_of [plD pls, .int w, .int 1] A (.lst ((pl1 (gF pls) w).map twI)) := fun Q E q=>by
 refine t_plo (k := 1) (by decide) hz hw fun gn wn A2 j7 j8 j9 j10 j11 hle hg hwn=>?_
 have ok := (wy_len (g := gF pls) (w := w) (k := 1))
 have s4:(szW w).toNat≤4 := by unfold szW; omega
 have wz:(wyF (gF pls) (clW w 1)).length≤40320 := Nat.le_trans ok.z (fac_b _ (by omega))
 refine s_sq (s_ifT (Pt.is (pt_b (pv_op2 (pv_var rfl) pv_c (q2_eq (a := (1:Int)) (b := (1:Int)) (ue_r rfl) (ue_r rfl) (by decide)))) (by decide)) ?_)
 refine u_ret (v_lcM (xs := wyF (gF pls) (clW w 1)) (e := lsI) (g := fun x=>([⟨x⟩]:List (Tup Int))) (e' := twI) (s' := [some (plD pls),some (.int w),some (.int ((1:Nat):Int)),some (.ref gn),some (.int (szW w)),some (lsI (clW w 1)),some (.ref wn),j7,j8,none,j10,j11,none,none,none,none]) (mi_seq (pv_var rfl) (it_n hwn)) rfl (szk (by omega)) fun a ha=>lcb (s' := [some (plD pls),some (.int w),some (.int ((1:Nat):Int)),some (.ref gn),some (.int (szW w)),some (lsI (clW w 1)),some (.ref wn),j7,j8,some (lsI a),j10,j11,none,none,none,none]) (tg_n rfl) pt_yes fun _=>(pv_tup (pa_1 (pv_cbB (pa_1 (pv_var rfl)) (pb_tupI (xs := a) (e := en) il_l)))).is (by show D.tup [.tup _]=D.tup [en (⟨a⟩:Tup Int)]; rw [en_tup])) ⟨A,hle,q⟩
theorem pl2_is {g:Gr} {e2:List Int × List Int→D} (he:∀ p,e2 p=twI [⟨p.1⟩,⟨p.2⟩]):((((wyF g (clW w 2)).map fun x=>(x.take (szW w).toNat,x.drop (szW w).toNat)).filter fun p=>mtF g p.1 p.2).map e2)=(pl2 g w).map twI := by
 unfold pl2
 generalize ((wyF g (clW w 2)).map fun x=>(x.take (szW w).toNat,x.drop (szW w).toNat))=xs
 induction xs with
 | nil=>rfl
 | cons x xs ih =>
  rw [List.filter_cons,List.filterMap_cons]
  by_cases h:mtF g x.1 x.2=true
  ·rw [if_pos h,if_pos h,List.map_cons,ih,he]
   rfl
  ·rw [if_neg h,if_neg h,ih]
theorem fv_plo2 (hz:pls.length≤2) (hw:0≤w∧w≤4) (hc:∀ p∈pls,0≤p.c∧p.c < w):Fv m_plain_lists_of [plD pls, .int w, .int 2] A (.lst ((pl2 (gF pls) w).map twI)) := fun Q E q=>by
 refine t_plo (k := 2) (by decide) hz hw fun gn wn A2 j7 j8 j9 j10 j11 hle hg hwn=>?_
 have ok := (wy_len (g := gF pls) (w := w) (k := 2))
 have s4:(szW w).toNat≤4∧0≤szW w∧w≤szW w := by unfold szW; omega
 have wz:(wyF (gF pls) (clW w 2)).length≤40320 := Nat.le_trans ok.z (fac_b _ (by omega))
 refine s_sq (s_ifF (Pt.is (pt_b (pv_op2 (pv_var rfl) pv_c (q2_eq (a := (2:Int)) (b := (1:Int)) (ue_r rfl) (ue_r rfl) (by decide)))) (by decide)) (nx_sq ?_))
 refine s_sq (u_set (s' := [some (plD pls),some (.int w),some (.int ((2:Nat):Int)),some (.ref gn),some (.int (szW w)),some (lsI (clW w 2)),some (.ref wn),j7,j8,j9,j10,j11,some (.lst (((wyF (gF pls) (clW w 2)).map fun x=>(x.take (szW w).toNat,x.drop (szW w).toNat)).map fun p=>D.tup [tupI p.1,tupI p.2])),none,none,none]) (v_lcM (xs := wyF (gF pls) (clW w 2)) (e := lsI) (g := fun x=>(x.take (szW w).toNat,x.drop (szW w).toNat)) (e' := fun p:List Int × List Int=>D.tup [tupI p.1,tupI p.2]) (s' := [some (plD pls),some (.int w),some (.int ((2:Nat):Int)),some (.ref gn),some (.int (szW w)),some (lsI (clW w 2)),some (.ref wn),j7,j8,none,j10,j11,none,none,none,none]) (mi_seq (pv_var rfl) (it_n hwn)) rfl (szk (by omega)) fun a ha=>lcb (s' := [some (plD pls),some (.int w),some (.int ((2:Nat):Int)),some (.ref gn),some (.int (szW w)),some (lsI (clW w 2)),some (.ref wn),j7,j8,some (lsI a),j10,j11,none,none,none,none]) (tg_n rfl) pt_yes fun _=>pv_tup (pa_2 ((pv_cbB (pa_1 (pv_slG (xs := a) (e := en) (pv_var rfl) po_no (po_so (pv_var rfl)) il_l)) (pb_tupI il_l)).is (by rw [cutL_to s4.2.1])) ((pv_cbB (pa_1 (pv_slG (xs := a) (e := en) (pv_var rfl) (po_so (pv_var rfl)) po_no il_l)) (pb_tupI il_l)).is (by rw [cutL_from s4.2.1])))) rfl (nx_sq ?_))
 have key := v_lcF (mi := mSeq (mVar 12)) (tg := gN 15) (t := mB (mCall m_meet (mCons (mVar 3) (mCons (mOp fIx (mVar 15) (mC (.int 0))) (mCons (mOp fIx (mVar 15) (mC (.int 1))) mNil))))) (te := mVar 15) (vs := [15]) (A := A2) (s := [some (plD pls),some (.int w),some (.int ((2:Nat):Int)),some (.ref gn),some (.int (szW w)),some (lsI (clW w 2)),some (.ref wn),j7,j8,j9,j10,j11,some (.lst (((wyF (gF pls) (clW w 2)).map fun x=>(x.take (szW w).toNat,x.drop (szW w).toNat)).map fun p=>D.tup [tupI p.1,tupI p.2])),none,none,none]) (s' := [some (plD pls),some (.int w),some (.int ((2:Nat):Int)),some (.ref gn),some (.int (szW w)),some (lsI (clW w 2)),some (.ref wn),j7,j8,j9,j10,j11,some (.lst (((wyF (gF pls) (clW w 2)).map fun x=>(x.take (szW w).toNat,x.drop (szW w).toNat)).map fun p=>D.tup [tupI p.1,tupI p.2])),none,none,none]) (xs := (wyF (gF pls) (clW w 2)).map fun x=>(x.take (szW w).toNat,x.drop (szW w).toNat)) (e := fun p=>D.tup [tupI p.1,tupI p.2]) (p := fun p=>mtF (gF pls) p.1 p.2) (mi_seq (pv_var rfl) it_l) rfl (szk (by rw [List.length_map]; omega)) fun p hp=>by
  obtain ⟨a,ha,e⟩ := List.mem_map.mp hp
  have al := ok.l a ha
  have hin:∀ c∈gK (gF pls),0≤c∧c < szW w := fun c hcm=>by
   obtain ⟨p,hp,e⟩ := gF_in.mp (inG_iff.mpr hcm)
   have := hc p hp
   omega
  refine lcb (s' := [some (plD pls),some (.int w),some (.int ((2:Nat):Int)),some (.ref gn),some (.int (szW w)),some (lsI (clW w 2)),some (.ref wn),j7,j8,j9,j10,j11,some (.lst (((wyF (gF pls) (clW w 2)).map fun x=>(x.take (szW w).toNat,x.drop (szW w).toNat)).map fun p=>D.tup [tupI p.1,tupI p.2])),none,none,some (D.tup [tupI p.1,tupI p.2])]) (tg_n rfl) (pt_b (pv_call (pa_3 (pv_var rfl) (pv_op2 (pv_var rfl) pv_c fun Q q=>⟨[tupI p.1,tupI p.2],0,_,rfl,rfl,rfl,q⟩) (pv_op2 (pv_var rfl) pv_c fun Q q=>⟨[tupI p.1,tupI p.2],1,_,rfl,rfl,rfl,q⟩)) (fv_meet hg (fun c hcm=>?_) (fun c hcm=>?_) (Nat.le_trans gF_ok.z hz)))) fun _=>pv_var rfl
  ·have := hin c hcm
   rw [← e]
   show 0≤c∧c < ((a.take (szW w).toNat).length:Int)
   rw [List.length_take]
   omega
  ·have := hin c hcm
   rw [← e]
   show 0≤c∧c < ((a.drop (szW w).toNat).length:Int)
   rw [List.length_drop]
   omega
 refine u_ret (key.is ?_) ⟨A,hle,q⟩
 rw [pl2_is fun p=>?_]
 show D.tup [tupI p.1,tupI p.2]=D.tup [en (⟨p.1⟩:Tup Int),en (⟨p.2⟩:Tup Int)]
 rw [en_tup,en_tup]
abbrev wNames:List Str := ["kept","let","clear","full","again","order","eager"]
def nmW (ns:List Str):List Str := wNames.filter fun z=>eqB z ("kept":Str) || inB z ns
abbrev wiD (ns:List Str):D := .ins "Wishes" [("names", .tup ((nmW ns).map en))]
def wB (ns:List Str):Bool := inB ("again":Str) (nmW ns) || (inB ("order":Str) (nmW ns) || inB ("eager":Str) (nmW ns))
theorem fv_wish {a:Str} {r:List Str} (h:∀ z∈a :: r,inB z wNames=true) (hr:r.length≤6):Fv m_Wishes_of (.str a :: r.map en) A (wiD (a :: r)) := fun Q E q=>by
 refine ⟨by simp,by simp; exact sz (by omega), ?_⟩
 show mFn (1 + 1) 3 b_Wishes_of [.str a, .tup (r.map en)] A Q E
 refine fn_in (s := [some (.str a),some (.tup (r.map en)),none]) ?_ rfl rfl
 have hl:∀ {s:Sl} {A:AH},s[0]? = some (some (.str a))→s[1]? = some (some (.tup (r.map en)))→Pv (mLst (mCons (mVar 0) (mStar (mVar 1) mNil))) s A (.lst ((a :: r).map en)) := fun h0 h1=>pv_lst (pa_consI (z := a) (e := en) (pv_var h0) (pa_starN (xs := r) (e := en) (pv_var h1) it_t)) (by rw [List.length_map,List.length_cons]; exact sz (by omega))
 refine s_sq (u_for (xs := a :: r) (e := en) (mi_seq (hl rfl rfl) it_l) (Wb := True) fun ck hck hP=>?_)
 refine for_xs (xs := a :: r) (fun i s A'=>∃ (j2:Option D),s=[some (.str a),some (.tup (r.map en)),j2]∧A' = A) ⟨_,rfl,rfl⟩ (fun _ _ A' ⟨_,_,e⟩=>by rw [e]; exact hck) ?_ ?_
 ·rintro i z s A' N hz ⟨j2,rfl,rfl⟩ hN
  refine u_gN (s' := [some (.str a),some (.tup (r.map en)),some (.str z)]) rfl ?_
  exact s_ifF (Pt.is (pt_b (pv_op2 (pv_var rfl) pv_c (q2_nin (a := z) (xs := wNames) (ue_r rfl) rfl (by decide)))) (by rw [h z (List.mem_of_getElem? hz)]; rfl)) (hN _ _ ⟨_,rfl,rfl⟩)
 rintro s A' ⟨j2,rfl,rfl⟩
 refine nx_sq (u_retE (w_makeD (pa_1 (hl rfl rfl)) fun m hm=>?_))
 have hc:Cells A' [[(m,(Nd.ins "Wishes" ([]:List (Str × D))))]] (put A' m (.ins "Wishes" [])) := Cells.nil_.new _ hm
 generalize put A' m (.ins "Wishes" [])=A1 at hc ⊢
 refine fn_in (s := [some (D.ref m),some (.lst ((a :: r).map en)),none]) ?_ rfl rfl
 have lc:Pv (mLc (mSeq (mC (.ktup [(.str "kept"),(.str "let"),(.str "clear"),(.str "full"),(.str "again"),(.str "order"),(.str "eager")]))) (gN 2) (mOr (mB (mOp (fEq false) (mVar 2) (mC (.str "kept")))) (mB (mOp (fIn false) (mVar 2) (mVar 1)))) (mVar 2) [2]) [some (D.ref m),some (.lst ((a :: r).map en)),none] A1 (.lst ((nmW (a :: r)).map en)) :=
  v_lcF (xs := wNames) (e := en) (p := fun z=>eqB z ("kept":Str) || inB z (a :: r)) (mi := mSeq (mC (.ktup [(.str "kept"),(.str "let"),(.str "clear"),(.str "full"),(.str "again"),(.str "order"),(.str "eager")]))) (tg := gN 2) (t := mOr (mB (mOp (fEq false) (mVar 2) (mC (.str "kept")))) (mB (mOp (fIn false) (mVar 2) (mVar 1)))) (te := mVar 2) (vs := [2]) (A := A1) (s := [some (D.ref m),some (.lst ((a :: r).map en)),none]) (mi_seq pv_c rfl) rfl (szk (by show 7≤_; decide)) fun z hz=>lcb (tg_n rfl) (pt_or (pt_b (pv_op2 (pv_var rfl) pv_c (q2_eq (a := z) (b := ("kept":Str)) (ue_r rfl) (ue_r rfl) (by decide)))) fun _=>pt_b (pv_op2 (pv_var rfl) (pv_var rfl) (q2_in (a := z) (xs := a :: r) (ue_r rfl) (ItS.sq it_l) (by decide)))) fun _=>pv_var rfl
 refine u_sfldS ?_
 refine Pv.wp ?_ (pv_cbB (pa_1 lc) (pb_tupI il_l))
 refine Pv.wp ?_ (pv_var rfl)
 refine u_sfld1 (fs' := ([(("names":Str), .tup ((nmW (a :: r)).map en))]:List (Str × D))) (hc.at 0 rfl) (by simp) (Nat.le_of_ble_eq_true rfl) rfl ?_
 replace hc := hc.put 0 rfl (Nd.ins "Wishes" ([(("names":Str), .tup ((nmW (a :: r)).map en))]:List (Str × D)))
 generalize put A1 m (Nd.ins "Wishes" ([(("names":Str), .tup ((nmW (a :: r)).map en))]:List (Str × D)))=A2 at hc ⊢
 replace hc:Cells A' [[(m,(Nd.ins "Wishes" ([(("names":Str), .tup ((nmW (a :: r)).map en))]:List (Str × D))))]] A2 := hc
 refine u_nxi ?_
 refine frz_ins (hc.at 0 rfl) ?_
 replace hc := hc.cut 0 rfl
 generalize rem A2 m=A3 at hc ⊢
 refine frzL_cons ?_
 refine frz_tre (fun n e=>by cases e) ?_
 refine frzL_nil ?_
 exact ⟨_,hc.le,q⟩
theorem fv_wcont {ns:List Str} {z:Str}:Fv m_Wishes_contains [wiD ns, .str z] A (.bl (inB z (nmW ns))) := fv_in (s := [some (wiD ns),some (.str z)]) (fun Q E q=>u_ret (pv_op2 (pv_var rfl) (pv_fld (c := ("Wishes":Str)) (fs := [("names", .tup ((nmW ns).map en))]) (pv_var rfl) rfl (by simp) rfl) (q2_in (a := z) (xs := nmW ns) (ue_r rfl) (ItS.sq it_t) (by decide))) ⟨_,Les.refl,q⟩) rfl rfl
abbrev lwI (l:List (Tup Int)):D := .lst (l.map en)
def plL (pls:List PlT) (w:Int) (b:Bool):List (List (Tup Int)) := if b=true then pl1 (gF pls) w ++ pl2 (gF pls) w else pl1 (gF pls) w
theorem fv_plain {ns:List Str} (ok:PrgOk P) (hz:(placedF P).length≤2) (hw:0≤widthF P∧widthF P≤4) (hc:∀ p∈placedF P,0≤p.c∧p.c < widthF P):Fv m_plain_lists [enc_Program P,wiD ns] A (.lst ((plL (placedF P) (widthF P) (wB ns)).map lwI)) := by
 refine fv_in (s := [some (enc_Program P),some (wiD ns),none,none]) (fun Q E q=>?_) rfl rfl
 have l1:(pl1 (gF (placedF P)) (widthF P)).length≤40320 := by
  unfold pl1
  rw [List.length_map]
  exact Nat.le_trans wy_len.z (fac_b _ (by unfold szW; omega))
 have l2:(pl2 (gF (placedF P)) (widthF P)).length≤40320 := by
  unfold pl2
  refine Nat.le_trans (List.length_filterMap_le _ _) ?_
  rw [List.length_map]
  exact Nat.le_trans wy_len.z (fac_b _ (by unfold szW; omega))
 refine s_sq (u_set (s' := [some (enc_Program P),some (wiD ns),some (.lst ((pl1 (gF (placedF P)) (widthF P)).map twI)),none]) (pv_call (pa_3 (pv_propW (pv_var rfl) ins_prg (fv_placed ok)) (pv_propW (pv_var rfl) ins_prg (fv_width ok)) pv_c) (fv_plo1 hz hw)) rfl (nx_sq (s_sq ?_)))
 have tail:∀ A:AH,Q (.lst ((plL (placedF P) (widthF P) (wB ns)).map lwI)) A→(mRet (mLc (mSeq (mVar 2)) (gN 3) mYes (mCB fList (mCons (mVar 3) mNil)) [3])) (fnE Q E) [some (enc_Program P),some (wiD ns),some (.lst ((plL (placedF P) (widthF P) (wB ns)).map twI)),none] A := fun A q=>u_ret ((v_lcM (xs := plL (placedF P) (widthF P) (wB ns)) (e := twI) (g := fun x=>x) (e' := lwI) (s' := [some (enc_Program P),some (wiD ns),some (.lst ((plL (placedF P) (widthF P) (wB ns)).map twI)),none]) (mi_seq (pv_var rfl) it_l) rfl (szk (by unfold plL; split; rw [List.length_append]; omega; omega)) fun a ha=>lcb (s' := [some (enc_Program P),some (wiD ns),some (.lst ((plL (placedF P) (widthF P) (wB ns)).map twI)),some (twI a)]) (tg_n rfl) pt_yes fun _=>pv_cbB (pa_1 (pv_var rfl)) (pb_listI (xs := a) (e := en) it_t)).is (by rw [List.map_id'])) ⟨A,Les.refl,q⟩
 refine u_if (b := wB ns) (W1 := True) (W2 := True) (pt_or (pt_b (pv_ownIn (neg := false) pv_c (pv_var rfl) rfl fv_wcont)) fun _=>pt_or (pt_b (pv_ownIn (neg := false) pv_c (pv_var rfl) rfl fv_wcont)) fun _=>pt_b (pv_ownIn (neg := false) pv_c (pv_var rfl) rfl fv_wcont)) (by split <;> trivial) (fun hb _=>?_) (fun hb _=>?_)
 ·refine u_set (s' := [some (enc_Program P),some (wiD ns),some (.lst ((plL (placedF P) (widthF P) (wB ns)).map twI)),none]) ((pv_op2 (pv_var rfl) (pv_call (pa_3 (pv_propW (pv_var rfl) ins_prg (fv_placed ok)) (pv_propW (pv_var rfl) ins_prg (fv_width ok)) pv_c) (fv_plo2 hz hw hc)) (p2_addLI (xs := pl1 (gF (placedF P)) (widthF P)) (ys := pl2 (gF (placedF P)) (widthF P)) (e := twI) il_l il_l (Sz.of (by omega)))).is (by unfold plL; rw [if_pos hb])) rfl (nx_sq (tail _ q))
 ·refine t_next (nx_sq ?_)
  have h := tail A q
  rw [show plL (placedF P) (widthF P) (wB ns)=pl1 (gF (placedF P)) (widthF P) by unfold plL; rw [if_neg (by rw [hb]; decide)]] at h
  exact h
end
end Lw
namespace Lw
open PySem PySem.Spec PyProof.Rows L2 Am
open PySem.W (Datum Tup T3 T4)
section
variable {p q p' q':PlT} {g L:Gr} {f:Int→Int} {S:List Int}
theorem eqB_sw {α:Type} [DecidableEq α] {a b:α}:eqB a b=eqB b a := by unfold eqB; exact decide_eq_decide.mpr eq_comm
theorem gS_eq (e:eqB p.b q.b=eqB p'.b q'.b) (h1:p.c=p'.c) (h2:q.c=q'.c):gS g p q=gS g p' q' := by unfold gS; rw [e,h1,h2]
theorem lS_eq (e:eqB p.b q.b=eqB p'.b q'.b) (h1:p.c=p'.c) (h2:q.c=q'.c):lS g p q=lS g p' q' := by unfold lS; rw [e,h1,h2]
theorem eqB_rf {α:Type} [DecidableEq α] {a b:α}:eqB a a=eqB b b := by unfold eqB; rw [decide_eq_true rfl,decide_eq_true rfl]
theorem gF_two (e:eqB p.b q.b=eqB p'.b q'.b) (h1:p.c=p'.c) (h2:q.c=q'.c):gF [p,q]=gF [p',q'] := by
 show gS (gS (gS (gS (gI [p,q]) p p) p q) q p) q q=gS (gS (gS (gS (gI [p',q']) p' p') p' q') q' p') q' q'
 have e0:gI [p,q]=gI [p',q'] := by
  show putA (putA [] p.c p.c) q.c q.c=putA (putA [] p'.c p'.c) q'.c q'.c
  rw [h1,h2]
 rw [e0,gS_eq eqB_rf h1 h1,gS_eq e h1 h2,gS_eq (eqB_sw.trans (e.trans eqB_sw)) h2 h1,gS_eq eqB_rf h2 h2]
theorem gF_one (h1:p.c=p'.c):gF [p]=gF [p'] := by
 show gS (gI [p]) p p=gS (gI [p']) p' p'
 have e0:gI [p]=gI [p'] := by
  show putA [] p.c p.c=putA [] p'.c p'.c
  rw [h1]
 rw [e0,gS_eq eqB_rf h1 h1]
theorem lR_two (e:eqB p.b q.b=eqB p'.b q'.b) (h1:p.c=p'.c) (h2:q.c=q'.c):lR [p,q] g=lR [p',q'] g := by
 show lS (lS (lS (lS g p p) p q) q p) q q=lS (lS (lS (lS g p' p') p' q') q' p') q' q'
 rw [lS_eq eqB_rf h1 h1,lS_eq e h1 h2,lS_eq (eqB_sw.trans (e.trans eqB_sw)) h2 h1,lS_eq eqB_rf h2 h2]
theorem lR_one (h1:p.c=p'.c):lR [p] g=lR [p'] g := by
 show lS g p p=lS g p' p'
 rw [lS_eq eqB_rf h1 h1]
theorem lF_cg {a b:List PlT} (hI:lI a=lI b) (hR:∀ g,lR a g=lR b g):lF a=lF b := by
 unfold lF
 rw [hI,show (fun g (_:Int)=>lR a g)=fun g _=>lR b g from funext fun g=>funext fun _=>hR g]
theorem lF_two (e:eqB p.b q.b=eqB p'.b q'.b) (h1:p.c=p'.c) (h2:q.c=q'.c):lF [p,q]=lF [p',q'] := lF_cg (by
 show putA (putA [] p.c p.c) q.c q.c=putA (putA [] p'.c p'.c) q'.c q'.c
 rw [h1,h2]) fun _=>lR_two e h1 h2
theorem lF_one (h1:p.c=p'.c):lF [p]=lF [p'] := lF_cg (by
 show putA [] p.c p.c=putA [] p'.c p'.c
 rw [h1]) fun _=>lR_one h1
def cnR (L:Gr) (f:Int→Int) (row:List Int):List Int := (enu row).map fun p=>if inG p.1 L=true then f p.2 else 0
theorem enu_at {α:Type} {xs:List α} {i:Nat}:(enu xs)[i]? = (xs[i]?).map fun x=>((i:Int),x) := by
 unfold enu
 rw [List.getElem?_map,List.getElem?_zipIdx,Option.map_map]
 cases xs[i]? with
 | none=>rfl
 | some x=>show some _=some _; rw [Nat.zero_add]; rfl
theorem cnR_at {row:List Int} {i:Nat}:(cnR L f row)[i]? = (row[i]?).map fun x=>if inG (i:Int) L=true then f x else 0 := by
 unfold cnR
 rw [List.getElem?_map,enu_at,Option.map_map]
 rfl
theorem enu_cnR {row:List Int}:enu (cnR L f row)=(enu row).map fun p=>(p.1,if inG p.1 L=true then f p.2 else 0) := by
 refine List.ext_getElem? fun i=>?_
 rw [enu_at,cnR_at,List.getElem?_map,enu_at,Option.map_map,Option.map_map]
 rfl
def mpK (f:Int→Int) (K:List (Int × List Int)):List (Int × List Int) := K.map fun p=>(p.1,p.2.map f)
theorem valA_mpK {K:List (Int × List Int)} {k:Int}:valA (mpK f K) k=(valA K k).map (List.map f) := by
 unfold valA mpK
 rw [List.find?_map,Option.map_map,Option.map_map]
 rfl
theorem putA_mpK {K:List (Int × List Int)} {k:Int} {l:List Int}:putA (mpK f K) k (l.map f)=mpK f (putA K k l) := by
 unfold putA mpK
 rw [List.any_map]
 by_cases h:(K.any fun p=>decide (p.1=k))=true
 ·rw [if_pos h,if_pos (show (K.any ((fun p=>decide (p.1=k)) ∘ fun p:Int × List Int=>(p.1,p.2.map f)))=true from h),List.map_map,List.map_map]
  refine List.map_congr_left fun p _=>?_
  show (if p.1=k then (p.1,l.map f) else (p.1,p.2.map f))=_
  show _=((if p.1=k then (p.1,l) else p).1,(if p.1=k then (p.1,l) else p).2.map f)
  split <;> rfl
 ·rw [if_neg h,if_neg (show ¬(K.any ((fun p=>decide (p.1=k)) ∘ fun p:Int × List Int=>(p.1,p.2.map f)))=true from h),List.map_append]
  rfl
theorem findIdx_ren {x:Int}:∀ {l:List Int},(∀ y∈l,f y=f x→y=x)→(l.map f).findIdx (fun y=>decide (y=f x))=l.findIdx fun y=>decide (y=x)
 | [],_=>rfl
 | y :: l,h=>by
  rw [List.map_cons,List.findIdx_cons,List.findIdx_cons,findIdx_ren fun z hz=>h z (List.mem_cons_of_mem _ hz)]
  have:decide (f y=f x)=decide (y=x) := decide_eq_decide.mpr ⟨h y (List.mem_cons_self ..),fun e=>by rw [e]⟩
  rw [this]
theorem nmK_ren {K:List (Int × List Int)} {ts:List Int} {p:Int × Int} (inj:∀ x∈S,∀ y∈S,f x=f y→x=y) (hp:inG p.1 L=true→p.2∈S) (hK:∀ k,∀ x∈(valA K k).getD [],x∈S) :
  nmK L (mpK f K,ts) (p.1,if inG p.1 L=true then f p.2 else 0)=(mpK f (nmK L (K,ts) p).1,(nmK L (K,ts) p).2)∧∀ k,∀ x∈(valA (nmK L (K,ts) p).1 k).getD [],x∈S := by
 unfold nmK
 by_cases h:inG p.1 L=true
 ·have eg:(valA (mpK f K) (gV L p.1)).getD []=((valA K (gV L p.1)).getD []).map f := by rw [valA_mpK]; cases valA K (gV L p.1) <;> rfl
  have hx := hp h
  simp only [if_pos h,eg]
  have eb:inB (f p.2) (((valA K (gV L p.1)).getD []).map f)=inB p.2 ((valA K (gV L p.1)).getD []) := by
   unfold inB
   refine decide_eq_decide.mpr ⟨fun hm=>?_,fun hm=>List.mem_map_of_mem hm⟩
   obtain ⟨y,hy,e⟩ := List.mem_map.mp hm
   rw [← inj y (hK _ y hy) _ hx e]
   exact hy
  rw [eb,findIdx_ren fun y hy e=>inj y (hK _ y hy) _ hx e,List.length_map]
  by_cases hb:inB p.2 ((valA K (gV L p.1)).getD [])=true
  ·rw [if_pos hb,if_pos hb]
   exact ⟨rfl,hK⟩
  ·rw [if_neg hb,if_neg hb]
   refine ⟨?_,fun k x hk=>?_⟩
   ·show (putA (mpK f K) (gV L p.1) (((valA K (gV L p.1)).getD []).map f ++ [f p.2]),_)=(mpK f (putA K (gV L p.1) ((valA K (gV L p.1)).getD [] ++ [p.2])),_)
    rw [← putA_mpK,List.map_append]
    rfl
   ·rw [show valA (putA K (gV L p.1) ((valA K (gV L p.1)).getD [] ++ [p.2]),ts ++ [(((valA K (gV L p.1)).getD []).length:Int)]).1 k=valA (putA K (gV L p.1) ((valA K (gV L p.1)).getD [] ++ [p.2])) k from rfl,valA_put] at hk
    split at hk
    ·rcases List.mem_append.mp hk with h1 | h1
     ·exact hK _ x h1
     ·rw [List.mem_singleton.mp h1]; exact hx
    ·exact hK k x hk
 ·simp only [if_neg h]
  exact ⟨trivial,hK⟩
theorem nmR_ren (inj:∀ x∈S,∀ y∈S,f x=f y→x=y):∀ {l:List (Int × Int)} {K:List (Int × List Int)} {ts:List Int},(∀ p∈l,inG p.1 L=true→p.2∈S)→(∀ k,∀ x∈(valA K k).getD [],x∈S) →
  (l.map fun p=>(p.1,if inG p.1 L=true then f p.2 else 0)).foldl (nmK L) (mpK f K,ts)=(mpK f (l.foldl (nmK L) (K,ts)).1,(l.foldl (nmK L) (K,ts)).2)∧∀ k,∀ x∈(valA (l.foldl (nmK L) (K,ts)).1 k).getD [],x∈S
 | [],K,ts,_,hK=>⟨rfl,hK⟩
 | p :: l,K,ts,hp,hK=>by
  obtain ⟨e1,e2⟩ := nmK_ren (ts := ts) inj (hp p (List.mem_cons_self ..)) hK
  rw [List.map_cons,List.foldl_cons,List.foldl_cons,e1]
  exact nmR_ren inj (fun r hr=>hp r (List.mem_cons_of_mem _ hr)) e2
theorem nmI_mp:mpK f (nmI L)=nmI L∧∀ k,(valA (nmI L) k).getD []=[] := by
 unfold nmI
 have:∀ {xs:List Int} {K:List (Int × List Int)},(mpK f K=K∧∀ k,(valA K k).getD []=[])→(mpK f (xs.foldl (fun k c=>putA k (gV L c) []) K)=xs.foldl (fun k c=>putA k (gV L c) []) K∧∀ k,(valA (xs.foldl (fun k c=>putA k (gV L c) []) K) k).getD []=[]) := by
  intro xs
  induction xs with
  | nil=>exact fun h=>h
  | cons x xs ih =>
   intro K h
   refine ih ⟨?_,fun k=>?_⟩
   ·have := putA_mpK (f := f) (K := K) (k := gV L x) (l := [])
    rw [h.1] at this
    exact this.symm
   ·rw [valA_put]
    split
    ·rfl
    ·exact h.2 k
 exact this ⟨rfl,fun _=>rfl⟩
theorem nmF_ren (inj:∀ x∈S,∀ y∈S,f x=f y→x=y) {rows:List (List Int)} (hS:∀ row∈rows,∀ p∈enu row,inG p.1 L=true→p.2∈S):nmF L (rows.map (cnR L f))=nmF L rows := by
 have key:∀ {rows:List (List Int)} {K:List (Int × List Int)} {ys:List (Tup Int)},(∀ row∈rows,∀ p∈enu row,inG p.1 L=true→p.2∈S)→(∀ k,∀ x∈(valA K k).getD [],x∈S)→((rows.map (cnR L f)).foldl (nmR L) (mpK f K,ys)).2=(rows.foldl (nmR L) (K,ys)).2 := by
  intro rows
  induction rows with
  | nil=>exact fun _ _=>rfl
  | cons row rows ih =>
   intro K ys hp hK
   obtain ⟨e1,e2⟩ := nmR_ren (L := L) (f := f) (ts := []) inj (hp row (List.mem_cons_self ..)) hK
   rw [List.map_cons,List.foldl_cons,List.foldl_cons]
   have e3:nmR L (mpK f K,ys) (cnR L f row)=(mpK f ((enu row).foldl (nmK L) (K,[])).1,ys ++ [⟨((enu row).foldl (nmK L) (K,[])).2⟩]) := by
    unfold nmR
    rw [enu_cnR,e1]
   rw [e3]
   exact ih (fun r hr=>hp r (List.mem_cons_of_mem _ hr)) e2
 unfold nmF
 have h := key (K := nmI L) (ys := []) hS fun k x hx=>by rw [(nmI_mp (f := f)).2 k] at hx; cases hx
 rw [nmI_mp.1] at h
 exact h
theorem cnR_ix {row:List Int} {c:Int} (h:0≤c∧c < row.length) (hin:inG c L=true):ixG 0 (cnR L f row) c=f (ixG 0 row c) := by
 unfold ixG
 rw [cnR_at,List.getElem?_eq_getElem (by omega:c.toNat < row.length)]
 show (if inG (c.toNat:Int) L=true then f _ else 0)=_
 rw [show (c.toNat:Int)=c by omega,if_pos hin]
 rfl
theorem any_cgr {α:Type} {a b:α→Bool}:∀ {xs:List α},(∀ x∈xs,a x=b x)→xs.any a=xs.any b
 | [],_=>rfl
 | x :: xs,h=>by rw [List.any_cons,List.any_cons,h x (List.mem_cons_self ..),any_cgr fun y hy=>h y (List.mem_cons_of_mem _ hy)]
theorem lmF_ren {r0 r1:List Int} (inj:∀ x∈S,∀ y∈S,f x=f y→x=y) (hc:∀ c∈gK L,(0≤c∧c < r0.length∧c < r1.length)∧ixG 0 r0 c∈S∧ixG 0 r1 c∈S):lmF L (cnR L f r0) (cnR L f r1)=lmF L r0 r1 := by
 unfold lmF
 refine any_cgr fun c hcm=>any_cgr fun o hom=>?_
 have h1 := hc c hcm
 have h2 := hc o hom
 rw [cnR_ix ⟨h2.1.1,h2.1.2.1⟩ (inG_iff.mpr hom),cnR_ix ⟨h1.1.1,h1.1.2.2⟩ (inG_iff.mpr hcm)]
 have:eqB (f (ixG 0 r0 o)) (f (ixG 0 r1 c))=eqB (ixG 0 r0 o) (ixG 0 r1 c) := decide_eq_decide.mpr ⟨inj _ h2.2.1 _ h1.2.2,fun e=>by rw [e]⟩
 rw [this]
def wdP (pls:List PlT):Int := (pls.map fun x=>x.c + (1:Int)).foldl max 0
def askP (pls:List PlT) (r0 r1:List Int):Bool := decide (cntL (nmF (lF pls) [r0]) (pl1 (gF pls) (wdP pls))=1) && (decide (cntL (nmF (lF pls) [r0]) (pl1 (gF pls) (wdP pls) ++ pl2 (gF pls) (wdP pls))=1) && ((!inB (nmF (lF pls) [r0,r1]) (pl1 (gF pls) (wdP pls))) && decide (cntL (nmF (lF pls) [r0,r1]) (pl1 (gF pls) (wdP pls) ++ pl2 (gF pls) (wdP pls))=if lmF (lF pls) r0 r1=true then 1 else 0)))
def rwC (L:Gr) (n:Int) (v:Int→Int):List Int := (rng n).map fun c=>if inG c L=true then v c else 0
def rpP (k:Str) (c:Int):PlT := ⟨"",k,c⟩
def chk2 (c1 c2:Int) (k:Str) (v1 v2 v3:Int):Bool := askP [rpP "a" c1,rpP k c2] (rwC (lF [rpP "a" c1,rpP k c2]) (szW (wdP [rpP "a" c1,rpP k c2])) fun c=>if c=c1 then 0 else v1) (rwC (lF [rpP "a" c1,rpP k c2]) (szW (wdP [rpP "a" c1,rpP k c2])) fun c=>if c=c1 then v2 else v3)
def all2 (c1:Int):Bool := (rng 4).all fun c2=>([("a":Str),"b"]:List Str).all fun k=>(rng 2).all fun v1=>(rng 3).all fun v2=>(rng 4).all fun v3=>chk2 c1 c2 k v1 v2 v3
def chk1 (c1:Int) (v2:Int):Bool := askP [rpP "a" c1] (rwC (lF [rpP "a" c1]) (szW (wdP [rpP "a" c1])) fun _=>0) (rwC (lF [rpP "a" c1]) (szW (wdP [rpP "a" c1])) fun _=>v2)
def all1:Bool := (rng 4).all fun c1=>(rng 2).all fun v2=>chk1 c1 v2
theorem all1_ok:all1=true := by decide +kernel
theorem all2_0:all2 0=true := by decide +kernel
theorem all2_1:all2 1=true := by decide +kernel
theorem all2_2:all2 2=true := by decide +kernel
theorem all2_3:all2 3=true := by decide +kernel
theorem rng_in {i j:Int} (h:0≤i∧i < j):i∈rng j := List.mem_map.mpr ⟨i.toNat,List.mem_range.mpr (by omega),by show ((i.toNat:Nat):Int)=i; omega⟩
theorem all2_of {c1 c2 v1 v2 v3:Int} {k:Str} (h1:0≤c1∧c1 < 4) (h2:0≤c2∧c2 < 4) (hk:k = "a" ∨ k = "b") (b1:0≤v1∧v1 < 2) (b2:0≤v2∧v2 < 3) (b3:0≤v3∧v3 < 4):chk2 c1 c2 k v1 v2 v3=true := by
 have h:all2 c1=true := by
  rcases (by omega:c1=0∨c1=1∨c1=2∨c1=3) with e | e | e | e
  ·rw [e]; exact all2_0
  ·rw [e]; exact all2_1
  ·rw [e]; exact all2_2
  ·rw [e]; exact all2_3
 have a1 := List.all_eq_true.mp h c2 (rng_in h2)
 have a2 := List.all_eq_true.mp a1 k (by rcases hk with e | e <;> rw [e] <;> simp)
 have a3 := List.all_eq_true.mp a2 v1 (rng_in b1)
 have a4 := List.all_eq_true.mp a3 v2 (rng_in b2)
 exact List.all_eq_true.mp a4 v3 (rng_in b3)
theorem all1_of {c1 v2:Int} (h1:0≤c1∧c1 < 4) (b2:0≤v2∧v2 < 2):chk1 c1 v2=true := List.all_eq_true.mp (List.all_eq_true.mp all1_ok c1 (rng_in h1)) v2 (rng_in b2)
def fI (ks:List Int) (x:Int):Int := (ks.findIdx fun y=>decide (y=x):Nat)
theorem fI_inj {ks:List Int}:∀ x∈ks,∀ y∈ks,fI ks x=fI ks y→x=y := by
 intro x hx y hy e
 have lx:ks.findIdx (fun z=>decide (z=x)) < ks.length := List.findIdx_lt_length_of_exists ⟨x,hx,decide_eq_true rfl⟩
 have ly:ks.findIdx (fun z=>decide (z=y)) < ks.length := List.findIdx_lt_length_of_exists ⟨y,hy,decide_eq_true rfl⟩
 have e1:ks[ks.findIdx (fun z=>decide (z=x))]=x := by have := List.findIdx_getElem (w := lx) (p := fun z=>decide (z=x)); exact of_decide_eq_true this
 have e2:ks[ks.findIdx (fun z=>decide (z=y))]=y := by have := List.findIdx_getElem (w := ly) (p := fun z=>decide (z=y)); exact of_decide_eq_true this
 have e3:ks.findIdx (fun z=>decide (z=x))=ks.findIdx (fun z=>decide (z=y)) := by unfold fI at e; omega
 rw [← e1,← e2]
 congr 1
theorem fI_le {ks:List Int} {i:Nat} {x:Int} (h:ks[i]? = some x):0≤fI ks x∧fI ks x≤i := by
 unfold fI
 refine ⟨by omega, ?_⟩
 have:ks.findIdx (fun z=>decide (z=x))≤i := by
  refine Nat.le_of_not_lt fun hlt=>?_
  have h1 := List.not_of_lt_findIdx hlt
  obtain ⟨h2,h3⟩ := List.getElem?_eq_some_iff.mp h
  rw [h3,decide_eq_true rfl] at h1
  cases h1
 omega
theorem cnR_rwC {row:List Int} {n:Int} {v:Int→Int} (hn:(row.length:Int)=n) (h:∀ c,inG c L=true→v c=f (ixG 0 row c)):cnR L f row=rwC L n v := by
 refine List.ext_getElem? fun i=>?_
 unfold rwC rng
 rw [cnR_at,List.getElem?_map,List.getElem?_map,show n.toNat=row.length by omega,Option.map_map]
 by_cases hi:i < row.length
 ·rw [List.getElem?_range hi,List.getElem?_eq_getElem hi]
  show some (if inG (i:Int) L=true then f _ else 0)=some (if inG (i:Int) L=true then v i else 0)
  by_cases h2:inG (i:Int) L=true
  ·rw [if_pos h2,if_pos h2,h _ h2]
   unfold ixG
   rw [Int.toNat_natCast,List.getElem?_eq_getElem hi]
   rfl
  ·rw [if_neg h2,if_neg h2]
 ·rw [List.getElem?_eq_none (by omega),List.getElem?_eq_none (by rw [List.length_range]; omega)]
  rfl
theorem ask_ren {pls:List PlT} {r0 r1:List Int} {n:Int} (hS:∀ row∈[r0,r1],∀ p∈enu row,inG p.1 (lF pls)=true→p.2∈S) (inj:∀ x∈S,∀ y∈S,f x=f y→x=y) (hc:∀ c∈gK (lF pls),(0≤c∧c < r0.length∧c < r1.length)∧ixG 0 r0 c∈S∧ixG 0 r1 c∈S):askP pls (cnR (lF pls) f r0) (cnR (lF pls) f r1)=askP pls r0 r1 := by
 unfold askP
 have e1 := nmF_ren (L := lF pls) (f := f) (rows := [r0]) inj fun row hr=>hS row (by rw [List.mem_singleton.mp hr]; exact List.mem_cons_self ..)
 have e2 := nmF_ren (L := lF pls) (f := f) (rows := [r0,r1]) inj hS
 rw [List.map_cons,List.map_nil] at e1
 rw [List.map_cons,List.map_cons,List.map_nil] at e2
 rw [e1,e2,lmF_ren inj hc]
theorem lS_in {c:Int} (hp:inG p.c g=true) (hq:inG q.c g=true):inG c (lS g p q)=true↔inG c g=true := by
 unfold lS
 split
 ·constructor
  ·intro h
   rcases putA_is.mp h with e | h
   ·rw [e]; exact hq
   ·rcases putA_is.mp h with e | h
    ·rw [e]; exact hp
    ·exact h
  ·exact fun h=>putA_is.mpr (.inr (putA_is.mpr (.inr h)))
 ·exact Iff.rfl
theorem lF_in {pls:List PlT} {c:Int}:inG c (lF pls)=true↔∃ p∈pls,p.c=c := by
 have s1:∀ {xs:List PlT} {g:Gr} {p:PlT},p∈pls→(∀ x∈xs,x∈pls)→(∀ x∈pls,inG x.c g=true)→((∀ c,inG c (xs.foldl (fun g q=>lS g p q) g)=true↔inG c g=true)) := by
  intro xs
  induction xs with
  | nil=>exact fun _ _ _ c=>Iff.rfl
  | cons x xs ih =>
   intro g p hp hx hg c
   have h1:∀ c,inG c (lS g p x)=true↔inG c g=true := fun c=>lS_in (hg p hp) (hg x (hx x (List.mem_cons_self ..)))
   rw [List.foldl_cons,ih hp (fun y hy=>hx y (List.mem_cons_of_mem _ hy)) (fun y hy=>(h1 _).mpr (hg y hy)) c,h1]
 have s2:∀ {xs:List PlT} {g:Gr},(∀ x∈xs,x∈pls)→(∀ x∈pls,inG x.c g=true)→((∀ c,inG c (xs.foldl (fun g p=>pls.foldl (fun g q=>lS g p q) g) g)=true↔inG c g=true)) := by
  intro xs
  induction xs with
  | nil=>exact fun _ _ c=>Iff.rfl
  | cons x xs ih =>
   intro g hx hg c
   have h1 := s1 (hx x (List.mem_cons_self ..)) (fun y hy=>hy) hg
   rw [List.foldl_cons,ih (fun y hy=>hx y (List.mem_cons_of_mem _ hy)) (fun y hy=>(h1 _).mpr (hg y hy)) c,h1]
 have s3:∀ {xs:List Int} {g:Gr},(∀ x∈pls,inG x.c g=true)→(∀ c,inG c (xs.foldl (fun g _=>lR pls g) g)=true↔inG c g=true) := by
  intro xs
  induction xs with
  | nil=>exact fun _ c=>Iff.rfl
  | cons x xs ih =>
   intro g hg c
   have h1:∀ c,inG c (lR pls g)=true↔inG c g=true := s2 (fun y hy=>hy) hg
   rw [List.foldl_cons,ih (fun y hy=>(h1 _).mpr (hg y hy)) c,h1]
 unfold lF
 rw [s3 (fun x hx=>lI_ok.k x hx) c]
 have:lI pls=gI pls := by unfold lI gI dcA; rw [List.filter_eq_self.mpr fun _ _=>rfl]
 rw [this,inG_gI]
theorem wdP_one:wdP [p]=max 0 (p.c + 1) := rfl
theorem wdP_two:wdP [p,q]=max (max 0 (p.c + 1)) (q.c + 1) := rfl
theorem plain_ask {pls:List PlT} {r0 r1:List Int} (hne:pls≠[]) (hz:pls.length≤2) (hc:∀ p∈pls,0≤p.c∧p.c < 4) (h0:(r0.length:Int)=szW (wdP pls)) (h1:(r1.length:Int)=szW (wdP pls)):askP pls r0 r1=true := by
 have hmem:∀ (row:List Int) (p:Int × Int),p∈enu row→ixG 0 row p.1=p.2 := fun row p hp=>by
  obtain ⟨i,hi⟩ := List.mem_iff_getElem?.mp hp
  rw [enu_at] at hi
  obtain ⟨x,hx,e⟩ := Option.map_eq_some_iff.mp hi
  rw [← e]
  unfold ixG
  rw [Int.toNat_natCast,hx]
  rfl
 match pls,hne,hz with
 | [p],_,_ =>
  have hp := hc p (List.mem_cons_self ..)
  have iG:∀ c,inG c (lF [p])=true→c=p.c := fun c h=>by obtain ⟨x,hx,e⟩ := lF_in.mp h; rw [List.mem_singleton.mp hx] at e; exact e.symm
  rw [wdP_one] at h0 h1
  have wd:szW (max 0 (p.c + 1))=p.c + 1 := by unfold szW; omega
  rw [wd] at h0 h1
  have hin:p.c∈gK (lF [p]) := inG_iff.mp (lF_in.mpr ⟨p,List.mem_cons_self ..,rfl⟩)
  rw [← ask_ren (S := [ixG 0 r0 p.c,ixG 0 r1 p.c]) (f := fI [ixG 0 r0 p.c,ixG 0 r1 p.c]) (n := 0) (fun row hr t ht hi=>?_) fI_inj (fun c hcm=>?_)]
  ·rw [cnR_rwC (v := fun _=>0) h0 (fun c hcg=>?_),cnR_rwC (v := fun _=>fI [ixG 0 r0 p.c,ixG 0 r1 p.c] (ixG 0 r1 p.c)) h1 (fun c hcg=>?_)]
   ·have h := all1_of (v2 := fI [ixG 0 r0 p.c,ixG 0 r1 p.c] (ixG 0 r1 p.c)) hp (by have := fI_le (ks := [ixG 0 r0 p.c,ixG 0 r1 p.c]) (i := 1) rfl; omega)
    unfold chk1 at h
    have e1:lF [rpP "a" p.c]=lF [p] := lF_one rfl
    have e2:gF [rpP "a" p.c]=gF [p] := gF_one rfl
    have e3:wdP [rpP "a" p.c]=wdP [p] := rfl
    unfold askP at h ⊢
    rw [e1,e2,e3,wdP_one,wd] at h
    rw [wdP_one]
    exact h
   ·rw [iG c hcg]
   ·rw [iG c hcg]
    have := fI_le (ks := [ixG 0 r0 p.c,ixG 0 r1 p.c]) (i := 0) rfl
    omega
  ·rw [← hmem row t ht,iG _ hi]
   rcases List.mem_cons.mp hr with e | hr
   ·rw [e]; simp
   ·rw [List.mem_singleton.mp hr]; simp
  ·rw [iG c (inG_iff.mpr hcm)]
   exact ⟨by omega,by simp,by simp⟩
 | [p,q],_,_ =>
  have hp := hc p (List.mem_cons_self ..)
  have hq := hc q (List.mem_cons_of_mem _ (List.mem_cons_self ..))
  have iG:∀ c,inG c (lF [p,q])=true→c=p.c∨c=q.c := fun c h=>by
   obtain ⟨x,hx,e⟩ := lF_in.mp h
   rcases List.mem_cons.mp hx with e2 | hx
   ·rw [e2] at e; exact .inl e.symm
   ·rw [List.mem_singleton.mp hx] at e; exact .inr e.symm
  obtain ⟨k,hk,ek⟩:∃ k:Str,(k = "a" ∨ k = "b")∧eqB p.b q.b=eqB ("a":Str) k := by
   by_cases h:p.b=q.b
   ·exact ⟨"a", .inl rfl,by rw [h]; exact eqB_rf⟩
   ·refine ⟨"b", .inr rfl, ?_⟩
    rw [show eqB p.b q.b=false from decide_eq_false h]
    decide +kernel
  obtain ⟨S,hSd⟩:∃ S,S=[ixG 0 r0 p.c,ixG 0 r0 q.c,ixG 0 r1 p.c,ixG 0 r1 q.c] := ⟨_,rfl⟩
  have wd:szW (wdP [p,q])=max (p.c + 1) (q.c + 1) := by rw [wdP_two]; unfold szW; omega
  rw [wd] at h0 h1
  rw [← ask_ren (S := S) (f := fI S) (n := 0) (fun row hr t ht hi=>?_) fI_inj (fun c hcm=>?_)]
  ·rw [cnR_rwC (v := fun c=>if c=p.c then 0 else fI S (ixG 0 r0 q.c)) h0 (fun c hcg=>?_),cnR_rwC (v := fun c=>if c=p.c then fI S (ixG 0 r1 p.c) else fI S (ixG 0 r1 q.c)) h1 (fun c hcg=>?_)]
   ·have h := all2_of (v1 := fI S (ixG 0 r0 q.c)) (v2 := fI S (ixG 0 r1 p.c)) (v3 := fI S (ixG 0 r1 q.c)) hp hq hk (by have := fI_le (ks := S) (i := 1) (x := ixG 0 r0 q.c) (by rw [hSd]; rfl); omega) (by have := fI_le (ks := S) (i := 2) (x := ixG 0 r1 p.c) (by rw [hSd]; rfl); omega) (by have := fI_le (ks := S) (i := 3) (x := ixG 0 r1 q.c) (by rw [hSd]; rfl); omega)
    unfold chk2 at h
    have e1:lF [rpP "a" p.c,rpP k q.c]=lF [p,q] := lF_two ek.symm rfl rfl
    have e2:gF [rpP "a" p.c,rpP k q.c]=gF [p,q] := gF_two ek.symm rfl rfl
    have e3:wdP [rpP "a" p.c,rpP k q.c]=wdP [p,q] := rfl
    unfold askP at h ⊢
    rw [e1,e2,e3,wd] at h
    exact h
   ·split
    ·rename_i e; rw [e]
    ·rename_i e
     rcases iG c hcg with e2 | e2
     ·exact absurd e2 e
     ·rw [e2]
   ·split
    ·rename_i e
     rw [e]
     have := fI_le (ks := S) (i := 0) (x := ixG 0 r0 p.c) (by rw [hSd]; rfl)
     omega
    ·rename_i e
     rcases iG c hcg with e2 | e2
     ·exact absurd e2 e
     ·rw [e2]
  ·rw [← hmem row t ht,hSd]
   rcases List.mem_cons.mp hr with e | hr
   ·rw [e]
    rcases iG _ hi with e2 | e2 <;> rw [e2] <;> simp
   ·rw [List.mem_singleton.mp hr]
    rcases iG _ hi with e2 | e2 <;> rw [e2] <;> simp
  ·rw [hSd]
   rcases iG c (inG_iff.mpr hcm) with e2 | e2 <;> rw [e2] <;> exact ⟨by omega,by simp,by simp⟩
end
end Lw
namespace Lw
open PySem PySem.Spec PyProof.Rows L2 Am
open PySem.W (Datum Tup T3 T4)
section
variable {A:AH} {s:Sl} {ks:List Kd} {ls:List Lk} {ps l known:List Pl} {rs:List Rw} {n:Int} {ma:ME} {Q:QE} {E:QX} {w:KTs}
theorem nd_lenP:∀ {xs ys:List Pl},xs.Nodup→(∀ k∈xs,k∈ys)→xs.length≤ys.length
 | [],_,_,_=>Nat.zero_le _
 | x :: xs,ys,hn,h=>by
  have hx := h x (List.mem_cons_self ..)
  have hn' := List.nodup_cons.mp hn
  have := nd_lenP (xs := xs) (ys := ys.erase x) hn'.2 fun k hk=>(List.mem_erase_of_ne (by intro e; rw [e] at hk; exact hn'.1 hk)).mpr (h k (List.mem_cons_of_mem _ hk))
  rw [List.length_erase_of_mem hx] at this
  have := List.length_pos_of_mem hx
  rw [List.length_cons]; omega
theorem nd_ofmap {α β:Type} {f:α→β}:∀ {xs:List α},(xs.map f).Nodup→xs.Nodup
 | [],_=>.nil
 | x :: xs,h=>by
  rw [List.map_cons,List.nodup_cons] at h
  exact List.nodup_cons.mpr ⟨fun hx=>h.1 (List.mem_map_of_mem hx),nd_ofmap h.2⟩
theorem nextK_ndP {r:Rw} (hk:known.Nodup) (hr:(nmP r.b).Nodup):(nextK known r).Nodup := by
 unfold nextK
 refine List.nodup_append.mpr ⟨hk,((nd_ofmap hr).sublist (List.filter_sublist ..)),fun a ha b hb e=>?_⟩
 have := (List.mem_filter.mp hb).2
 rw [← e,inB_iff.mpr ha] at this
 cases this
theorem due_nd:∀ {rs:List Rw} {n:Int} {known:List Pl},(∀ r∈rs,(nmP r.b).Nodup)→known.Nodup→dueGo ks ls n known rs = .inr l→l.Nodup
 | [],n,known,_,hk,e=>by cases e; exact hk
 | r :: rs,n,known,hr,hk,e=>by
  cases h1:r.b.find? (badP ks known) with
  | some p=>rw [due_p h1] at e; cases e
  | none =>
   cases h2:r.c.find? (badT ls r.b) with
   | some t=>rw [due_t h1 h2] at e; cases e
   | none =>
    rw [due_n h1 h2] at e
    exact due_nd (fun x hx=>hr x (List.mem_cons_of_mem _ hx)) (nextK_ndP hk (hr r (List.mem_cons_self ..))) e
theorem fmx_ge:∀ {xs:List Int} {a k:Int},k≤a∨k∈xs→k≤xs.foldl max a
 | [],a,k,h=>by rcases h with h | h; exact h; cases h
 | x :: xs,a,k,h=>by
  refine fmx_ge (xs := xs) ?_
  rcases h with h | h
  ·exact .inl (by omega)
  ·rcases List.mem_cons.mp h with e | h
   ·exact .inl (by omega)
   ·exact .inr h
theorem wdP_b (hc:∀ p∈l,0≤p.c∧p.c < 4):0≤wdP l∧wdP l≤4∧∀ p∈l,p.c < wdP l := by
 refine ⟨fmx_ge (.inl (Int.le_refl _)), ?_,fun p hp=>?_⟩
 ·refine foldl_mx (by decide) fun x hx=>?_
  obtain ⟨p,hp,e⟩ := List.mem_map.mp hx
  have := hc p hp
  omega
 ·have := fmx_ge (xs := l.map fun x=>x.c + (1:Int)) (a := 0) (k := p.c + 1) (.inr (List.mem_map.mpr ⟨p,hp,rfl⟩))
  show p.c < (l.map fun x=>x.c + (1:Int)).foldl max 0
  omega
theorem w_mkSch (g:Sch ks ls) {mb:ME} (h1:Pv ma s A (.lst (ks.map en))) (h2:Pv mb s A (.lst (ls.map en))) (q:∀ A2,Les A A2→Q (enc_Schema (mkSch ks ls)) A2):mMakeD "Schema" m_Schema_init (mCons ma (mCons mb mNil)) s A Q E := by
 refine w_makeD (pa_2 h1 h2) ?_
 refine c_Schema_init il_l il_l (Q0 := fun r=>r=mkSch ks ls) (E0 := fun _=>False) (spec_init g rfl) ?_ fun _ h=>h.elim
 intro r2 A2 e2 hle
 subst e2
 exact q A2 hle
theorem w_mkEmpty (g:Sch ks ls) (h:Pv ma s A (enc_Schema (mkSch ks ls))) (q:∀ A2,Les A A2→Q (enc_Program (pg ks ls [] ⟨true,[]⟩)) A2):mMakeD "Program" m_Program_init_dflt (mCons ma (mCons (mLst mNil) mNil)) s A Q E := by
 refine w_makeD (pa_2 h (pv_lst pa_nil')) ?_
 intro m hm
 exact c_Program_init_dflt (show ItL A (.lst (([]:List R_Statement).map enc_Statement)) [] enc_Statement from il_l) (Q0 := fun r=>r=pg ks ls [] ⟨true,[]⟩) (E0 := fun _=>False) (chk_inr (rs := []) (l := []) g (by decide) (fun _ h=>nomatch h) rfl rfl) (fun r A' er hle=>by subst er; exact q A' hle) (fun _ h=>h.elim) m hm
def rwD (r:Rw):D := .tup [.str r.a, .lst (r.b.map en), .lst (r.c.map en)]
theorem en_rw (r:Rw):en r=rwD r := by
 show D.tup [en r.a,en r.b,en r.c]=_
 rw [en_list,en_list]
 rfl
theorem lw_en:(fun l:List (Tup Int)=>lwI l)=en := funext fun l=>(en_list l).symm
theorem fv_plainE {P:R_Program} {ns:List Str} (ok:PrgOk P) (hz:(placedF P).length≤2) (hw:0≤widthF P∧widthF P≤4) (hc:∀ p∈placedF P,0≤p.c∧p.c < widthF P):Fv m_plain_lists [enc_Program P,wiD ns] A (.lst ((plL (placedF P) (widthF P) (wB ns)).map en)) := by
 have := fv_plain (A := A) (ns := ns) ok hz hw hc
 rw [show (plL (placedF P) (widthF P) (wB ns)).map lwI=(plL (placedF P) (widthF P) (wB ns)).map en from by rw [← lw_en]] at this
 exact this
theorem plL_nil {b:Bool}:plL [] 0 b=[[⟨[0]⟩]] := by cases b <;> decide +kernel
theorem fv_plain0 {ns:List Str} (g:Sch ks ls):Fv m_plain_lists [enc_Program (pg ks ls [] ⟨true,[]⟩),wiD ns] A (.lst (([[⟨[0]⟩]]:List (List (Tup Int))).map en)) := by
 have h := fv_plainE (A := A) (ns := ns) (P := pg ks ls [] ⟨true,[]⟩) (pg_ok g (fun _ h=>nomatch h) (by decide)) (show (0:Nat)≤2 by decide) (show (0:Int)≤0∧(0:Int)≤4 by decide) (fun p hp=>by cases (show p∈([]:List Pl) from hp))
 have e1:placedF (pg ks ls [] ⟨true,[]⟩)=[] := rfl
 have e2:widthF (pg ks ls [] ⟨true,[]⟩)=0 := rfl
 rw [e1,e2,plL_nil] at h
 exact h
end
end Lw
namespace Lw
open PySem PySem.Spec PyProof.Rows L2 Am
open PySem.W (Datum Tup T3 T4)
theorem law_body {ns:List Int} (hns:ns.length≤63):b_law lawE ([some (.scr ns)] ++ List.replicate (20 - 1) none) (fun _=>none) := by
 refine at_s (s' := [some (.scr ns),none,none,none,none,none,none,none,none,none,none,none,none,none,none,none,none,none,none,none]) rfl ?_
 refine s_sq (u_setE (w_poolA hns (pa_1 (pv_var rfl)) fun n0 hn=>?_))
 have hp:put (fun _=>none) n0 .pool n0=some .pool := put_same
 generalize put (fun _=>none) n0 .pool=A0 at hp ⊢
 refine at_n (s' := [some (.scr ns),some (.ref n0),none,none,none,none,none,none,none,none,none,none,none,none,none,none,none,none,none,none]) rfl (nx_sq (s_sq ?_))
 refine u_for (xs := rng 2) (e := en) (mi_rng (pv_c) (by decide)) (Wb := True) fun ck hck hP=>?_
 refine for_xs (xs := rng 2) (fun i s A=>∃ (j2 j3 j4 j5 j6 j7 j8 j9 j10 j11 j12 j13 j14 j15 j16:Option D),s=[some (.scr ns),some (.ref n0),j2,j3,j4,j5,j6,j7,j8,j9,j10,j11,j12,j13,j14,j15,j16,none,none,none]∧A n0=some .pool) ⟨_,_,_,_,_,_,_,_,_,_,_,_,_,_,_,rfl,hp⟩ (fun _ _ A' _=>hP A' True.intro) ?_ ?_
 ·rintro i t s A N ht ⟨j2,j3,j4,j5,j6,j7,j8,j9,j10,j11,j12,j13,j14,j15,j16,rfl,hp⟩ hN
  refine u_gN (s' := [some (.scr ns),some (.ref n0),some (.int t),j3,j4,j5,j6,j7,j8,j9,j10,j11,j12,j13,j14,j15,j16,none,none,none]) rfl ?_
  refine s_sq (u_setGE (w_callW ?_ (pa_2 (pv_var rfl) pv_c)))
  refine c_law_schema hp (Q0 := fun r=>Sch r.1 r.2) (E0 := fun _=>False) (spec_schema (by decide) fun ks ls g=>g) ?_ fun _ h=>h.elim
  rintro ⟨ks,ls⟩ g
  dsimp only at g ⊢
  have k4 := g.k4
  have l6 := g.l6
  have lnd := (List.nodup_append.mp g.nd).2.1
  refine ⟨[(D.lst (List.map en ks)),(D.lst (List.map en ls))], .inl rfl,rfl,_,_,rfl,_,_,rfl,rfl, ?_⟩
  refine at_n (s' := [some (.scr ns),some (.ref n0),some (.int t),some (.lst (ks.map en)),some (.lst (ls.map en)),j5,j6,j7,j8,j9,j10,j11,j12,j13,j14,j15,j16,none,none,none]) rfl (nx_sq (s_sq ?_))
  refine u_setE (w_mkSch g (pv_var rfl) (pv_var rfl) fun A2 l2=>?_)
  have hp2 := l2 _ _ hp
  refine at_n (s' := [some (.scr ns),some (.ref n0),some (.int t),some (.lst (ks.map en)),some (.lst (ls.map en)),some (enc_Schema (mkSch ks ls)),j6,j7,j8,j9,j10,j11,j12,j13,j14,j15,j16,none,none,none]) rfl (nx_sq (s_sq ?_))
  refine u_setE (w_callX (w_consX (Pv.wp (w_consX (Pv.wp (w_consX (w_callW ?_ (pa_cons' (pv_var rfl) (pa_3 (pv_var rfl) pv_c pv_c)))) (pv_var rfl))) (pv_var rfl))))
  refine c_law_few hp2 il_l (Q0 := fun ps=>PlG ps∧ps.length≤2∧∀ p∈ps,p.b∈ks.map (·.a)) (E0 := fun _=>False) (spec_few g fun ps a b c=>⟨a,b,c⟩) ?_ fun _ h=>h.elim
  rintro ps ⟨gp,p2,hk⟩
  refine w_consX (Pv.wp (w_nilX ?_) pv_c)
  refine c_law_statements hp2 il_l il_l (Q0 := fun rs=>rs≠[]∧rs.length≤4∧∀ r∈rs,RG ls ps r) (E0 := fun _=>False) (spec_statements (fun l hl=>(g.lw l hl).1) lnd l6 (by decide) gp fun rs a b c=>⟨a,b,c⟩) ?_ fun _ h=>h.elim
  rintro rs0 ⟨rne,rl,hR0⟩
  obtain ⟨rs,ers⟩:∃ rs,rs=rs0.map fun r:Rw=>(⟨r.a,r.b,r.c.take 3⟩:Rw) := ⟨_,rfl⟩
  have hR:∀ r∈rs,RG ls ps r := fun r hr=>by
   rw [ers] at hr
   obtain ⟨r0,h0,rfl⟩ := List.mem_map.mp hr
   exact rg_take (hR0 r0 h0) 3
  have rl2:rs.length≤4 := by rw [ers,List.length_map]; exact rl
  have rne2:rs≠[] := by rw [ers]; exact fun e=>rne (List.map_eq_nil_iff.mp e)
  obtain ⟨l,du,hl1,_,hl3⟩ := due_good (n := 0) (known := []) gp hk hR (fun _ h=>nomatch h)
  have hrw:∀ r∈rs,RwG 6 (ls.map (·.a)) r := fun r hr=>(hR r hr).g _
  obtain ⟨P,eP⟩:∃ P,P=pg ks ls rs ⟨true,[]⟩ := ⟨_,rfl⟩
  have po:PrgOk P := by rw [eP]; exact pg_ok g hrw (by omega)
  have plc:placedF P=l := by rw [eP]; exact (due_placed (fun r hr2=>((hR r hr2).g []).nd) du).symm
  have wid:widthF P=wdP l := by rw [eP]; exact wid_is hR du
  have lnd2:l.Nodup := due_nd (fun r hr=>((hR r hr).g []).nd) .nil du
  have lz:l.length≤2 := Nat.le_trans (nd_lenP lnd2 hl1) p2
  have hcl:∀ p∈l,0≤p.c∧p.c < 4 := fun p hpl=>by
   have := gp.ok p (hl1 p hpl)
   unfold oP at this
   omega
  have lne:l≠[] := by
   obtain ⟨r,hr⟩ := List.exists_mem_of_ne_nil rs rne2
   obtain ⟨p,hpr⟩ := List.exists_mem_of_ne_nil r.b ((hR r hr).g []).ne
   exact fun e=>by have := hl3 r hr p hpr; rw [e] at this; cases this
  obtain ⟨w0,w4,wc⟩ := wdP_b hcl
  refine at_n (s' := [some (.scr ns),some (.ref n0),some (.int t),some (.lst (ks.map en)),some (.lst (ls.map en)),some (enc_Schema (mkSch ks ls)),some (.lst (rs0.map en)),j7,j8,j9,j10,j11,j12,j13,j14,j15,j16,none,none,none]) rfl (nx_sq (s_sq ?_))
  have lc:Pv (mLc (mSeq (mVar 6)) (gTp 3 (gCs (gN 17) (gCs (gN 18) (gCs (gN 19) gNl)))) mYes (mTup (mCons (mVar 17) (mCons (mVar 18) (mCons (mSl (mVar 19) mNoPart (mPart (mC (.int 3)))) mNil)))) [17,18,19]) [some (.scr ns),some (.ref n0),some (.int t),some (.lst (ks.map en)),some (.lst (ls.map en)),some (enc_Schema (mkSch ks ls)),some (.lst (rs0.map en)),j7,j8,j9,j10,j11,j12,j13,j14,j15,j16,none,none,none] A2 (.lst (rs.map en)) :=
   (v_lcM (xs := rs0) (e := en) (g := fun r:Rw=>(⟨r.a,r.b,r.c.take 3⟩:Rw)) (e' := en) (mi_seq (pv_var rfl) it_l) rfl (szk (by omega)) fun r hr=>lcb (s' := [some (.scr ns),some (.ref n0),some (.int t),some (.lst (ks.map en)),some (.lst (ls.map en)),some (enc_Schema (mkSch ks ls)),some (.lst (rs0.map en)),j7,j8,j9,j10,j11,j12,j13,j14,j15,j16,some (.str r.a),some (.lst (r.b.map en)),some (.lst (r.c.map en))]) (fun _ _ h=>⟨[.str r.a, .lst (r.b.map en), .lst (r.c.map en)], .inl (en_rw r),rfl,_,_,rfl,_,_,rfl,_,_,rfl,rfl,h⟩) pt_yes fun _=>(pv_tup (ds := [.str r.a, .lst (r.b.map en), .lst ((r.c.take 3).map en)]) (pa_3 (pv_var rfl) (pv_var rfl) ((pv_slG (xs := r.c) (e := en) (pv_var rfl) po_no (po_so pv_c) il_l).is (by rw [cutL_to (by decide)]; rfl)))).is (en_rw (⟨r.a,r.b,r.c.take 3⟩:Rw)).symm).is (by rw [ers])
  refine u_set (s' := [some (.scr ns),some (.ref n0),some (.int t),some (.lst (ks.map en)),some (.lst (ls.map en)),some (enc_Schema (mkSch ks ls)),some (.lst (rs0.map en)),some (enc_Program P),j8,j9,j10,j11,j12,j13,j14,j15,j16,none,none,none]) (pv_call (pa_2 (pv_var rfl) lc) (by rw [eP]; exact fv_lawprog g hrw (by omega) du)) rfl (nx_sq (s_sq ?_))
  clear lc
  refine u_setE ((pa_1 (pv_propI (pv_var rfl) ins_prg (fv_placed po))) _ _ (by
   rw [plc]
   refine w_lg lz fun gn A3 hc=>?_
   have hp3 := hc.le _ _ hp2
   have hg3 := hc.at 0 rfl
   clear hc
   refine at_n (s' := [some (.scr ns),some (.ref n0),some (.int t),some (.lst (ks.map en)),some (.lst (ls.map en)),some (enc_Schema (mkSch ks ls)),some (.lst (rs0.map en)),some (enc_Program P),some (.ref gn),j9,j10,j11,j12,j13,j14,j15,j16,none,none,none]) rfl (nx_sq (s_sq ?_))
   refine u_setE (w_callW ?_ (pa_1 (pv_var rfl)))
   refine c_law_keys hp3 (Q0 := fun xs=>1≤xs.length∧xs.length≤4) (E0 := fun _=>False) (spec_keys fun xs a b=>⟨a,b⟩) ?_ fun _ h=>h.elim
   intro keys hkeys
   refine at_n (s' := [some (.scr ns),some (.ref n0),some (.int t),some (.lst (ks.map en)),some (.lst (ls.map en)),some (enc_Schema (mkSch ks ls)),some (.lst (rs0.map en)),some (enc_Program P),some (.ref gn),some (.lst (keys.map en)),j10,j11,j12,j13,j14,j15,j16,none,none,none]) rfl (nx_sq (s_sq ?_))
   have plain:∀ {A:AH} {nz:List Str},Fv m_plain_lists [enc_Program P,wiD nz] A (.lst ((plL l (wdP l) (wB nz)).map en)) := fun {A nz}=>by
    have h := fv_plainE (A := A) (ns := nz) po (by rw [plc]; exact lz) (by rw [wid]; exact ⟨w0,w4⟩) (by rw [plc,wid]; exact fun p hp=>⟨(hcl p hp).1,wc p hp⟩)
    rw [plc,wid] at h
    exact h
   refine u_set (s' := [some (.scr ns),some (.ref n0),some (.int t),some (.lst (ks.map en)),some (.lst (ls.map en)),some (enc_Schema (mkSch ks ls)),some (.lst (rs0.map en)),some (enc_Program P),some (.ref gn),some (.lst (keys.map en)),some (.lst ((plL l (wdP l) false).map en)),j11,j12,j13,j14,j15,j16,none,none,none]) (pv_call (pa_2 (pv_var rfl) (pv_call (pa_2 pv_c pv_c) (fv_wish (a := "kept") (r := ["full"]) (by decide +kernel) (by decide)))) plain) rfl (nx_sq (s_sq ?_))
   refine u_setE (w_opW (Pv.wp (w_drawA (pa_2 (pv_var rfl) pv_c) hp3 (by decide) (by decide) fun dr dr0 dr1=>P2.wp ?_ (p2_ixG (d0 := ("":Str)) (xs := [("again":Str),"order","eager"]) (e := en) it_l ⟨dr0,dr1⟩)) (pv_lst (pa_3 pv_c pv_c pv_c))))
   obtain ⟨nm,enm⟩:∃ nm,nm=ixG ("":Str) [("again":Str),"order","eager"] dr := ⟨_,rfl⟩
   have hnm:nm = "again" ∨ nm = "order" ∨ nm = "eager" := by
    rcases (by omega:dr=0∨dr=1∨dr=2) with e | e | e <;> rw [enm,e]
    ·exact .inl rfl
    ·exact .inr (.inl rfl)
    ·exact .inr (.inr rfl)
   rw [← enm]
   have hin:∀ z∈nm :: ([]:List Str),inB z wNames=true := fun z hz=>by
    rw [List.mem_singleton.mp hz]
    rcases hnm with e | e | e <;> rw [e] <;> decide +kernel
   have hwb:wB [nm]=true := by rcases hnm with e | e | e <;> rw [e] <;> decide +kernel
   refine at_n (s' := [some (.scr ns),some (.ref n0),some (.int t),some (.lst (ks.map en)),some (.lst (ls.map en)),some (enc_Schema (mkSch ks ls)),some (.lst (rs0.map en)),some (enc_Program P),some (.ref gn),some (.lst (keys.map en)),some (.lst ((plL l (wdP l) false).map en)),some (.str nm),j12,j13,j14,j15,j16,none,none,none]) rfl (nx_sq (s_sq ?_))
   refine u_set (s' := [some (.scr ns),some (.ref n0),some (.int t),some (.lst (ks.map en)),some (.lst (ls.map en)),some (enc_Schema (mkSch ks ls)),some (.lst (rs0.map en)),some (enc_Program P),some (.ref gn),some (.lst (keys.map en)),some (.lst ((plL l (wdP l) false).map en)),some (.str nm),some (.lst ((plL l (wdP l) true).map en)),j13,j14,j15,j16,none,none,none]) (pv_call (pa_2 (pv_var rfl) (pv_call (pa_1 (pv_var rfl)) (fv_wish (a := nm) (r := []) hin (by decide)))) (by rw [← hwb]; exact plain)) rfl (nx_sq (s_sq ?_))
   have lgk:∀ c∈gK (lF l),0≤c∧c < szW (wdP l) := fun c hc=>by
    obtain ⟨p,hpl,e⟩ := lF_in.mp (inG_iff.mpr hc)
    have := hcl p hpl
    have := wc p hpl
    unfold szW
    omega
   have hz1:(plL l (wdP l) false).length≤100000∧(plL l (wdP l) true).length≤100000 := by
    have a1:(pl1 (gF l) (wdP l)).length≤40320 := by
     unfold pl1
     rw [List.length_map]
     exact Nat.le_trans wy_len.z (fac_b _ (by unfold szW; omega))
    have a2:(pl2 (gF l) (wdP l)).length≤40320 := by
     unfold pl2
     refine Nat.le_trans (List.length_filterMap_le _ _) ?_
     rw [List.length_map]
     exact Nat.le_trans wy_len.z (fac_b _ (by unfold szW; omega))
    refine ⟨?_, ?_⟩
    ·show (pl1 (gF l) (wdP l)).length≤_
     omega
    ·show (pl1 (gF l) (wdP l) ++ pl2 (gF l) (wdP l)).length≤_
     rw [List.length_append]
     omega
   refine u_for (xs := rng (3 + (if (!ns.isEmpty)=true then 1 else 0))) (e := en) (mi_rng (pv_op2 pv_c (pv_cbB (pa_1 (pv_op2 (pv_var rfl) (pv_lst (ds := []) pa_nil') p2_neS)) pb_intB) p2_addI) (by split <;> decide)) (Wb := True) fun ck2 hck2 hP2=>?_
   refine for_xs (xs := rng (3 + (if (!ns.isEmpty)=true then 1 else 0))) (fun i s A=>∃ (j13 j14 j15 j16:Option D),s=[some (.scr ns),some (.ref n0),some (.int t),some (.lst (ks.map en)),some (.lst (ls.map en)),some (enc_Schema (mkSch ks ls)),some (.lst (rs0.map en)),some (enc_Program P),some (.ref gn),some (.lst (keys.map en)),some (.lst ((plL l (wdP l) false).map en)),some (.str nm),some (.lst ((plL l (wdP l) true).map en)),j13,j14,j15,j16,none,none,none]∧A=A3) ⟨_,_,_,_,rfl,rfl⟩ (fun _ _ A' _=>hP2 A' True.intro) ?_ ?_
   ·rintro i3 i2 s A4 N4 hi2 ⟨j13,j14,j15,j16,rfl,rfl⟩ hN4
    refine u_gN (s' := [some (.scr ns),some (.ref n0),some (.int t),some (.lst (ks.map en)),some (.lst (ls.map en)),some (enc_Schema (mkSch ks ls)),some (.lst (rs0.map en)),some (enc_Program P),some (.ref gn),some (.lst (keys.map en)),some (.lst ((plL l (wdP l) false).map en)),some (.str nm),some (.lst ((plL l (wdP l) true).map en)),some (.int i2),j14,j15,j16,none,none,none]) rfl ?_
    refine s_sq (u_setE (w_callW ?_ (pa_cons' (pv_var rfl) (pa_3 (pv_var rfl) (pv_propI (pv_var rfl) ins_prg (fv_width po)) pv_c))))
    rw [wid]
    refine c_law_rows hp3 il_l (Q0 := fun rows=>rows.length=(2:Int).toNat∧∀ r∈rows,(r.items.length:Int)=if wdP l > 1 then wdP l else 1) (E0 := fun _=>False) (spec_rowsW hkeys w4 (by decide) (fun rows a b=>⟨a,b⟩) (by decide)) ?_ fun _ h=>h.elim
    rintro rows ⟨h2,hlen⟩
    obtain ⟨r0,r1,er,z0,z1⟩:∃ r0 r1:List Int,rows.map en=[r0,r1].map tupI∧(r0.length:Int)=szW (wdP l)∧(r1.length:Int)=szW (wdP l) := by
     have sw:(if wdP l > 1 then wdP l else 1)=szW (wdP l) := by unfold szW; split <;> omega
     match rows,h2 with
     | [a,b],_ =>
      refine ⟨a.items,b.items, ?_, ?_, ?_⟩
      ·rw [List.map_cons,List.map_cons,List.map_nil,show en a=en (⟨a.items⟩:Tup Int) from rfl,show en b=en (⟨b.items⟩:Tup Int) from rfl,en_tup,en_tup]
       rfl
      ·rw [hlen a (List.mem_cons_self ..),sw]
      ·rw [hlen b (List.mem_cons_of_mem _ (List.mem_cons_self ..)),sw]
    rw [er]
    refine at_n (s' := [some (.scr ns),some (.ref n0),some (.int t),some (.lst (ks.map en)),some (.lst (ls.map en)),some (enc_Schema (mkSch ks ls)),some (.lst (rs0.map en)),some (enc_Program P),some (.ref gn),some (.lst (keys.map en)),some (.lst ((plL l (wdP l) false).map en)),some (.str nm),some (.lst ((plL l (wdP l) true).map en)),some (.int i2),some (.lst ([r0,r1].map tupI)),j15,j16,none,none,none]) rfl (nx_sq (s_sq ?_))
    have lg2:(lF l).length≤2 := Nat.le_trans lF_ok.z lz
    have s4:szW (wdP l)≤4 := by unfold szW; omega
    refine (pa_2 (pv_call (pa_2 (pv_var rfl) ((pv_slG (xs := [r0,r1]) (e := tupI) (pv_var rfl) po_no (po_so pv_c) il_l).is (by rw [cutL_to (by decide)]; rfl))) (fv_num (rows := [r0]) hg3 lg2 (by decide:(1:Nat)≤2) (fun r hr=>by rw [List.mem_singleton.mp hr]; omega))) (pv_call (pa_2 (pv_var rfl) (pv_var rfl)) (fv_num (rows := [r0,r1]) hg3 lg2 (by decide:(2:Nat)≤2) (fun r hr=>by
     rcases List.mem_cons.mp hr with e | hr
     ·rw [e]; omega
     ·rw [List.mem_singleton.mp hr]; omega)))) _ _ ⟨_,_,rfl, ?_⟩
    refine at_n (s' := [some (.scr ns),some (.ref n0),some (.int t),some (.lst (ks.map en)),some (.lst (ls.map en)),some (enc_Schema (mkSch ks ls)),some (.lst (rs0.map en)),some (enc_Program P),some (.ref gn),some (.lst (keys.map en)),some (.lst ((plL l (wdP l) false).map en)),some (.str nm),some (.lst ((plL l (wdP l) true).map en)),some (.int i2),some (.lst ([r0,r1].map tupI)),some (.lst ((nmF (lF l) [r0]).map en)),some (.lst ((nmF (lF l) [r0,r1]).map en)),none,none,none]) rfl (nx_sq (s_sq ?_))
    have ask := plain_ask lne lz hcl z0 z1
    unfold askP at ask
    rw [Bool.and_eq_true,Bool.and_eq_true,Bool.and_eq_true] at ask
    obtain ⟨a1,a2,a3,a4⟩ := ask
    replace a1:cntL (nmF (lF l) [r0]) (plL l (wdP l) false)=1 := of_decide_eq_true a1
    replace a2:cntL (nmF (lF l) [r0]) (plL l (wdP l) true)=1 := of_decide_eq_true a2
    replace a3:inB (nmF (lF l) [r0,r1]) (plL l (wdP l) false)=false := by
     show inB _ (pl1 (gF l) (wdP l))=false
     cases h:inB (nmF (lF l) [r0,r1]) (pl1 (gF l) (wdP l)) with
     | false=>rfl
     | true=>rw [h] at a3; cases a3
    replace a4:cntL (nmF (lF l) [r0,r1]) (plL l (wdP l) true)=if lmF (lF l) r0 r1=true then 1 else 0 := of_decide_eq_true a4
    refine s_ifF (Pt.is (b := false) (pt_or (a := false) (b := false) (Pt.is (pt_b (pv_op2 (pv_count (a := nmF (lF l) [r0]) (xs := plL l (wdP l) false) (pv_var rfl) il_l (pv_var rfl) (en_list _).symm (by decide)) pv_c (q2_ne (a := ((cntL (nmF (lF l) [r0]) (plL l (wdP l) false):Nat):Int)) (b := (1:Int)) (ue_r rfl) (ue_r rfl) (by decide)))) (by rw [a1]; rfl)) fun _=>Pt.is (pt_or (a := false) (b := false) (Pt.is (pt_b (pv_op2 (pv_count (a := nmF (lF l) [r0]) (xs := plL l (wdP l) true) (pv_var rfl) il_l (pv_var rfl) (en_list _).symm (by decide)) pv_c (q2_ne (a := ((cntL (nmF (lF l) [r0]) (plL l (wdP l) true):Nat):Int)) (b := (1:Int)) (ue_r rfl) (ue_r rfl) (by decide)))) (by rw [a2]; rfl)) fun _=>Pt.is (pt_b (pv_op2 (pv_var rfl) (pv_var rfl) (q2_in (a := nmF (lF l) [r0,r1]) (xs := plL l (wdP l) false) (en_list _).symm (ItS.sq (ItL.toS il_l)) (by decide)))) a3) rfl) rfl) (nx_sq ?_)
    refine s_ifF (Pt.is (b := false) (pt_b (pv_op2 (pv_count (a := nmF (lF l) [r0,r1]) (xs := plL l (wdP l) true) (pv_var rfl) il_l (pv_var rfl) (en_list _).symm (by decide)) (pv_cbB (pa_1 (pv_call (pa_3 (pv_var rfl) (pv_op2 (pv_var rfl) pv_c (p2_ixG (d0 := ([]:List Int)) (xs := [r0,r1]) (e := tupI) it_l ⟨by decide,by show (0:Int) < 2; decide⟩)) (pv_op2 (pv_var rfl) pv_c (p2_ixG (d0 := ([]:List Int)) (xs := [r0,r1]) (e := tupI) it_l ⟨by decide,by show (1:Int) < 2; decide⟩))) (fv_lmeets (r1 := r0) (r2 := r1) hg3 (fun c hc=>by have := lgk c hc; omega) (fun c hc=>by have := lgk c hc; omega)))) pb_intB) (q2_ne (a := ((cntL (nmF (lF l) [r0,r1]) (plL l (wdP l) true):Nat):Int)) (b := (if lmF (lF l) r0 r1=true then (1:Int) else 0)) (ue_r rfl) (ue_r rfl) (by decide)))) (by rw [a4]; split <;> rfl)) (hN4 _ _ ⟨_,_,_,_,rfl,rfl⟩)
   ·rintro s A4 ⟨j13,j14,j15,j16,rfl,rfl⟩
    refine nx_sq ?_
    refine u_ifE ?_
    have e1:cutL (plL l (wdP l) true) none (some ((plL l (wdP l) false).length:Int))=plL l (wdP l) false := by
     rw [cutL_to (by omega),Int.toNat_natCast]
     show (pl1 (gF l) (wdP l) ++ pl2 (gF l) (wdP l)).take (pl1 (gF l) (wdP l)).length=pl1 (gF l) (wdP l)
     exact List.take_left ..
    have c1:Pt (mB (mOp (fEq true) (mSl (mVar 12) mNoPart (mPart (mCB fLen (mCons (mVar 10) mNil)))) (mVar 10))) [some (.scr ns),some (.ref n0),some (.int t),some (.lst (ks.map en)),some (.lst (ls.map en)),some (enc_Schema (mkSch ks ls)),some (.lst (rs0.map en)),some (enc_Program P),some (.ref gn),some (.lst (keys.map en)),some (.lst ((plL l (wdP l) false).map en)),some (.str nm),some (.lst ((plL l (wdP l) true).map en)),j13,j14,j15,j16,none,none,none] A4 false := Pt.is (pt_b (pv_op2 (pv_slG (xs := plL l (wdP l) true) (e := en) (pv_var rfl) po_no (po_so (pv_cbB (pa_1 (pv_var rfl)) (pb_lenI (ItL.toS (il_l (xs := plL l (wdP l) false) (e := en)))))) il_l) (pv_var rfl) (q2_neL (xs := cutL (plL l (wdP l) true) none (some ((plL l (wdP l) false).length:Int))) (ys := plL l (wdP l) false) il_l (il_r rfl) (by decide)))) (by rw [e1,eqB_iff.mpr rfl]; rfl)
    refine c1 _ _ (iteF ?_)
    refine w_mB (w_opW (w_callX (w_consX (w_mkEmpty g (pv_var rfl) fun A5 l5=>w_consX (Pv.wp (w_nilX ?_) (pv_call (pa_1 (pv_var rfl)) (fv_wish (a := nm) (r := []) hin (by decide))))))))
    refine fv_plain0 g _ _ ?_
    refine Pv.wp ?_ ((pv_lst (pa_1 (pv_lst (pa_1 (pv_tup (pa_1 pv_c)))))).is (y := .lst (([[⟨[0]⟩]]:List (List (Tup Int))).map en)) ?_)
    ·refine P2.wp ⟨_,rfl, ?_⟩ (q2_neL (xs := ([[⟨[0]⟩]]:List (List (Tup Int)))) (ys := ([[⟨[0]⟩]]:List (List (Tup Int)))) il_l il_l (by decide))
     rw [eqB_iff.mpr rfl]
     exact iteF (t_next (hN _ _ ⟨_,_,_,_,_,_,_,_,_,_,_,_,_,_,_,rfl,l5 _ _ hp3⟩))
    ·rw [List.map_cons,List.map_nil,en_list,List.map_cons,List.map_nil,en_tup]
     rfl))
 ·rintro s A1 ⟨j2,j3,j4,j5,j6,j7,j8,j9,j10,j11,j12,j13,j14,j15,j16,rfl,hp⟩
  exact nx_sq (u_ret pv_c rfl)
end Lw
namespace Lw
open PySem PySem.Spec PyProof.Rows L2 Am
def sp_law (K:PySem.W.Frag):Sp := fun vs H Q _=>∃ (a:Addr) (ns:List Int),vs=[.ref a]∧SqL K H a (ns.map V.int)∧ns.length≤63∧∀ H',Q (.bl true) H'
theorem pure_law {K:PySem.W.Frag} (H:Hp) (vs:List V) (Q:VK) (E:XK) (h:sp_law K vs H Q E):cS K WF b_law { nx := fun _ H'=>Q .non H',rt := Q } (start N_law vs) H := by
 obtain ⟨a,ns,rfl,hS,hl,q⟩ := h
 exact law_start hS (law_body hl) q
end Lw
namespace Lw
open PySem PySem.Spec PyProof.Rows L2 Fm Am
open PySem.W (Datum Tup T3 T4)
section
variable {P:Program} {w:World} {K:PySem.W.Frag} {mg:Str→Option Value} {base:Heap}
theorem sc_E_BadSchema:SuScope ["self","at"] (defScope s_BadSchema_init) := ⟨rfl,rfl,rfl,by decide +kernel,by decide +kernel,by decide +kernel,by decide +kernel,rfl,rfl⟩
theorem we_E_BadSchema (cda cc:Addr) (A:Around) (outer:List Env) (s:Shared) (H:Hp):PSs (cxS P w K mg base ["self","at"] "BadSchema.__init__" (defScope s_BadSchema_init) (He.ma K (He.ga K "BadSchema") "__init__") cda cc A outer s H) ((defBody s_BadSchema_init).drop 1) (tOst K "at" (tVar 0) (tVar 1)) := (pss_one (ps_ost (pv 0) (pv 1)))
theorem ok_E_BadSchema (hfile : ((P.main.file : Str) == PySem.Challenge.pw_foundormade_k49_each_list_has_its_plain.main.file) = true) (htop : (P.main.scope.names.lookup ("super" : Str)).isSome = false) (T : Txt K mg) : FnR P w K mg base CX0 1 (He.ma K (He.ga K "BadSchema") "__init__") (spE1 (He.ga K "BadSchema") "at") :=
 (err_fn (P := P) (w := w) (base := base) T.e_BadSchema sc_E_BadSchema hfile htop T.z_super rfl rfl rfl (fun _ _ _ _ _ _ _ _ us hl=>match us,hl with | [_,_],_=>rfl) (fun _ _ _=>⟨_,rfl⟩) (fun _ _ _=>rfl) (fun cda cc A outer s H=>we_E_BadSchema cda cc A outer s H)).imp fun vs H Q E h=>by
  obtain ⟨a,v,rfl,h1,h2⟩ := h
  exact ⟨a,[v],rfl,rfl,h1,v,rfl, .ref a,rfl,a,_,rfl,T.e_BadSchema.oex,T.xf_BadSchema_at, .inl ⟨h1,h2⟩⟩
theorem sc_E_Unknown:SuScope ["self","name"] (defScope s_Unknown_init) := ⟨rfl,rfl,rfl,by decide +kernel,by decide +kernel,by decide +kernel,by decide +kernel,rfl,rfl⟩
theorem we_E_Unknown (cda cc:Addr) (A:Around) (outer:List Env) (s:Shared) (H:Hp):PSs (cxS P w K mg base ["self","name"] "Unknown.__init__" (defScope s_Unknown_init) (He.ma K (He.ga K "Unknown") "__init__") cda cc A outer s H) ((defBody s_Unknown_init).drop 1) (tOst K "name" (tVar 0) (tVar 1)) := (pss_one (ps_ost (pv 0) (pv 1)))
theorem ok_E_Unknown (hfile : ((P.main.file : Str) == PySem.Challenge.pw_foundormade_k49_each_list_has_its_plain.main.file) = true) (htop : (P.main.scope.names.lookup ("super" : Str)).isSome = false) (T : Txt K mg) : FnR P w K mg base CX0 1 (He.ma K (He.ga K "Unknown") "__init__") (spE1 (He.ga K "Unknown") "name") :=
 (err_fn (P := P) (w := w) (base := base) T.e_Unknown sc_E_Unknown hfile htop T.z_super rfl rfl rfl (fun _ _ _ _ _ _ _ _ us hl=>match us,hl with | [_,_],_=>rfl) (fun _ _ _=>⟨_,rfl⟩) (fun _ _ _=>rfl) (fun cda cc A outer s H=>we_E_Unknown cda cc A outer s H)).imp fun vs H Q E h=>by
  obtain ⟨a,v,rfl,h1,h2⟩ := h
  exact ⟨a,[v],rfl,rfl,h1,v,rfl, .ref a,rfl,a,_,rfl,T.e_Unknown.oex,T.xf_Unknown_name, .inl ⟨h1,h2⟩⟩
theorem sc_E_BadPattern:SuScope ["self","name"] (defScope s_BadPattern_init) := ⟨rfl,rfl,rfl,by decide +kernel,by decide +kernel,by decide +kernel,by decide +kernel,rfl,rfl⟩
theorem we_E_BadPattern (cda cc:Addr) (A:Around) (outer:List Env) (s:Shared) (H:Hp):PSs (cxS P w K mg base ["self","name"] "BadPattern.__init__" (defScope s_BadPattern_init) (He.ma K (He.ga K "BadPattern") "__init__") cda cc A outer s H) ((defBody s_BadPattern_init).drop 1) (tOst K "name" (tVar 0) (tVar 1)) := (pss_one (ps_ost (pv 0) (pv 1)))
theorem ok_E_BadPattern (hfile : ((P.main.file : Str) == PySem.Challenge.pw_foundormade_k49_each_list_has_its_plain.main.file) = true) (htop : (P.main.scope.names.lookup ("super" : Str)).isSome = false) (T : Txt K mg) : FnR P w K mg base CX0 1 (He.ma K (He.ga K "BadPattern") "__init__") (spE1 (He.ga K "BadPattern") "name") :=
 (err_fn (P := P) (w := w) (base := base) T.e_BadPattern sc_E_BadPattern hfile htop T.z_super rfl rfl rfl (fun _ _ _ _ _ _ _ _ us hl=>match us,hl with | [_,_],_=>rfl) (fun _ _ _=>⟨_,rfl⟩) (fun _ _ _=>rfl) (fun cda cc A outer s H=>we_E_BadPattern cda cc A outer s H)).imp fun vs H Q E h=>by
  obtain ⟨a,v,rfl,h1,h2⟩ := h
  exact ⟨a,[v],rfl,rfl,h1,v,rfl, .ref a,rfl,a,_,rfl,T.e_BadPattern.oex,T.xf_BadPattern_name, .inl ⟨h1,h2⟩⟩
theorem sc_E_Misfit:SuScope ["self","at","part"] (defScope s_Misfit_init) := ⟨rfl,rfl,rfl,by decide +kernel,by decide +kernel,by decide +kernel,by decide +kernel,rfl,rfl⟩
theorem we_E_Misfit (cda cc:Addr) (A:Around) (outer:List Env) (s:Shared) (H:Hp):PSs (cxS P w K mg base ["self","at","part"] "Misfit.__init__" (defScope s_Misfit_init) (He.ma K (He.ga K "Misfit") "__init__") cda cc A outer s H) ((defBody s_Misfit_init).drop 1) (tSeq (tOst K "at" (tVar 0) (tVar 1)) (tOst K "part" (tVar 0) (tVar 2))) := (pss_cons (ps_ost (pv 0) (pv 1)) (pss_one (ps_ost (pv 0) (pv 2))))
theorem ok_E_Misfit (hfile : ((P.main.file : Str) == PySem.Challenge.pw_foundormade_k49_each_list_has_its_plain.main.file) = true) (htop : (P.main.scope.names.lookup ("super" : Str)).isSome = false) (T : Txt K mg) : FnR P w K mg base CX0 1 (He.ma K (He.ga K "Misfit") "__init__") (spE2 (He.ga K "Misfit") "at" "part") :=
 (err_fn (P := P) (w := w) (base := base) T.e_Misfit sc_E_Misfit hfile htop T.z_super rfl rfl rfl (fun _ _ _ _ _ _ _ _ us hl=>match us,hl with | [_,_,_],_=>rfl) (fun _ _ _=>⟨_,rfl⟩) (fun _ _ _=>rfl) (fun cda cc A outer s H=>we_E_Misfit cda cc A outer s H)).imp fun vs H Q E h=>by
  obtain ⟨a,v,u,rfl,h1,h2⟩ := h
  exact ⟨a,[v,u],rfl,rfl,h1,v,rfl, .ref a,rfl,a,_,rfl,T.e_Misfit.oex,T.xf_Misfit_at, .inl ⟨h1,fun dx nd hne=>⟨u,rfl, .ref a,rfl,a,_,rfl,T.e_Misfit.oex,T.xf_Misfit_part, .inr ⟨dx,[(_,v)],upd_same,by rw [upd_ne hne,upd_same],by simp,h2 dx nd hne⟩⟩⟩⟩
theorem ok_is_word (T:Txt K mg):GX P w K mg base 1 (He.ga K "is_word") m_is_word :=
 okX T.d_is_word sc_is_word (wk_is_word T)
theorem ok_clash (T:Txt K mg):GX P w K mg base 1 (He.ga K "clash") m_clash :=
 okX T.d_clash sc_clash (wk_clash T)
theorem ok_Pattern_init (T:Txt K mg):GX P w K mg base 1 (He.ma K (He.ga K "Pattern") "__init__") m_Pattern_init :=
 okX T.d_Pattern_init sc_Pattern_init (wk_Pattern_init T)
theorem ok_Statement_init (T:Txt K mg):GX P w K mg base 1 (He.ma K (He.ga K "Statement") "__init__") m_Statement_init :=
 okX T.d_Statement_init sc_Statement_init (wk_Statement_init T)
theorem ok_Program_placed (T:Txt K mg):GX P w K mg base 1 (propF K (He.ga K "Program") "placed") m_Program_placed :=
 okX T.d_Program_placed sc_Program_placed (wk_Program_placed T)
theorem ok_Wishes_init (T:Txt K mg):GX P w K mg base 1 (He.ma K (He.ga K "Wishes") "__init__") m_Wishes_init :=
 okX T.d_Wishes_init sc_Wishes_init (wk_Wishes_init T)
theorem ok_Wishes_contains (T:Txt K mg):GX P w K mg base 1 (He.ma K (He.ga K "Wishes") "__contains__") m_Wishes_contains :=
 okX T.d_Wishes_contains sc_Wishes_contains (wk_Wishes_contains T)
theorem ok_column_groups (T:Txt K mg):GX P w K mg base 1 (He.ga K "column_groups") m_column_groups :=
 okX T.d_column_groups sc_column_groups (wk_column_groups T)
theorem ok_meet (T:Txt K mg):GX P w K mg base 1 (He.ga K "meet") m_meet :=
 okX T.d_meet sc_meet (wk_meet T)
theorem ok_law_pool (T:Txt K mg):GX P w K mg base 1 (He.ga K "_law_pool") m_law_pool := by
 refine Am.FnR.up (fnR_def T.d_law_pool sc_law_pool (fun vs H Q E h=>len_law_pool h) (fun _ _ _ _ _ _ us hl=>match us,hl with | [_],_=>rfl) (t_law_pool K) (fun cdv A outer s H E hr=>wk_law_pool T cdv A outer s H E hr) (fun H vs Q E h=>pure_law_pool K H vs Q E h))
theorem ok_law_draw (T:Txt K mg):GX P w K mg base 1 (He.ga K "_law_draw") m_law_draw := by
 refine Am.FnR.up (fnR_def T.d_law_draw sc_law_draw (fun vs H Q E h=>len_law_draw h) (fun _ _ _ _ _ _ us hl=>match us,hl with | [_,_],_=>rfl) (t_law_draw K) (fun cdv A outer s H E hr=>wk_law_draw T cdv A outer s H E hr) (fun H vs Q E h=>pure_law_draw K H vs Q E h))
theorem ok_law_groups (T:Txt K mg):GX P w K mg base 1 (He.ga K "_law_groups") m_law_groups :=
 okX T.d_law_groups sc_law_groups (wk_law_groups T)
theorem ok_law_meets (T:Txt K mg):GX P w K mg base 1 (He.ga K "_law_meets") m_law_meets :=
 okX T.d_law_meets sc_law_meets (wk_law_meets T)
theorem ok_law_numbered (T:Txt K mg):GX P w K mg base 1 (He.ga K "_law_numbered") m_law_numbered :=
 okX T.d_law_numbered sc_law_numbered (wk_law_numbered T)
theorem ok_plain_lists_of (T:Txt K mg):GX P w K mg base 2 (He.ga K "plain_lists_of") m_plain_lists_of :=
 okX T.d_plain_lists_of sc_plain_lists_of (wk_plain_lists_of T (ok_column_groups T) (ok_meet T))
theorem ok_law_word (T:Txt K mg):GX P w K mg base 2 (He.ga K "_law_word") m_law_word :=
 okX T.d_law_word sc_law_word (wk_law_word T (ok_law_draw T))
theorem ok_law_keys (T:Txt K mg):GX P w K mg base 2 (He.ga K "_law_keys") m_law_keys :=
 okX T.d_law_keys sc_law_keys (wk_law_keys T (ok_law_draw T))
theorem ok_law_statements (T:Txt K mg):GX P w K mg base 2 (He.ga K "_law_statements") m_law_statements :=
 okX T.d_law_statements sc_law_statements (wk_law_statements T (ok_law_draw T))
theorem ok_law_rows (T:Txt K mg):GX P w K mg base 2 (He.ga K "_law_rows") m_law_rows :=
 okX T.d_law_rows sc_law_rows (wk_law_rows T (ok_law_draw T))
theorem ok_check_names (hfile : ((P.main.file : Str) == PySem.Challenge.pw_foundormade_k49_each_list_has_its_plain.main.file) = true) (htop : (P.main.scope.names.lookup ("super" : Str)).isSome = false) (T : Txt K mg) : GX P w K mg base 3 (He.ga K "check_names") m_check_names :=
 okX T.d_check_names sc_check_names (wk_check_names T (ok_is_word T) (ok_E_BadSchema hfile htop T))
theorem ok_check_owners (hfile : ((P.main.file : Str) == PySem.Challenge.pw_foundormade_k49_each_list_has_its_plain.main.file) = true) (htop : (P.main.scope.names.lookup ("super" : Str)).isSome = false) (T : Txt K mg) : GX P w K mg base 3 (He.ga K "check_owners") m_check_owners :=
 okX T.d_check_owners sc_check_owners (wk_check_owners T (ok_E_BadSchema hfile htop T))
theorem ok_Pattern_place (hfile : ((P.main.file : Str) == PySem.Challenge.pw_foundormade_k49_each_list_has_its_plain.main.file) = true) (htop : (P.main.scope.names.lookup ("super" : Str)).isSome = false) (T : Txt K mg) : GX P w K mg base 3 (He5.wf K (He.ga K "Pattern") "staticmethod" "place") m_Pattern_place :=
 okX T.d_Pattern_place sc_Pattern_place (wk_Pattern_place T (ok_Pattern_init T) (ok_is_word T) (ok_E_BadPattern hfile htop T))
theorem ok_Pattern_or (hfile : ((P.main.file : Str) == PySem.Challenge.pw_foundormade_k49_each_list_has_its_plain.main.file) = true) (htop : (P.main.scope.names.lookup ("super" : Str)).isSome = false) (T : Txt K mg) : GX P w K mg base 3 (He.ma K (He.ga K "Pattern") "__or__") m_Pattern_or :=
 okX T.d_Pattern_or sc_Pattern_or (wk_Pattern_or T (ok_Pattern_init T) (ok_clash T) (ok_E_BadPattern hfile htop T))
theorem ok_check_statements (hfile : ((P.main.file : Str) == PySem.Challenge.pw_foundormade_k49_each_list_has_its_plain.main.file) = true) (htop : (P.main.scope.names.lookup ("super" : Str)).isSome = false) (T : Txt K mg) : GX P w K mg base 3 (He.ga K "check_statements") m_check_statements :=
 okX T.d_check_statements sc_check_statements (wk_check_statements T (ok_E_Misfit hfile htop T))
theorem ok_Program_width (T:Txt K mg):GX P w K mg base 3 (propF K (He.ga K "Program") "width") m_Program_width :=
 okX T.d_Program_width sc_Program_width (wk_Program_width T (ok_Program_placed T))
theorem ok_Wishes_of (hfile : ((P.main.file : Str) == PySem.Challenge.pw_foundormade_k49_each_list_has_its_plain.main.file) = true) (htop : (P.main.scope.names.lookup ("super" : Str)).isSome = false) (T : Txt K mg) : GX P w K mg base 3 (He5.wf K (He.ga K "Wishes") "staticmethod" "of") m_Wishes_of :=
 fnR_star (ps := ["first"]) (pv := "rest") T.d_Wishes_of sc_Wishes_of (fun kV doc pm an cdv ct us rest hl=>(StX.bind_star1 (B := fun vs=>bindArgs (PySem.W.fnOf _ _ (defArgs s_Wishes_of) (defBody s_Wishes_of) (defScope s_Wishes_of) .none kV doc pm an cdv ct) ⟨vs,[]⟩) (fun _=>rfl) (fun _ r rs=>rfl)) us rest hl) rfl (fun cdv A outer s H E hr=>wk_Wishes_of T (ok_Wishes_init T) (ok_E_Unknown hfile htop T) cdv A outer s H E hr)
theorem ok_law_schema (T:Txt K mg):GX P w K mg base 3 (He.ga K "_law_schema") m_law_schema :=
 okX T.d_law_schema sc_law_schema (wk_law_schema T (ok_law_draw T) (ok_law_word T))
theorem ok_law_few (T:Txt K mg):GX P w K mg base 3 (He.ga K "_law_few") m_law_few :=
 okX T.d_law_few sc_law_few (wk_law_few T (ok_law_draw T) (ok_law_word T))
theorem ok_Schema_init (hfile : ((P.main.file : Str) == PySem.Challenge.pw_foundormade_k49_each_list_has_its_plain.main.file) = true) (htop : (P.main.scope.names.lookup ("super" : Str)).isSome = false) (T : Txt K mg) : GX P w K mg base 4 (He.ma K (He.ga K "Schema") "__init__") m_Schema_init :=
 okX T.d_Schema_init sc_Schema_init (wk_Schema_init T (ok_check_names hfile htop T) (ok_check_owners hfile htop T) (ok_E_BadSchema hfile htop T))
theorem ok_Pattern_rshift (hfile : ((P.main.file : Str) == PySem.Challenge.pw_foundormade_k49_each_list_has_its_plain.main.file) = true) (htop : (P.main.scope.names.lookup ("super" : Str)).isSome = false) (T : Txt K mg) : GX P w K mg base 4 (He.ma K (He.ga K "Pattern") "__rshift__") m_Pattern_rshift :=
 okX T.d_Pattern_rshift sc_Pattern_rshift (wk_Pattern_rshift T (ok_Pattern_init T) (ok_Pattern_or hfile htop T) (ok_is_word T) (ok_E_BadPattern hfile htop T))
theorem ok_Program_init_dflt (hfile : ((P.main.file : Str) == PySem.Challenge.pw_foundormade_k49_each_list_has_its_plain.main.file) = true) (htop : (P.main.scope.names.lookup ("super" : Str)).isSome = false) (T : Txt K mg) : GX P w K mg base 4 (He.ma K (He.ga K "Program") "__init__") m_Program_init_dflt :=
 fnR_d1 T.d_Program_init sc_Program_init (by decide) T.ed_Program_init (fun vs H Q E h=>fn_len h) (fun _ _ _ _ _ _ _ us its hl hl2=>match us,hl,its,hl2 with | [_,_,_],_,[_],_=>⟨_,rfl,rfl⟩) (fun E=>cS K (WD E) b_Program_init) (fun cdv A outer s H E hr=>wk_Program_init T (ok_check_statements hfile htop T) cdv A outer s H E hr) (fun H vs Q E h=>fn_ok h)
theorem ok_plain_lists (T:Txt K mg):GX P w K mg base 5 (He.ga K "plain_lists") m_plain_lists :=
 okX T.d_plain_lists sc_plain_lists (wk_plain_lists T (ok_Program_placed T) (ok_Program_width T) (ok_Wishes_contains T) (ok_plain_lists_of T))
theorem ok_law_pattern (hfile : ((P.main.file : Str) == PySem.Challenge.pw_foundormade_k49_each_list_has_its_plain.main.file) = true) (htop : (P.main.scope.names.lookup ("super" : Str)).isSome = false) (T : Txt K mg) : GX P w K mg base 5 (He.ga K "_law_pattern") m_law_pattern :=
 okX T.d_law_pattern sc_law_pattern (wk_law_pattern T (ok_Pattern_or hfile htop T) (ok_Pattern_place hfile htop T) (ok_Pattern_rshift hfile htop T))
theorem ok_law_program (hfile : ((P.main.file : Str) == PySem.Challenge.pw_foundormade_k49_each_list_has_its_plain.main.file) = true) (htop : (P.main.scope.names.lookup ("super" : Str)).isSome = false) (T : Txt K mg) : GX P w K mg base 6 (He.ga K "_law_program") m_law_program :=
 okX T.d_law_program sc_law_program (wk_law_program T (ok_Program_init_dflt hfile htop T) (ok_Statement_init T) (ok_law_pattern hfile htop T))
end
theorem law_ok {P : Program} {w : World} {K : PySem.W.Frag} {h : Heap} {mg : Str → Option Value} {f : Addr} (hfile : ((P.main.file : Str) == PySem.Challenge.pw_foundormade_k49_each_list_has_its_plain.main.file) = true) (htop : (P.main.scope.names.lookup ("super" : Str)).isSome = false) (X : K.In h) (G : h.Ns mainGlobals mg) (hfa : mg ("law" : Str) = some (.ref f)) (c : obsE fa fn fe K = valE fn fe) :
  ∃ fd:FuncData,(∀ (s:Shared) (v:Value),BindsTo s fd ⟨[v],[]⟩ [("_law_script",v)])∧∀ base:Heap,K.In base→base.Ns mainGlobals mg→FnOk P w K mg base CX0 7 f fd ["_law_script"] (sp_law K) := by
 have T := txt_of X G c
 obtain ⟨fd,F⟩ := T.d_law
 have e := hfa.symm.trans T.g_law
 cases e
 refine ⟨fd,fun s v=>fun_bindsTo (ps := ["_law_script"]) F (fun _ _ _ _ _ _ us hl=>match us,hl with | [_],_=>rfl) s [v] rfl,fun base _ _=>F.ok sc_law (fun vs H Q E h=>?_) fun cdv A outer s H vs Q E hr h=>⟨cS K WF b_law,wk_law T (ok_Program_init_dflt hfile htop T) (ok_Program_placed T) (ok_Program_width T) (ok_Schema_init hfile htop T) (ok_Wishes_of hfile htop T) (ok_law_draw T) (ok_law_few T) (ok_law_groups T) (ok_law_keys T) (ok_law_meets T) (ok_law_numbered T) (ok_law_pool T) (ok_law_program hfile htop T) (ok_law_rows T) (ok_law_schema T) (ok_law_statements T) (ok_plain_lists T) cdv A outer s H E hr,pure_law H vs Q E h⟩⟩
 obtain ⟨_,_,rfl,_⟩ := h
 rfl
end Lw
open PySem PySem.W PySem.Calls PyProof.Rows
theorem PySem.Challenge.cw_foundormade_k49_each_list_has_its_plain_holds : PySem.Challenge.rw_foundormade_k49_each_list_has_its_plain.Holds := by
 refine PySem.W.holds_law Lw.topL fun _=>Lw.topH ?hc
 case hc =>
  refine L2.walk_ofE (l := PySem.Challenge.rw_foundormade_k49_each_list_has_its_plain) (n := 63) (k := 7) (x := "_law_script") (CX := L2.CX0) rfl (by decide) Lw.topDf ⟨rfl,by decide,by decide⟩ ?F (fun _ _ _ _ z => z)
  intro w mg fa h Y G hmg0
  obtain ⟨K,KX,c⟩ := Y
  have hmg:mg ("law":PySem.Str)=some (.ref fa) := by
   rw [← Lw.topNm]
   exact hmg0
  obtain ⟨fd,hb,hF⟩ := Lw.law_ok (P := (PySem.Challenge.rw_foundormade_k49_each_list_has_its_plain).prog) (w := w) (by decide +kernel) (by decide +kernel) KX G hmg c
  exact ⟨K,fd,Lw.sp_law K,KX,hb,fun H a ns hl _ hS=>⟨a,ns,rfl,hS,hl,fun _=>rfl⟩,hF⟩
