import PyProof.Rows.All
import Wide.All
import OpenK.AllK
import Wide.FinOn
import PyProof.EqAt
import PyProof.EqKinds
import PyProof.TupleCall
import KE.Datum
import KE.DatumMore
import KE.DatumIndex
import HandS.Base
import HandS.Call
import HandS.List
import HandS.Comp
import HandS.Ends
import HandS.Dict
import HandS.Iter
import HandS.Text
import HandS.Words
import HandS.WordsList
import HandS.WordsDict
import HandS.Deep
import HandS.Style
import HandS.Wide
import HandS.IsInst
import HandS.Flow
import HandS.More
import HandS.Star
import HandS.ClsMeth
import HandS.DictComp
import HandS.HeadHook1
import HandS.HeadHook2
import HandS.HeadNt
import KE.KStateDown
import Lean
import HandS.Head0
import HandS.Head1
import HandS.Head2
import HandS.HeadEnd
import PyProof.InstNe
import HandS.Exc
import HandS.ExcInit
import HandS.ExcField
import HandS.CallSlots
import HandS.WordsExc
import KE.KExcSuper
import HandS.ExcOwn
import HandS.ExcIs
import HandS.TryOnly
import KE.KExcIs
import KE.GoesMore
import PyProof.EnumMake
import HandS.Small
import HandS.OwnEq
import HandS.IterVal
import KE.KOwnIter
import HandS.Strs
import PyProof.DictMoreH
import HandS.DictTup
import HandS.Zip
import HandS.Conv
import HandS.MakeKwOnly
import PyProof.Rows.ListMulArg
import HandS.Property
import HandS.SortRule
import PyProof.Rows.SortKeyStr
import KE.DataEq
import HandS.Defaults
import HandS.TupAny
import PyProof.Rows.SortShellAny
import PyProof.ReprRoads
import PyProof.ReprLen
import HandS.OwnIter
import HandS.Set
import HandS.HeadHook3
import HandS.FStr
import KE.GoesEnumKw
import HandS.MethStar
import HandS.SetIn
import KE.KEqDict
import PySem.Challenge.RW_foundormade_k36_wishes_as_sets
set_option Elab.async false
set_option linter.all false
set_option maxRecDepth 100000
set_option maxHeartbeats 4000000
namespace Fm
open PySem PySem.Spec PyProof.Rows L2
open PySem.W (Datum Tup)
theorem same_new {H:Hp} {p:Addr} {o:HO} (h:H p=none):Same H (upd H p o) := fun b x e=>by
 rw [upd_ne (ne_of_none e h)]
 exact e
theorem same_upd {S H:Hp} {p:Addr} {o:HO} (e:Same S H) (h:S p=none):Same S (upd H p o) := fun b x q=>by
 rw [upd_ne (ne_of_none q h)]
 exact e b x q
theorem same_both {S H:Hp} {p:Addr} {o:HO} (e:Same S H):Same (upd S p o) (upd H p o) := fun b x q=>by
 by_cases hb:b=p
 ·subst hb; rw [upd_same] at q ⊢; exact q
 ·rw [upd_ne hb] at q ⊢; exact e b x q
structure Step (S T S' T':Hp):Prop where
 ss:Same S S'
 st:Same S' T'
 tt:Same T T'
 nw:∀ a,T a≠none→S a=none→S' a=none
section
variable {S T S' T' S0 T0 S1 T1 S2 T2 H H':Hp} {p:Addr} {o:HO}
theorem Step.refl (h:Same S T):Step S T S T := ⟨Same.refl _,h,Same.refl _,fun _ _ h=>h⟩
theorem Step.trans (a:Step S T S1 T1) (b:Step S1 T1 S2 T2):Step S T S2 T2 :=
 ⟨a.ss.trans b.ss,b.st,a.tt.trans b.tt,fun x hx hs=>b.nw x (fun z=>hx (a.tt.free z)) (a.nw x hx hs)⟩
theorem Step.new (h:Same S T) (n:T p=none):Step S T (upd S p o) (upd T p o) := by
 refine ⟨same_new (h.free n),same_both h,same_new n,fun a ha hs=>?_⟩
 have hne:a≠p := fun z=>ha (by rw [z]; exact n)
 rw [upd_ne hne]; exact hs
theorem Step.tmp (h:Same S T) (n:T p=none):Step S T S (upd T p o) :=
 ⟨Same.refl _,h.trans (same_new n),same_new n,fun _ _ h=>h⟩
theorem Step.freeze (s:Step S0 T0 S T) (n:T0 p=none) (h:T p=some o):Step S0 T0 (upd S p o) T := by
 refine ⟨fun b x q=>?_,fun b x q=>?_,s.tt,fun a ha hs=>?_⟩
 ·have q' := s.ss b x q
  by_cases hb:b=p
  ·subst hb
   have z := s.st b x q'
   rw [h] at z; rw [upd_same]; exact z
  ·rw [upd_ne hb]; exact q'
 ·by_cases hb:b=p
  ·subst hb; rw [upd_same] at q; rw [← q]; exact h
  ·rw [upd_ne hb] at q; exact s.st b x q
 ·have hne:a≠p := fun z=>ha (by rw [z]; exact n)
  rw [upd_ne hne]; exact s.nw a ha hs
theorem Step.set (s:Step S0 T0 S T) (n0:T0 p=none) (ns:S p=none):Step S0 T0 S (upd T p o) :=
 ⟨s.ss,same_upd s.st ns,same_upd s.tt n0,s.nw⟩
def join (A B:Hp):Hp := fun a=>match A a with | some o=>some o | none=>B a
theorem join_l {A B:Hp}:Same A (join A B) := fun b x q=>by unfold join; rw [q]
theorem Step.widen (s:Step S T S' T') (e:Same S S1) (h1:Same S1 T):Step S1 T (join S1 S') T'∧Same S' (join S1 S') := by
 refine ⟨⟨join_l,fun b x q=>?_,s.tt,fun a ha hs=>?_⟩,fun b x q=>?_⟩
 ·unfold join at q
  cases z:S1 b with
  | some y=>rw [z] at q; cases q; exact s.tt b _ (h1 b _ z)
  | none=>rw [z] at q; exact s.st b x q
 ·unfold join; rw [hs]; exact s.nw a ha (e.free hs)
 ·unfold join
  cases z:S1 b with
  | some y =>
   have h2 := s.tt b _ (h1 b _ z)
   rw [s.st b x q] at h2; exact h2.symm
  | none=>exact q
structure Wld where
 W:Hp→Hp→Prop
 sub:∀ {T H},W T H→Same T H
 new:∀ {T H a o},W T H→H a=none→W (upd T a o) (upd H a o)
 tmp:∀ {T H a o},W T H→H a=none→W T (upd H a o)
 set:∀ {T H a o o'},W T H→T a=some o→W (upd T a o') (upd H a o')
 lift:∀ {S S' T H H'},W T H→Same S T→Step S H S' H'→∃ T',Step S T S' T'∧W T' H'
def liftT (T H S':Hp):Hp := fun a=>match H a with | some _=>T a | none=>S' a
theorem liftT_step (h:Same T H) (e:Same S T) (s:Step S H S' H'):Step S T S' (liftT T H S')∧Same (liftT T H S') H' := by
 refine ⟨⟨s.ss,fun b x q=>?_,fun b x q=>?_,fun a ha hs=>s.nw a (fun z=>ha (h.free z)) hs⟩,fun b x q=>?_⟩
 ·unfold liftT
  cases z:H b with
  | none=>exact q
  | some y =>
   cases w:S b with
   | none=>rw [s.nw b (by rw [z]; simp) w] at q; cases q
   | some u=>rw [s.ss b u w] at q; cases q; exact e b _ w
 ·unfold liftT; rw [h b x q]; exact q
 ·unfold liftT at q
  cases z:H b with
  | none=>rw [z] at q; exact s.st b x q
  | some y=>rw [z] at q; exact s.tt b x (h b x q)
def W0:Wld where
 W := Same
 sub := fun h=>h
 new := fun h n=>same_both h
 tmp := fun h n=>h.trans (same_new n)
 set := fun h _=>same_both h
 lift := fun h e s=>⟨_,(liftT_step h e s).1,(liftT_step h e s).2⟩
end
mutual
inductive Dq (K:PySem.W.Frag) (H:Hp):V→PyData→Prop
 | non:Dq K H .non .none
 | bl (b:Bool):Dq K H (.bl b) (.bool b)
 | int (i:Int):Dq K H (.int i) (.int i)
 | str (x:Str):Dq K H (.str x) (.str x)
 | lst {a:Addr} {xs:List V} {ds:List PyData}:Rd H a (.lst xs)→DqAll K H xs ds→Dq K H (.ref a) (.list ds)
 | tup {a:Addr} {xs:List V} {ds:List PyData}:SqT K H a xs→DqAll K H xs ds→Dq K H (.ref a) (.tuple ds)
inductive DqAll (K:PySem.W.Frag) (H:Hp):List V→List PyData→Prop
 | nil:DqAll K H [] []
 | cons {v:V} {vs:List V} {d:PyData} {ds:List PyData}:Dq K H v d→DqAll K H vs ds→DqAll K H (v :: vs) (d :: ds)
end
theorem Same.rd {S S':Hp} {a:Addr} {u:HO} (e:Same S S') (h:Rd S a u):Rd S' a u := by
 rcases h with h | ⟨o,h⟩
 ·exact .inl (e _ _ h)
 ·exact .inr ⟨o,e _ _ h⟩
mutual
theorem Dq.dp {K:PySem.W.Frag} {S:Hp}:∀ {v:V} {d:PyData},Dq K S v d→Dp K S v d
 | _,_, .non=>.non
 | _,_, .bl b=>.bl b
 | _,_, .int i=>.int i
 | _,_, .str x=>.str x
 | _,_, .lst h r=>.lst (.inl h) (DqAll.dp r)
 | _,_, .tup h r=>.tup h (DqAll.dp r)
theorem DqAll.dp {K:PySem.W.Frag} {S:Hp}:∀ {vs:List V} {ds:List PyData},DqAll K S vs ds→DpAll K S vs ds
 | _,_, .nil=>.nil
 | _,_, .cons h r=>.cons (Dq.dp h) (DqAll.dp r)
end
section
variable {K:PySem.W.Frag} {S S':Hp} {v:V} {vs:List V}
mutual
theorem Dq.mono (e:Same S S'):∀ {v:V} {d:PyData},Dq K S v d→Dq K S' v d
 | _,_, .non=>.non
 | _,_, .bl b=>.bl b
 | _,_, .int i=>.int i
 | _,_, .str x=>.str x
 | _,_, .lst h r=>.lst (Same.rd e h) (DqAll.mono e r)
 | _,_, .tup h r=>.tup (by
  rcases h with (h | ⟨o,h⟩) | h
  ·exact .inl (.inl (e _ _ h))
  ·exact .inl (.inr ⟨o,e _ _ h⟩)
  ·exact .inr h) (DqAll.mono e r)
theorem DqAll.mono (e:Same S S'):∀ {vs:List V} {ds:List PyData},DqAll K S vs ds→DqAll K S' vs ds
 | _,_, .nil=>.nil
 | _,_, .cons h r=>.cons (Dq.mono e h) (DqAll.mono e r)
end
theorem Same.tup {a:Addr} {xs:List V} (e:Same S S') (h:SqT K S a xs):SqT K S' a xs := by
 rcases h with (h | ⟨o,h⟩) | h
 ·exact .inl (.inl (e _ _ h))
 ·exact .inl (.inr ⟨o,e _ _ h⟩)
 ·exact .inr h
theorem DqAll.len:∀ {vs:List V} {ds:List PyData},DqAll K S vs ds→vs.length=ds.length
 | _,_, .nil=>rfl
 | _,_, .cons _ r=>by rw [List.length_cons,List.length_cons,DqAll.len r]
theorem DqAll.at_:∀ {vs:List V} {ds:List PyData} {i:Nat} {d:PyData},DqAll K S vs ds→ds[i]? = some d→∃ v,vs[i]? = some v∧Dq K S v d
 | _,_,_,_, .nil,e=>by simp at e
 | _,_,0,_, .cons h _,e=>by simp at e; subst e; exact ⟨_,rfl,h⟩
 | _,_,i + 1,d, .cons _ r,e=>by
  obtain ⟨v,h1,h2⟩ := DqAll.at_ (i := i) (d := d) r (by simpa using e)
  exact ⟨v,by simpa using h1,h2⟩
theorem DqAll.of:∀ {vs:List V} {ds:List PyData} {i:Nat} {v:V},DqAll K S vs ds→vs[i]? = some v→∃ d,ds[i]? = some d∧Dq K S v d
 | _,_,_,_, .nil,e=>by simp at e
 | _,_,0,_, .cons h _,e=>by simp at e; subst e; exact ⟨_,rfl,h⟩
 | _,_,i + 1,v, .cons _ r,e=>by
  obtain ⟨d,h1,h2⟩ := DqAll.of (i := i) (v := v) r (by simpa using e)
  exact ⟨d,by simpa using h1,h2⟩
theorem DqAll.app:∀ {vs ws:List V} {ds es:List PyData},DqAll K S vs ds→DqAll K S ws es→DqAll K S (vs ++ ws) (ds ++ es)
 | _,_,_,_, .nil,h=>h
 | _,_,_,_, .cons h r,q=>.cons h (DqAll.app r q)
theorem DqAll.drop_:∀ {vs:List V} {ds:List PyData} (n:Nat),DqAll K S vs ds→DqAll K S (vs.drop n) (ds.drop n)
 | _,_,0,h=>h
 | _,_,_ + 1, .nil=>.nil
 | _,_,n + 1, .cons _ r=>DqAll.drop_ n r
theorem DqAll.take_:∀ {vs:List V} {ds:List PyData} (n:Nat),DqAll K S vs ds→DqAll K S (vs.take n) (ds.take n)
 | _,_,0,h=>.nil
 | _,_,_ + 1, .nil=>.nil
 | _,_,n + 1, .cons h r=>.cons h (DqAll.take_ n r)
theorem DqAll.rev:∀ {vs:List V} {ds:List PyData},DqAll K S vs ds→DqAll K S vs.reverse ds.reverse
 | _,_, .nil=>.nil
 | _,_, .cons h r=>by rw [List.reverse_cons,List.reverse_cons]; exact DqAll.app (DqAll.rev r) (.cons h .nil)
end
section
variable {K:PySem.W.Frag} {S S':Hp} {v:V} {vs:List V} {α β:Type} [DecidableEq α] [Datum α] [DecidableEq β] [Datum β]
def Is (K:PySem.W.Frag) (x:α) (S:Hp) (v:V):Prop := Dq K S v (Datum.toD x)
def IsAll (K:PySem.W.Frag) (xs:List α) (S:Hp) (vs:List V):Prop := DqAll K S vs (xs.map Datum.toD)
theorem Is.mono {x:α} (h:Is K x S v) (e:Same S S'):Is K x S' v := Dq.mono e h
theorem IsAll.mono {xs:List α} (h:IsAll K xs S vs) (e:Same S S'):IsAll K xs S' vs := DqAll.mono e h
theorem is_int {i:Int}:Is K i S (.int i) := .int i
theorem is_bl {b:Bool}:Is K b S (.bl b) := .bl b
theorem Is.int {i:Int} (h:Is K i S v):v = .int i := by cases h; rfl
theorem Is.bl {b:Bool} (h:Is K b S v):v = .bl b := by cases h; rfl
theorem Is.str {x:Str} (h:Is K x S v):v = .str x := by cases h; rfl
theorem is_lst {a:Addr} {xs:List α} (h:Rd S a (.lst vs)) (r:IsAll K xs S vs):Is K xs S (.ref a) := .lst h r
theorem Is.lst {xs:List α} (h:Is K xs S v):∃ a vs,v = .ref a∧Rd S a (.lst vs)∧IsAll K xs S vs := by
 cases h with
 | lst h r=>exact ⟨_,_,rfl,h,r⟩
theorem Is.tup {t:Tup α} (h:Is K t S v):∃ a vs,v = .ref a∧SqT K S a vs∧IsAll K t.items S vs := by
 cases h with
 | tup h r=>exact ⟨_,_,rfl,h,r⟩
theorem IsAll.len {xs:List α} (h:IsAll K xs S vs):vs.length=xs.length := by rw [DqAll.len h,List.length_map]
theorem IsAll.at_ {xs:List α} {i:Nat} {x:α} (h:IsAll K xs S vs) (e:xs[i]? = some x):∃ v,vs[i]? = some v∧Is K x S v :=
 DqAll.at_ h (by rw [List.getElem?_map,e]; rfl)
theorem IsAll.of {xs:List α} {i:Nat} (h:IsAll K xs S vs) (e:vs[i]? = some v):∃ x,xs[i]? = some x∧Is K x S v := by
 obtain ⟨d,h1,h2⟩ := DqAll.of h e
 rw [List.getElem?_map] at h1
 cases z:xs[i]? with
 | none=>rw [z] at h1; cases h1
 | some x=>rw [z] at h1; cases h1; exact ⟨x,rfl,h2⟩
theorem IsAll.nil:IsAll K ([]:List α) S [] := DqAll.nil
theorem IsAll.cons {x:α} {xs:List α} (h:Is K x S v) (r:IsAll K xs S vs):IsAll K (x :: xs) S (v :: vs) := DqAll.cons h r
theorem IsAll.app {xs ys:List α} {ws:List V} (h:IsAll K xs S vs) (r:IsAll K ys S ws):IsAll K (xs ++ ys) S (vs ++ ws) := by
 unfold IsAll; rw [List.map_append]; exact DqAll.app h r
theorem IsAll.one {x:α} (h:Is K x S v):IsAll K [x] S [v] := DqAll.cons h DqAll.nil
theorem IsAll.drop_ {xs:List α} (n:Nat) (h:IsAll K xs S vs):IsAll K (xs.drop n) S (vs.drop n) := by
 unfold IsAll; rw [List.map_drop]; exact DqAll.drop_ n h
theorem IsAll.take_ {xs:List α} (n:Nat) (h:IsAll K xs S vs):IsAll K (xs.take n) S (vs.take n) := by
 unfold IsAll; rw [List.map_take]; exact DqAll.take_ n h
theorem IsAll.rev {xs:List α} (h:IsAll K xs S vs):IsAll K xs.reverse S vs.reverse := by
 unfold IsAll; rw [List.map_reverse]; exact DqAll.rev h
theorem isAll_ints:∀ {ns:List Int},IsAll K ns S (ns.map V.int)
 | []=>DqAll.nil
 | n :: r=>DqAll.cons (Dq.int n) isAll_ints
theorem IsAll.ints:∀ {ns:List Int} {vs:List V},IsAll K ns S vs→vs=ns.map V.int
 | [],_,h=>by cases h; rfl
 | n :: r,_,h=>by
  cases h with
  | cons h t=>rw [Is.int h,IsAll.ints t]; rfl
end
end Fm
namespace Fm
open PySem PySem.Spec PyProof.Rows L2
open PySem.W (Datum Tup)
section
variable {X:Cx}
def rEqP (K:PySem.W.Frag):R2 := fun x y H Q=>∃ d e,Dp K H x d∧Dp K H y e∧d.plain=true∧e.plain=true∧min d.depth e.depth≤60∧Q (.bl (PyData.eqv d e)) H
def rNeP (K:PySem.W.Frag):R2 := fun x y H Q=>∃ d e,Dp K H x d∧Dp K H y e∧d.plain=true∧e.plain=true∧min d.depth e.depth≤60∧Q (.bl (!PyData.eqv d e)) H
theorem op_eqP (hu:X.A.units + 64 < cLine):OpR X (compareOp .Eq) (rEqP X.K) := by
 intro pins s σ H x y v u Q I rx ry h
 obtain ⟨d,e,hd,he,sd,se,hm,q⟩ := h
 obtain ⟨as,r1⟩ := Dp.reads I d x v hd rx
 obtain ⟨bs,r2⟩ := Dp.reads I e y u he ry
 exact SeqAt.eq_plain r1 r2 sd se (by omega) ⟨.bl _,H,I,rfl,q⟩
theorem op_neP (hu:X.A.units + 64 < cLine):OpR X (compareOp .NotEq) (rNeP X.K) := by
 intro pins s σ H x y v u Q I rx ry h
 obtain ⟨d,e,hd,he,sd,se,hm,q⟩ := h
 obtain ⟨as,r1⟩ := Dp.reads I d x v hd rx
 obtain ⟨bs,r2⟩ := Dp.reads I e y u he ry
 exact SeqAt.ne_plain r1 r2 sd se (by omega) ⟨.bl _,H,I,rfl,q⟩
def rInP (K:PySem.W.Frag) (neg:Bool):R2 := fun x y H Q=>(∃ d ds,Dp K H x d∧(Dp K H y (.list ds)∨Dp K H y (.tuple ds))∧d.plain=true∧PyData.plainAll ds=true∧d.depth≤60∧Q (.bl (if neg then !ds.any (fun z=>PyData.eqv z d) else ds.any (fun z=>PyData.eqv z d))) H)
 ∨ ∃ (c:Nat) (z:Str),x = .str ⟨#[c]⟩∧y = .str z∧Q (.bl (if neg then !decide (c∈z.cps.toList) else decide (c∈z.cps.toList))) H
theorem op_inP (hu:X.A.units + 65 < cLine):OpR X (compareOp .In) (rInP X.K false) := by
 intro pins s σ H x y v u Q I rx ry h
 rcases h with ⟨d,ds,hd,he,sd,se,hm,q⟩ | ⟨c,z,hx,hy,q⟩
 ·obtain ⟨as,r1⟩ := Dp.reads I d x v hd rx
  have hr:X.A.units + 1 + min (PyData.depthAll ds) d.depth < cLine := by
   have := Nat.min_le_right (PyData.depthAll ds) d.depth
   omega
  rcases he with he | he
  ·obtain ⟨bs,r2⟩ := Dp.reads I (.list ds) y u he ry
   exact SeqAt.in_list_data r2 r1 se sd hr ⟨.bl _,H,I,rfl,q⟩
  ·obtain ⟨bs,r2⟩ := Dp.reads I (.tuple ds) y u he ry
   exact SeqAt.in_tuple_data r2 r1 se sd hr ⟨.bl _,H,I,rfl,q⟩
 ·exact op_in_sign pins s σ H x y v u Q I rx ry ⟨c,z,hx,hy,q⟩
theorem op_notInP (hu:X.A.units + 65 < cLine):OpR X (compareOp .NotIn) (rInP X.K true) := by
 intro pins s σ H x y v u Q I rx ry h
 rcases h with ⟨d,ds,hd,he,sd,se,hm,q⟩ | ⟨c,z,hx,hy,q⟩
 ·obtain ⟨as,r1⟩ := Dp.reads I d x v hd rx
  have hr:X.A.units + 1 + min (PyData.depthAll ds) d.depth < cLine := by
   have := Nat.min_le_right (PyData.depthAll ds) d.depth
   omega
  rcases he with he | he
  ·obtain ⟨bs,r2⟩ := Dp.reads I (.list ds) y u he ry
   exact SeqAt.notIn_list_data r2 r1 se sd hr ⟨.bl _,H,I,rfl,q⟩
  ·obtain ⟨bs,r2⟩ := Dp.reads I (.tuple ds) y u he ry
   exact SeqAt.notIn_tuple_data r2 r1 se sd hr ⟨.bl _,H,I,rfl,q⟩
 ·exact op_notIn_sign pins s σ H x y v u Q I rx ry ⟨c,z,hx,hy,q⟩
def rCatR:R2 := fun x y H Q=>∃ l b xs zs,x = .ref l∧y = .ref b∧Rd H l (.lst xs)∧Rd H b (.lst zs)∧xs.length + zs.length≤sizeLine∧∀ p,H p=none→Q (.ref p) (upd H p (.lst (xs ++ zs)))
theorem op_catR:OpR X (binaryOp .Add) rCatR := by
 intro pins s σ H x y v u Q I rx ry h
 obtain ⟨l,b,xs,zs,rfl,rfl,hH,hB,hz,q⟩ := h
 cases rx
 cases ry
 obtain ⟨z,its,n,r,e⟩ := hH.ok I.hok
 obtain ⟨z2,its2,n2,r2,e2⟩ := hB.ok I.hok
 have hl := r.length
 have hl2 := r2.length
 refine PySem.P.add_list e e2 ?_ (by rw [List.size_toArray,List.size_toArray]; omega)
 have ea:its.toArray ++ its2.toArray=(its ++ its2).toArray := by simp
 rw [ea]
 exact ⟨.ref _,_,I.lnew (t' := s.toks) (r.append r2) (by rw [List.length_append]; omega),rfl,q _ I.fresh⟩
def rAddA:R2 := fun x y H Q=>(∃ i j,x = .int i∧y = .int j∧Q (.int (i + j)) H)∨(∃ i j,x = .str i∧y = .str j∧i.length + j.length≤sizeLine∧Q (.str (i ++ j)) H)∨rCatR x y H Q
theorem OpR.or {f:Value→Value→Sem Value} {r r':R2} (h:OpR X f r) (h':OpR X f r'):OpR X f (fun x y H Q=>r x y H Q∨r' x y H Q) := by
 intro pins s σ H x y v u Q I rx ry q
 rcases q with q | q
 ·exact h pins s σ H x y v u Q I rx ry q
 ·exact h' pins s σ H x y v u Q I rx ry q
theorem op_addA:OpR X (binaryOp .Add) rAddA := OpR.or op_add (OpR.or op_add_str op_catR)
def iSeq (K:PySem.W.Frag) (tl:TE):TI := fun σ H R=>tl σ H fun x H1=>(∃ a,x = .ref a∧(∃ xs,SqL K H1 a xs)∧R (Itl K a) H1)∨(∃ a,x = .ref a∧(∃ xs,SqT K H1 a xs)∧R (Itt K a) H1)∨∃ z,x = .str z∧R (Its z) H1
theorem pi_seq {tg l:Expr} {tl:TE} (hl:PE X l tl):PI X tg l (iSeq X.K tl) := by
 refine ⟨fun pins s σ H R I h=>?_⟩
 refine thn (hl.run pins s σ H _ I h) fun v s1 ⟨x,H1,I1,r1,q1⟩=>?_
 rcases q1 with ⟨a,e,⟨xs,hq⟩,q⟩ | ⟨a,e,⟨xs,hq⟩,q⟩ | ⟨z,e,q⟩
 ·subst e
  cases r1
  obtain ⟨its,rv,p,hz⟩ := I1.list hq
  refine wpAny_pyIter_list p.isList ?_
  refine ⟨s1.heap.objs.size,[s1.heap.objs.size],_,_,H1,rfl,I1.kept (t' := s1.toks) fun b o e=>Heap.get?_push_of_some _ e,turn_list a _,⟨_,Heap.get?_push_size _ rfl,rfl,rfl⟩,fun b hb=>?_,q⟩
  have e:b=s1.heap.objs.size := by simpa using hb
  subst e
  exact I1.fpOk (Nat.le_refl _) (I1.hok.fresh (Nat.le_refl _))
 ·subst e
  cases r1
  obtain ⟨its,rv,p,hz⟩ := I1.tuple hq
  refine wpAny_pyIter_tuple (show s1.heap.IsTuple a its.toArray from p) ?_
  refine ⟨s1.heap.objs.size,[s1.heap.objs.size],_,_,H1,rfl,I1.kept (t' := s1.toks) fun b o e=>Heap.get?_push_of_some _ e,turn_tuple a _,⟨_,Heap.get?_push_size _ rfl,rfl,rfl⟩,fun b hb=>?_,q⟩
  have e:b=s1.heap.objs.size := by simpa using hb
  subst e
  exact I1.fpOk (Nat.le_refl _) (I1.hok.fresh (Nat.le_refl _))
 ·subst e
  obtain ⟨t,rfl⟩ := r1
  cases ha:z.cps.all (· < 128)
  ·exact wpAny_pyIter_wide ha (pi_one (tk := s1.toks) I1 _ (turn_str _ z t "str_iterator" (.inr rfl)) ⟨_,Heap.get?_push_size _ rfl,rfl,rfl⟩ q)
  ·exact wpAny_pyIter_ascii ha (pi_one (tk := s1.toks) I1 _ (turn_str _ z t "str_ascii_iterator" (.inl rfl)) ⟨_,Heap.get?_push_size _ rfl,rfl,rfl⟩ q)
def rSlA (K:PySem.W.Frag):V→Option Int→Option Int→Hp→VK→Prop := fun x lo hi H Q=>(∃ a xs,x = .ref a∧SqL K H a xs∧∀ p,H p=none→Q (.ref p) (upd H p (.lst (cutV xs lo hi))))∨∃ z,x = .str z∧z.length≤sizeLine∧Q (.str (cutS z lo hi)) H
theorem sl_any:SlR X (rSlA X.K) := by
 intro pins s σ H x v vl vu lo hi sl Q I rx hs pl pu h
 rcases h with h | h
 ·exact sl_list pins s σ H x v vl vu lo hi sl Q I rx hs pl pu h
 ·exact sl_str pins s σ H x v vl vu lo hi sl Q I rx hs pl pu h
def rGetL:V→V→Hp→VK→Prop := fun x y H Q=>∃ p xs i v,x = .ref p∧y = .int i∧0≤i∧H p=some (.lst xs)∧xs[i.toNat]? = some v∧Q v H
theorem get_list {X:Cx}:PGet X rGetL := by
 intro pins s σ H o i ov iv Q I ro ri h
 obtain ⟨p,xs,i,z,rfl,rfl,h0,hq,he,q⟩ := h
 cases ro
 obtain ⟨t,rfl⟩ := ri
 obtain ⟨its,r,pl,hz⟩ := I.list (SqL.of hq)
 obtain ⟨w,ew,rw'⟩ := r.get he
 have hl := r.length
 have hn := line63
 have hi:i.toNat < its.length := (List.getElem?_eq_some_iff.mp ew).1
 exact wpAny_getItem_list pl.isList h0 (by omega) (by simpa using ew) ⟨z,H,I,rw',q⟩
end
end Fm
namespace Fm
open PySem PySem.Spec PyProof.Rows L2
open PySem.W (Datum Tup T3 T4)
def Ev (M:Wld) (t:TE) (σ:L2.St) (S:Hp) (P:Hp→V→Prop):Prop :=
 ∀ T H,M.W T H→Same S T→∀ Q:VK,(∀ S' T' H' v,Step S T S' T'→M.W T' H'→P S' v→Q v H')→t σ H Q
def EvT (M:Wld) (t:TT) (σ:L2.St) (S:Hp) (b:Bool):Prop :=
 ∀ T H,M.W T H→Same S T→∀ Q:Bool→Hp→Prop,(∀ S' T' H',Step S T S' T'→M.W T' H'→Q b H')→t σ H Q
def EvA (M:Wld) (t:TA) (σ:L2.St) (S:Hp) (P:Hp→List V→Prop):Prop :=
 ∀ T H,M.W T H→Same S T→∀ Q:List V→Hp→Prop,(∀ S' T' H' vs,Step S T S' T'→M.W T' H'→P S' vs→Q vs H')→t σ H Q
def Rv (M:Wld) (r:Hp→VK→Prop) (S:Hp) (P:Hp→V→Prop):Prop :=
 ∀ T H,M.W T H→Same S T→∀ Q:VK,(∀ S' T' H' v,Step S T S' T'→M.W T' H'→P S' v→Q v H')→r H Q
def Mono (P:Hp→V→Prop):Prop := ∀ S S' v,Same S S'→P S v→P S' v
def MonoA (P:Hp→List V→Prop):Prop := ∀ S S' v,Same S S'→P S v→P S' v
section
variable {M:Wld} {K:PySem.W.Frag} {σ:L2.St} {S S1:Hp} {P P1 P2:Hp→V→Prop} {ta tb te tc:TE} {t u:TT} {v x y:V}
theorem Ev.mono (hP:Mono P) (h:Ev M te σ S P) (e:Same S S1):Ev M te σ S1 P := fun T H w s Q q =>
 h T H w (e.trans s) Q fun S' T' H' v st w' p=>by
  obtain ⟨a,b⟩ := st.widen e s
  exact q _ T' H' v a w' (hP _ _ _ b p)
theorem EvT.mono {b:Bool} (h:EvT M t σ S b) (e:Same S S1):EvT M t σ S1 b := fun T H w s Q q =>
 h T H w (e.trans s) Q fun S' T' H' st w'=>q _ T' H' (st.widen e s).1 w'
theorem EvA.mono {ta:TA} {P:Hp→List V→Prop} (hP:MonoA P) (h:EvA M ta σ S P) (e:Same S S1):EvA M ta σ S1 P := fun T H w s Q q =>
 h T H w (e.trans s) Q fun S' T' H' v st w' p=>by
  obtain ⟨a,b⟩ := st.widen e s
  exact q _ T' H' v a w' (hP _ _ _ b p)
theorem Ev.imp (h:Ev M te σ S P) (hp:∀ S' v,Same S S'→P S' v→P1 S' v):Ev M te σ S P1 := fun T H w s Q q =>
 h T H w s Q fun S' T' H' v st w' p=>q S' T' H' v st w' (hp S' v st.ss p)
theorem EvT.is {a b:Bool} (h:EvT M t σ S a) (e:a=b):EvT M t σ S b := e ▸ h
theorem ev_var {i:Nat} (h:σ[i]? = some (some v)) (p:P S v):Ev M (tVar i) σ S P := fun T H w s Q q=>⟨v,h,q S T H v (Step.refl s) w p⟩
theorem ev_c (p:P S v):Ev M (tC v) σ S P := fun T H w s Q q=>q S T H v (Step.refl s) w p
theorem rv_now {r:Hp→VK→Prop} (h:∀ H,Same S H→∀ Q:VK,Q v H→r H Q) (p:P S v):Rv M r S P := fun T H w s Q q =>
 h H (s.trans (M.sub w)) Q (q S T H v (Step.refl s) w p)
theorem ev_op {r:R2} (hP:Mono P1) (ha:Ev M ta σ S P1) (hb:∀ S1,Same S S1→Ev M tb σ S1 P2) (hr:∀ S2 x y,Same S S2→P1 S2 x→P2 S2 y→Rv M (r x y) S2 P):Ev M (tOp r ta tb) σ S P := fun T H w s Q q =>
 ha T H w s _ fun S1 T1 H1 x st1 w1 p1=>hb S1 st1.ss T1 H1 w1 st1.st _ fun S2 T2 H2 y st2 w2 p2 =>
  hr S2 x y (st1.ss.trans st2.ss) (hP _ _ _ st2.ss p1) p2 T2 H2 w2 st2.st Q fun S3 T3 H3 v st3 w3 p=>q S3 T3 H3 v ((st1.trans st2).trans st3) w3 p
theorem ev_test {b:Bool} (h:Ev M te σ S (Is K b)):EvT M (tTest te) σ S b := fun T H w s Q q=>h T H w s _ fun S' T' H' v st w' p=>⟨b,p.bl,q S' T' H' st w'⟩
theorem ev_and {a b:Bool} (h1:EvT M t σ S a) (h2:a=true→EvT M u σ S b):EvT M (tAnd t u) σ S (a && b) := fun T H w s Q q=>h1 T H w s _ fun S1 T1 H1 st w1=>by
 cases a with
 | true=>exact iteT ((h2 rfl).mono st.ss T1 H1 w1 st.st Q fun S2 T2 H2 st2 w2=>q S2 T2 H2 (st.trans st2) w2)
 | false=>exact iteF (q S1 T1 H1 st w1)
theorem is_mono {α:Type} [DecidableEq α] [Datum α] {a:α}:Mono (Is K a) := fun _ _ _ e h=>h.mono e
end
section
variable {M:Wld} {K:PySem.W.Frag} {σ:L2.St} {S S1:Hp} {P P1 P2 P3 P4:Hp→V→Prop} {PA:Hp→List V→Prop} {ta tb te tc td:TE} {tr:TA} {v x y:V}
theorem ev_nil (p:PA S []):EvA M tNil σ S PA := fun T H w s Q q=>q S T H [] (Step.refl s) w p
theorem ev_cons {PR:Hp→List V→Prop} (hP:Mono P1) (ha:Ev M ta σ S P1) (hr:∀ S1,Same S S1→EvA M tr σ S1 PR) (hq:∀ S2 x xs,Same S S2→P1 S2 x→PR S2 xs→PA S2 (x :: xs)):EvA M (tCons ta tr) σ S PA := fun T H w s Q q =>
 ha T H w s _ fun S1 T1 H1 x st1 w1 p1=>hr S1 st1.ss T1 H1 w1 st1.st _ fun S2 T2 H2 xs st2 w2 p2=>q S2 T2 H2 (x :: xs) (st1.trans st2) w2 (hq S2 x xs (st1.ss.trans st2.ss) (hP _ _ _ st2.ss p1) p2)
def All1 (P1:Hp→V→Prop):Hp→List V→Prop := fun S vs=>∃ a,vs=[a]∧P1 S a
theorem eva_1 (h1:Mono P1) (ha:Ev M ta σ S P1):EvA M (tCons ta tNil) σ S (All1 P1) := ev_cons (PR := fun _ vs=>vs=[]) h1 ha (fun S1 _=>ev_nil rfl) fun S2 x xs _ p e=>⟨x,by rw [e],p⟩
end
end Fm
namespace Fm
open PySem PySem.Spec PyProof.Rows L2
open PySem.W (Datum Tup T3 T4)
section
variable {X:Cx}
def rLenA (K:PySem.W.Frag):List V→Hp→VK→Prop := fun xs H Q=>∃ x n,xs=[x]∧LenV K x H n∧Q (.int n) H
theorem call_lenA:CallR X (.builtin "len") (rLenA X.K) := call_len
def rInt1:List V→Hp→VK→Prop := fun xs H Q=>(∃ i,xs=[.int i]∧Q (.int i) H)∨∃ k,xs=[.bl k]∧Q (.int (if k then 1 else 0)) H
theorem call_intA:CallR X (.type "int") rInt1 := call_int1
def rListOf (K:PySem.W.Frag):List V→Hp→VK→Prop := fun xs H Q=>∃ p ys,xs=[.ref p]∧(SqL K H p ys∨SqT K H p ys)∧∀ l,H l=none→Q (.ref l) (upd H l (.lst ys))
theorem call_listA:CallR X (.type "list") (rListOf X.K) := call_list_of
def rTupOf (K:PySem.W.Frag):List V→Hp→VK→Prop := fun xs H Q=>∃ p ys,xs=[.ref p]∧((SqL K H p ys∧∀ l,H l=none→Q (.ref l) (upd H l (.tup ys)))∨(SqT K H p ys∧Q (.ref p) H))
theorem call_tupA:CallR X (.type "tuple") (rTupOf X.K) := call_tuple_of
def rJoinA (K:PySem.W.Frag):V→List V→Hp→VK→Prop := fun x xs H Q=>∃ a p,∃ ys:List Str,x = .str a∧xs=[.ref p]∧(SqL K H p (ys.map V.str)∨SqT K H p (ys.map V.str))∧(ys.map (·.length)).sum + ys.length * a.length≤16777216∧Q (.str (Txt.join a ys)) H
theorem pe_joinA {o e:Expr} {to te:TE} {apos pos:Pos} (ho:PE X o to) (he:PE X e te) (hs:starEach [e] X.env=[(false,eval e X.env)] := by rfl) (hbase:attributeBase o "join" X.env (eval o X.env)=eval o X.env := by rfl) (hline:(apos.endLine == pos.line)=true := by rfl) :
 PE X (.Call (.Attribute o "join" apos) [e] [] pos) (tM1 (rJoinA X.K) to te) := pe_join ho he hs hbase hline
def rGtA:R2 := rI0 fun i j=>.bl (decide (j < i))
def rGeA:R2 := rI0 fun i j=>.bl (decide (j≤i))
theorem op_gtA:OpR X (compareOp .Gt) rGtA := op_gt
theorem op_geA:OpR X (compareOp .GtE) rGeA := op_ge
def rMulA:R2 := rI CMul fun i j=>.int (i * j)
theorem op_mulA:OpR X (binaryOp .Mult) rMulA := op_mul
def rDivA:R2 := rI CDivW fun i j=>.int (i / j)
theorem op_divA:OpR X (binaryOp .FloorDiv) rDivA := op_fdivW
end
section
variable {M:Wld} {K:PySem.W.Frag} {σ:L2.St} {S:Hp} {P:Hp→V→Prop} {ta tb te tc td:TE} {v x y:V} {α β γ δ:Type} [DecidableEq α] [Datum α] [DecidableEq β] [Datum β] [DecidableEq γ] [Datum γ] [DecidableEq δ] [Datum δ]
theorem isb {b b':Bool} (e:b=b'):Is K b' S (.bl b) := by subst e; exact is_bl
theorem rv_eq {a b:α} (hd:Datum.depth α≤60) (hx:Is K a S x) (hy:Is K b S y):Rv M (rEqP K x y) S (Is K (decide (a=b))) :=
 rv_now (v := .bl (PyData.eqv (Datum.toD a) (Datum.toD b))) (fun H s Q q=>⟨_,_,(hx.mono s).dp,(hy.mono s).dp,Datum.plain a,Datum.plain b,Nat.le_trans (Nat.min_le_left _ _) (Nat.le_trans (Datum.depth_le a) hd),q⟩) (isb (Datum.eqv a b))
theorem rv_ne {a b:α} (hd:Datum.depth α≤60) (hx:Is K a S x) (hy:Is K b S y):Rv M (rNeP K x y) S (Is K (!decide (a=b))) :=
 rv_now (v := .bl (!PyData.eqv (Datum.toD a) (Datum.toD b))) (fun H s Q q=>⟨_,_,(hx.mono s).dp,(hy.mono s).dp,Datum.plain a,Datum.plain b,Nat.le_trans (Nat.min_le_left _ _) (Nat.le_trans (Datum.depth_le a) hd),q⟩) (isb (by rw [Datum.eqv a b]))
theorem ev_eq {a b:α} (ha:Ev M ta σ S (Is K a)) (hb:Ev M tb σ S (Is K b)) (hd:Datum.depth α≤60 := by decide):Ev M (tOp (rEqP K) ta tb) σ S (Is K (decide (a=b))) :=
 ev_op is_mono ha (fun S1 e=>hb.mono is_mono e) fun S2 x y _ hx hy=>rv_eq hd hx hy
theorem ev_ne {a b:α} (ha:Ev M ta σ S (Is K a)) (hb:Ev M tb σ S (Is K b)) (hd:Datum.depth α≤60 := by decide):Ev M (tOp (rNeP K) ta tb) σ S (Is K (!decide (a=b))) :=
 ev_op is_mono ha (fun S1 e=>hb.mono is_mono e) fun S2 x y _ hx hy=>rv_ne hd hx hy
theorem ev_I0 {g:Int→Int→V} {i j:Int} (ha:Ev M ta σ S (Is K i)) (hb:Ev M tb σ S (Is K j)) (p:∀ S',P S' (g i j)):Ev M (tOp (rI0 g) ta tb) σ S P :=
 ev_op is_mono ha (fun S1 e=>hb.mono is_mono e) fun S2 x y _ hx hy=>rv_now (fun H s Q q=>⟨i,j,hx.int,hy.int,q⟩) (p _)
theorem ev_I {C:Int→Int→Prop} {g:Int→Int→V} {i j:Int} (ha:Ev M ta σ S (Is K i)) (hb:Ev M tb σ S (Is K j)) (hc:C i j) (p:∀ S',P S' (g i j)):Ev M (tOp (rI C g) ta tb) σ S P :=
 ev_op is_mono ha (fun S1 e=>hb.mono is_mono e) fun S2 x y _ hx hy=>rv_now (fun H s Q q=>⟨i,j,hx.int,hy.int,hc,q⟩) (p _)
theorem ev_gt {i j:Int} (ha:Ev M ta σ S (Is K i)) (hb:Ev M tb σ S (Is K j)):Ev M (tOp rGtA ta tb) σ S (Is K (decide (j < i))) := ev_I0 ha hb fun _=>is_bl
theorem ev_ge {i j:Int} (ha:Ev M ta σ S (Is K i)) (hb:Ev M tb σ S (Is K j)):Ev M (tOp rGeA ta tb) σ S (Is K (decide (j≤i))) := ev_I0 ha hb fun _=>is_bl
theorem ev_add {i j:Int} (ha:Ev M ta σ S (Is K i)) (hb:Ev M tb σ S (Is K j)):Ev M (tOp rAddA ta tb) σ S (Is K (i + j)) :=
 ev_op is_mono ha (fun S1 e=>hb.mono is_mono e) fun S2 x y _ hx hy=>rv_now (fun H s Q q=>.inl ⟨i,j,hx.int,hy.int,q⟩) is_int
theorem ev_cb {r:List V→Hp→VK→Prop} {t:TA} {PA:Hp→List V→Prop} (ha:EvA M t σ S PA) (hr:∀ S2 vs,Same S S2→PA S2 vs→Rv M (r vs) S2 P):Ev M (tCB r t) σ S P := fun T H w s Q q =>
 ha T H w s _ fun S1 T1 H1 vs st1 w1 p1=>hr S1 vs st1.ss p1 T1 H1 w1 st1.st Q fun S3 T3 H3 v st3 w3 p=>q S3 T3 H3 v (st1.trans st3) w3 p
theorem ev_int {i:Int} (ha:Ev M ta σ S (Is K i)):Ev M (tCB rInt1 (tCons ta tNil)) σ S (Is K i) :=
 ev_cb (eva_1 is_mono ha) fun S2 vs _ ⟨a,e,h⟩=>by
  subst e
  rw [h.int]
  exact rv_now (fun H s Q q=>.inl ⟨i,rfl,q⟩) is_int
theorem ev_disp {t:TA} {PA:Hp→List V→Prop} (ha:EvA M t σ S PA) (hz:∀ S vs,PA S vs→vs.length≤sizeLine) (hp:∀ S2 vs p,PA S2 vs→S2 p=none→P (upd S2 p (.lst vs)) (.ref p)):Ev M (tLst t) σ S P := fun T H w s Q q =>
 ha T H w s _ fun S1 T1 H1 vs st1 w1 p1=>⟨hz _ _ p1,fun p np=>by
  have nt := (M.sub w1).free np
  exact q _ _ _ _ (st1.trans (Step.new st1.st nt)) (M.new w1 np) (hp S1 vs p p1 (st1.st.free nt))⟩
theorem small_size {n:Nat} (h:n≤1000):n≤sizeLine := Nat.le_trans h (by decide)
theorem ev_l0:Ev M (tLst tNil) σ S (Is K ([]:List α)) :=
 ev_disp (PA := fun _ vs=>vs=[]) (ev_nil rfl) (fun _ vs e=>by subst e; exact small_size (by simp)) fun S2 vs p e np=>by
  subst e
  exact is_lst (.inl upd_same) .nil
theorem ev_ix {xs:List α} {i:Nat} {a:α} {j:Int} (ha:Ev M ta σ S (Is K xs)) (hb:Ev M tb σ S (Is K j)) (hj:j=(i:Int)) (h:xs[i]? = some a):Ev M (tOp (rIx K) ta tb) σ S (Is K a) :=
 ev_op is_mono ha (fun S1 e=>hb.mono is_mono e) fun S2 x y _ hx hy=>by
  obtain ⟨p,vs,rfl,h1,h2⟩ := hx.lst
  obtain ⟨v,h3,h4⟩ := h2.at_ h
  exact rv_now (fun H s Q q=>.inl ⟨p,vs,j,v,rfl,hy.int, .inl (Same.rd s h1),by rw [hj]; exact atI_nat h3,q⟩) h4
theorem IsAll.cut {xs:List α} {vs:List V} {lo hi:Option Int} (h:IsAll K xs S vs):IsAll K ((xs.drop (HT.sIx xs.length 0 lo)).take (HT.sIx xs.length xs.length hi - HT.sIx xs.length 0 lo)) S (cutV vs lo hi) := by
 unfold cutV
 rw [h.len]
 exact (h.drop_ _).take_ _
def cutL (xs:List α) (lo hi:Option Int):List α := (xs.drop (HT.sIx xs.length 0 lo)).take (HT.sIx xs.length xs.length hi - HT.sIx xs.length 0 lo)
theorem cutL_to (xs:List α) (n:Nat):cutL xs none (some (n:Int))=xs.take n := by
 unfold cutL
 rw [HT.sIx_none,HT.sIx_nat]
 show ((xs.drop 0).take _)=_
 rw [List.drop_zero,Nat.sub_zero]
 by_cases h:n≤xs.length
 ·rw [Nat.min_eq_left h]
 ·rw [Nat.min_eq_right (by omega),List.take_of_length_le (Nat.le_refl _),List.take_of_length_le (by omega)]
theorem cutL_from (xs:List α) (n:Nat):cutL xs (some (n:Int)) none=xs.drop n := by
 unfold cutL
 rw [HT.sIx_none,HT.sIx_nat]
 by_cases h:n≤xs.length
 ·rw [Nat.min_eq_left h,List.take_of_length_le (by rw [List.length_drop]; exact Nat.le_refl _)]
 ·rw [Nat.min_eq_right (by omega),List.drop_of_length_le (Nat.le_refl _),List.drop_of_length_le (by omega)]; simp
def EvO (M:Wld) (t:TO) (σ:L2.St) (S:Hp) (o:Option Int):Prop := ∀ T H,M.W T H→Same S T→∀ Q:Option Int→Hp→Prop,(∀ S' T' H',Step S T S' T'→M.W T' H'→Q o H')→t σ H Q
theorem evo_none:EvO M tNoPart σ S none := fun T H w s Q q=>q S T H (Step.refl s) w
theorem evo_some {i:Int} (h:Ev M te σ S (Is K i)):EvO M (tPart te) σ S (some i) := fun T H w s Q q=>h T H w s _ fun S1 T1 H1 v st w1 p=>⟨i,p.int,q S1 T1 H1 st w1⟩
theorem EvO.mono {t:TO} {o:Option Int} {S1:Hp} (h:EvO M t σ S o) (e:Same S S1):EvO M t σ S1 o := fun T H w s Q q =>
 h T H w (e.trans s) Q fun S' T' H' st w'=>q _ T' H' (st.widen e s).1 w'
end
end Fm
namespace Fm
open PySem PySem.Spec PyProof.Rows L2
open PySem.W (Datum Tup T3 T4)
structure Walks (J:It) (S:Hp) (n:Nat) (I:Nat→V→Prop):Prop where
 go:∀ i H,Same S H→i < n→J.go i H
 yl:∀ i H x H',Same S H→i < n→J.yld i H x H'→H' = H∧I i x
 st:∀ i H,Same S H→n≤i→J.stop i H
section
variable {K:PySem.W.Frag} {S:Hp} {a:Addr} {vs:List V}
theorem walks_list (h:Rd S a (.lst vs)):Walks (Itl K a) S vs.length (fun i x=>vs[i]? = some x) where
 go := fun i H s hi=>⟨vs,vs[i], .inl (Same.rd s h),List.getElem?_eq_getElem hi⟩
 yl := fun i H x H' s hi y=>⟨y.1,y.2 vs (.inl (Same.rd s h))⟩
 st := fun i H s hi=>⟨vs, .inl (Same.rd s h),hi⟩
theorem Walks.imp {J:It} {n:Nat} {I I':Nat→V→Prop} (w:Walks J S n I) (h:∀ i x,i < n→I i x→I' i x):Walks J S n I' where
 go := w.go
 yl := fun i H x H' s hi y=>⟨(w.yl i H x H' s hi y).1,h i x hi (w.yl i H x H' s hi y).2⟩
 st := w.st
end
def EvI (M:Wld) (wi:TI) (σ:L2.St) (S:Hp) (n:Nat) (I:Hp→Nat→V→Prop):Prop :=
 ∀ T H,M.W T H→Same S T→∀ R:It→Hp→Prop,(∀ S' T' H' J,Step S T S' T'→M.W T' H'→Walks J S' n (I S')→R J H')→wi σ H R
section
variable {M:Wld} {K:PySem.W.Frag} {σ:L2.St} {S:Hp} {tl:TE} {α β γ δ:Type} [DecidableEq α] [Datum α] [DecidableEq β] [Datum β] [DecidableEq γ] [Datum γ] [DecidableEq δ] [Datum δ]
def Itm (K:PySem.W.Frag) (xs:List α):Hp→Nat→V→Prop := fun S i v=>∃ x,xs[i]? = some x∧Is K x S v
theorem evi_list {xs:List α} (h:Ev M tl σ S (Is K xs)):EvI M (iSeq K tl) σ S xs.length (Itm K xs) := fun T H w s R q=>h T H w s _ fun S1 T1 H1 v st w1 p=>by
 obtain ⟨a,vs,rfl,h1,h2⟩ := p.lst
 have e:xs.length=vs.length := h2.len.symm
 refine .inl ⟨a,rfl,⟨vs, .inl (Same.rd (st.st.trans (M.sub w1)) h1)⟩,q S1 T1 H1 _ st w1 ?_⟩
 rw [e]
 exact (walks_list h1).imp fun i x _ hx=>h2.of hx
def MonoI (I:Hp→Nat→V→Prop):Prop := ∀ S S' i v,Same S S'→I S i v→I S' i v
theorem itm_mono {xs:List α}:MonoI (Itm K xs) := fun S S' i v e ⟨x,h1,h2⟩=>⟨x,h1,h2.mono e⟩
theorem Paired.snoc {α β:Type} {F:α→β→Prop}:∀ {l:List α} {r:List β} {a:α} {b:β},Paired F l r→F a b→Paired F (l ++ [a]) (r ++ [b])
 | _,_,_,_, .nil,h=>.cons h .nil
 | _,_,_,_, .cons x t,h=>.cons x (Paired.snoc t h)
def LstOf {ι:Type} (E:ι→Hp→V→Prop) (xs:List ι):Hp→V→Prop := fun S v=>∃ a ws,v = .ref a∧Rd S a (.lst ws)∧Paired (fun i w=>E i S w) xs ws
theorem LstOf.mono {ι:Type} {E:ι→Hp→V→Prop} {xs:List ι} (hE:∀ i,Mono (E i)):Mono (LstOf E xs) := fun S S' v e ⟨a,ws,h1,h2,h3⟩=>⟨a,ws,h1,Same.rd e h2,Paired.mapP h3 fun i w h=>hE i _ _ _ e h⟩
theorem paired_is {xs:List α}:∀ {ι:Type} {is:List ι} {f:ι→α} {ws:List V} {S:Hp},Paired (fun i w=>Is K (f i) S w) is ws→IsAll K (is.map f) S ws
 | _,_,_,_,_, .nil=>DqAll.nil
 | _,_,_,_,_, .cons h t=>DqAll.cons h (paired_is (xs := xs) t)
theorem ev_lcN {wi:TI} {g:TG} {tt:TT} {te:TE} {vs:List Nat} {n:Nat} {I:Hp→Nat→V→Prop} {p:Nat→Bool} {E:Nat→Hp→V→Prop} (hi:EvI M wi σ S n I) (hI:MonoI I) (hE:∀ i,Mono (E i)) (hz:n≤sizeLine)
  (hb:∀ i S1 v,i < n→Same S S1→I S1 i v→∃ σ',(∀ H,Same S1 H→∀ Q:L2.St→Hp→Prop,Q σ' H→g v (wipe σ vs) H Q)∧wipe σ' vs=wipe σ vs∧EvT M tt σ' S1 (p i)∧(p i=true→Ev M te σ' S1 (E i))) :
  Ev M (tLc wi g tt te vs) σ S (fun S' v=>∃ a ws,v = .ref a∧S a=none∧S' a=some (.lst ws)∧Paired (fun i w=>E i S' w) ((List.range n).filter p) ws) := fun T H w s Q q=>hi T H w s _ fun S1 T1 H1 J st1 w1 wk D nD=>by
 have nT:T1 D=none := (M.sub w1).free nD
 have nS:S1 D=none := st1.st.free nT
 refine ⟨fun i m H=>m=n - i∧i≤n∧∃ S2 T2 ws,Step S1 T1 S2 T2∧M.W T2 H∧T2 D=some (.lst ws)∧S2 D=none∧Paired (fun i w=>E i S2 w) ((List.range i).filter p) ws,⟨n,by omega,by omega,S1,_,[],Step.tmp st1.st nT,M.new w1 nD,upd_same,nS,by simpa using Paired.nil⟩, ?_⟩
 rintro i m H2 ⟨rfl,hin,S2,T2,ws,st2,w2,hD,hS,hp⟩
 have sH:Same S1 H2 := (st2.ss.trans st2.st).trans (M.sub w2)
 by_cases hlt:i < n
 ·refine .inr ⟨wk.go i H2 sH hlt,fun H'=>∃ S2 T2 ws,Step S1 T1 S2 T2∧M.W T2 H'∧T2 D=some (.lst ws)∧S2 D=none∧Paired (fun i w=>E i S2 w) ((List.range (i + 1)).filter p) ws,fun H' h=>⟨n - (i + 1),by omega,rfl,hlt,h⟩,fun x H' y=>?_⟩
  obtain ⟨e,hx⟩ := wk.yl i H2 x H' sH hlt y
  subst e
  obtain ⟨σ',hg,hw,ht,he⟩ := hb i S2 x hlt (st1.ss.trans st2.ss) (hI _ _ _ _ st2.ss hx)
  refine hg _ (st2.st.trans (M.sub w2)) _ ⟨hw,ht T2 _ w2 st2.st _ fun S3 T3 H3 st3 w3=>?_⟩
  have er:List.range (i + 1)=List.range i ++ [i] := List.range_succ
  cases hpi:p i with
  | false =>
   refine iteF ⟨S3,T3,ws,st2.trans st3,w3,st3.tt _ _ hD,st3.nw D (by rw [hD]; simp) hS, ?_⟩
   rw [er,List.filter_append]
   have:List.filter p [i]=[] := by simp [hpi]
   rw [this,List.append_nil]
   exact Paired.mapP hp fun i w h=>hE i _ _ _ st3.ss h
  | true =>
   refine iteT (((he hpi).mono (hE i) st3.ss) T3 H3 w3 st3.st _ fun S4 T4 H4 y st4 w4 pe=>?_)
   have h34 := st3.trans st4
   have hD4:T4 D=some (.lst ws) := h34.tt _ _ hD
   have hS4:S4 D=none := h34.nw D (by rw [hD]; simp) hS
   have hl:ws.length≤i := by
    rw [← Paired.length hp]
    exact Nat.le_trans (List.length_filter_le _ _) (by simp)
   refine ⟨ws,(M.sub w4) _ _ hD4,by omega,S4,_,ws ++ [y],(st2.trans h34).set nT hS4,M.set w4 hD4,upd_same,hS4, ?_⟩
   rw [er,List.filter_append]
   have:List.filter p [i]=[i] := by simp [hpi]
   rw [this]
   exact Paired.snoc (Paired.mapP hp fun i w h=>hE i _ _ _ h34.ss h) pe
 ·have e:i=n := by omega
  subst e
  refine .inl ⟨wk.st i H2 sH (Nat.le_refl _),q _ T2 H2 (.ref D) (st1.trans (st2.freeze nT hD)) w2 ⟨D,ws,rfl,st1.ss.free nS,upd_same,Paired.mapP hp fun i w h=>hE i _ _ _ (same_new hS) h⟩⟩
theorem wipe1 {i:Nat} {v:V}:wipe ((wipe σ [i]).set i (some v)) [i]=wipe σ [i] := by
 show (((σ.set i none).set i (some v)).set i none)=σ.set i none
 rw [List.set_set,List.set_set]
end
section
variable {M:Wld} {σ:L2.St} {S T H:Hp}
theorem for_ev {wi:TI} {g:TG} {tb:TS} {D:Ends} {n:Nat} {I:Hp→Nat→V→Prop} (hi:EvI M wi σ S n I) (hI:MonoI I) (w:M.W T H) (s:Same S T) (J:Nat→L2.St→Hp→Hp→Prop)
  (h0:∀ S1 T1,Step S T S1 T1→J 0 σ S1 T1)
  (hs:∀ i v σ2 S2 T2 H2,i < n→Step S T S2 T2→M.W T2 H2→J i σ2 S2 T2→I S2 i v →
   g v σ2 H2 fun σ3 H3=>tb { D with nx := fun σ' H'=>∃ S' T',Step S T S' T'∧M.W T' H'∧Same S2 S'∧J (i + 1) σ' S' T',ct := fun σ' H'=>∃ S' T',Step S T S' T'∧M.W T' H'∧Same S2 S'∧J (i + 1) σ' S' T',bk := D.nx } σ3 H3)
  (hd:∀ σ2 S2 T2 H2,Step S T S2 T2→M.W T2 H2→J n σ2 S2 T2→D.nx σ2 H2):tFor wi g tb D σ H := hi T H w s _ fun S1 T1 H1 J1 st1 w1 wk=>by
 refine ⟨fun i m σ H=>m=n - i∧i≤n∧∃ S2 T2,Step S T S2 T2∧Same S1 S2∧M.W T2 H∧J i σ S2 T2,⟨n,by omega,by omega,S1,T1,st1,Same.refl _,w1,h0 S1 T1 st1⟩, ?_⟩
 rintro i m σ2 H2 ⟨rfl,hin,S2,T2,st2,e2,w2,hJ⟩
 have sH:Same S1 H2 := (e2.trans st2.st).trans (M.sub w2)
 by_cases hlt:i < n
 ·refine .inr ⟨wk.go i H2 sH hlt,fun σ' H'=>∃ S' T',Step S T S' T'∧M.W T' H'∧Same S2 S'∧J (i + 1) σ' S' T',fun σ' H' ⟨S',T',a,b,c,d⟩=>⟨n - (i + 1),by omega,rfl,hlt,S',T',a,e2.trans c,b,d⟩,fun x H' y=>?_⟩
  obtain ⟨e,hx⟩ := wk.yl i H2 x H' sH hlt y
  subst e
  exact hs i x σ2 S2 T2 _ hlt st2 w2 hJ (hI _ _ _ _ e2 hx)
 ·have e:i=n := by omega
  subst e
  exact .inl ⟨wk.st i H2 sH (Nat.le_refl _),hd σ2 S2 T2 H2 st2 w2 hJ⟩
end
end Fm
namespace Fm
open PySem PySem.Spec PyProof.Rows L2
open PySem.W (Datum Tup T3 T4)
section
variable {P:Program} {w:World} {K:PySem.W.Frag} {mg:Str→Option Value} {base:Heap} {CX:CXT} {k:Nat} {f:Addr} {sp:Sp}
theorem fnR_of {fd:FuncData} {ps:List Str} (F:FnOk P w K mg base CX k f fd ps sp) (hb:Binds K fd ps []):FnR P w K mg base CX k f sp :=
 (F.raw hb .nil).imp fun vs H Q E h=>by rw [List.append_nil]; exact h
end
section
variable {X:Cx} {CX:CXT} {k:Nat} {C f:Addr} {sp:Sp} {E:XK} {x m:Str} {e o:Expr} {es:List Expr} {te ta:TE} {t:TA} {p pos apos:Pos}
theorem inst_at {pins:List (Addr × Obj)} {σ:L2.St} {H:Hp} {s:Shared} {a dx:Addr} {fs:List (Str × V)} (I:Inv X pins σ H s) (h:H a=some (.ins C dx fs)):∃ ox od,PySem.W.InstAt s.heap a ox C od := by
 obtain ⟨mA,O,_⟩ := ins_get I.hok h
 obtain ⟨od,J,_⟩ := O.look
 exact ⟨_,_,J⟩
structure Own (K:PySem.W.Frag) (C:Addr) (m:Str) (f:Addr):Prop where
 at_:PySem.W.findIn K (.ref C) m=some (some (.ref f))
 fn:PySem.W.isFn K (.ref f)=true
theorem rel_not {v:V} {u:Value} (r:RelV v u):u≠.notImplemented := by
 cases v <;> first | (obtain ⟨t,e⟩ := r; rw [e]; intro z; cases z) | (intro z; rw [z] at r; cases r)
theorem cmpBack {Q:Value→Shared→Prop} {u:Value} {s:Shared} (h:u≠.notImplemented) (q:Q u s):PySem.W.CmpBack Q u s := by
 unfold PySem.W.CmpBack
 cases u <;> first | exact absurd rfl h | exact q
theorem vals1' {x:V} {u:Value} (r:RelV x u):Vals [x] [u] := .cons r .nil
theorem vals2 {x y:V} {u v:Value} (r:RelV x u) (r':RelV y v):Vals [x,y] [u,v] := .cons r (.cons r' .nil)
def rOwn (C:Addr) (sp:Sp) (E:XK):R2 := fun x y H Q=>∃ a b dx dy fs gs,x = .ref a∧y = .ref b∧H a=some (.ins C dx fs)∧H b=some (.ins C dy gs)∧sp [x,y] H Q E
def rOwnIn (C:Addr) (sp:Sp) (E:XK) (neg:Bool):R2 := fun x y H Q=>∃ a dx fs,y = .ref a∧H a=some (.ins C dx fs)∧sp [y,x] H (fun v H'=>∃ b,v = .bl b∧Q (.bl (if neg then !b else b)) H') E
theorem op_inO (hs:Own X.K C "__contains__" f) (F:FnR X.prog X.w X.K X.mg X.base CX k f sp) (hr:Room k X.A) (hx:Passes CX X E):OpR X (compareOp .In) (rOwnIn C sp E false) := by
 intro pins s σ H x y v u Q I rx ry h
 obtain ⟨a,dx,fs,rfl,ha,q⟩ := h
 obtain rfl:u=Value.ref a := ry
 obtain ⟨ox,od,J⟩ := inst_at I ha
 obtain ⟨m,Fr⟩ := I.fr
 refine PySem.W.in_K Fr I.mod.kin J hs.at_ hs.fn ?_
 refine thn (wpAny_call (run_fnR F hr hx I (vals2 (x := V.ref a) rfl rx) q)) fun r s1 hq=>?_
 obtain ⟨z,H',I',rz,b,rfl,qz⟩ := hq
 cases rz
 exact wpAny_truthy_bool ⟨.bl b,H',I',rfl,qz⟩
def rOwnLen (C:Addr) (sp:Sp) (E:XK):List V→Hp→VK→Prop := fun xs H Q=>∃ a dx fs,xs=[.ref a]∧H a=some (.ins C dx fs)∧sp [.ref a] H (fun v H'=>∃ n,v = .int n∧0≤n∧n < 2 ^ 63∧Q (.int n) H') E
end
theorem in1_run {X:Cx} {CX:CXT} {k:Nat} {f:Addr} {sp:Sp} {E:XK} {pins:List (Addr × Obj)} {σ:L2.St} {H:Hp} {s:Shared} {Q:VK} {us:List Value} {vs:List V} (F:FnR X.prog X.w X.K X.mg X.base CX k f sp) (hr:Room (k + 1) X.A) (hx:Passes CX X E) (I:Inv X pins σ H s) (r:Vals vs us) (h:sp vs H Q E) :
  codeAny (model X.prog X.w) X.A.in1 (.call (.ref f) ⟨us,[]⟩) (fun r s'=>match r with | .ok (.ret v)=>EP X pins σ Q v s' | .ok _=>False | .error e=>X.xe e s') s := by
 refine codeAny_mono (F X.A.in1 X.stack s H us vs Q E hr.in1 I.env0.in1 r h) fun r s' hq=>?_
 cases r with
 | error e=>exact hx pins σ H s e s' I hq
 | ok fl =>
  cases fl with
  | ret u=>exact I.after hq
  | next=>exact False.elim hq
  | brk=>exact False.elim hq
  | cont=>exact False.elim hq
section
variable {X:Cx} {CX:CXT} {k:Nat} {C f:Addr} {sp:Sp} {E:XK} {x m:Str} {e o:Expr} {es:List Expr} {te ta:TE} {t:TA} {p pos apos:Pos}
theorem call_lenO (hs:Own X.K C "__len__" f) (F:FnR X.prog X.w X.K X.mg X.base CX k f sp) (hr:Room (k + 1) X.A) (hx:Passes CX X E):CallR X (.builtin "len") (rOwnLen C sp E) := by
 intro pins s σ H xs us Q I r h
 obtain ⟨a,dx,fs,rfl,ha,q⟩ := h
 obtain ⟨u,rfl,ru⟩ := vals1 r
 obtain rfl:u=Value.ref a := ru
 obtain ⟨ox,od,J⟩ := inst_at I ha
 obtain ⟨m,Fr⟩ := I.fr
 refine PySem.W.len_K Fr I.mod.kin J hs.at_ hs.fn ?_
 refine thn (wpAny_call (in1_run F hr hx I (vals1' (x := V.ref a) rfl) q)) fun r s1 hq=>?_
 obtain ⟨z,H',I',rz,n,rfl,h0,h1,qz⟩ := hq
 obtain ⟨t,rfl⟩ := rz
 exact ⟨⟨h0,h1⟩,⟨.int n,H',I'.tok _,⟨_,rfl⟩,qz⟩⟩
def TyE (K:PySem.W.Frag) (H:Hp) (y:V) (t:Value):Prop := TyX K H y t∨∃ b D dy gs,y = .ref b∧H b=some (.ins D dy gs)∧t = .ref D
theorem ty_looks {pins:List (Addr × Obj)} {σ:L2.St} {H:Hp} {s:Shared} {y:V} {u t:Value} (I:Inv X pins σ H s) (ry:RelV y u) (h:TyE X.K H y t):PySem.W.Looks (model X.prog X.w) s.heap (typeOf u) t := by
 rcases h with h | ⟨b,D,dy,gs,rfl,hb,rfl⟩
 ·obtain ⟨P,kx,hP,_⟩ := kit_of I ry h
  exact kx.ty _ _ I.kIn hP
 ·obtain rfl:u=Value.ref b := ry
  obtain ⟨ox,od,J⟩ := inst_at I hb
  exact J.type
def rOwnEq (K:PySem.W.Frag) (C:Addr) (sp:Sp) (E:XK):R2 := fun x y H Q=>∃ a dx fs t,x = .ref a∧H a=some (.ins C dx fs)∧TyE K H y t∧PySem.W.notFirst K C t=true∧sp [x,y] H Q E
theorem op_eqO (hs:Own X.K C "__eq__" f) (F:FnR X.prog X.w X.K X.mg X.base CX k f sp) (hr:Room k X.A) (hx:Passes CX X E):OpR X (compareOp .Eq) (rOwnEq X.K C sp E) := by
 intro pins s σ H x y v u Q I rx ry h
 obtain ⟨a,dx,fs,t,rfl,ha,hy,hn,q⟩ := h
 obtain rfl:v=Value.ref a := rx
 obtain ⟨ox,od,J⟩ := inst_at I ha
 obtain ⟨m,Fr⟩ := I.fr
 refine PySem.W.cmp_K (op := .Eq) hr.units0 Fr I.mod.kin J (ty_looks I ry hy) hn hs.at_ hs.fn ?_
 refine thn (wpAny_call (run_fnR F hr hx I (vals2 (x := V.ref a) rfl ry) q)) fun r s1 hq=>?_
 obtain ⟨z,H',I',rz,qz⟩ := hq
 exact cmpBack (rel_not rz) ⟨z,H',I',rz,qz⟩
structure Stat (K:PySem.W.Frag) (C:Addr) (m:Str) (p g:Addr):Prop where
 rd:PySem.W.readsIn K C (.type "type")=true
 ga:PySem.W.specialIn K (.ref C) "__getattribute__" = some (some (.builtin "type.__getattribute__"))
 at_:PySem.W.findCls K (.ref C) (.type "type") m=some (.get (.builtin "staticmethod.__get__") (.ref p) .none (.ref C))
 rc:∃ rest,PySem.W.recIn K p "staticmethod" = some (.ref g :: rest)
 kp:PySem.W.keepIn K (.ref g)=true
theorem getst_ok {p g:Addr} {pins:List (Addr × Obj)} {σ:L2.St} {H:Hp} {s:Shared} {A:Around} {E:Value→Shared→Prop} {b:Bool} {Q:Value→Shared→Prop} (I:Inv X pins σ H s) (k:Stat X.K C m p g) (h:∀ s',Inv X pins σ H s'→Q (.ref g) s') :
  wpAny (model X.prog X.w) A (getAttr (.ref C) m b) Q E s := by
 obtain ⟨rest,hp⟩ := k.rc
 refine PySem.W.cls_bind I.kIn k.rd k.at_ ?_
 exact wpAny_call (PySem.W.sm_get (s := { s with toks := s.toks + 1 }) I.kIn hp (PySem.W.handed_on rfl (h _ (I.tok _))))
end
end Fm
namespace Fm
open PySem PySem.Spec PyProof.Rows L2
open PySem.W (Datum Tup T3 T4)
theorem units65 {k:Nat} {A:Around} (hr:Room k A):A.units + 65 < cLine := by have := hr.un; omega
section
variable {X:Cx}
def rModA:R2 := rI (fun _ j=>0 < j) fun i j=>.int (i % j)
theorem op_modA:OpR X (binaryOp .Mod) rModA := op_mod
def rPowA:R2 := rI CPow fun i j=>.int (i ^ j.toNat)
theorem op_powA:OpR X (binaryOp .Pow) rPowA := op_pow
end
def obsB (fa:List (PySem.W.Frag→Bool)) (fn:List He5.DefA) (K:PySem.W.Frag):He.AlD := ((fa.all fun f=>f K) && fn.all fun d=>d.ok K,fn.map fun d=>He5.fnA K (d.at_ K))
section
variable {fa:List (PySem.W.Frag→Bool)} {fn:List He5.DefA} {K:PySem.W.Frag}
theorem factB (c:obsB fa fn K=He5.valA fn) (i:Nat) {f:PySem.W.Frag→Bool} (h:fa[i]? = some f := by rfl):f K=true := by
 have c1 := (He.ba (show ((fa.all fun f=>f K) && fn.all fun d=>d.ok K)=true from congrArg (fun z:He.AlD=>z.1) c)).1
 exact List.all_eq_true.mp c1 f (List.mem_of_getElem? h)
theorem defB (c:obsB fa fn K=He5.valA fn) (i:Nat) {d:He5.DefA} (h:fn[i]? = some d := by rfl):∃ fd,L2.FunD K d.name d.qual d.params d.body d.scope (d.dvs K) (d.kws K) (d.at_ K) fd := by
 have c2 := (He.ba (show ((fa.all fun f=>f K) && fn.all fun d=>d.ok K)=true from congrArg (fun z:He.AlD=>z.1) c)).2
 have e:fn.map (fun d=>He5.fnA K (d.at_ K))=fn.map He5.DefA.val := congrArg (fun z:He.AlD=>z.2) c
 have e2:(fn.map fun d=>He5.fnA K (d.at_ K))[i]? = (fn.map He5.DefA.val)[i]? := by rw [e]
 rw [List.getElem?_map,List.getElem?_map,h] at e2
 exact He5.DefA.funD (Option.some.inj e2) (List.all_eq_true.mp c2 d (List.mem_of_getElem? h))
end
section
variable {fa:List (PySem.W.Frag→Bool)} {fn:List He5.DefA} {K:PySem.W.Frag} {x qual:Str} {st:Stmt}
theorem defF (at_:PySem.W.Frag→Addr) (c:obsB fa fn K=He5.valA fn) (i:Nat) (h:fn[i]? = some ⟨at_,x,qual,defArgs st,defBody st,defScope st,[],[]⟩ := by rfl):∃ fd,Fun K x qual st (at_ K) fd := by
 obtain ⟨fd,F⟩ := defB c i h
 exact ⟨fd,He5.fun_of F⟩
theorem defK (at_:PySem.W.Frag→Addr) (st:Stmt) (x qual:Str) (c:obsB fa fn K=He5.valA fn) (i:Nat) (h:fn[i]? = some ⟨at_,x,qual,defArgs st,defBody st,defScope st,[],[]⟩ := by rfl):PySem.W.keepIn K (.ref (at_ K))=true := by
 obtain ⟨fd,F⟩ := defB c i h
 exact F.kp
end
def statB (K:PySem.W.Frag) (C:Addr) (m:Str):Bool := PySem.W.readsIn K C (.type "type") && (He.eqO (PySem.W.specialIn K (.ref C) "__getattribute__") (some (some (.builtin "type.__getattribute__"))) && (He5.wrapB K C "staticmethod" "staticmethod.__get__" m && PySem.W.keepIn K (.ref (He5.wf K C "staticmethod" m))))
theorem statB_ok {K:PySem.W.Frag} {C:Addr} {m:Str} (h:statB K C m=true):Stat K C m (He.ma K C m) (He5.wf K C "staticmethod" m) := by
 obtain ⟨h1,h⟩ := He.ba h
 obtain ⟨h2,h⟩ := He.ba h
 obtain ⟨h3,h4⟩ := He.ba h
 obtain ⟨h5,h6⟩ := He5.wrapB_ok h3
 exact ⟨h1,He.eqO_ok h2,h5,h6,h4⟩
structure ClsX (K:PySem.W.Frag) (C:Addr):Prop where
 ha:PySem.W.findIn K (.ref C) "__class__" = some (some (.builtin "object.__class__"))
 hn:PySem.W.specialIn K (.builtin "object.__class__") "__get__" = some (some (.builtin "getset_descriptor.__get__"))
 ht:PySem.W.takesIn K (.builtin "object.__class__")=some true
 hm:PySem.W.mroIn K C (.type "object")=some true
def clsXB (K:PySem.W.Frag) (C:Addr):Bool := He.eqO (PySem.W.findIn K (.ref C) "__class__") (some (some (.builtin "object.__class__"))) && (He.eqO (PySem.W.specialIn K (.builtin "object.__class__") "__get__") (some (some (.builtin "getset_descriptor.__get__"))) && (decide (PySem.W.takesIn K (.builtin "object.__class__")=some true) && decide (PySem.W.mroIn K C (.type "object")=some true)))
theorem clsXB_ok {K:PySem.W.Frag} {C:Addr} (h:clsXB K C=true):ClsX K C := by
 obtain ⟨h1,h⟩ := He.ba h
 obtain ⟨h2,h⟩ := He.ba h
 obtain ⟨h3,h4⟩ := He.ba h
 exact ⟨He.eqO_ok h1,He.eqO_ok h2,of_decide_eq_true h3,of_decide_eq_true h4⟩
theorem own_of {K:PySem.W.Frag} {C f:Addr} {m:Str} (h:Meth K C m f):Own K C m f := ⟨h.at_,h.fn⟩
section
variable {P:Program} {w:World} {K:PySem.W.Frag} {mg:Str→Option Value} {base:Heap} {k:Nat} {f:Addr} {sp:Sp} {x qual:Str} {st:Stmt} {N ps:List Str}
theorem fnR_def (F:∃ fd,Fun K x qual st f fd) (S:FnScope N ps (defScope st)) (len:∀ vs H Q E,sp vs H Q E→vs.length=ps.length)
  (hb:∀ (kV doc pm:Value) (an:Option Addr) (cdv ct:Value) (us:List Value),us.length=ps.length→bindArgs (PySem.W.fnOf x qual (defArgs st) (defBody st) (defScope st) .none kV doc pm an cdv ct) ⟨us,[]⟩=pure (ps.zip us))
  (t:TS) (hw:∀ (cdv:Value) (A:Around) (outer:List Env) (s:Shared) (H:Hp) (E:XK),Room k (A.deeper (envOfC qual (defScope st) s.heap.objs.size f cdv))→PSs (cxOf CX0 P w K mg base N qual (defScope st) f cdv A outer s H E).nox (defBody st) t)
  (hq:∀ H vs Q E,sp vs H Q E→t { nx := fun _ H'=>Q .non H',rt := Q } (start N vs) H):FnR P w K mg base CX0 (k + 1) f sp := by
 obtain ⟨fd,F⟩ := F
 exact fnR_of (F.ok S len fun cdv A outer s H vs Q E hr h=>⟨t,hw cdv A outer s H E hr,hq H vs Q E h⟩) (F.binds hb)
end
end Fm
namespace Fm
open PySem PySem.Spec PyProof.Rows L2
open PySem.W (Datum Tup T3 T4)
def PoolAt (H:Hp) (p g:Addr):Prop := ∃ (gs:List Int) (c sd n:Int),H p=some (.lst [.ref g, .int c, .int sd, .int n])∧H g=some (.lst (gs.map V.int))∧0≤sd∧sd < 2147483648
theorem PoolAt.ne {H:Hp} {p g:Addr} (h:PoolAt H p g):p≠g := by
 obtain ⟨gs,c,sd,n,h1,h2,_⟩ := h
 intro e
 rw [e,h2] at h1
 cases gs with
 | nil=>cases h1
 | cons a r=>cases h1
theorem PoolAt.keep {H H':Hp} {p g:Addr} (h:PoolAt H p g) (e1:H' p=H p) (e2:H' g=H g):PoolAt H' p g := by
 obtain ⟨gs,c,sd,n,h1,h2,h3⟩ := h
 exact ⟨gs,c,sd,n,e1.trans h1,e2.trans h2,h3⟩
theorem PoolAt.some {H:Hp} {p g:Addr} (h:PoolAt H p g):H p≠none∧H g≠none := by
 obtain ⟨gs,c,sd,n,h1,h2,h3⟩ := h
 rw [h1,h2]
 exact ⟨by simp,by simp⟩
def PWd (p:Addr) (T H:Hp):Prop := Same T H∧∃ g,T p=none∧T g=none∧PoolAt H p g
def PW (p:Addr):Wld where
 W := PWd p
 sub := fun h=>h.1
 new := fun {T H a o} ⟨s,g,h1,h2,h3⟩ na=>by
  have e1:p≠a := fun e=>h3.some.1 (by rw [e]; exact na)
  have e2:g≠a := fun e=>h3.some.2 (by rw [e]; exact na)
  exact ⟨same_both s,g,by rw [upd_ne e1]; exact h1,by rw [upd_ne e2]; exact h2,h3.keep (upd_ne e1) (upd_ne e2)⟩
 tmp := fun {T H a o} ⟨s,g,h1,h2,h3⟩ na=>by
  have e1:p≠a := fun e=>h3.some.1 (by rw [e]; exact na)
  have e2:g≠a := fun e=>h3.some.2 (by rw [e]; exact na)
  exact ⟨s.trans (same_new na),g,h1,h2,h3.keep (upd_ne e1) (upd_ne e2)⟩
 set := fun {T H a o o'} ⟨s,g,h1,h2,h3⟩ ha=>by
  have e1:p≠a := fun e=>by rw [e,ha] at h1; cases h1
  have e2:g≠a := fun e=>by rw [e,ha] at h2; cases h2
  exact ⟨same_both s,g,by rw [upd_ne e1]; exact h1,by rw [upd_ne e2]; exact h2,h3.keep (upd_ne e1) (upd_ne e2)⟩
 lift := fun {S S' T H H'} ⟨s,g,h1,h2,h3⟩ e st=>by
  obtain ⟨a,b⟩ := liftT_step s e st
  have k:∀ x,H x≠none→liftT T H S' x=T x := fun x hx=>by
   unfold liftT
   cases z:H x with
   | none=>exact absurd z hx
   | some o=>rfl
  refine ⟨_,a,b,g,by rw [k p h3.some.1]; exact h1,by rw [k g h3.some.2]; exact h2, ?_⟩
  obtain ⟨gs,c,sd,n,q1,q2,q3⟩ := h3
  exact ⟨gs,c,sd,n,st.tt _ _ q1,st.tt _ _ q2,q3⟩
end Fm
namespace Fm
open PySem PySem.Spec PyProof.Rows L2
open PySem.W (Datum Tup T3 T4)
section
variable {M:Wld} {K:PySem.W.Frag} {σ:L2.St} {S T H:Hp} {P:Hp→V→Prop} {te ta tb:TE} {tt:TT} {D:Ends} {t u:TS} {i:Nat} {b:Bool}
theorem ev_at {p:Addr} {vs:List V} {j n:Nat} {z:Int} {v:V} (h0:σ[j]? = some (some (.ref p))) (h:S p=some (.lst vs)) (hz:z=(n:Int)) (hv:vs[n]? = some v) (hP:P S v):Ev M (tOp (rIx K) (tVar j) (tC (.int z))) σ S P := fun T H w s Q q =>
 ⟨.ref p,h0, .inl ⟨p,vs,z,v,rfl,rfl,SqL.of ((s.trans (M.sub w)) _ _ h),by rw [hz]; exact atI_nat hv,q S T H v (Step.refl s) w hP⟩⟩
theorem q_set (h:Ev M te σ S P) (w:M.W T H) (s:Same S T) (q:∀ S' T' H' v,Step S T S' T'→M.W T' H'→P S' v→D.nx (σ.set i (some v)) H'):tAsg te (gName i) D σ H := h T H w s _ q
theorem q_ret (h:Ev M te σ S P) (w:M.W T H) (s:Same S T) (q:∀ S' T' H' v,Step S T S' T'→M.W T' H'→P S' v→D.rt v H'):tRet te D σ H := h T H w s _ q
theorem q_if (h:EvT M tt σ S b) (w:M.W T H) (s:Same S T) (h1:∀ S' T' H',Step S T S' T'→M.W T' H'→b=true→t D σ H') (h2:∀ S' T' H',Step S T S' T'→M.W T' H'→b=false→u D σ H'):tIfS tt t u D σ H := h T H w s _ fun S' T' H' st w'=>by
 cases b with
 | true=>exact iteT (h1 S' T' H' st w' rfl)
 | false=>exact iteF (h2 S' T' H' st w' rfl)
theorem ev_mod {a b:Int} (ha:Ev M ta σ S (Is K a)) (hb:Ev M tb σ S (Is K b)) (h:0 < b):Ev M (tOp rModA ta tb) σ S (Is K (a % b)) := ev_I ha hb h fun _=>is_int
theorem ev_div {a b:Int} (ha:Ev M ta σ S (Is K a)) (hb:Ev M tb σ S (Is K b)) (h:CDivW a b):Ev M (tOp rDivA ta tb) σ S (Is K (a / b)) := ev_I ha hb h fun _=>is_int
theorem ev_mul {a b:Int} (ha:Ev M ta σ S (Is K a)) (hb:Ev M tb σ S (Is K b)) (h:CMul a b):Ev M (tOp rMulA ta tb) σ S (Is K (a * b)) := ev_I ha hb h fun _=>is_int
theorem ev_pow {a b:Int} (ha:Ev M ta σ S (Is K a)) (hb:Ev M tb σ S (Is K b)) (h:CPow a b):Ev M (tOp rPowA ta tb) σ S (Is K (a ^ b.toNat)) := ev_I ha hb h fun _=>is_int
theorem ev_iv {j:Nat} {z:Int} (h:σ[j]? = some (some (.int z))):Ev M (tVar j) σ S (Is K z) := ev_var h is_int
theorem ev_ic {z:Int}:Ev M (tC (.int z)) σ S (Is K z) := ev_c is_int
end
end Fm
namespace Fm
open PySem PySem.Spec PyProof.Rows L2
open PySem.W (Datum Tup T3 T4)
section
variable {M:Wld} {K:PySem.W.Frag} {σ:L2.St} {S:Hp} {P P1 P2:Hp→V→Prop} {ta tb te tc td tl:TE} {v x y:V} {α β γ δ:Type} [DecidableEq α] [Datum α] [DecidableEq β] [Datum β] [DecidableEq γ] [Datum γ] [DecidableEq δ] [Datum δ]
theorem ty_tup {H:Hp} {a:Addr} {xs:List V} (h:SqT K H a xs):TyX K H (.ref a) (.type "tuple") := by
 rcases h with (h | ⟨o,h⟩) | ⟨o,its,n,h,hc,_⟩
 ·exact .base (.tup h)
 ·exact .fTuple h
 ·exact .kTuple h hc
theorem ty_ins {H:Hp} {a C dx:Addr} {fs:List (Str × V)} (c:Cls K C) (x:ClsX K C) (h:H a=some (.ins C dx fs)):TyX K H (.ref a) (.ref C) := .base (.ins h c x.ha x.hn x.ht x.hm)
end
end Fm
namespace Fm
open PySem PySem.Spec PyProof.Rows L2
open PySem.W (Datum Tup T3 T4)
inductive Orel {α β:Type} (F:α→β→Prop):Option α→Option β→Prop
 | no:Orel F none none
 | yes {a:α} {b:β}:F a b→Orel F (some a) (some b)
section
variable {ι:Type} {E:ι→Hp→V→Prop} {key:ι→Key} {xs:List ι} {x:ι} {S S':Hp} {kvs:List (Key × V)} {w:V} {k:Key}
def dlast (key:ι→Key) (xs:List ι) (k:Key):Option ι := xs.reverse.find? fun x=>decide (key x=k)
theorem dlast_snoc:dlast key (xs ++ [x]) k=if k=key x then some x else dlast key xs k := by
 unfold dlast
 rw [List.reverse_append]
 show List.find? _ (x :: xs.reverse)=_
 rw [List.find?_cons]
 by_cases h:k=key x
 ·simp [h]
 ·have h':¬ key x=k := fun e=>h e.symm
  simp [h,h']
def DAll (E:ι→Hp→V→Prop) (key:ι→Key) (xs:List ι) (S:Hp) (kvs:List (Key × V)):Prop := ∀ k,Orel (fun i w=>E i S w) (dlast key xs k) (valV kvs k)
theorem DAll.nil:DAll E key [] S [] := fun k=>.no
theorem DAll.put (h:DAll E key xs S kvs) (e:E x S w):DAll E key (xs ++ [x]) S (putK kvs (key x) w) := fun k=>by
 rw [dlast_snoc,valV_put]
 by_cases q:k=key x
 ·rw [if_pos q,if_pos q]; exact .yes e
 ·rw [if_neg q,if_neg q]; exact h k
theorem DAll.mono (hE:∀ i,Mono (E i)) (h:DAll E key xs S kvs) (e:Same S S'):DAll E key xs S' kvs := fun k=>by
 have := h k
 generalize dlast key xs k=a at this ⊢
 generalize valV kvs k=b at this ⊢
 cases this with
 | no=>exact .no
 | yes q=>exact .yes (hE _ _ _ _ e q)
def DctOf (E:ι→Hp→V→Prop) (key:ι→Key) (xs:List ι):Hp→V→Prop := fun S v=>∃ a kvs,v = .ref a∧Rd S a (.dK kvs)∧kvs.length≤xs.length∧DAll E key xs S kvs
theorem DctOf.mono (hE:∀ i,Mono (E i)):Mono (DctOf E key xs) := fun S S' v e ⟨a,kvs,h1,h2,h3,h4⟩=>⟨a,kvs,h1,Same.rd e h2,h3,h4.mono hE e⟩
end
section
variable {M:Wld} {K:PySem.W.Frag} {σ:L2.St} {S T H:Hp} {P P1 P2:Hp→V→Prop} {ta tb te tc td tk tv tl ty tx:TE} {v x y:V} {α β γ δ:Type} [DecidableEq α] [Datum α] [DecidableEq β] [Datum β] [DecidableEq γ] [Datum γ] [DecidableEq δ] [Datum δ]
theorem dlast_map {ι κ:Type} {key:κ→Key} {f:ι→κ} {xs:List ι} {k:Key}:dlast key (xs.map f) k=(dlast (fun i=>key (f i)) xs k).map f := by
 unfold dlast
 rw [← List.map_reverse,List.find?_map]
 rfl
theorem DctOf.of {ι κ:Type} {E:κ→Hp→V→Prop} {key:κ→Key} {f:ι→κ} {xs:List ι} (h:DctOf (fun i=>E (f i)) (fun i=>key (f i)) xs S v):DctOf E key (xs.map f) S v := by
 obtain ⟨a,kvs,h1,h2,h3,h4⟩ := h
 refine ⟨a,kvs,h1,h2,by rw [List.length_map]; exact h3,fun k=>?_⟩
 rw [dlast_map]
 have := h4 k
 cases e1:dlast (fun i=>key (f i)) xs k with
 | none =>
  rw [e1] at this
  generalize valV kvs k=o at this
  cases this
  exact .no
 | some j =>
  rw [e1] at this
  generalize valV kvs k=o at this
  cases this with
  | yes q=>exact .yes q
theorem Step.keep {S T S' T':Hp} (s:Same S T) (h:Step T T S' T'):Step S T S T' := ⟨Same.refl _,s.trans h.tt,h.tt,fun _ _ h=>h⟩
end
end Fm
namespace Fm
open PySem PySem.Spec PyProof.Rows L2
open PySem.W (Datum Tup T3 T4)
section
variable {M:Wld} {K:PySem.W.Frag} {σ:L2.St} {S T H S0 T0:Hp} {P P1 P2:Hp→V→Prop} {ta tb te tc td tk tv tl ty tx:TE} {v x y:V} {α β γ δ:Type} [DecidableEq α] [Datum α] [DecidableEq β] [Datum β] [DecidableEq γ] [Datum γ] [DecidableEq δ] [Datum δ]
theorem Paired.len {ι κ:Type} {R:ι→κ→Prop} {xs:List ι} {ys:List κ} (h:Paired R xs ys):ys.length=xs.length := (Paired.length h).symm
theorem Paired.all {ι κ:Type} {R:ι→κ→Prop} {F:κ→Prop} {xs:List ι} {ys:List κ} (h:Paired R xs ys) (hF:∀ i y,R i y→F y):∀ y∈ys,F y := by
 induction h with
 | nil=>intro y hy; exact nomatch hy
 | cons hh t ih =>
  intro y hy
  rcases List.mem_cons.mp hy with e | hy
  ·rw [e]; exact hF _ _ hh
  ·exact ih y hy
theorem nodup_le {α:Type} [DecidableEq α]:∀ {xs ys:List α},xs.Nodup→(∀ x∈xs,x∈ys)→xs.length≤ys.length
 | [],_,_,_=>Nat.zero_le _
 | x :: xs,ys,hn,h=>by
  have hx := h x (List.mem_cons_self ..)
  have hn' := List.nodup_cons.mp hn
  have := nodup_le (xs := xs) (ys := ys.erase x) hn'.2 fun z hz=>(List.mem_erase_of_ne (fun e=>hn'.1 (by rw [← e]; exact hz))).mpr (h z (List.mem_cons_of_mem _ hz))
  rw [List.length_erase_of_mem hx] at this
  have:0 < ys.length := List.length_pos_of_mem hx
  rw [List.length_cons]
  omega
theorem Same.sql {S S':Hp} {a:Addr} {vs:List V} (e:Same S S') (h:SqL K S a vs):SqL K S' a vs := by
 rcases h with h | h
 ·exact .inl (Same.rd e h)
 ·exact .inr h
theorem ev_cutQ {j:Nat} {a:Addr} {vs:List V} {tl th:TO} {lo hi:Option Int} {xs:List α} (hj:σ[j]? = some (some (.ref a))) (h1:SqL K S a vs) (h2:IsAll K xs S vs) (hl:EvO M tl σ S lo) (hh:EvO M th σ S hi):Ev M (tSl (rSlA K) (tVar j) tl th) σ S (Is K (cutL xs lo hi)) := fun T H w s Q q =>
 ⟨.ref a,hj,hl T H w s _ fun S2 T2 H2 st2 w2=>(hh.mono st2.ss) T2 H2 w2 st2.st _ fun S3 T3 H3 st3 w3=>by
  refine .inl ⟨a,vs,rfl,Same.sql ((st2.ss.trans st3.ss).trans (st3.st.trans (M.sub w3))) h1,fun l nl=>?_⟩
  have nt := (M.sub w3).free nl
  exact q _ _ _ _ ((st2.trans st3).trans (Step.new st3.st nt)) (M.new w3 nl) (is_lst (.inl upd_same) ((IsAll.cut (h2.mono (st2.ss.trans st3.ss))).mono (same_new (st3.st.free nt))))⟩
theorem fun_bindsTo {x qual:Str} {st:Stmt} {f:Addr} {fd:FuncData} {ps:List Str} (F:Fun K x qual st f fd)
  (h:∀ (kV doc pm:Value) (an:Option Addr) (cdv ct:Value) (us:List Value),us.length=ps.length→bindArgs (PySem.W.fnOf x qual (defArgs st) (defBody st) (defScope st) .none kV doc pm an cdv ct) ⟨us,[]⟩=pure (ps.zip us)) (s:Shared) (us:List Value) (hl:us.length=ps.length):BindsTo s fd ⟨us,[]⟩ (ps.zip us) := by
 obtain ⟨oc,od,kV,doc,pm,an,cdv,ct,osl,rfl,lk,hcd⟩ := F.ex
 exact .of_eq (h kV doc pm an cdv ct us hl)
end
end Fm
namespace Fm
open PySem PySem.Spec PyProof.Rows L2
open PySem.W (Datum Tup T3 T4)
end Fm
namespace Fm
open PySem PySem.Spec PyProof.Rows L2
open PySem.W (Datum Tup T3 T4)
def del (H:Hp) (l:Addr):Hp := fun a=>if a=l then none else H a
theorem del_same {H:Hp} {l:Addr}:del H l l=none := if_pos rfl
theorem del_ne {H:Hp} {l a:Addr} (h:a≠l):del H l a=H a := if_neg h
theorem upd_comm {H:Hp} {a b:Addr} {o u:HO} (h:a≠b):upd (upd H a o) b u=upd (upd H b u) a o := by
 funext c
 by_cases h1:c=a
 ·subst h1; rw [upd_ne h,upd_same,upd_same]
 ·by_cases h2:c=b
  ·subst h2; rw [upd_same,upd_ne h1,upd_same]
  ·rw [upd_ne h2,upd_ne h1,upd_ne h1,upd_ne h2]
theorem upd_upd {H:Hp} {a:Addr} {o u:HO}:upd (upd H a o) a u=upd H a u := by
 funext c
 by_cases h1:c=a
 ·subst h1; rw [upd_same,upd_same]
 ·rw [upd_ne h1,upd_ne h1,upd_ne h1]
theorem upd_del {H:Hp} {l:Addr} {o:HO} (h:H l=some o):upd (del H l) l o=H := by
 funext c
 by_cases h1:c=l
 ·subst h1; rw [upd_same,h]
 ·rw [upd_ne h1,del_ne h1]
theorem Step.hide {S T S' T':Hp} {l:Addr} {o:HO} (n:T l=none) (s:Same S T) (h:Step S (upd T l o) S' T'):Step S T S' (del T' l)∧T' l=some o := by
 have hl:T' l=some o := h.tt _ _ upd_same
 have hS:S' l=none := h.nw l (by rw [upd_same]; simp) (s.free n)
 refine ⟨⟨h.ss,fun b x q=>?_,fun b x q=>?_,fun a ha hs=>?_⟩,hl⟩
 ·have hb:b≠l := ne_of_none q hS
  rw [del_ne hb]; exact h.st b x q
 ·have hb:b≠l := ne_of_none q n
  rw [del_ne hb]; exact h.tt b x (by rw [upd_ne hb]; exact q)
 ·have hb:a≠l := fun e=>ha (by rw [e]; exact n)
  exact h.nw a (by rw [upd_ne hb]; exact ha) hs
def WL (M:Wld) (l:Addr) (o:HO):Wld where
 W := fun T H=>T l=none∧M.W (upd T l o) H
 sub := fun {T H} ⟨n,w⟩=>(same_new n).trans (M.sub w)
 new := fun {T H a u} ⟨n,w⟩ na=>by
  have hl:l≠a := ne_of_none ((M.sub w) _ _ upd_same) na
  exact ⟨by rw [upd_ne hl]; exact n,by rw [upd_comm (Ne.symm hl)]; exact M.new w na⟩
 tmp := fun {T H a u} ⟨n,w⟩ na=>⟨n,M.tmp w na⟩
 set := fun {T H a u u'} ⟨n,w⟩ ha=>by
  have hl:a≠l := ne_of_none ha n
  exact ⟨by rw [upd_ne (Ne.symm hl)]; exact n,by rw [upd_comm hl]; exact M.set w (by rw [upd_ne hl]; exact ha)⟩
 lift := fun {S S' T H H'} ⟨n,w⟩ e st=>by
  obtain ⟨T',st',w'⟩ := M.lift w (e.trans (same_new n)) st
  obtain ⟨a,b⟩ := st'.hide n e
  exact ⟨del T' l,a,del_same,by rw [upd_del b]; exact w'⟩
section
variable {M:Wld} {K:PySem.W.Frag} {σ:L2.St} {S T H S0 T0:Hp} {P P1 P2:Hp→V→Prop} {te ta tb:TE} {l p:Addr} {o o':HO} {vs:List V} {D:Ends} {i:Nat}
theorem WL.hp (w:(WL M l o).W T H):H l=some o := (M.sub w.2) _ _ upd_same
theorem WL.free (w:(WL M l o).W T H) (s:Same S T):S l=none := s.free w.1
theorem WL.put (w:(WL M l o).W T H):(WL M l o').W T (upd H l o') := ⟨w.1,by rw [← upd_upd (o := o)]; exact M.set w.2 upd_same⟩
theorem WL.back {S' T' H':Hp} (n:T l=none) (s:Same S T) (st:Step S (upd T l o) S' T') (w:M.W T' H'):∃ T2,Step S T S' T2∧(WL M l o).W T2 H' := by
 obtain ⟨a,b⟩ := st.hide n s
 exact ⟨del T' l,a,del_same,by rw [upd_del b]; exact w⟩
end
end Fm
namespace Fm
open PySem PySem.Spec PyProof.Rows L2
open PySem.W (Datum Tup T3 T4)
theorem lk_rev {x:Str} {v:Value}:∀ {ps:List Str} {us:List Value} {i:Nat},ps.Nodup→ps[i]? = some x→us[i]? = some v→(ps.zip us).reverse.lookup x=some v
 | [],_,_,_,h,_=>by simp at h
 | _ :: _,[],_,_,_,h=>by simp at h
 | p :: ps,w :: us,0,nd,h1,h2=>by
  have e1:p=x := by simpa using h1
  have e2:w=v := by simpa using h2
  subst e1; subst e2
  have hn:(ps.zip us).reverse.lookup p=none := by
   rw [List.lookup_eq_none_iff]
   intro q hq
   have hq':q∈ps.zip us := by simpa using hq
   obtain ⟨a,b⟩ := q
   have := (List.of_mem_zip hq').1
   have hne:p≠a := fun e=>(List.nodup_cons.mp nd).1 (e ▸ this)
   simpa using hne
  rw [List.zip_cons_cons,List.reverse_cons,List.lookup_append,hn]
  simp
 | p :: ps,w :: us,i + 1,nd,h1,h2=>by
  have := lk_rev (ps := ps) (us := us) (i := i) (List.nodup_cons.mp nd).2 (by simpa using h1) (by simpa using h2)
  rw [List.zip_cons_cons,List.reverse_cons,List.lookup_append,this]
  rfl
def cxS (P : Program) (w : World) (K : PySem.W.Frag) (mg : Str → Option Value) (base : Heap) (N : List Str) (qual : Str) (scope : Scope) (f cda cc : Addr) (A : Around) (outer : List Env) (s : Shared) (H : Hp) : Cx :=
  { cxOf CX0 P w K mg base N qual scope f (.ref cda) A outer s H E0 with
    env := PySem.W.ksEnv qual scope s.heap.objs.size f (.ref cda) cc
    A := A.deeper (PySem.W.ksEnv qual scope s.heap.objs.size f (.ref cda) cc)
    stack := PySem.W.ksEnv qual scope s.heap.objs.size f (.ref cda) cc :: outer
    fn := fun _ => false
    xe := fun _ _ => False }
structure SuScope (ps:List Str) (sc:Scope):Prop where
 kind:sc.kind = .function
 co:sc.isCoroutine=false
 gen:sc.isGenerator=false
 nd:ps.Nodup
 par:∀ x∈ps,sc.names.lookup x=some .local
 nocell:∀ y∈sc.names,y.2≠.cell
 free:∀ y∈sc.names,y.2 = .free→y.1 = "__class__"
 sup:sc.names.lookup ("super":Str)=some .globalImplicit
 cls:sc.names.lookup ("__class__":Str)=some .free
structure SuFn (K:PySem.W.Frag) (file:Str) (C f:Addr) (qual:Str) (params:Arguments) (body:List Stmt) (scope:Scope) (fd:FuncData) (cda cc:Addr):Prop where
 ex:∃ (name:Str) (oc:Value) (od:Option Addr) (kV doc pm:Value) (an:Option Addr) (ct:Value) (osl:Array (Option Value)),fd=PySem.W.ksFn name qual params body scope .none kV doc pm an (.ref cda) ct cc∧K.lookup f=some ⟨oc,od, .func fd,osl⟩
 code:PySem.W.codeIn K (.ref cda) qual=true
 file:∃ ccl cdd vs ccs tf,K.lookup cda=some ⟨ccl,cdd, .fields vs,ccs⟩∧vs[2]? = some (.str file tf)
 cell:∃ cl cld csl,K.lookup cc=some ⟨cl,cld, .cell (some (.ref C)),csl⟩
 sup:PySem.W.ks_superIn K C C "__init__" = some (some (.builtin "ValueError.__init__"))
 ve:PySem.W.subIn K (.ref C) (.type "ValueError")=some true
 self:PySem.W.mroIn K C (.ref C)=some true
 op:PySem.W.nsIn K cStatics "thirdparty.any" = some none
section
variable {P:Program} {w:World} {K:PySem.W.Frag} {mg:Str→Option Value} {base:Heap} {qual:Str} {scope:Scope} {f cda cc C a:Addr} {A:Around} {outer:List Env} {s s1:Shared} {H:Hp} {ps:List Str} {us:List Value} {vs:List V} {params:Arguments} {body:List Stmt} {fd:FuncData} {file:Str}
theorem inv_startS {h1:Heap} {tk:Nat} (S:SuScope ps scope) (hd:A.handled=none) (e0:Env0 P w K mg base A outer s H) (hl:vs.length=ps.length) (r:Vals vs us) (hc:∃ cl cld csl,K.lookup cc=some ⟨cl,cld, .cell (some (.ref C)),csl⟩)
  (hns:h1.Ns s.heap.objs.size (fun x=>(ps.zip us).reverse.lookup x)) (hk:∀ b o,s.heap.get? b=some o→h1.get? b=some o) :
  Inv (cxS P w K mg base ps qual scope f cda cc A outer s H) [] (start ps vs) H { s with heap := h1,toks := tk } := by
 obtain ⟨cl,cld,csl,hcl⟩ := hc
 have hb := e0.bs _ _ (e0.mod.kin _ _ hcl)
 have one:∀ y c,([(("__class__":Str),cc)]:List (Str × Addr)).lookup y=some c→y = "__class__" ∧ c=cc := fun y c h=>by
  by_cases e:y = "__class__"
  ·subst e
   have:cc=c := by simpa [List.lookup] using h
   exact ⟨rfl,this.symm⟩
  ·have e':(y == ("__class__":Str))=false := by simpa using e
   simp [List.lookup,e'] at h
 refine ⟨⟨e0.mod,S.kind,rfl,rfl,Nat.le_refl _,fun y z c h1 h2=>(one y c h1).1.trans (one z c h2).1.symm,fun y hy=>?_,(fun y c z _=>by cases z),fun _=>hd,Around.frames_deeper e0.frames, .inr ⟨rfl,rfl⟩,(fun b z=>nomatch z),e0.bs,e0.bsz,(fun b _ _ z=>nomatch z),(fun b z=>nomatch z),e0.funs,e0.frf⟩,
  rfl,e0.bare,Un.kept hk,⟨_,hns,fun i y v h1 h2 _=>?_⟩,fun y c h=>?_,e0.hok.fresh (Nat.le_refl _),fun y c h=>?_,(fun p hp=>nomatch hp),e0.hok.kept hk, ?_⟩
 ·have hy:scope.names.lookup y=some .cell∨scope.names.lookup y=some .free := hy
  rcases hy with hy | hy
  ·exact absurd rfl (S.nocell _ (PySem.mem_of_lookup hy))
  ·have e:y = "__class__" := S.free _ (PySem.mem_of_lookup hy) rfl
   subst e
   exact ⟨cc,by show ([(("__class__":Str),cc)]:List (Str × Addr)).lookup _=_; simp [List.lookup]⟩
 ·have hi:i < vs.length := by
   have := (List.getElem?_eq_some_iff.mp h1).1
   have:i < ps.length := this
   omega
  have hv:vs[i]? = some v := by
   unfold L2.start at h2
   rw [List.getElem?_append_left (by simpa using hi),List.getElem?_map] at h2
   cases e:vs[i]? with
   | none=>rw [e] at h2; cases h2
   | some b=>rw [e] at h2; cases h2; rfl
  obtain ⟨u,hu,rv⟩ := r.get hv
  exact ⟨u,rv, .inl ⟨S.par y (List.mem_of_getElem? h1),lk_rev S.nd h1 hu⟩⟩
 ·obtain ⟨rfl,rfl⟩ := one y c h
  exact ⟨_,_,hk _ _ hb.1,rfl⟩
 ·obtain ⟨rfl,rfl⟩ := one y c h
  exact hb.2
 ·unfold L2.start
  rw [List.length_append,List.length_map,List.length_replicate]
  show _=ps.length
  omega
theorem super_init {X:Cx} {bd:List Stmt} {p0 p1 p2 p3 pos:Pos} {j:Nat} {msg:Str} {σ:L2.St} {E:Value→Shared→Prop} {ar:Arg} {pl:Sem Bool}
  (hX:X=cxS P w K mg base ps qual scope f cda cc A outer s H) (S:SuScope ps scope) (F:SuFn K file C f qual params body scope fd cda cc) (T:OexC K C) (hfile:((P.main.file:Str) == file)=true) (htop:(P.main.scope.names.lookup ("super":Str)).isSome=false) (hmg:mg "super" = none)
  (hp:(params.posonlyargs ++ params.args).head? = some ar) (h0:ps[0]? = some ar.arg) (hs:σ[0]? = some (some (.ref a))) {H1:Hp} (I:Inv X [] σ H1 s1) (ha:H1 a=some (exo a C none))
  (hev:eval (.Call (.Attribute (.Call (.Name "super" p0) [] [] p1) "__init__" p2) [.Constant (.str msg) j p3] [] pos) X.env=(do
   let ov ← attributeBase (.Call (.Name "super" p0) [] [] p1) "__init__" X.env (eval (.Call (.Name "super" p0) [] [] p1) X.env)
   standAt p2.atName
   let (f,first) ← holding [ov] (getMethod ov "__init__" pl)
   callWith pos f first (backTo pos (starEach [.Constant (.str msg) j p3] X.env)) []) := by rfl)
  {Q:Value→Shared→Prop} (q:∀ u s',Inv X [] σ H1 s'→Q u s') :
  _root_.PySem.wpAt (model P w) X.A (.func bd X.env) (eval (.Call (.Attribute (.Call (.Name "super" p0) [] [] p1) "__init__" p2) [.Constant (.str msg) j p3] [] pos) X.env) Q E s1 := by
 subst hX
 obtain ⟨name,oc,od,kV,doc,pm,an,ct,osl,rfl,lkf⟩ := F.ex
 obtain ⟨ccl,cdd,vsF,ccs,tf,lkc,hvs⟩ := F.file
 obtain ⟨cl,cld,csl,lkcell⟩ := F.cell
 obtain ⟨nm,qn,NN,bs,bm,sn,sub,ab,col,dd,k0,k1,k2,k3,k5,hC,hbm⟩ := T.cls
 have hcl:∃ cd,PySem.W.clsIn K C=some cd := ⟨_,by unfold PySem.W.clsIn; rw [hC] <;> rfl⟩
 obtain ⟨cd,hcd⟩ := hcl
 refine ks_wpAt_MethodCall (pl := pl) ?_ hev
 have KX:K.In s1.heap := I.kIn
 have bk := I.bk
 obtain ⟨mb,hb1,hb2⟩ := I.ok.mod.blt
 obtain ⟨m,hns,hloc⟩ := id I.loc
 have hself:m ar.arg=some (.ref a) := by
  obtain ⟨u,ru,hu⟩ := hloc 0 ar.arg (.ref a) h0 hs (.inl (S.par _ (List.mem_of_getElem? h0)))
  have eu:u=Value.ref a := ru
  subst eu
  rcases hu with ⟨_,z⟩ | ⟨z,_⟩
  ·exact z
  ·have k:scope.names.lookup ar.arg=some .local := S.par _ (List.mem_of_getElem? h0)
   have z':scope.names.lookup ar.arg=some .cell∨scope.names.lookup ar.arg=some .free := z
   rw [k] at z'
   rcases z' with z' | z' <;> cases z'
 refine ks_wpAt_super_base (of := ⟨oc,od, .func _,osl⟩) (oc := ⟨ccl,cdd, .fields vsF,ccs⟩) S.sup S.cls (by decide) rfl (KX _ _ lkf) rfl hp rfl (KX _ _ lkc) rfl hvs hfile htop ?_
 refine PySem.W.ks_loadName_global S.kind S.sup (PySem.Calls.loadGlobal_builtin (mg := mg) (mb := mb) (I.ok.mod.glob.keeps bk) hmg (hb1.keeps bk) ((hb2 "super" (by decide)).trans (by decide +kernel:bootBuiltins "super" = some (.type "super"))) ⟨rfl, ?_⟩)
 refine wpAny_loadName_free S.kind S.cls (c := cc) (by show ([(("__class__":Str),cc)]:List (Str × Addr)).lookup _=_; simp [List.lookup]) ⟨_,KX _ _ lkcell,rfl⟩ ?_
 refine wpAny_loadName_local S.kind (S.par _ (List.mem_of_getElem? h0)) hns hself ?_
 have hCobj := KX _ _ hC
 refine ks_wpAny_isType_cls hCobj rfl ⟨rfl, ?_⟩
 obtain ⟨t1,hx⟩ := exo_at I.hok ha
 obtain ⟨hp1,g,d,t,os⟩ := s1
 refine ks_wpAny_call_super hCobj rfl hx rfl (fun c e=>by cases e) (PySem.W.looks_mroIn KX F.self) fun h2 e2 kp2=>?_
 have I2 := I.kept (t' := t) kp2
 have KX2:K.In h2 := KX.keeps kp2
 have hx2 := kp2 _ _ hx
 have IA:PySem.W.InstAt h2 a _ C none := ⟨hx2,rfl,rfl,trivial⟩
 have hsup := F.sup
 unfold PySem.W.ks_superIn at hsup
 rw [hcd,Option.bind_some] at hsup
 refine PySem.W.kxs_getMethod PySem.W.kxs_ValueError (l₀ := cd.mro) e2 (PySem.W.looks_opaque KX2 F.op) (fun A Q E s k q=>wpAny_bind ((PySem.W.looks_clsIn KX2 hcd) A _ E s k (wpAny_pure q))) rfl KX2 hsup (IA.type.andThen (PySem.W.looks_subIn KX2 F.ve)) (PySem.W.ks_ne KX2 IA hcd) (by decide) ?_
 have kp3:∀ b o,h2.get? b=some o→(h2.push (PySem.W.kxs_mw "ValueError.__init__" a)).get? b=some o := fun b o e=>Heap.get?_push_of_some _ e
 have I3 := I2.kept (t' := t + 1) kp3
 have hmw:(h2.push (PySem.W.kxs_mw "ValueError.__init__" a)).get? h2.objs.size=some (PySem.W.kxs_mw "ValueError.__init__" a) := Heap.get?_push_at rfl rfl
 have I4 := I3.pins_of (pins' := [(h2.objs.size,PySem.W.kxs_mw "ValueError.__init__" a)]) (fun p hp=>by
  rw [List.mem_singleton.mp hp]
  refine ⟨hmw,I2.hok.fresh (Nat.le_refl _),fun z=>?_,I2.nofs (Nat.le_refl _),fun v z=>by cases z⟩
  have := I2.lt
  have z':h2.objs.size=(cxS P w K mg base ps qual scope f cda cc A outer s H).env.locals := z
  rw [← z'] at this
  exact absurd this (Nat.lt_irrefl _))
 refine PySem.W.kxs_callWith (i := "ValueError.__init__") (x := a) rfl ?_
 have hpa:PA (cxS P w K mg base ps qual scope f cda cc A outer s H) [.Constant (.str msg) j p3] (tCons (tC (.str msg)) tNil) := pa_cons pe_str pa_nil
 refine PySem.Calls.evalArgs_plain (thn (hpa.run pos _ _ σ H1 (fun vs H2=>H2=H1∧vs.length≤1000) I4 ⟨rfl,by simp⟩) fun us2 s5 hh=>?_)
 obtain ⟨vs5,H5,I5,r5,e5,hl5⟩ := hh
 subst e5
 obtain ⟨hmw5,_⟩ := I5.pin _ (List.mem_append_right _ (List.mem_singleton.mpr rfl))
 refine ⟨hmw5, ?_⟩
 obtain ⟨t5,hx5⟩ := exo_at I5.hok ha
 have hC5 := I5.kIn _ _ hC
 obtain ⟨hp5,g5,d5,tk5,os5⟩ := s5
 refine wpAny_call (codeAny_of_tree ?_)
 show wpAny _ _ (callAny (.ref h2.objs.size) ⟨us2,[]⟩) _ _ _
 simp only [callAny]
 refine wpAny_bind (wpAny_load hmw5 ?_)
 refine PySem.W.KFB.if_so (by show (Value.type "method-wrapper" == Value.type "method" || Value.type "method-wrapper" == Value.type "builtin_function_or_method" || Value.type "method-wrapper" == Value.type "method-wrapper")=true; decide) ?_
 refine wpAny_bind (PySem.W.check_bound_init PySem.F.excBase_ValueError.toExcCallFacts hC5 hx5 rfl ?_)
 refine wpAny_bind (wpAny_pure (wpAny_pure ?_))
 refine ⟨plainId_quiet PySem.F.excBase_ValueError.init.plain _,codeAny_builtin PySem.F.excBase_ValueError.initEntry ?_⟩
 refine PySem.W.exc_init_tree (cls := .ref C) (t0 := t5) (dv := none) (c2 := .none) (c3 := .none) (b4 := .bool false) hx5 ?_ fun h6 kp6 hx6 _=>?_
 ·rw [← Paired.length r5,sizeLine_eq]
  omega
 have J := I5.write (t' := tk5) (x := a) (e := a) (o := exo a C none) (by rw [ha]; exact True.intro) (.inl rfl) kp6 ⟨_,hx6⟩ (exo_ok hx6)
 have eu:upd H5 a (exo a C none)=H5 := by
  funext b
  by_cases hb:b=a
  ·rw [hb,upd_same,ha]
  ·rw [upd_ne hb]
 rw [eu] at J
 exact q _ _ (J.pins_of (pins' := []) fun p hp=>nomatch hp)
end
end Fm
namespace Fm
open PySem PySem.Spec PyProof.Rows L2
open PySem.W (Datum Tup T3 T4)
section
variable {K:PySem.W.Frag} {C:Addr}
def rawEx (K:PySem.W.Frag) (C:Addr):Bool := match K.lookup C with
 | some ⟨.type "type",_, .cls cd,sl⟩=>(match cd.mro,sl.toList with
  | .ref C' :: bm,[_,_,_,_,some (.builtin n),_]=>C' == C && n == "ValueError.__new__" && !cd.hasDel && cd.hasDict && PySem.HandSPX.refsVE bm
  | _,_=>false)
 | _=>false
theorem rawEx_ok (q:rawEx K C=true):∃ nm qn N bs bm sn sub ab col dd k0 k1 k2 k3 k5,K.lookup C=some (excClassObj nm qn C N bs bm true sn sub ab col dd k0 k1 k2 k3 k5 "ValueError.__new__")∧PySem.HandSPX.refsVE bm=true := by
 unfold rawEx at q
 split at q
 ·rename_i dd cd sl ho
  split at q
  ·rename_i C' bm k0 k1 k2 k3 n k5 hm hs
   simp only [Bool.and_eq_true,beq_iff_eq,Bool.not_eq_true'] at q
   obtain ⟨⟨⟨⟨rfl,rfl⟩,hdel⟩,hdt⟩,ht⟩ := q
   obtain ⟨nm,bs,mro,ns,qn,hd,sn,sub,ab,col,del⟩ := cd
   dsimp only at hm hdel hdt
   subst hm hdel hdt
   have hsl:sl = #[k0,k1,k2,k3,some (.builtin "ValueError.__new__"),k5] := by
    obtain ⟨l⟩ := sl
    simp only at hs
    rw [hs]
   subst hsl
   exact ⟨nm,qn,ns,bs,bm,sn,sub,ab,col,dd,k0,k1,k2,k3,k5,ho,ht⟩
  ·cases q
 ·cases q
def oexB (K:PySem.W.Frag) (C:Addr):Bool := rawEx K C && (He.eqO (PySem.W.findIn K (.ref C) "__setattr__") (some (some (.builtin "object.__setattr__"))) && (decide (PySem.W.subIn K (.ref C) (.type "BaseException")=some true) && (decide (PySem.W.typeIn K (.ref C)=some (.type "type")) && PySem.W.keepIn K (.ref C))))
theorem oexB_ok (h:oexB K C=true):OexC K C := by
 obtain ⟨h1,h⟩ := He.ba h
 obtain ⟨h2,h⟩ := He.ba h
 obtain ⟨h3,h⟩ := He.ba h
 obtain ⟨h4,h5⟩ := He.ba h
 exact ⟨rawEx_ok h1,He.eqO_ok h2,of_decide_eq_true h3,of_decide_eq_true h4,h5⟩
def excB (K:PySem.W.Frag) (D:Addr):Bool := He.eqO (PySem.W.findIn K (.ref D) "__getattribute__") (some (some (.builtin "BaseException.__getattribute__"))) && (He.eqO (PySem.W.findIn K (.ref D) "__getattr__") (some none) && (decide (PySem.W.subIn K (.ref D) (.type "BaseException")=some true) && (PySem.W.hasDictIn K D &&
 (He.eqO (PySem.W.findIn K (.ref D) "__class__") (some (some (.builtin "object.__class__"))) && (He.eqO (PySem.W.specialIn K (.builtin "object.__class__") "__get__") (some (some (.builtin "getset_descriptor.__get__"))) && (decide (PySem.W.takesIn K (.builtin "object.__class__")=some true) && decide (PySem.W.mroIn K D (.type "object")=some true)))))))
theorem excB_ok (h:excB K C=true):ExcC K C := by
 obtain ⟨h1,h⟩ := He.ba h
 obtain ⟨h2,h⟩ := He.ba h
 obtain ⟨h3,h⟩ := He.ba h
 obtain ⟨h4,h⟩ := He.ba h
 obtain ⟨h5,h⟩ := He.ba h
 obtain ⟨h6,h⟩ := He.ba h
 obtain ⟨h7,h8⟩ := He.ba h
 exact ⟨He.eqO_ok h1,He.eqO_ok h2,of_decide_eq_true h3,h4,He.eqO_ok h5,He.eqO_ok h6,of_decide_eq_true h7,of_decide_eq_true h8⟩
theorem xf_of (c:ExcC K C):XfC K C := ⟨c.hg,c.hk,c.hs,c.hd⟩
structure DefE where
 cls:PySem.W.Frag→Addr
 qual:Str
 st:Stmt
 file:Str
def DefE.at_ (d:DefE) (K:PySem.W.Frag):Addr := He.ma K (d.cls K) "__init__"
def fnE (K:PySem.W.Frag) (a:Addr):He.FnW := match K.lookup a with
 | some ⟨_,_, .func fd,_⟩=>some (fd.name,fd.qualname,fd.params,fd.body,fd.scope,fd.globals,[],fd.builtins)
 | _=>none
def DefE.val (d:DefE):He.FnW := some ("__init__",d.qual,defArgs d.st, .stmts (defBody d.st),defScope d.st,mainGlobals,[],builtinsNs)
def isNone:Value→Bool
 | .none=>true
 | _=>false
theorem isNone_ok {v:Value} (h:isNone v=true):v = .none := by
 cases v <;> first | rfl | cases h
def fileB (K:PySem.W.Frag) (file:Str):Value→Bool
 | .ref c=>(match K.lookup c with
  | some ⟨_,_, .fields vs,_⟩=>(match vs.toList with
   | _ :: _ :: .str z _ :: _=>z == file
   | _=>false)
  | _=>false)
 | _=>false
theorem fileB_ok {file:Str} {v:Value} (h:fileB K file v=true):∃ c ccl cdd vs ccs tf,v = .ref c∧K.lookup c=some ⟨ccl,cdd, .fields vs,ccs⟩∧vs[2]? = some (.str file tf) := by
 unfold fileB at h
 split at h
 ·rename_i c
  split at h
  ·rename_i ccl cdd vs ccs e
   split at h
   ·rename_i v0 v1 z tf r e2
    have:z=file := by simpa using h
    subst this
    refine ⟨c,ccl,cdd,vs,ccs,tf,rfl,e, ?_⟩
    rw [← Array.getElem?_toList,e2]
    rfl
   ·cases h
  ·cases h
 ·cases h
def cellB (K:PySem.W.Frag) (C:Addr):List (Str × Addr)→Bool
 | [(n,cc)]=>n == ("__class__":Str) && (match K.lookup cc with
  | some ⟨_,_, .cell (some (.ref D)),_⟩=>D == C
  | _=>false)
 | _=>false
theorem cellB_ok {l:List (Str × Addr)} (h:cellB K C l=true):∃ cc,l=[(("__class__":Str),cc)]∧∃ cl cld csl,K.lookup cc=some ⟨cl,cld, .cell (some (.ref C)),csl⟩ := by
 unfold cellB at h
 split at h
 ·rename_i n cc
  obtain ⟨h1,h2⟩ := He.ba h
  split at h2
  ·rename_i cl cld D csl e
   have e1:n = "__class__" := by simpa using h1
   have e2:D=C := by simpa using h2
   subst e1 e2
   exact ⟨cc,rfl,cl,cld,csl,e⟩
  ·cases h2
 ·cases h
def DefE.ok (K:PySem.W.Frag) (d:DefE):Bool := (match K.lookup (d.at_ K) with
 | some ⟨_,_, .func fd,_⟩=>isNone fd.defaults && (PySem.W.codeIn K fd.code d.qual && (fileB K d.file fd.code && cellB K (d.cls K) fd.closure))
 | _=>false) && (oexB K (d.cls K) && (excB K (d.cls K) && (He.eqO (PySem.W.findIn K (.ref (d.cls K)) "__init__") (some (some (.ref (d.at_ K)))) && (decide (PySem.W.typeIn K (.ref (d.at_ K))=some (.type "function")) &&
 (He.eqO (PySem.W.ks_superIn K (d.cls K) (d.cls K) "__init__") (some (some (.builtin "ValueError.__init__"))) && (decide (PySem.W.subIn K (.ref (d.cls K)) (.type "ValueError")=some true) && (decide (PySem.W.mroIn K (d.cls K) (.ref (d.cls K))=some true) && He.eqO (PySem.W.nsIn K cStatics "thirdparty.any") (some none))))))))
structure Err (K:PySem.W.Frag) (file:Str) (C f:Addr) (qual:Str) (st:Stmt):Prop where
 oex:OexC K C
 exc:ExcC K C
 ini:PySem.W.findIn K (.ref C) "__init__" = some (some (.ref f))
 ty:PySem.W.typeIn K (.ref f)=some (.type "function")
 fn:∃ fd cda cc,SuFn K file C f qual (defArgs st) (defBody st) (defScope st) fd cda cc
theorem DefE.err {d:DefE} (e:fnE K (d.at_ K)=d.val) (c:d.ok K=true):Err K d.file (d.cls K) (d.at_ K) d.qual d.st := by
 obtain ⟨c1,h⟩ := He.ba c
 obtain ⟨h2,h⟩ := He.ba h
 obtain ⟨h3,h⟩ := He.ba h
 obtain ⟨h4,h⟩ := He.ba h
 obtain ⟨h5,h⟩ := He.ba h
 obtain ⟨h6,h⟩ := He.ba h
 obtain ⟨h7,h⟩ := He.ba h
 obtain ⟨h8,h9⟩ := He.ba h
 refine ⟨oexB_ok h2,excB_ok h3,He.eqO_ok h4,of_decide_eq_true h5, ?_⟩
 unfold fnE at e
 cases q:K.lookup (d.at_ K) with
 | none =>
  rw [q] at c1
  cases c1
 | some o =>
  obtain ⟨oc,od,dt,osl⟩ := o
  rw [q] at c1 e
  cases dt with
  | func fd =>
   obtain ⟨n1,n2,n3,n4,n5,n6,n7,n8,n9,n10,n11,n12,n13,n14,n15⟩ := fd
   have e2:(some (n1,n2,n3,n4,n5,n6,[],n15):He.FnW)=some (("__init__":Str),d.qual,defArgs d.st,FuncBody.stmts (defBody d.st),defScope d.st,mainGlobals,[],builtinsNs) := e
   simp only [Option.some.injEq,Prod.mk.injEq] at e2
   obtain ⟨k1,k2,k3,k4,k5,k6,_,k8⟩ := e2
   subst k1 k2 k3 k4 k5 k6 k8
   have c3:(isNone n8 && (PySem.W.codeIn K n13 d.qual && (fileB K d.file n13 && cellB K (d.cls K) n7)))=true := c1
   obtain ⟨m1,m⟩ := He.ba c3
   obtain ⟨m2,m⟩ := He.ba m
   obtain ⟨m3,m4⟩ := He.ba m
   have e8 := isNone_ok m1
   subst e8
   obtain ⟨cda,ccl,cdd,vs,ccs,tf,rfl,lkc,hv⟩ := fileB_ok m3
   obtain ⟨cc,rfl,hcell⟩ := cellB_ok m4
   exact ⟨_,cda,cc,⟨"__init__",oc,od,n9,n10,n11,n12,n14,osl,rfl,q⟩,m2,⟨ccl,cdd,vs,ccs,tf,lkc,hv⟩,hcell,He.eqO_ok h6,of_decide_eq_true h7,of_decide_eq_true h8,He.eqO_ok h9⟩
  | _=>cases c1
end
def cloO (o:Obj):List Addr := match o.data with
 | .func fd=>fd.closure.map (·.2)
 | _=>[]
def pushA:List Addr→Nat→List Addr→Nat × List Addr
 | [],m,l=>(m,l)
 | a :: r,m,l=>match Nat.beq (Nat.land (Nat.shiftRight m a) 1) 0 with
  | true=>pushA r (Nat.lor m (Nat.shiftLeft 1 a)) (a :: l)
  | false=>pushA r m l
def levelA (g:Addr→Option Obj):List Addr→Nat→List Addr→Nat × List Addr
 | [],m,l=>(m,l)
 | a :: r,m,l=>match g a with
  | some o=>(match pushA (He.refsD o ++ cloO o) m l with
   | (m',l')=>levelA g r m' l')
  | none=>levelA g r m l
def reachA (g:Addr→Option Obj):Nat→List Addr→Nat→List Addr
 | 0,l,_=>l
 | n + 1,l,m=>l ++ (match levelA g l m [] with
  | (m',l')=>reachA g n l' m')
def asE (g:Addr→Option Obj) (n:Nat):List Addr := match pushA [cStatics,mainGlobals] 0 [] with
 | (m,l)=>reachA g n l m
def obsE (fa:List (PySem.W.Frag→Bool)) (fn:List He5.DefA) (fe:List DefE) (K:PySem.W.Frag):He.AlD := (((fa.all fun f=>f K) && fn.all fun d=>d.ok K) && fe.all fun d=>d.ok K,(fn.map fun d=>He5.fnA K (d.at_ K)) ++ fe.map fun d=>fnE K (d.at_ K))
def valE (fn:List He5.DefA) (fe:List DefE):He.AlD := (true,fn.map He5.DefA.val ++ fe.map DefE.val)
def obsEG (n:Nat) (fa:List (PySem.W.Frag→Bool)) (fn:List He5.DefA) (fe:List DefE) (g:Addr→Option Obj):He.AlD := obsE fa fn fe (He.frG g (asE g n))
def hookE (n:Nat) (fa:List (PySem.W.Frag→Bool)) (fn:List He5.DefA) (fe:List DefE):PySem.W.Hook where
 α := He.AlD
 obs := fun s=>obsEG n fa fn fe s.heap.get?
 val := fun _=>valE fn fe
 says := fun _ h=>∃ K:PySem.W.Frag,K.In h∧obsE fa fn fe K=valE fn fe
 of := fun _ _ e=>⟨_,He.frG_in,e⟩
 keeps := fun _ _ _ ⟨K,hK,c⟩ k=>⟨K,PySem.W.Frag.In.keeps hK k,c⟩
theorem obsEG_eq {n:Nat} {fa:List (PySem.W.Frag→Bool)} {fn:List He5.DefA} {fe:List DefE} {g:Addr→Option Obj} {s:Shared} (h:∀ a,g a=s.heap.get? a):obsEG n fa fn fe g=(hookE n fa fn fe).obs s := by
 have e:g=s.heap.get? := funext h
 rw [e] <;> rfl
section
variable {fa:List (PySem.W.Frag→Bool)} {fn:List He5.DefA} {fe:List DefE} {K:PySem.W.Frag}
theorem toB (c:obsE fa fn fe K=valE fn fe):obsB fa fn K=He5.valA fn := by
 have c1 := (He.ba (show (((fa.all fun f=>f K) && fn.all fun d=>d.ok K) && fe.all fun d=>d.ok K)=true from congrArg (fun z:He.AlD=>z.1) c)).1
 have e:(fn.map fun d=>He5.fnA K (d.at_ K)) ++ (fe.map fun d=>fnE K (d.at_ K))=fn.map He5.DefA.val ++ fe.map DefE.val := congrArg (fun z:He.AlD=>z.2) c
 have e1 := (List.append_inj e (by simp)).1
 show (_,_)=(_,_)
 rw [c1,e1]
theorem toE (c:obsE fa fn fe K=valE fn fe) (i:Nat) {d:DefE} (h:fe[i]? = some d := by rfl):Err K d.file (d.cls K) (d.at_ K) d.qual d.st := by
 have c2 := (He.ba (show (((fa.all fun f=>f K) && fn.all fun d=>d.ok K) && fe.all fun d=>d.ok K)=true from congrArg (fun z:He.AlD=>z.1) c)).2
 have e:(fn.map fun d=>He5.fnA K (d.at_ K)) ++ (fe.map fun d=>fnE K (d.at_ K))=fn.map He5.DefA.val ++ fe.map DefE.val := congrArg (fun z:He.AlD=>z.2) c
 have e1 := (List.append_inj e (by simp)).2
 have e2:(fe.map fun d=>fnE K (d.at_ K))[i]? = (fe.map DefE.val)[i]? := by rw [e1]
 rw [List.getElem?_map,List.getElem?_map,h] at e2
 exact DefE.err (Option.some.inj e2) (List.all_eq_true.mp c2 d (List.mem_of_getElem? h))
end
end Fm
namespace Fm
open PySem PySem.Spec PyProof.Rows L2
open PySem.W (Datum Tup T3 T4)
section
variable {P:Program} {w:World} {K:PySem.W.Frag} {mg:Str→Option Value} {base:Heap} {file qual:Str} {C f:Addr} {st:Stmt} {ps:List Str} {rest:List Stmt} {t:TS} {p0 p1 p2 p3 pos pe:Pos} {j:Nat} {msg:Str} {ar:Arg}
theorem err_fn (Er:Err K file C f qual st) (S:SuScope ps (defScope st)) (hfile:((P.main.file:Str) == file)=true) (htop:(P.main.scope.names.lookup ("super":Str)).isSome=false) (hmg:mg "super" = none)
  (hp:((defArgs st).posonlyargs ++ (defArgs st).args).head? = some ar) (h0:ps[0]? = some ar.arg)
  (hbd:defBody st = .Expr (.Call (.Attribute (.Call (.Name "super" p0) [] [] p1) "__init__" p2) [.Constant (.str msg) j p3] [] pos) pe :: rest)
  (hb:∀ (name:Str) (kV doc pm:Value) (an:Option Addr) (cdv ct:Value) (cc:Addr) (us:List Value),us.length=ps.length→bindArgs (PySem.W.ksFn name qual (defArgs st) (defBody st) (defScope st) .none kV doc pm an cdv ct cc) ⟨us,[]⟩=pure (ps.zip us))
  (hev:∀ cda cc L:Addr,∃ pl,eval (.Call (.Attribute (.Call (.Name "super" p0) [] [] p1) "__init__" p2) [.Constant (.str msg) j p3] [] pos) (PySem.W.ksEnv qual (defScope st) L f (.ref cda) cc)=(do
   let ov ← attributeBase (.Call (.Name "super" p0) [] [] p1) "__init__" (PySem.W.ksEnv qual (defScope st) L f (.ref cda) cc) (eval (.Call (.Name "super" p0) [] [] p1) (PySem.W.ksEnv qual (defScope st) L f (.ref cda) cc))
   standAt p2.atName
   let (f',first) ← holding [ov] (getMethod ov "__init__" pl)
   callWith pos f' first (backTo pos (starEach [.Constant (.str msg) j p3] (PySem.W.ksEnv qual (defScope st) L f (.ref cda) cc))) []))
  (hsw:∀ cda cc L:Addr,swapsWith (.Call (.Attribute (.Call (.Name "super" p0) [] [] p1) "__init__" p2) [.Constant (.str msg) j p3] [] pos) none pe.line (PySem.W.ksEnv qual (defScope st) L f (.ref cda) cc)=pure false)
  (hw:∀ (cda cc:Addr) (A:Around) (outer:List Env) (s:Shared) (H:Hp),PSs (cxS P w K mg base ps qual (defScope st) f cda cc A outer s H) rest t) :
  FnR P w K mg base CX0 1 f (fun vs H Q _=>∃ a ws,vs = .ref a :: ws∧vs.length=ps.length∧H a=some (exo a C none)∧t { nx := fun _ H'=>Q .non H',rt := Q } (start ps vs) H) := by
 intro A outer s H us vs Q E hr e0 r ⟨a,ws,ev,hl,ha,hq⟩
 obtain ⟨fd,cda,cc,F⟩ := Er.fn
 obtain ⟨name,oc,od,kV,doc,pm,an,ct,osl,rfl,lkf⟩ := id F.ex
 have KX:K.In s.heap := e0.mod.kin.keeps fun b o e=>(e0.bs b o e).1
 have lim:s.heap.NoLimit := e0.mod.nolimit.keeps fun b o e=>(e0.bs b o e).1
 have hlu:us.length=ps.length := by rw [← r.length]; exact hl
 have T := Er.oex
 refine ks_codeAny_call_defAt (body := defBody st) hr.depth (KX _ _ lkf) rfl lim (PySem.W.codeRec_of KX F.code) rfl (.of_eq (hb name kV doc pm an (.ref cda) ct cc us hlu)) S.nocell (fun x hx=>S.par x.1 (List.of_mem_zip hx).1) (fun h1 hns hk=>?_) S.co S.gen S.kind
 have I:Inv (cxS P w K mg base ps qual (defScope st) f cda cc A outer s H) [] (start ps vs) H { s with heap := h1,toks := s.toks + (ps.zip us).length } := inv_startS S hr.hd e0 hl r F.cell hns hk
 have hs0:(start ps vs)[0]? = some (some (.ref a)) := by rw [ev]; rfl
 show _root_.PySem.wpAt (model P w) (A.deeper (PySem.W.ksEnv qual (defScope st) s.heap.objs.size f (.ref cda) cc)) (.func (defBody st) (PySem.W.ksEnv qual (defScope st) s.heap.objs.size f (.ref cda) cc)) (execs (defBody st) (PySem.W.ksEnv qual (defScope st) s.heap.objs.size f (.ref cda) cc)) _ _ _
 have fin:∀ s',Inv (cxS P w K mg base ps qual (defScope st) f cda cc A outer s H) [] (start ps vs) H s'→wpAny (model P w) (A.deeper (PySem.W.ksEnv qual (defScope st) s.heap.objs.size f (.ref cda) cc)) (execs rest (PySem.W.ksEnv qual (defScope st) s.heap.objs.size f (.ref cda) cc))
   (fun fl s'=>CR CX0 outer P w H s Q E (.ok (.ret (match fl with | .ret v=>v | _=>.none))) s') (fun _ _=>False) s' := fun s' I'=>by
  refine wpAny_mono ((hw cda cc A outer s H).run [] s' (start ps vs) H _ I' hq) (fun fl s2 hs=>?_) fun _ _ z=>False.elim z
  cases fl with
  | ret u =>
   obtain ⟨v,σ',H',J,rv,q⟩ := hs
   exact ⟨v,H',J.os,J.bare,J.base,J.hok,rv,q⟩
  | next =>
   obtain ⟨σ',H',J,q⟩ := hs
   exact ⟨.non,H',J.os,J.bare,J.base,J.hok,rfl,q⟩
  | brk =>
   obtain ⟨_,_,_,q⟩ := hs
   exact False.elim q
  | cont =>
   obtain ⟨_,_,_,q⟩ := hs
   exact False.elim q
 have F':SuFn K file C f qual (defArgs st) (defBody st) (defScope st) (PySem.W.ksFn name qual (defArgs st) (defBody st) (defScope st) .none kV doc pm an (.ref cda) ct cc) cda cc := F
 generalize hB:defBody st=bd at F' hbd ⊢
 subst hbd
 have hin:interactive (PySem.W.ksEnv qual (defScope st) s.heap.objs.size f (.ref cda) cc)=false := by
  unfold interactive
  show ((defScope st).kind == _ && _)=false
  rw [S.kind]
  rfl
 obtain ⟨pl,hev⟩ := hev cda cc s.heap.objs.size
 refine ks_wpAt_execs_cons (ks_wpAt_Expr_any ?_ hin (hsw cda cc _))
 refine super_init (pl := pl) (hev := hev) (X := cxS P w K mg base ps qual (defScope st) f cda cc A outer s H) (H1 := H) rfl S F' T hfile htop hmg hp h0 hs0 I ha (q := fun u s' I'=>?_)
 refine wpAt_of_wpAny (wpAny_mono (fin s' I') (fun _ _ z=>z) fun _ _ z=>z.elim)
end
def spE1 (C:Addr) (f:Str):Sp := fun vs H Q _=>∃ a v,vs=[.ref a,v]∧H a=some (exo a C none)∧∀ dx,H dx=none→dx≠a→Q .non (upd (upd H dx (exd dx [(f,v)])) a (exo a C (some dx)))
section
variable {X:Cx} {o e:Expr} {es:List Expr} {to te:TE} {ta:TA} {f g x:Str} {p p' p1 p2 pos:Pos} {C fI:Addr} {k:Nat} {sp:Sp} {CX:CXT}
def tMkE (C:Addr) (sp:Sp) (ta:TA):L2.St→Hp→XK→Prop := fun σ H Q=>ta σ H fun vs H1=>vs.length≤1000∧∀ a,H1 a=none→sp (.ref a :: vs) (upd H1 a (exo a C none))
 (fun v H2=>v = .non∧∃ (d:Addr) (fs:List (Str × V)),H2 a=some (exo a C (some d))∧H2 d=some (exd d fs)∧H1 d=none∧Q (.ref C) (some d) (upd (L2.del H2 a) d (.xd fs))) (fun _ _ _=>False)
theorem pmk_oexR (T:OexC X.K C) (iC:PySem.W.findIn X.K (.ref C) "__init__" = some (some (.ref fI))) (tI:PySem.W.typeIn X.K (.ref fI)=some (.type "function"))
  (F1:FnR X.prog X.w X.K X.mg X.base CX0 k fI sp) (hr:Room (k + 1) X.A) (hg:Gl X x) (hm:X.mg x=some (.ref C)) (ha:PA X (e :: es) ta)
  (hdb:(x == ("__debug__":Str))=false := by decide) (he:starEach (e :: es) X.env=(false,eval e X.env) :: starEach es X.env := by rfl) (hpl:(backTo pos (starEach es X.env)).any (·.1)=false := by rfl) :
  PMk X (.Call (.Name x p) (e :: es) [] pos) (tMkE C sp ta) := by
 intro pins s σ H Q I h
 obtain ⟨nm,q,N,bs,bm,sn,sub,ab,col,dd,k0,k1,k2,k3,k5,hC,hbm⟩ := T.cls
 refine wpAny_Call_Name_kw (ld_glob I hg hm ?_ hdb)
 refine PySem.W.callWith_K (h₀ := X.base) I.ok.mod.kin T.kC (thn (ha.run pos pins s σ H _ I h) fun us s1 ⟨vs,H1,I1,r1,hz,q1⟩=>⟨I1.kIn, ?_⟩) he hpl
 show wpAny _ _ (call (.ref C) us) _ _ _
 obtain ⟨hp,g,dr,tk,os⟩ := s1
 have hsz:hp.objs.size≤hp.objs.size + 1 := Nat.le_succ _
 have hn:H1 (hp.objs.size + 1)=none := I1.hok.fresh hsz
 have hq := q1 (hp.objs.size + 1) hn
 have kk:∀ b o,hp.get? b=some o→((hp.push (PySem.W.kdv_tup us)).push (PySem.HandSPX.excO C hp.objs.size)).get? b=some o := fun b o e=>Heap.get?_push_of_some _ (Heap.get?_push_of_some _ e)
 have hget:((hp.push (PySem.W.kdv_tup us)).push (PySem.HandSPX.excO C hp.objs.size)).get? (hp.objs.size + 1)=some (PySem.HandSPX.excO C hp.objs.size) := by heap_get
 have I2:Inv X pins σ (upd H1 (hp.objs.size + 1) (exo (hp.objs.size + 1) C none)) ⟨(hp.push (PySem.W.kdv_tup us)).push (PySem.HandSPX.excO C hp.objs.size),g,dr,tk,os⟩ :=
  I1.laid (t' := tk) (a := hp.objs.size + 1) (o := exo (hp.objs.size + 1) C none) (h' := (hp.push (PySem.W.kdv_tup us)).push (PySem.HandSPX.excO C hp.objs.size)) kk hsz (exo_ok hget)
 have r2:Vals (V.ref (hp.objs.size + 1) :: vs) (Value.ref (hp.objs.size + 1) :: us) := .cons rfl r1
 have hus:us.length≤sizeLine := by
  rw [← Paired.length r1,sizeLine_eq]
  omega
 refine wpAny_call (PySem.HandSPX.call_own F.excBase_ValueError (fun Y=>PySem.HandSPX.refsVE_contains Y bm hbm) (I1.kIn _ _ hC) (PySem.W.looks_findIn I1.kIn iC) (fun self=>PySem.W.bind_fn I1.kIn self tI) hus
  (codeAny_mono (F1 _ X.stack _ _ (Value.ref (hp.objs.size + 1) :: us) _ _ (fun _ _ _=>False) (hr.make C us []) (I2.env0.make C us []) r2 hq) fun r s' hq'=>?_))
 cases r with
 | error er=>exact False.elim hq'
 | ok fl =>
  cases fl with
  | ret u =>
   obtain ⟨v,H2,os2,bare2,un2,hok2,rv,ev,d,fs,ea,ed,hd1,q2⟩ := hq'
   subst ev
   obtain ⟨h2,g2,d2,t2,os'⟩ := s'
   exact ⟨rv,mk_end (raises_own T.exC T.tyC) I1 hsz kk un2 hok2 os2 bare2 ea ed hd1 q2⟩
  | next=>exact False.elim hq'
  | brk=>exact False.elim hq'
  | cont=>exact False.elim hq'
def tRz (C:Addr) (sp:Sp) (ta:TA) (W:WX):TS := fun _ σ H=>tMkE C sp ta σ H fun cls d H'=>W cls d σ H'
theorem ps_rz {file qual:Str} {st:Stmt} {W:WX} {pos2:Pos} (hc:X.calm=true) (tk:Takes X W) (T:Err X.K file C fI qual st) (F1:FnR X.prog X.w X.K X.mg X.base CX0 k fI sp) (hr:Room (k + 1) X.A) (hg:Gl X x) (hm:X.mg x=some (.ref C)) (ha:PA X (e :: es) ta)
 (hdb:(x == ("__debug__":Str))=false := by decide) (he:starEach (e :: es) X.env=(false,eval e X.env) :: starEach es X.env := by rfl) (hpl:(backTo pos (starEach es X.env)).any (·.1)=false := by rfl) :
 PS X (.Raise (some (.Call (.Name x p) (e :: es) [] pos)) none pos2) (tRz C sp ta W) := ps_raise hc tk (pmk_oexR T.oex T.ini T.ty F1 hr hg hm ha hdb he hpl)
end
section
variable {M:Wld} {K:PySem.W.Frag} {σ:L2.St} {S T H:Hp} {P P1 P2:Hp→V→Prop} {te ta tb:TE} {C:Addr} {f g:Str} {W:WX} {D:Ends}
def Rz1 (C:Addr) (f:Str) (P:Hp→V→Prop):Hp→Value→Option Addr→Prop := fun S cls d=>cls = .ref C∧∃ dd v,d=some dd∧S dd=some (.xd [(f,v)])∧P S v
def Rz2 (C:Addr) (f g:Str) (P P':Hp→V→Prop):Hp→Value→Option Addr→Prop := fun S cls d=>cls = .ref C∧∃ dd v u,d=some dd∧S dd=some (.xd [(g,u),(f,v)])∧P S v∧P' S u
theorem Rz1.mono {S S':Hp} {cls:Value} {d:Option Addr} (hP:Mono P) (h:Rz1 C f P S cls d) (e:Same S S'):Rz1 C f P S' cls d := by
 obtain ⟨h1,dd,v,h2,h3,h4⟩ := h
 exact ⟨h1,dd,v,h2,e _ _ h3,hP _ _ _ e h4⟩
theorem Rz2.mono {P':Hp→V→Prop} {S S':Hp} {cls:Value} {d:Option Addr} (hP:Mono P) (hP':Mono P') (h:Rz2 C f g P P' S cls d) (e:Same S S'):Rz2 C f g P P' S' cls d := by
 obtain ⟨h1,dd,v,u,h2,h3,h4,h5⟩ := h
 exact ⟨h1,dd,v,u,h2,e _ _ h3,hP _ _ _ e h4,hP' _ _ _ e h5⟩
end
section
variable {X:Cx} {CX:CXT} {k:Nat} {C f:Addr} {sp:Sp} {E:L2.St→XK} {x m:Str} {a b e o:Expr} {es:List Expr} {te ta tb:TE} {t:TA} {p pos apos:Pos}
theorem run_fnRS {pins:List (Addr × Obj)} {σ:L2.St} {H:Hp} {s:Shared} {Q:VK} {E:XK} {us:List Value} {vs:List V} (F:FnR X.prog X.w X.K X.mg X.base CX k f sp) (hr:Room k X.A) (hx:PassesAt CX X σ E) (I:Inv X pins σ H s) (r:Vals vs us) (h:sp vs H Q E) :
  codeAny (model X.prog X.w) X.A (.call (.ref f) ⟨us,[]⟩) (fun r s'=>match r with | .ok (.ret v)=>EP X pins σ Q v s' | .ok _=>False | .error e=>X.xe e s') s := by
 refine codeAny_mono (F X.A X.stack s H us vs Q E hr I.env0 r h) fun r s' hq=>?_
 cases r with
 | error e=>exact hx pins H s e s' I hq
 | ok fl =>
  cases fl with
  | ret u=>exact I.after hq
  | next=>exact False.elim hq
  | brk=>exact False.elim hq
  | cont=>exact False.elim hq
def OpRS (X:Cx) (f:Value→Value→Sem Value) (r:L2.St→R2):Prop :=
 ∀ (pins:List (Addr × Obj)) (s:Shared) (σ:L2.St) (H:Hp) (x y:V) (v u:Value) (Q:VK),Inv X pins σ H s→RelV x v→RelV y u→r σ x y H Q→wpAny (model X.prog X.w) X.A (f v u) (EP X pins σ Q) X.xe s
def tOpS (r:L2.St→R2) (ta tb:TE):TE := fun σ H Q=>ta σ H fun x H1=>tb σ H1 fun y H2=>r σ x y H2 Q
theorem pe_opS {op:Operator} {r:L2.St→R2} (ho:OpRS X (binaryOp op) r) (ha:PE X a ta) (hb:PE X b tb):PE X (.BinOp a op b pos) (tOpS r ta tb) := by
 refine ⟨fun pins s σ H Q I h=>?_⟩
 exact wpAny_BinOp (binT ha hb I h fun v u s2 x y H2 I2 rx ry q=>ho pins s2 σ H2 x y v u Q I2 rx ry q)
theorem op_ownS {op:Operator} (hc:PySem.W.selfFirst X.K C=true) (hs:Own X.K C (PySem.dunder op.info.2) f) (F:FnR X.prog X.w X.K X.mg X.base CX k f sp) (hr:Room k X.A) (hx:∀ σ,PassesAt CX X σ (E σ)):OpRS X (binaryOp op) (fun σ=>rOwn C sp (E σ)) := by
 intro pins s σ H x y v u Q I rx ry h
 obtain ⟨a,b,dx,dy,fs,gs,rfl,rfl,ha,hb,q⟩ := h
 obtain rfl:v=Value.ref a := rx
 obtain rfl:u=Value.ref b := ry
 obtain ⟨ox,od,J⟩ := inst_at I ha
 obtain ⟨oy,od',J'⟩ := inst_at I hb
 obtain ⟨m,Fr⟩ := I.fr
 refine PySem.W.binop_K Fr I.mod.kin J J'.type hc hs.at_ hs.fn ?_
 refine thn (wpAny_call (run_fnRS F hr (hx σ) I (vals2 (x := V.ref a) (y := V.ref b) rfl rfl) q)) fun r s1 hq=>?_
 obtain ⟨z,H',I',rz,qz⟩ := hq
 exact cmpBack (rel_not rz) ⟨z,H',I',rz,qz⟩
def tClS (sp:Sp) (E:L2.St→XK) (t:TA):TE := fun σ H Q=>t σ H fun vs H1=>sp vs H1 Q (E σ)
theorem pe_clS (F:FnR X.prog X.w X.K X.mg X.base CX k f sp) (hr:Room k X.A) (hg:Gl X x) (hm:X.mg x=some (.ref f)) (hk:PySem.W.keepIn X.K (.ref f)=true) (hx:∀ σ,PassesAt CX X σ (E σ)) (ha:PA X (e :: es) t) (hdb:(x == ("__debug__":Str))=false := by decide)
  (he:starEach (e :: es) X.env=(false,eval e X.env) :: starEach es X.env := by rfl) (hpl:(backTo pos (starEach es X.env)).any (·.1)=false := by rfl):PE X (.Call (.Name x p) (e :: es) [] pos) (tClS sp E t) := by
 refine ⟨fun pins s σ H Q I h=>?_⟩
 refine wpAny_Call_Name_kw (ld_glob I hg hm ?_ hdb)
 refine PySem.W.callWith_K (h₀ := X.base) I.ok.mod.kin hk (thn (ha.run pos pins s σ H _ I h) fun us s1 ⟨vs,H1,I1,r,q⟩=>⟨I1.kIn, ?_⟩) he hpl
 exact wpAny_call (run_fnRS F hr (hx σ) I1 r q)
def tStatS (C:Addr) (sp:Sp) (E:L2.St→XK) (ta:TE) (t:TA):TE := fun σ H Q=>ta σ H fun x H1=>x = .ref C∧t σ H1 fun vs H2=>sp vs H2 Q (E σ)
theorem pe_staticS {p g:Addr} {pl:Sem Bool} (he:PE X o ta) (c:Stat X.K C m p g) (F:FnR X.prog X.w X.K X.mg X.base CX k g sp) (hr:Room k X.A) (hx:∀ σ,PassesAt CX X σ (E σ)) (ha:PA X (e :: es) t)
  (hst:starEach (e :: es) X.env=(false,eval e X.env) :: starEach es X.env := by rfl) (hpl:(backTo pos (starEach es X.env)).any (·.1)=false := by rfl)
  (ht:eval (.Call (.Attribute o m apos) (e :: es) [] pos) X.env=(do
   let ov ← eval o X.env
   standAt apos.atName
   let (f,first) ← holding [ov] (getMethod ov m pl)
   callWith pos f first (backTo pos (starEach (e :: es) X.env)) (backToKw pos (keywordEach [] X.env))) := by rfl) :
  PE X (.Call (.Attribute o m apos) (e :: es) [] pos) (tStatS C sp E ta t) := by
 refine ⟨fun pins s σ H Q I h=>?_⟩
 refine PySem.W.methodCall_KW (pl := pl) (thn (he.run pins s σ H _ I h) fun u s1 ⟨x,H1,I1,rx,ex,q⟩=>?_) ht
 subst ex
 obtain rfl:u=Value.ref C := rx
 refine PySem.W.method_cls I1.kIn c.ga (getst_ok I1 c fun s2 I2=>?_)
 refine PySem.W.callWith_K (h₀ := X.base) (first := []) I2.ok.mod.kin c.kp (thn (ha.run pos pins s2 σ H1 _ I2 q) fun us s3 ⟨vs,H2,I3,r,q2⟩=>⟨I3.kIn, ?_⟩) hst hpl
 exact wpAny_call (run_fnRS F hr (hx σ) I3 r q2)
def tMakeS (C:Addr) (sp:Sp) (E:L2.St→XK) (t:TA):TE := fun σ H Q=>t σ H fun vs H1=>∀ x dx,H1 x=none→H1 dx=none→dx≠x →
 sp (V.ref x :: vs) (upd (upd H1 dx (.own x)) x (.ins C dx [])) (fun v H2=>v = .non∧Q (.ref x) H2) (E σ)
theorem pe_makeS (M:Mk X.K C f) (F:FnR X.prog X.w X.K X.mg X.base CX k f sp) (hr:Room (k + 1) X.A) (hg:Gl X x) (hm:X.mg x=some (.ref C)) (hx:∀ σ,PassesAt CX X σ (E σ)) (ha:PA X (e :: es) t) (hdb:(x == ("__debug__":Str))=false := by decide)
  (he:starEach (e :: es) X.env=(false,eval e X.env) :: starEach es X.env := by rfl) (hpl:(backTo pos (starEach es X.env)).any (·.1)=false := by rfl):PE X (.Call (.Name x p) (e :: es) [] pos) (tMakeS C sp E t) := by
 refine ⟨fun pins s0 σ H0 Q I0 h0=>?_⟩
 refine wpAny_Call_Name_kw (ld_glob I0 hg hm ?_ hdb)
 refine PySem.W.callWith_K (h₀ := X.base) I0.ok.mod.kin M.kp (thn (ha.run pos pins s0 σ H0 _ I0 h0) fun us s ⟨vs,H,I,r,h⟩=>⟨I.kIn, ?_⟩) he hpl
 have hq := h (s.heap.objs.size + 1) s.heap.objs.size (I.hok.fresh (Nat.le_succ _)) (I.hok.fresh (Nat.le_refl _)) (Nat.ne_of_lt (Nat.lt_succ_self _))
 have I2 := Inv.made (C := C) I
 have r2:Vals (V.ref (s.heap.objs.size + 1) :: vs) (Value.ref (s.heap.objs.size + 1) :: us) := .cons rfl r
 refine wpAny_call (make_map (f := f) I.kIn M.makes M.init (beq_iff_eq.mp M.fn) (codeAny_mono (F _ X.stack _ _ (Value.ref (s.heap.objs.size + 1) :: us) _ _ (E σ) (hr.make C us []) (I2.env0.make C us []) r2 hq) fun r s' hq'=>?_))
 cases r with
 | error e=>exact hx σ pins _ _ e s' I2 hq'
 | ok fl =>
  cases fl with
  | ret u =>
   obtain ⟨v,H',I3,rv,ev,q3⟩ := I2.after hq'
   subst ev
   exact ⟨rv,⟨V.ref (s.heap.objs.size + 1),H',I3,rfl,q3⟩⟩
  | next=>exact False.elim hq'
  | brk=>exact False.elim hq'
  | cont=>exact False.elim hq'
theorem passW {X:Cx} {W:WX} (tk:Takes X W):∀ σ,PassesAt (L2.CX X.prog X.w) X σ (WE W σ) := fun σ=>passAt tk σ
theorem PS.nox {st:Stmt} {t:TS} (h:PS X.nox st t):PS X st t := ⟨fun pins s σ H D I hw =>
 wpAny_mono (h.run pins s σ H D (I.wish _) hw) (fun _ _ q=>q.unwish) fun _ _ z=>False.elim z⟩
end
section
variable {M:Wld} {K:PySem.W.Frag} {σ:L2.St} {S T H S1:Hp} {P P1 P2 P3:Hp→V→Prop} {R R':Hp→Value→Option Addr→Prop} {te ta tb tc:TE} {C:Addr} {δ:Type}
def EvX (M:Wld) (t:(L2.St→XK)→TE) (σ:L2.St) (S:Hp) (P:Hp→V→Prop) (R:Hp→Value→Option Addr→Prop):Prop :=
 ∀ T H,M.W T H→Same S T→∀ (Q:VK) (E:L2.St→XK),(∀ S' T' H' v,Step S T S' T'→M.W T' H'→P S' v→Q v H')→(∀ S' T' H' cls d,Step S T S' T'→M.W T' H'→R S' cls d→E σ cls d H')→t E σ H Q
theorem EvX.imp {t:(L2.St→XK)→TE} (h:EvX M t σ S P R) (hp:∀ S' v,Same S S'→P S' v→P1 S' v) (hr:∀ S' cls d,Same S S'→R S' cls d→R' S' cls d):EvX M t σ S P1 R' := fun T H w s Q E q q' =>
 h T H w s Q E (fun S' T' H' v st w' p=>q S' T' H' v st w' (hp S' v st.ss p)) fun S' T' H' cls d st w' r=>q' S' T' H' cls d st w' (hr S' cls d st.ss r)
theorem EvA.imp {t:TA} {PA PB:Hp→List V→Prop} (h:EvA M t σ S PA) (k:∀ S' vs,Same S S'→PA S' vs→PB S' vs):EvA M t σ S PB := fun T H w s Q q =>
 h T H w s Q fun S' T' H' vs st w' p=>q S' T' H' vs st w' (k S' vs st.ss p)
end
theorem fnR_defX {P:Program} {w:World} {K:PySem.W.Frag} {mg:Str→Option Value} {base:Heap} {k:Nat} {f:Addr} {sp:Sp} {x qual:Str} {st:Stmt} {N ps:List Str} (F:∃ fd,Fun K x qual st f fd) (S:FnScope N ps (defScope st)) (len:∀ vs H Q E,sp vs H Q E→vs.length=ps.length)
  (hb:∀ (kV doc pm:Value) (an:Option Addr) (cdv ct:Value) (us:List Value),us.length=ps.length→bindArgs (PySem.W.fnOf x qual (defArgs st) (defBody st) (defScope st) .none kV doc pm an cdv ct) ⟨us,[]⟩=pure (ps.zip us))
  (t:XK→TS) (hw:∀ (cdv:Value) (A:Around) (outer:List Env) (s:Shared) (H:Hp) (E:XK),Room k (A.deeper (envOfC qual (defScope st) s.heap.objs.size f cdv))→PSs (cxOf (L2.CX P w) P w K mg base N qual (defScope st) f cdv A outer s H E) (defBody st) (t E))
  (hq:∀ H vs Q E,sp vs H Q E→t E { nx := fun _ H'=>Q .non H',rt := Q } (start N vs) H):FnR P w K mg base (L2.CX P w) (k + 1) f sp := by
 obtain ⟨fd,F⟩ := F
 exact fnR_of (F.okX S len fun cdv A outer s H vs Q E hr h=>⟨t E,hw cdv A outer s H E hr,hq H vs Q E h⟩) (F.binds hb)
end Fm
namespace Fm
open PySem PySem.Spec PyProof.Rows L2
def xcO (a:Addr) (cls:Value) (d:Option Addr):HO := .ext fun h=>∃ oe vs,h.get? a=some oe∧Zc cls d oe∧oe.data = .fields vs
theorem xcO_ok {P:Program} {w:World} {H:Hp} {h:Heap} {a:Addr} {cls:Value} {d:Option Addr} {oe:Obj} {vs:Array Value} (e:h.get? a=some oe) (z:Zc cls d oe) (v:oe.data = .fields vs):ObjOk P w H h a (xcO a cls d) :=
 ⟨⟨oe,vs,e,z,v⟩,⟨oe,e⟩,fun h1 h2 ⟨o,us,q1,q2,q3⟩ k=>⟨o,us,k o q1,q2,q3⟩⟩
theorem xcO_at {P:Program} {w:World} {H:Hp} {h:Heap} {a:Addr} {cls:Value} {d:Option Addr} (ok:HOk P w H h) (e:H a=some (xcO a cls d)):∃ oe vs,h.get? a=some oe∧Zc cls d oe∧oe.data = .fields vs := (ok a _ e).1
section
variable {X:Cx} {pins:List (Addr × Obj)} {σ:L2.St} {H:Hp} {s:Shared} {a:Addr} {cls:Value} {d:Option Addr} {oe:Obj} {vs:Array Value}
theorem adopt (I:L2.Inv X pins σ H s) (free:H a=none) (e:s.heap.get? a=some oe) (z:Zc cls d oe) (v:oe.data = .fields vs) (nl:a≠X.env.locals) (np:∀ p∈X.pn ++ pins,p.1≠a) (n0:∀ o,X.s_0.heap.get? a=some o→a∈X.ex):L2.Inv X pins σ (upd H a (xcO a cls d)) s where
 ok := I.ok
 os := I.os
 bare := I.bare
 base := ⟨I.base.keep,I.base.slot,fun b o e0 n nx=>by
  by_cases q:b=a
  ·rw [q] at e0 nx; exact absurd (n0 o e0) nx
  ·rw [upd_ne q]; exact I.base.free b o e0 n nx,I.base.there,fun b xs q=>by
  have := I.base.tups b xs q
  have ne:b≠a := fun w=>by rw [w,free] at this; cases this
  rw [upd_ne ne]; exact this,fun b o u q=>by
  have := I.base.frzs b o u q
  have ne:b≠a := fun w=>by rw [w,free] at this; cases this
  rw [upd_ne ne]; exact this,fun b ps q=>by
  obtain ⟨more,this⟩ := I.base.tbls b ps q
  have ne:b≠a := fun w=>by rw [w,free] at this; cases this
  exact ⟨more,by rw [upd_ne ne]; exact this⟩⟩
 loc := I.loc
 cell := I.cell
 free := by rw [upd_ne (Ne.symm nl)]; exact I.free
 freeC := fun x c hc=>by
  obtain ⟨w,o,ho,hd⟩ := I.cell x c hc
  have ne:c≠a := fun q=>by
   rw [q,e] at ho
   cases ho
   rw [v] at hd
   cases hd
  rw [upd_ne ne]
  exact I.freeC x c hc
 pin := fun p hp=>by
  obtain ⟨h1,h2,h3⟩ := I.pin p hp
  exact ⟨h1,by rw [upd_ne (np p hp)]; exact h2,h3⟩
 hok := fun b o q=>by
  by_cases w:b=a
  ·subst w
   rw [upd_same] at q
   cases q
   exact xcO_ok e z v
  ·rw [upd_ne w] at q
   refine (I.hok b o q).stay (fun c u _ r=>r) (fun c r=>?_) fun c xs r=>?_
   ·have ne:c≠a := fun w=>by rw [w,free] at r; cases r
    rw [upd_ne ne]; exact r
   ·have ne:c≠a := fun w=>by rw [w,free] at r; cases r
    rw [upd_ne ne]; exact r
 len := I.len
end
def wKp (K:PySem.W.Frag) (c:Value) (i:Nat) (ts:Addr→Value→Option Addr→TS) (Wout:WX) (D:Ends):WX := fun cls d σ H =>
 ∃ b,PySem.W.exmOne K cls c=some b∧(b=true→∀ a,H a=none→ts a cls d { nx := fun σ2 H2=>H2 a=none→D.nx (σ2.set i none) (upd H2 a (xcO a cls d)),rt := fun _ _=>False,bk := fun _ _=>False,ct := fun _ _=>False } (σ.set i (some (.ref a))) H)∧(b=false→Wout cls d σ H)
def tTryKp (K:PySem.W.Frag) (c:Value) (i:Nat) (tb:WX→TS) (ts:Addr→Value→Option Addr→TS) (Wout:WX):TS := fun D σ H=>tb (wKp K c i ts Wout D) D σ H
section
variable {X:Cx} {x n:Str} {c:Value} {i:Nat} {body suite:List Stmt} {st0:Stmt} {np pos pos':Pos} {tb:WX→TS} {ts:Addr→Value→Option Addr→TS} {Wout:WX}
theorem ps_try_kp (estk:X.stack=X.env :: X.outer) (efr:X.env.frame=some X.env.locals) (nd:X.N.Nodup) (ni:X.N[i]? = some n) (nloc:X.env.kindOf n=some .local) (nm:Names X x c) (tk:Takes X Wout)
  (hbody:∀ (W:WX) (pn:List (Addr × Obj)) (xe:Value→Shared→Prop),Takes (X.tr pn xe) W→PassesOwn (model X.prog X.w) X.A X.env xe→PSs (X.tr pn xe) body (tb W))
  (hsuite:∀ (a:Addr) (oe:Obj) (cls:Value) (d:Option Addr) (pn:List (Addr × Obj)),Zc cls d oe→(∃ vs,oe.data = .fields vs)→PSs (X.suite a ((a,oe) :: pn)) (st0 :: suite) (ts a cls d)) :
  PS X (.Try body [.ExceptHandler (some (.Name x np)) (some n) (st0 :: suite) pos'] [] [] pos) (tTryKp X.K c i tb ts Wout) where
 run := fun pins s σ H D I h=>by
  have ok := I.ok
  have fr:X.A.frames=some (X.env :: X.outer) := by rw [ok.frames,estk]
  refine wpAny_Try_except (wpAny_mono ((hbody (wKp X.K c i ts Wout D) (X.pn ++ pins) _ ?take PassesOwn.looking).run [] s σ H D (I.toTry _) h) (fun fl t q=>?_) fun e t q=>q)
  case take =>
   intro ev t z
   obtain ⟨a,B,tI,pins2,σ2,H2,cls,d,rfl,Jt,nb,up,sky,na,os,ag,b,hb,yes,no⟩ := z
   have J:L2.Inv X pins σ2 H2 tI := Jt.ofTry ok
   have skyF:Sky B (X.env :: X.outer) a (Zc cls d) X.env.locals t.heap := by rw [← estk]; exact sky
   show wpAny (model X.prog X.w) X.A (noteFrame (.ref a) X.env) _ _ _
   refine Sky.land Zc.steady fr efr skyF fun g3 la3 up3=>?_
   have J3:L2.Inv X pins σ2 H2 { t with heap := g3 } := J.landed nb la3.1 (up.trans up3) os ag
   obtain ⟨o3,us3,at3,z3,d3⟩ := la3.there
   have off:a ∉ frs (X.env :: X.outer) := fun hm=>by
    obtain ⟨_,o,eo,hnf⟩ := la3.2.2.1.mem hm
    rw [at3] at eo
    cases eo
    exact hnf _ d3
   have nL:a≠X.env.locals := fun q=>off (List.mem_filterMap.mpr ⟨X.env,List.mem_cons_self,by rw [efr,q]⟩)
   have nF:a ∉ X.fs := fun hm=>by
    obtain ⟨e,he,q⟩ := List.mem_filterMap.mp hm
    exact off (List.mem_filterMap.mpr ⟨e,List.mem_cons_of_mem _ he,q⟩)
   have gone:B.get? a=none := la3.2.1
   have notI:∀ o,tI.heap.get? a=some o→False := fun o q=>by
    have := nb a o q (by rw [estk]; exact off)
    rw [gone] at this
    cases this
   have np2:∀ p∈X.pn ++ pins,p.1≠a := fun p hp q=>notI p.2 (by rw [← q]; exact (J.pin p hp).1)
   have n0:∀ o,X.s_0.heap.get? a=some o→a∈X.ex := fun o q=>Classical.byContradiction fun nx=>by
    obtain ⟨o2,q2⟩ := J.base.there a o q nx
    exact notI o2 q2
   have S3 := J3.suite at3 d3 na nL nF
   refine wpAny_handleBy_cons (codeAny_handlers_test ?_) (by intro q; cases q)
   have LT:PySem.W.Looks (model X.prog X.w) g3 (typeOf (.ref a)) cls := fun A Q E s k q=>wpAny_typeOf_ref (k _ _ at3) (by rw [z3.1]; exact q)
   have LM := PySem.W.exm_one (M := model X.prog X.w) J3.kIn LT hb
   have named:∀ {Q:Value→Shared→Prop} {E:Value→Shared→Prop},Q c { t with heap := g3 }→wpAny (model X.prog X.w) (X.A.mark (some (.ref a))) (eval (.Name x np) X.env) Q E { t with heap := g3 } := fun {Q E} q=>by
    obtain ⟨hg,hdbg,hm | ⟨hm,hv,hnn⟩⟩ := nm
    ·exact ld_glob (X := X.suite a ((a,o3) :: (X.pn ++ pins))) S3 hg hm q hdbg
    ·exact ld_blt (X := X.suite a ((a,o3) :: (X.pn ++ pins))) S3 hg hm hv q hnn hdbg
   refine named (LM.here ?_)
   cases b with
   | true =>
    refine codeAny_handlers_suite_as (HandSPX.lands_againZ la3 fun g4 la4 up4=>?_)
    have J4:L2.Inv X pins σ2 H2 { t with heap := g4 } := J.landed nb la4.1 ((up.trans up3).trans up4) os ag
    obtain ⟨o4,us4,at4,z4,d4⟩ := la4.there
    have S4 := J4.suite at4 d4 na nL nF
    refine store_ok (X := X.suite a ((a,o4) :: (X.pn ++ pins))) (v := .ref a) S4 nd ni (.inl nloc) rfl (fun t5 S5=>?_) (.inr nloc)
    refine wpAny_mono ((hsuite a o4 cls d (X.pn ++ pins) z4 ⟨_,d4⟩).run [] t5 _ H2 _ S5 (yes rfl a na)) (fun fl t6 q=>?_) fun _ _ z=>False.elim z
    cases fl with
    | next =>
     obtain ⟨σ6,H6,S6,q6⟩ := q
     obtain ⟨p1,p2,_⟩ := S6.pin (a,o4) (List.mem_append_left _ (List.mem_cons_self ..))
     have A6 := adopt (S6.unsuite ok) p2 p1 z4 d4 nL np2 n0
     exact gone_ok A6 nd ni nloc fun t7 J7=>⟨_,_,J7,q6 p2⟩
    | brk=>obtain ⟨_,_,_,z⟩ := q; exact z.elim
    | cont=>obtain ⟨_,_,_,z⟩ := q; exact z.elim
    | ret u=>obtain ⟨_,_,_,_,_,z⟩ := q; exact z.elim
   | false =>
    show wpAny _ X.A (handleBy (.ref a) X.env []) _ _ _
    refine wpAny_handleBy_nil ?_
    obtain ⟨k1,k2,k3,o5,us5,T,oT,ts',at5,z5,d5,h1,hr⟩ := id la3
    unfold PySem.passOn
    refine wpAny_bind (wpAny_field at5 d5 h1 ?_)
    rw [if_neg (show ¬ ((Value.ref T == Value.none)=true) from by simp)]
    have fin:wpAny (model X.prog X.w) X.A (setFlight (.ref a) X.env.frame) (fun _ s4=>wpAny (model X.prog X.w) X.A (throw (.ref a):Sem Flow) (SP X pins D) X.xe s4) X.xe { t with heap := g3 } := by
     rw [efr]
     exact HandSPX.setFlight_upZ la3 fun g4 held up4=>wpAny_throw (tk _ _ ⟨a,B,tI,pins,σ2,H2,cls,d,rfl,J,nb,(up.trans up3).trans up4, .inr (.inr (by rw [estk]; exact held)),na,os,ag,no rfl⟩)
    first
     | exact wpAny_bind (wpAny_pure (wpAny_bind fin))
     | exact wpAny_bind fin
  cases fl with
  | next=>obtain ⟨σ2,H2,J,z⟩ := q; exact wpAny_execs_nil ⟨σ2,H2,J.ofTry ok,z⟩
  | brk=>obtain ⟨σ2,H2,J,z⟩ := q; exact ⟨σ2,H2,J.ofTry ok,z⟩
  | cont=>obtain ⟨σ2,H2,J,z⟩ := q; exact ⟨σ2,H2,J.ofTry ok,z⟩
  | ret u=>obtain ⟨v,σ2,H2,J,r,z⟩ := q; exact ⟨v,σ2,H2,J.ofTry ok,r,z⟩
end
def tXk (C:Addr) (f:Str) (te:TE):TE := fun σ H Q=>te σ H fun x H1=>∃ (a dd:Addr) (fs:List (Str × V)) (v:V),x = .ref a∧H1 a=some (xcO a (.ref C) (some dd))∧H1 dd=some (.xd fs)∧fs.lookup f=some v∧Q v H1
theorem pe_xk {X:Cx} {C:Addr} {e:Expr} {te:TE} {pos:Pos} {n:Str} (T:XfC X.K C) (no:PySem.W.findIn X.K (.ref C) n=some none) (he:PE X e te) (hb:attributeBase e n X.env (eval e X.env)=eval e X.env := by rfl):PE X (.Attribute e n pos) (tXk C n te) where
 run := fun pins s σ H Q I h=>by
  refine attr_of hb (thn (he.run pins s σ H _ I h) fun w t ⟨x,H1,J,rx,a,dd,fs,v,ex,ea,ed,l,q⟩=>?_)
  subst ex
  obtain rfl:w=Value.ref a := rx
  obtain ⟨o,vs,at1,z,hd⟩ := xcO_at J.hok ea
  obtain ⟨mA,ns,rl⟩ := J.hok dd _ ed
  obtain ⟨od,ho,hl⟩ := lookIn_ns ns
  obtain ⟨u,hu,ru⟩ := RelO.some_of (v := v) (o := mA n) (by rw [← l]; exact rl n)
  have look:PySem.W.InstAt t.heap a o C (some od) := ⟨at1,z.1,by unfold PySem.W.notCls; rw [hd] <;> rfl,by rw [z.2]; exact ho⟩
  exact HandSPX.exc_get J.kIn look T.ga T.gg T.exC (PySem.W.findObj_own T.hdC no rfl (by rw [hl,hu])) (handed_of ru) ⟨v,H1,J.tok _,ru,q⟩
def rIsK (K:PySem.W.Frag) (D:Addr):List V→Hp→VK→Prop := fun xs H Q=>∃ (a:Addr) (d:Option Addr) (c:V) (cv:Value) (b:Bool),xs=[.ref a,c]∧H a=some (xcO a (.ref D) d)∧(∀ dd,d=some dd→∃ fs,H dd=some (.xd fs))∧(∀ u,RelV c u→u=cv)∧PySem.W.kitOne K (.ref D) cv=some b∧Q (.bl b) H
theorem call_isK {X:Cx} {D:Addr} (C:ExcC X.K D):CallR X (.builtin "isinstance") (rIsK X.K D) := by
 intro pins s σ H xs us Q I r h
 obtain ⟨a,d,c,cv,b,rfl,ea,hdd,hcv,e,q⟩ := h
 cases r with
 | cons rx rr=>cases rr with
  | cons rt rr =>
   cases rr
   cases rx
   have ec := hcv _ rt
   subst ec
   obtain ⟨o,vs,at1,z,hv⟩ := xcO_at I.hok ea
   have nc:PySem.W.notCls o := by unfold PySem.W.notCls; rw [hv] <;> rfl
   have look:∃ od,PySem.W.InstAt s.heap a o D od := by
    cases d with
    | none=>exact ⟨none,at1,z.1,nc,by rw [z.2]; exact trivial⟩
    | some dd =>
     obtain ⟨fs,ed⟩ := hdd dd rfl
     obtain ⟨mA,ns,rl⟩ := I.hok dd _ ed
     obtain ⟨od,ho,hl⟩ := lookIn_ns ns
     exact ⟨some od,at1,z.1,nc,by rw [z.2]; exact ho⟩
   obtain ⟨od,J⟩ := look
   have hcl:(PySem.W.clsIn X.K D).isSome=true := by obtain ⟨cd,hc,_⟩ := PySem.W.any_some C.hd; rw [hc]; rfl
   exact PySem.W.kia_one (PySem.W.kitx_exc hcl C.hg C.hk C.hs C.ha C.hn C.ht C.hm) I.kIn J e (fun z=>nomatch z) fun tk=>⟨.bl b,H,I.kept (t' := tk) fun _ _ z=>z,rfl,q⟩
end Fm
namespace Fm
open PySem PySem.Spec PyProof.Rows L2
open AutoSeq1 (wpAny_loadPart')
end Fm
namespace Fm
open PySem PySem.Spec PyProof.Rows L2
end Fm
namespace Fm
open PySem PySem.Spec PyProof.Rows L2
end Fm
namespace Fm
open PySem PySem.Spec PyProof.Rows L2
end Fm
namespace Fm
open PySem PySem.Spec PyProof.Rows L2
end Fm
namespace PySem.W
open Lean Elab Tactic Meta PySem PySem.Calls PyProof.Rows
end PySem.W
namespace Fm
open PySem PySem.Spec PyProof.Rows L2
end Fm
namespace Fm
open PySem PySem.Spec PyProof.Rows L2
end Fm
namespace Fm
open PySem PySem.Spec PyProof.Rows L2
end Fm
namespace Fm
open PySem PySem.Spec PyProof.Rows L2
open PySem.SeqAt
open AutoSeq1 (wpAny_loadPart')
open MeetsSeq MeetsSeq2 MeetsSeq3 SeqRoads2
end Fm
namespace Fm
open PySem PySem.Spec PyProof.Rows L2 ItX
end Fm
namespace Fm
open PySem PySem.Spec PyProof.Rows L2
end Fm
namespace Fm
open PySem PySem.Spec PyProof.Rows L2
def grow (acc:List Str) (z:Str):List Str := if z∈acc then acc else acc ++ [z]
def uniq (zs:List Str):List Str := zs.foldl grow []
section
variable {prog:Program} {w:World} {A:Around} {R:Result→Shared→Prop} {it T:Addr} {fp wr:List Addr} {G:Array GenState→Array GenState→Prop} {n:Nat} {P:Nat→Value→Prop} {St:Nat→Shared→Prop} {zs:List Str}
def Got (prog:Program) (w:World) (zs:List Str) (T:Addr) (i:Nat) (h:Heap):Prop := h.SetOf (PySem.strKind prog w) T (fun z=>decide (z∈zs.take i)) (uniq (zs.take i)).length
theorem Got.keep {i:Nat} {h h':Heap} (q:Got prog w zs T i h) (k:∀ o,h.get? T=some o→h'.get? T=some o):Got prog w zs T i h' := by
 obtain ⟨o,es,ep,tb,ho,r⟩ := q
 exact ⟨o,es,ep,tb,k o ho,r⟩
def OldStay (s:Shared) (h':Heap):Prop := ∀ b o,b < s.heap.objs.size→s.heap.get? b=some o→h'.get? b=some o
variable {l:Addr} {vs:Array Value} {s:Shared} {E:Value→Shared→Prop} {Q:Value→Shared→Prop}
end
end Fm
namespace Fm
open PySem PySem.Spec PyProof.Rows L2
end Fm
namespace Fm
open PySem PySem.Spec PyProof.Rows L2
open L2.DX (KT_drop)
end Fm
namespace Fm
open PySem PySem.Spec PyProof.Rows L2
end Fm
namespace Fm
open PySem PySem.Spec PyProof.Rows L2
end Fm
namespace Am
open PySem PySem.Spec PyProof.Rows L2
open Fm (same_new same_upd same_both Same.rd Same.tup Same.sql)
inductive D where
 | non | bl (b:Bool) | int (i:Int) | str (s:Str) | ty (n:String) | cls (n:Str)
 | tup (xs:List D) | ktup (xs:List D) | lst (xs:List D)
 | dK (kvs:List (Key × D)) | dT (kvs:List (List Key × D))
 | ins (c:Str) (fs:List (Str × D))
 | exn (a:Addr) (cls:Value) (d:Option Addr) (c:Str) (fs:List (Str × D))
 | exk (c:Str) (fs:List (Str × D))
 | scr (ns:List Int)
 | ref (n:Nat)
inductive Nd where
 | lst (xs:List D) | dK (kvs:List (Key × D)) | dT (kvs:List (List Key × D)) | ins (c:Str) (fs:List (Str × D)) | pool | lkK (o:Obj) (us:List (Key × V)) (kvs:List (Key × D)) | lkT (o:Obj) (us:List (List Key × V)) (kvs:List (List Key × D))
abbrev AH := Nat→Option Nd
def put (A:AH) (n:Nat) (x:Nd):AH := fun m=>if m=n then some x else A m
def rem (A:AH) (n:Nat):AH := fun m=>if m=n then none else A m
theorem put_same {A:AH} {n:Nat} {x:Nd}:put A n x n=some x := if_pos rfl
theorem put_ne {A:AH} {n m:Nat} {x:Nd} (h:m≠n):put A n x m=A m := if_neg h
theorem rem_same {A:AH} {n:Nat}:rem A n n=none := if_pos rfl
theorem rem_ne {A:AH} {n m:Nat} (h:m≠n):rem A n m=A m := if_neg h
structure Sg where
 S:Hp
 i:Nat→Option Addr
structure Sg.le (g g':Sg):Prop where
 s:Same g.S g'.S
 i:∀ n a,g.i n=some a→g'.i n=some a
theorem Sg.le.refl {g:Sg}:g.le g := ⟨Same.refl _,fun _ _ h=>h⟩
theorem Sg.le.trans {g g1 g2:Sg} (h:g.le g1) (h':g1.le g2):g.le g2 := ⟨h.s.trans h'.s,fun n a e=>h'.i n a (h.i n a e)⟩
section
variable (K:PySem.W.Frag)
mutual
inductive Rep (g:Sg):V→D→Prop
 | non:Rep g .non .non
 | bl (b:Bool):Rep g (.bl b) (.bl b)
 | int (i:Int):Rep g (.int i) (.int i)
 | str (x:Str):Rep g (.str x) (.str x)
 | ty (n:String):Rep g (.ty n) (.ty n)
 | cls (n:Str):Rep g (.ref (He.ga K n)) (.cls n)
 | tup {a:Addr} {vs:List V} {ds:List D}:g.S a=some (.tup vs)→Reps g vs ds→Rep g (.ref a) (.tup ds)
 | ktup {a:Addr} {vs:List V} {ds:List D}:SqT K g.S a vs→Reps g vs ds→Rep g (.ref a) (.ktup ds)
 | lst {a:Addr} {vs:List V} {ds:List D}:Rd g.S a (.lst vs)→Reps g vs ds→Rep g (.ref a) (.lst ds)
 | dK {a:Addr} {kvs:List (Key × V)} {ds:List (Key × D)}:Rd g.S a (.dK kvs)→kvs.map (·.1)=ds.map (·.1)→Reps g (kvs.map (·.2)) (ds.map (·.2))→Rep g (.ref a) (.dK ds)
 | dT {a:Addr} {kvs:List (List Key × V)} {ds:List (List Key × D)}:Rd g.S a (.dT kvs)→kvs.map (·.1)=ds.map (·.1)→Reps g (kvs.map (·.2)) (ds.map (·.2))→Rep g (.ref a) (.dT ds)
 | ins {a dx:Addr} {c:Str} {fvs:List (Str × V)} {fs:List (Str × D)}:g.S a=some (.ins (He.ga K c) dx fvs)→fvs.map (·.1)=fs.map (·.1)→Reps g (fvs.map (·.2)) (fs.map (·.2))→Rep g (.ref a) (.ins c fs)
 | exn {a dd:Addr} {c:Str} {fvs:List (Str × V)} {fs:List (Str × D)}:g.S dd=some (.xd fvs)→fvs.map (·.1)=fs.map (·.1)→Reps g (fvs.map (·.2)) (fs.map (·.2))→Rep g (.ref a) (.exn a (.ref (He.ga K c)) (some dd) c fs)
 | exk {a dd:Addr} {c:Str} {fvs:List (Str × V)} {fs:List (Str × D)}:g.S a=some (Fm.xcO a (.ref (He.ga K c)) (some dd))→g.S dd=some (.xd fvs)→fvs.map (·.1)=fs.map (·.1)→Reps g (fvs.map (·.2)) (fs.map (·.2))→Rep g (.ref a) (.exk c fs)
 | exk0 {a:Addr} {c:Str}:g.S a=some (Fm.xcO a (.ref (He.ga K c)) none)→Rep g (.ref a) (.exk c [])
 | exn0 {a:Addr} {c:Str}:Rep g (.ref a) (.exn a (.ref (He.ga K c)) none c [])
 | scr {a:Addr} {ns:List Int}:SqL K g.S a (ns.map V.int)→Rep g (.ref a) (.scr ns)
 | ref {a:Addr} {n:Nat}:g.i n=some a→Rep g (.ref a) (.ref n)
inductive Reps (g:Sg):List V→List D→Prop
 | nil:Reps g [] []
 | cons {v:V} {vs:List V} {d:D} {ds:List D}:Rep g v d→Reps g vs ds→Reps g (v :: vs) (d :: ds)
end
end
section
variable {K:PySem.W.Frag} {g g':Sg}
mutual
theorem Rep.mono (e:g.le g'):∀ {v:V} {d:D},Rep K g v d→Rep K g' v d
 | _,_, .non=>.non
 | _,_, .bl b=>.bl b
 | _,_, .int i=>.int i
 | _,_, .str x=>.str x
 | _,_, .ty x=>.ty x
 | _,_, .cls x=>.cls x
 | _,_, .tup h r=>.tup (e.s _ _ h) (Reps.mono e r)
 | _,_, .ktup h r=>.ktup (Same.tup e.s h) (Reps.mono e r)
 | _,_, .lst h r=>.lst (Same.rd e.s h) (Reps.mono e r)
 | _,_, .dK h k r=>.dK (Same.rd e.s h) k (Reps.mono e r)
 | _,_, .dT h k r=>.dT (Same.rd e.s h) k (Reps.mono e r)
 | _,_, .ins h k r=>.ins (e.s _ _ h) k (Reps.mono e r)
 | _,_, .exn h k r=>.exn (e.s _ _ h) k (Reps.mono e r)
 | _,_, .exk h0 h k r=>.exk (e.s _ _ h0) (e.s _ _ h) k (Reps.mono e r)
 | _,_, .exk0 h0=>.exk0 (e.s _ _ h0)
 | _,_, .exn0=>.exn0
 | _,_, .scr h=>.scr (Same.sql e.s h)
 | _,_, .ref h=>.ref (e.i _ _ h)
theorem Reps.mono (e:g.le g'):∀ {vs:List V} {ds:List D},Reps K g vs ds→Reps K g' vs ds
 | _,_, .nil=>.nil
 | _,_, .cons h r=>.cons (Rep.mono e h) (Reps.mono e r)
end
theorem Reps.len:∀ {vs:List V} {ds:List D},Reps K g vs ds→vs.length=ds.length
 | _,_, .nil=>rfl
 | _,_, .cons _ r=>by rw [List.length_cons,List.length_cons,Reps.len r]
theorem Reps.at_:∀ {vs:List V} {ds:List D} {i:Nat} {d:D},Reps K g vs ds→ds[i]? = some d→∃ v,vs[i]? = some v∧Rep K g v d
 | _,_,_,_, .nil,e=>by simp at e
 | _,_,0,_, .cons h _,e=>by simp at e; subst e; exact ⟨_,rfl,h⟩
 | _,_,i + 1,d, .cons _ r,e=>by
  obtain ⟨v,h1,h2⟩ := Reps.at_ (i := i) (d := d) r (by simpa using e)
  exact ⟨v,by simpa using h1,h2⟩
theorem Reps.of:∀ {vs:List V} {ds:List D} {i:Nat} {v:V},Reps K g vs ds→vs[i]? = some v→∃ d,ds[i]? = some d∧Rep K g v d
 | _,_,_,_, .nil,e=>by simp at e
 | _,_,0,_, .cons h _,e=>by simp at e; subst e; exact ⟨_,rfl,h⟩
 | _,_,i + 1,v, .cons _ r,e=>by
  obtain ⟨d,h1,h2⟩ := Reps.of (i := i) (v := v) r (by simpa using e)
  exact ⟨d,by simpa using h1,h2⟩
theorem Reps.app:∀ {vs ws:List V} {ds es:List D},Reps K g vs ds→Reps K g ws es→Reps K g (vs ++ ws) (ds ++ es)
 | _,_,_,_, .nil,h=>h
 | _,_,_,_, .cons h r,q=>.cons h (Reps.app r q)
theorem Reps.drop_:∀ {vs:List V} {ds:List D} (n:Nat),Reps K g vs ds→Reps K g (vs.drop n) (ds.drop n)
 | _,_,0,h=>h
 | _,_,_ + 1, .nil=>.nil
 | _,_,n + 1, .cons _ r=>Reps.drop_ n r
theorem Reps.take_:∀ {vs:List V} {ds:List D} (n:Nat),Reps K g vs ds→Reps K g (vs.take n) (ds.take n)
 | _,_,0,h=>.nil
 | _,_,_ + 1, .nil=>.nil
 | _,_,n + 1, .cons h r=>.cons h (Reps.take_ n r)
theorem Reps.rev:∀ {vs:List V} {ds:List D},Reps K g vs ds→Reps K g vs.reverse ds.reverse
 | _,_, .nil=>.nil
 | _,_, .cons h r=>by rw [List.reverse_cons,List.reverse_cons]; exact Reps.app (Reps.rev r) (.cons h .nil)
theorem Reps.erase:∀ {vs:List V} {ds:List D} (n:Nat),Reps K g vs ds→Reps K g (vs.eraseIdx n) (ds.eraseIdx n)
 | _,_,_, .nil=>.nil
 | _,_,0, .cons _ r=>r
 | _,_,n + 1, .cons h r=>.cons h (Reps.erase n r)
theorem Rep.int_ {v:V} {i:Int} (h:Rep K g v (.int i)):v = .int i := by cases h; rfl
theorem Rep.bl_ {v:V} {b:Bool} (h:Rep K g v (.bl b)):v = .bl b := by cases h; rfl
theorem Rep.str_ {v:V} {x:Str} (h:Rep K g v (.str x)):v = .str x := by cases h; rfl
theorem Rep.non_ {v:V} (h:Rep K g v .non):v = .non := by cases h; rfl
end
def Lk (o o':HO):Prop := o' = o∨(((∃ k,o = .dK k)∨∃ k,o = .dT k)∧∃ u,o' = .frz u o)
def Sub (S H:Hp):Prop := ∀ a o,S a=some o→∃ o',H a=some o'∧Lk o o'
section
variable {K:PySem.W.Frag} {S H:Hp} {a:Addr}
theorem Sub.free (h:Sub S H) (n:H a=none):S a=none := by
 cases e:S a with
 | none=>rfl
 | some o=>obtain ⟨o',h1,_⟩ := h a o e; rw [n] at h1; cases h1
theorem Sub.at_ {o:HO} (h:Sub S H) (e:S a=some o) (n:(∀ k,o≠.dK k)∧∀ k,o≠.dT k):H a=some o := by
 obtain ⟨o',h1,h2 | ⟨⟨k,h2⟩ | ⟨k,h2⟩,_⟩⟩ := h a o e
 ·rw [h1,h2]
 ·exact absurd h2 (n.1 k)
 ·exact absurd h2 (n.2 k)
theorem Sub.sql {vs:List V} (h:Sub S H) (e:SqL K S a vs):SqL K H a vs := by
 rcases e with (e | ⟨o,e⟩) | e
 ·exact .inl (.inl (h.at_ e (by constructor <;> intro _ z <;> cases z)))
 ·exact .inl (.inr ⟨o,h.at_ e (by constructor <;> intro _ z <;> cases z)⟩)
 ·exact .inr e
theorem Sub.sqt {vs:List V} (h:Sub S H) (e:SqT K S a vs):SqT K H a vs := by
 rcases e with (e | ⟨o,e⟩) | e
 ·exact .inl (.inl (h.at_ e (by constructor <;> intro _ z <;> cases z)))
 ·exact .inl (.inr ⟨o,h.at_ e (by constructor <;> intro _ z <;> cases z)⟩)
 ·exact .inr e
theorem Sub.ins {C dx:Addr} {fs:List (Str × V)} (h:Sub S H) (e:S a=some (.ins C dx fs)):H a=some (.ins C dx fs) := h.at_ e (by constructor <;> intro _ z <;> cases z)
theorem Sub.rd {o:HO} (h:Sub S H) (e:Rd S a o):Rd H a o := by
 rcases e with e | ⟨u,e⟩
 ·obtain ⟨o',h1,h2 | ⟨_,u,h2⟩⟩ := h a o e
  ·exact .inl (by rw [h1,h2])
  ·exact .inr ⟨u,by rw [h1,h2]⟩
 ·exact .inr ⟨u,h.at_ e (by constructor <;> intro _ z <;> cases z)⟩
theorem Sub.new {p:Addr} {o:HO} (h:Sub S H) (n:H p=none):Sub (upd S p o) (upd H p o) := fun b x e=>by
 by_cases hb:b=p
 ·subst hb; rw [upd_same] at e; cases e; exact ⟨_,upd_same, .inl rfl⟩
 ·rw [upd_ne hb] at e; rw [upd_ne hb]; exact h b x e
theorem Sub.set {p:Addr} {o:HO} (h:Sub S H) (n:S p=none):Sub S (upd H p o) := fun b x e=>by
 have hb:b≠p := ne_of_none e n
 rw [upd_ne hb]; exact h b x e
end
def NdAt (K:PySem.W.Frag) (g:Sg) (H:Hp) (a:Addr):Nd→Prop
 | .lst ds=>∃ vs,H a=some (.lst vs)∧Reps K g vs ds
 | .dK ds=>∃ kvs,H a=some (.dK kvs)∧kvs.map (·.1)=ds.map (·.1)∧Reps K g (kvs.map (·.2)) (ds.map (·.2))
 | .dT ds=>∃ kvs,H a=some (.dT kvs)∧kvs.map (·.1)=ds.map (·.1)∧Reps K g (kvs.map (·.2)) (ds.map (·.2))
 | .ins c fs=>∃ dx fvs,H a=some (.ins (He.ga K c) dx fvs)∧fvs.map (·.1)=fs.map (·.1)∧Reps K g (fvs.map (·.2)) (fs.map (·.2))
 | .pool=>∃ (gs:List Int) (c sd n:Int) (p:Addr),H a=some (.lst [.ref p, .int c, .int sd, .int n])∧g.S p=some (.lst (gs.map V.int))∧0≤sd∧sd < 2147483648
 | .lkK o us ds=>H a=some (.frz o (.dK us))∧us.map (·.1)=ds.map (·.1)∧Reps K g (us.map (·.2)) (ds.map (·.2))
 | .lkT o us ds=>H a=some (.frz o (.dT us))∧us.map (·.1)=ds.map (·.1)∧Reps K g (us.map (·.2)) (ds.map (·.2))
structure Wr (K:PySem.W.Frag) (g:Sg) (A:AH) (H:Hp):Prop where
 sub:Sub g.S H
 inj:∀ n m a,g.i n=some a→g.i m=some a→n=m
 ex:∀ n a,g.i n=some a→H a≠none
 fin:∃ N,∀ n,N≤n→g.i n=none
 nd:∀ n x,A n=some x→∃ a,g.i n=some a∧g.S a=none∧NdAt K g H a x
def Own (g:Sg) (A:AH) (a:Addr):Prop := ∃ n x,A n=some x∧g.i n=some a
structure Stp (g:Sg) (A:AH) (H:Hp) (g':Sg) (A':AH) (H':Hp):Prop where
 le:g.le g'
 kp:∀ a o,H a=some o→¬ Own g A a→H' a=some o
 nw:∀ a,Own g' A' a→Own g A a∨H a=none
 ex:∀ a,H a≠none→H' a≠none
 sn:∀ a o,H a=some o→(∀ vs,o≠.tup vs)→g.S a=none→¬ Own g A a→g'.S a=none
 inw:∀ n a,g'.i n=some a→g.i n=some a∨H a=none
section
variable {K:PySem.W.Frag} {g g' g1 g2:Sg} {A A' A1 A2:AH} {H H' H1 H2:Hp} {a p:Addr} {o:HO} {n:Nat} {x y:Nd}
theorem NdAt.mono (e:g.le g') (h:H' a=H a):NdAt K g H a x→NdAt K g' H' a x := by
 cases x with
 | lst ds=>rintro ⟨vs,h1,h2⟩; exact ⟨vs,h.trans h1,h2.mono e⟩
 | dK ds=>rintro ⟨vs,h1,h2,h3⟩; exact ⟨vs,h.trans h1,h2,h3.mono e⟩
 | dT ds=>rintro ⟨vs,h1,h2,h3⟩; exact ⟨vs,h.trans h1,h2,h3.mono e⟩
 | ins c fs=>rintro ⟨dx,vs,h1,h2,h3⟩; exact ⟨dx,vs,h.trans h1,h2,h3.mono e⟩
 | pool=>rintro ⟨gs,c,sd,n,p,h1,h2,h3⟩; exact ⟨gs,c,sd,n,p,h.trans h1,e.s _ _ h2,h3⟩
 | lkK o us ds=>rintro ⟨h1,h2,h3⟩; exact ⟨h.trans h1,h2,h3.mono e⟩
 | lkT o us ds=>rintro ⟨h1,h2,h3⟩; exact ⟨h.trans h1,h2,h3.mono e⟩
theorem NdAt.some (h:NdAt K g H a x):H a≠none := by
 cases x with
 | lst ds=>obtain ⟨vs,h1,_⟩ := h; rw [h1]; simp
 | dK ds=>obtain ⟨vs,h1,_⟩ := h; rw [h1]; simp
 | dT ds=>obtain ⟨vs,h1,_⟩ := h; rw [h1]; simp
 | ins c fs=>obtain ⟨dx,vs,h1,_⟩ := h; rw [h1]; simp
 | pool=>obtain ⟨gs,c,sd,n,p,h1,_⟩ := h; rw [h1]; simp
 | lkK o us ds=>rw [h.1]; simp
 | lkT o us ds=>rw [h.1]; simp
theorem Stp.refl:Stp g A H g A H := ⟨.refl,fun _ _ h _=>h,fun _ h=>.inl h,fun _ h=>h,fun _ _ _ _ h _=>h,fun _ _ h=>.inl h⟩
theorem Stp.trans (s:Stp g A H g1 A1 H1) (t:Stp g1 A1 H1 g2 A2 H2):Stp g A H g2 A2 H2 := by
 have k:∀ a o,H a=some o→¬ Own g A a→¬ Own g1 A1 a := fun a o h n z=>by
  rcases s.nw a z with z | z
  ·exact n z
  ·rw [h] at z; cases z
 refine ⟨s.le.trans t.le,fun a o h n=>t.kp a o (s.kp a o h n) (k a o h n),fun a h=>?_,fun a h=>t.ex a (s.ex a h),fun a o e n h2 h3=>?_,fun n a h=>?_⟩
 rotate_left
 ·exact t.sn a o (s.kp a o e h3) n (s.sn a o e n h2 h3) (k a o e h3)
 ·rcases t.inw n a h with h | h
  ·exact s.inw n a h
  ·exact .inr (Classical.byContradiction fun z=>s.ex a z h)
 rcases t.nw a h with h | h
 ·exact s.nw a h
 ·cases e:H a with
  | none=>exact .inr rfl
  | some o =>
   refine .inl (Classical.byContradiction fun n=>?_)
   rw [s.kp a o e n] at h; cases h
theorem ex_upd (h:H a≠none):upd H p o a≠none := by
 by_cases e:a=p
 ·subst e; rw [upd_same]; simp
 ·rw [upd_ne e]; exact h
theorem Wr.new (w:Wr K g A H) (np:H p=none):Wr K ⟨upd g.S p o,g.i⟩ A (upd H p o)∧Stp g A H ⟨upd g.S p o,g.i⟩ A (upd H p o) := by
 have le:g.le ⟨upd g.S p o,g.i⟩ := ⟨same_new (w.sub.free np),fun _ _ h=>h⟩
 refine ⟨⟨w.sub.new np,w.inj,fun n a h=>?_,w.fin,fun n x h=>?_⟩,⟨le,fun a u h _=>?_,fun a h=>.inl h,fun a h=>ex_upd h,fun a u h1 _ h2 _=>?_,fun _ _ h=>.inl h⟩⟩
 ·have hn:a≠p := fun e=>w.ex n a h (by rw [e]; exact np)
  rw [upd_ne hn]; exact w.ex n a h
 ·obtain ⟨a,h1,h2,h3⟩ := w.nd n x h
  have hn:a≠p := fun e=>w.ex n a h1 (by rw [e]; exact np)
  exact ⟨a,h1,by show upd g.S p o a=none; rw [upd_ne hn]; exact h2,h3.mono le (upd_ne hn)⟩
 ·rw [upd_ne (ne_of_none h np)]; exact h
 ·show upd g.S p o a=none
  rw [upd_ne (ne_of_none h1 np)]; exact h2
theorem Wr.node (w : Wr K g A H) (np : H p = none) (hx : ∀ g', g.le g' → NdAt K g' (upd H p o) p x) : ∃ n, A n = none ∧ g.i n = none ∧ Wr K ⟨g.S, fun m => if m = n then some p else g.i m⟩ (put A n x) (upd H p o) ∧ Stp g A H ⟨g.S, fun m => if m = n then some p else g.i m⟩ (put A n x) (upd H p o) := by
  obtain ⟨N, hN⟩ := w.fin
  have hi : g.i N = none := hN N (Nat.le_refl _)
  have hA : A N = none := by
    cases e : A N with
    | none => rfl
    | some x => obtain ⟨a, h, _⟩ := w.nd N x e; rw [hi] at h; cases h
  have le : g.le ⟨g.S, fun m => if m = N then some p else g.i m⟩ := ⟨Same.refl _, fun m a h => by
    have : m ≠ N := fun e => by rw [e, hi] at h; cases h
    show (if m = N then some p else g.i m) = some a
    rw [if_neg this]; exact h⟩
  have old : ∀ m a, (if m = N then some p else g.i m) = some a → (m = N ∧ a = p) ∨ (m ≠ N ∧ g.i m = some a ∧ a ≠ p) := fun m a h => by
    by_cases e : m = N
    · rw [if_pos e] at h; exact .inl ⟨e, (Option.some.inj h).symm⟩
    · rw [if_neg e] at h; exact .inr ⟨e, h, fun z => w.ex m a h (by rw [z]; exact np)⟩
  refine ⟨N, hA, hi, ⟨w.sub.set (w.sub.free np), fun n m a h1 h2 => ?_, fun n a h => ?_, ⟨N + 1, fun n h => ?_⟩, fun n y h => ?_⟩, ⟨le, fun a u h _ => ?_, fun a h => ?_, fun a h => ex_upd h, fun _ _ _ _ h _ => h, fun n a h => ?_⟩⟩
  · rcases old n a h1 with ⟨e1, e2⟩ | ⟨e1, e2, e3⟩ <;> rcases old m a h2 with ⟨f1, f2⟩ | ⟨f1, f2, f3⟩
    · rw [e1, f1]
    · exact absurd e2 f3
    · exact absurd f2 e3
    · exact w.inj n m a e2 f2
  · rcases old n a h with ⟨e1, e2⟩ | ⟨e1, e2, e3⟩
    · rw [e2, upd_same]; simp
    · rw [upd_ne e3]; exact w.ex n a e2
  · show (if n = N then some p else g.i n) = none
    rw [if_neg (by omega)]; exact hN n (by omega)
  · by_cases e : n = N
    · subst e
      rw [put_same] at h; cases h
      exact ⟨p, if_pos rfl, w.sub.free np, hx _ le⟩
    · rw [put_ne e] at h
      obtain ⟨a, h1, h2, h3⟩ := w.nd n y h
      have hn : a ≠ p := fun z => w.ex n a h1 (by rw [z]; exact np)
      exact ⟨a, by show (if n = N then some p else g.i n) = some a; rw [if_neg e]; exact h1, h2, h3.mono le (upd_ne hn)⟩
  · rw [upd_ne (ne_of_none h np)]; exact h
  · obtain ⟨m, y, h1, h2⟩ := h
    rcases old m a h2 with ⟨e1, e2⟩ | ⟨e1, e2, e3⟩
    · exact .inr (by rw [e2]; exact np)
    · rw [put_ne e1] at h1; exact .inl ⟨m, y, h1, e2⟩
  · rcases old n a h with ⟨e1, e2⟩ | ⟨e1, e2, e3⟩
    · exact .inr (by rw [e2]; exact np)
    · exact .inl e2
theorem Wr.set (w : Wr K g A H) (ha : g.i n = some a) (hA : A n = some x) (hx : NdAt K g (upd H a o) a y) : Wr K g (put A n y) (upd H a o) ∧ Stp g A H g (put A n y) (upd H a o) := by
  obtain ⟨a', h1, h2, h3⟩ := w.nd n x hA
  rw [ha] at h1; cases h1
  refine ⟨⟨w.sub.set h2, w.inj, fun m b h => ?_, w.fin, fun m z h => ?_⟩, ⟨.refl, fun b u h hn => ?_, fun b h => ?_, fun b h => ex_upd h, fun _ _ _ _ h _ => h, fun _ _ h => .inl h⟩⟩
  · by_cases e : b = a
    · rw [e, upd_same]; simp
    · rw [upd_ne e]; exact w.ex m b h
  · by_cases e : m = n
    · subst e; rw [put_same] at h; cases h; exact ⟨a, ha, h2, hx⟩
    · rw [put_ne e] at h
      obtain ⟨b, q1, q2, q3⟩ := w.nd m z h
      have hb : b ≠ a := fun z => e (w.inj m n a (by rw [← z]; exact q1) ha)
      exact ⟨b, q1, q2, q3.mono .refl (upd_ne hb)⟩
  · rw [upd_ne (fun e => hn ⟨n, x, hA, by rw [e]; exact ha⟩)]; exact h
  · obtain ⟨m, z, h1, h2⟩ := h
    by_cases e : m = n
    · subst e; exact .inl ⟨m, x, hA, h2⟩
    · rw [put_ne e] at h1; exact .inl ⟨m, z, h1, h2⟩
theorem Wr.freeze (w : Wr K g A H) (ha : g.i n = some a) (hA : A n = some x) (ho : H a = some o) : Wr K ⟨upd g.S a o, g.i⟩ (rem A n) H ∧ Stp g A H ⟨upd g.S a o, g.i⟩ (rem A n) H := by
  obtain ⟨a', h1, h2, h3⟩ := w.nd n x hA
  rw [ha] at h1; cases h1
  have le : g.le ⟨upd g.S a o, g.i⟩ := ⟨same_new h2, fun _ _ h => h⟩
  refine ⟨⟨fun b u e => ?_, w.inj, w.ex, w.fin, fun m z h => ?_⟩, ⟨le, fun b u h _ => h, fun b h => ?_, fun _ h => h, fun b u h1 _ h2 h3 => ?_, fun _ _ h => .inl h⟩⟩
  · by_cases hb : b = a
    · subst hb; have e' : upd g.S b o b = some u := e; rw [upd_same] at e'; cases e'; exact ⟨_, ho, .inl rfl⟩
    · have e' : upd g.S a o b = some u := e; rw [upd_ne hb] at e'; exact w.sub b u e'
  · by_cases e : m = n
    · subst e; rw [rem_same] at h; cases h
    · rw [rem_ne e] at h
      obtain ⟨b, q1, q2, q3⟩ := w.nd m z h
      have hb : b ≠ a := fun z => e (w.inj m n a (by rw [← z]; exact q1) ha)
      exact ⟨b, q1, by show upd g.S a o b = none; rw [upd_ne hb]; exact q2, q3.mono le rfl⟩
  · obtain ⟨m, z, h1, h2⟩ := h
    by_cases e : m = n
    · subst e; rw [rem_same] at h1; cases h1
    · rw [rem_ne e] at h1; exact .inl ⟨m, z, h1, h2⟩
  · show upd g.S a o b = none
    rw [upd_ne (fun z => h3 ⟨n, x, hA, by rw [z]; exact ha⟩)]; exact h2
def Les (A' A:AH):Prop := ∀ n x,A' n=some x→A n=some x
theorem Les.refl:Les A A := fun _ _ h=>h
theorem Wr.forget (w:Wr K g A H) (h:Les A' A):Wr K g A' H := ⟨w.sub,w.inj,w.ex,w.fin,fun n x e=>w.nd n x (h n x e)⟩
theorem Stp.forget (s:Stp g A H g1 A1 H1) (h:Les A2 A1):Stp g A H g1 A2 H1 := ⟨s.le,s.kp,fun a ⟨n,x,h1,h2⟩=>s.nw a ⟨n,x,h n x h1,h2⟩,s.ex,s.sn,s.inw⟩
theorem Wr.tmp (w:Wr K g A H) (np:H p=none):Wr K g A (upd H p o)∧Stp g A H g A (upd H p o) := by
 refine ⟨⟨w.sub.set (w.sub.free np),w.inj,fun n a h=>?_,w.fin,fun n x h=>?_⟩,⟨.refl,fun a u h _=>?_,fun a h=>.inl h,fun a h=>ex_upd h,fun _ _ _ _ h _=>h,fun _ _ h=>.inl h⟩⟩
 ·have hn:a≠p := fun e=>w.ex n a h (by rw [e]; exact np)
  rw [upd_ne hn]; exact w.ex n a h
 ·obtain ⟨a,h1,h2,h3⟩ := w.nd n x h
  have hn:a≠p := fun e=>w.ex n a h1 (by rw [e]; exact np)
  exact ⟨a,h1,h2,h3.mono .refl (upd_ne hn)⟩
 ·rw [upd_ne (ne_of_none h np)]; exact h
theorem Wr.own (w:Wr K g A H) (hS:g.S p=none) (hi:∀ n,g.i n≠some p):Wr K g A (upd H p o) := by
 refine ⟨w.sub.set hS,w.inj,fun n a h=>ex_upd (w.ex n a h),w.fin,fun n x h=>?_⟩
 obtain ⟨a,h1,h2,h3⟩ := w.nd n x h
 exact ⟨a,h1,h2,h3.mono .refl (upd_ne fun z=>hi n (by rw [← z]; exact h1))⟩
theorem Stp.put (s:Stp g A H g' A' H') (np:H p=none):Stp g A H g' A' (upd H' p o) :=
 ⟨s.le,fun a u h n=>by rw [upd_ne (ne_of_none h np)]; exact s.kp a u h n,s.nw,fun a h=>ex_upd (s.ex a h),s.sn,s.inw⟩
theorem Stp.beside (s:Stp g A H g' A' H') (hp:H p=some o) (hS:g.S p=none) (hi:∀ n,g.i n≠some p) (ho:∀ vs,o≠.tup vs := by intro _ z; cases z):H' p=some o∧g'.S p=none∧∀ n,g'.i n≠some p := by
 have hn:¬ Own g A p := fun ⟨n,_,_,h⟩=>hi n h
 refine ⟨s.kp p o hp hn,s.sn p o hp ho hS hn,fun n e=>?_⟩
 rcases s.inw n p e with h | h
 ·exact hi n h
 ·rw [hp] at h; cases h
end
end Am
namespace Am
open PySem PySem.Spec PyProof.Rows L2
open Fm (same_new rEqP rNeP rInP rCatR rAddA rSlA rListOf rTupOf rLenA rInt1)
structure Xc where
 c:Str
 fs:List (Str × D)
abbrev Sl := List (Option D)
abbrev QE := D→AH→Prop
abbrev QX := Xc→AH→Prop
abbrev ME := Sl→AH→QE→QX→Prop
abbrev MT := Sl→AH→(Bool→AH→Prop)→QX→Prop
abbrev MA := Sl→AH→(List D→AH→Prop)→QX→Prop
def RepX (K:PySem.W.Frag) (g:Sg) (cls:Value) (dd:Option Addr) (x:Xc):Prop := cls = .ref (He.ga K x.c)∧((∃ a fvs,dd=some a∧g.S a=some (.xd fvs)∧fvs.map (·.1)=x.fs.map (·.1)∧Reps K g (fvs.map (·.2)) (x.fs.map (·.2)))∨(dd=none∧x.fs=[]))
structure RepS (K:PySem.W.Frag) (g:Sg) (σ:L2.St) (s:Sl):Prop where
 len:σ.length=s.length
 at_:∀ (i:Nat) (d:D),s[i]? = some (some d)→∃ v,σ[i]? = some (some v)∧Rep K g v d
theorem RepS.mono {K:PySem.W.Frag} {g g':Sg} {σ:L2.St} {s:Sl} (e:g.le g') (h:RepS K g σ s):RepS K g' σ s := ⟨h.len,fun i d q=>by
 obtain ⟨v,h1,h2⟩ := h.at_ i d q
 exact ⟨v,h1,h2.mono e⟩⟩
theorem RepS.set {K:PySem.W.Frag} {g:Sg} {σ:L2.St} {s:Sl} {i:Nat} {v:V} {d:D} (h:RepS K g σ s) (r:Rep K g v d):RepS K g (σ.set i (some v)) (s.set i (some d)) := by
 refine ⟨by rw [List.length_set,List.length_set]; exact h.len,fun j e q=>?_⟩
 rw [List.getElem?_set] at q ⊢
 by_cases hj:i=j
 ·subst hj
  rw [if_pos rfl] at q ⊢
  by_cases hl:i < s.length
  ·rw [if_pos hl] at q
   cases q
   rw [if_pos (by rw [h.len]; exact hl)]
   exact ⟨v,rfl,r⟩
  ·rw [if_neg hl] at q; cases q
 ·rw [if_neg hj] at q ⊢
  exact h.at_ j e q
theorem RepS.unset {K:PySem.W.Frag} {g:Sg} {σ:L2.St} {s:Sl} {i:Nat} {v:Option V} (h:RepS K g σ s):RepS K g (σ.set i v) (s.set i none) := by
 refine ⟨by rw [List.length_set,List.length_set]; exact h.len,fun j e q=>?_⟩
 rw [List.getElem?_set] at q ⊢
 by_cases hj:i=j
 ·subst hj
  rw [if_pos rfl] at q
  by_cases hl:i < s.length
  ·rw [if_pos hl] at q; cases q
  ·rw [if_neg hl] at q; cases q
 ·rw [if_neg hj] at q ⊢
  exact h.at_ j e q
def Post (K:PySem.W.Frag) (g:Sg) (A:AH) (H:Hp) (Qa:QE) (Q:VK):Prop := ∀ g' A' H' v d,Stp g A H g' A' H'→Wr K g' A' H'→Rep K g' v d→Qa d A'→Q v H'
def PostX (K:PySem.W.Frag) (g:Sg) (A:AH) (H:Hp) (Ea:QX) (W:Value→Option Addr→Hp→Prop):Prop := ∀ g' A' H' x cls dd,Stp g A H g' A' H'→Wr K g' A' H'→RepX K g' cls dd x→Ea x A'→W cls dd H'
section
variable {K:PySem.W.Frag} {g g1:Sg} {A A1:AH} {H H1:Hp} {Qa:QE} {Q:VK} {Ea:QX} {W:Value→Option Addr→Hp→Prop} {v:V} {d:D}
theorem Post.now (q:Post K g A H Qa Q) (w:Wr K g A H) (r:Rep K g v d) (h:Qa d A):Q v H := q g A H v d .refl w r h
theorem Post.step (q:Post K g A H Qa Q) (s:Stp g A H g1 A1 H1):Post K g1 A1 H1 Qa Q := fun g' A' H' v d s' w r h=>q g' A' H' v d (s.trans s') w r h
theorem PostX.step (q:PostX K g A H Ea W) (s:Stp g A H g1 A1 H1):PostX K g1 A1 H1 Ea W := fun g' A' H' x c d s' w r h=>q g' A' H' x c d (s.trans s') w r h
end
def cE (K:PySem.W.Frag) (W:WX) (m:ME):TE := fun σ H Q=>∃ g s A Qa Ea,Wr K g A H∧RepS K g σ s∧m s A Qa Ea∧Post K g A H Qa Q∧PostX K g A H Ea (fun c d H'=>W c d σ H')
def cT (K:PySem.W.Frag) (W:WX) (m:MT):TT := fun σ H Q=>∃ g s A Qa Ea,Wr K g A H∧RepS K g σ s∧m s A Qa Ea∧(∀ g' A' H' b,Stp g A H g' A' H'→Wr K g' A' H'→Qa b A'→Q b H')∧PostX K g A H Ea (fun c d H'=>W c d σ H')
def cA (K:PySem.W.Frag) (W:WX) (m:MA):TA := fun σ H Q=>∃ g s A Qa Ea,Wr K g A H∧RepS K g σ s∧m s A Qa Ea∧(∀ g' A' H' vs ds,Stp g A H g' A' H'→Wr K g' A' H'→Reps K g' vs ds→Qa ds A'→Q vs H')∧PostX K g A H Ea (fun c d H'=>W c d σ H')
abbrev WF:WX := fun _ _ _ _=>False
section
variable {X:Cx} {e a b c:Expr} {W:WX} {m ma mb mc:ME} {t t':TE} {pos:Pos}
theorem PE.weak (h:PE X e t) (k:∀ σ H Q,t' σ H Q→t σ H Q):PE X e t' := ⟨fun pins s σ H Q I q=>h.run pins s σ H Q I (k σ H Q q)⟩
theorem PT.weak {t t':TT} (h:PT X e t) (k:∀ σ H Q,t' σ H Q→t σ H Q):PT X e t' := ⟨fun pins s σ H Q I q=>h.run pins s σ H Q I (k σ H Q q)⟩
theorem PA.weak {es:List Expr} {t t':TA} (h:PA X es t) (k:∀ σ H Q,t' σ H Q→t σ H Q):PA X es t' := ⟨fun pos pins s σ H Q I q=>h.run pos pins s σ H Q I (k σ H Q q)⟩
def mVar (i:Nat):ME := fun s A Q _=>∃ d,s[i]? = some (some d)∧Q d A
def mC (d:D):ME := fun _ A Q _=>Q d A
theorem ae_var {i:Nat} (h:PE X e (tVar i)):PE X e (cE X.K W (mVar i)) := PE.weak h fun σ H Q ⟨g,s,A,Qa,Ea,w,r,⟨d,h1,h2⟩,q,_⟩=>by
 obtain ⟨v,h3,h4⟩ := r.at_ i d h1
 exact ⟨v,h3,q.now w h4 h2⟩
theorem ae_c {v:V} {d:D} (hd:∀ g,Rep X.K g v d) (h:PE X e (tC v)):PE X e (cE X.K W (mC d)) := PE.weak h fun σ H Q ⟨g,s,A,Qa,Ea,w,r,h1,q,_⟩=>q.now w (hd g) h1
abbrev F2 := D→D→AH→QE→Prop
abbrev F1 := D→AH→QE→Prop
def OpS (K:PySem.W.Frag) (r:R2) (f:F2):Prop := ∀ g A H x y dx dy Qa Q,Wr K g A H→Rep K g x dx→Rep K g y dy→f dx dy A Qa→Post K g A H Qa Q→r x y H Q
def CallS (K:PySem.W.Frag) (r:List V→Hp→VK→Prop) (f:List D→AH→QE→Prop):Prop := ∀ g A H xs ds Qa Q,Wr K g A H→Reps K g xs ds→f ds A Qa→Post K g A H Qa Q→r xs H Q
def mOp (f:F2) (ma mb:ME):ME := fun s A Q E=>ma s A (fun x A1=>mb s A1 (fun y A2=>f x y A2 Q) E) E
theorem c_op {K:PySem.W.Frag} {r:R2} {f:F2} (os:OpS K r f):∀ σ H Q,cE K W (mOp f ma mb) σ H Q→tOp r (cE K W ma) (cE K W mb) σ H Q := fun σ H Q ⟨g,s,A,Qa,Ea,w,r,h,q,qx⟩ =>
 ⟨g,s,A,_,Ea,w,r,h,fun g1 A1 H1 x dx st1 w1 rx h1=>⟨g1,s,A1,_,Ea,w1,r.mono st1.le,h1,fun g2 A2 H2 y dy st2 w2 ry h2=>os g2 A2 H2 x y dx dy Qa Q w2 (rx.mono st2.le) ry h2 (q.step (st1.trans st2)),qx.step st1⟩,qx⟩
theorem ae_op {op:Operator} {r:R2} {f:F2} (ho:OpR X (binaryOp op) r) (os:OpS X.K r f) (ha:PE X a (cE X.K W ma)) (hb:PE X b (cE X.K W mb)):PE X (.BinOp a op b pos) (cE X.K W (mOp f ma mb)) := PE.weak (pe_op ho ha hb) (c_op os)
theorem ae_cmp {op:CmpOp} {r:R2} {f:F2} (ho:OpR X (compareOp op) r) (os:OpS X.K r f) (ha:PE X a (cE X.K W ma)) (hb:PE X b (cE X.K W mb)) (hm:behindInMarks op b=false):PE X (.Compare a [op] [b] pos) (cE X.K W (mOp f ma mb)) := PE.weak (pe_cmpR ho ha hb hm) (c_op os)
def mB (m:ME):MT := fun s A Q E=>m s A (fun d A1=>∃ b,d = .bl b∧Q b A1) E
theorem c_tB {K:PySem.W.Frag}:∀ σ H Q,cT K W (mB m) σ H Q→tB (cE K W m) σ H Q := fun σ H Q ⟨g,s,A,Qa,Ea,w,r,h,q,qx⟩ =>
 ⟨g,s,A,_,Ea,w,r,h,fun g1 A1 H1 x dx st1 w1 rx ⟨b,e,h1⟩=>⟨b,by rw [e] at rx; exact rx.bl_,q g1 A1 H1 b st1 w1 h1⟩,qx⟩
theorem c_tTest {K:PySem.W.Frag}:∀ σ H Q,cT K W (mB m) σ H Q→tTest (cE K W m) σ H Q := fun σ H Q ⟨g,s,A,Qa,Ea,w,r,h,q,qx⟩ =>
 ⟨g,s,A,_,Ea,w,r,h,fun g1 A1 H1 x dx st1 w1 rx ⟨b,e,h1⟩=>⟨b,by rw [e] at rx; exact rx.bl_,q g1 A1 H1 b st1 w1 h1⟩,qx⟩
theorem at_val (h:PE X e (cE X.K W m)) (he:∀ whole,isTrue e X.env whole=(do let v ← whole; standAt e.pos; holding [v] (truthy v)) := by intro _; rfl):PT X e (cT X.K W (mB m)) := PT.weak (pt_val h he) c_tB
theorem tTest_mono {t t':TE} (k:∀ σ H Q,t' σ H Q→t σ H Q):∀ σ H Q,tTest t' σ H Q→tTest t σ H Q := fun σ H Q h=>k σ H _ h
theorem at_cmp {op:CmpOp} {r:R2} {f:F2} (ho:OpR X (compareOp op) r) (os:OpS X.K r f) (ha:PE X a (cE X.K W ma)) (hb:PE X b (cE X.K W mb)) (hm:behindInMarks op b=false):PT X (.Compare a [op] [b] pos) (cT X.K W (mB (mOp f ma mb))) :=
 PT.weak (pt_cmpR ho ha hb hm) fun σ H Q h=>tTest_mono (c_op os) σ H Q (c_tTest σ H Q h)
def mOr (t u:MT):MT := fun s A Q E=>t s A (fun b A1=>if b=true then Q true A1 else u s A1 Q E) E
def mNot (t:MT):MT := fun s A Q E=>t s A (fun b A1=>Q (!b) A1) E
section
variable {K:PySem.W.Frag} {t u:MT}
theorem c_or:∀ σ H Q,cT K W (mOr t u) σ H Q→tOr (cT K W t) (cT K W u) σ H Q := fun σ H Q ⟨g,s,A,Qa,Ea,w,r,h,q,qx⟩ =>
 ⟨g,s,A,_,Ea,w,r,h,fun g1 A1 H1 b st1 w1 h1=>by
  cases b with
  | true=>exact iteT (q g1 A1 H1 true st1 w1 h1)
  | false=>exact iteF ⟨g1,s,A1,Qa,Ea,w1,r.mono st1.le,h1,fun g2 A2 H2 b st2 w2 h2=>q g2 A2 H2 b (st1.trans st2) w2 h2,qx.step st1⟩,qx⟩
theorem c_not:∀ σ H Q,cT K W (mNot t) σ H Q→tNot (cT K W t) σ H Q := fun σ H Q ⟨g,s,A,Qa,Ea,w,r,h,q,qx⟩ =>
 ⟨g,s,A,_,Ea,w,r,h,fun g1 A1 H1 b st1 w1 h1=>q g1 A1 H1 (!b) st1 w1 h1,qx⟩
end
theorem PW.weak {t t':TT} (h:PW X e t) (k:∀ σ H Q,t' σ H Q→t σ H Q):PW X e t' := ⟨fun wh pins s σ H Q I q=>h.run wh pins s σ H Q I (k σ H Q q)⟩
section
variable {t u:MT} {rest:List Expr}
theorem aw_or (ha:PT X a (cT X.K W t)) (hb:PW X (.BoolOp .Or (b :: rest) pos) (cT X.K W u)):PW X (.BoolOp .Or (a :: b :: rest) pos) (cT X.K W (mOr t u)) := PW.weak (pw_or ha hb) c_or
theorem at_not (ha:PT X a (cT X.K W t)):PT X (.UnaryOp .Not a pos) (cT X.K W (mNot t)) := PT.weak (pt_not ha) c_not
end
def mAndV (ma mb:ME):ME := fun s A Q E=>ma s A (fun x A1=>∃ c,x = .bl c∧if c=true then mb s A1 Q E else Q (.bl false) A1) E
def mIf (t:MT) (ma mb:ME):ME := fun s A Q E=>t s A (fun b A1=>if b=true then ma s A1 Q E else mb s A1 Q E) E
section
variable {rest:List Expr} {t:MT}
theorem ae_and (ha:PE X a (cE X.K W ma)) (hb:PE X (.BoolOp .And (b :: rest) pos) (cE X.K W mb)):PE X (.BoolOp .And (a :: b :: rest) pos) (cE X.K W (mAndV ma mb)) := PE.weak (pe_and ha hb) fun σ H Q ⟨g,s,A,Qa,Ea,w,r,h,q,qx⟩ =>
 ⟨g,s,A,_,Ea,w,r,h,fun g1 A1 H1 x dx st1 w1 rx ⟨k,ek,h1⟩=>⟨k,by rw [ek] at rx; exact rx.bl_,by
  cases k with
  | true=>exact iteT ⟨g1,s,A1,Qa,Ea,w1,r.mono st1.le,h1,q.step st1,qx.step st1⟩
  | false=>exact iteF (q _ _ _ _ _ st1 w1 (.bl false) h1)⟩,qx⟩
theorem ae_ifExp (hc:PT X c (cT X.K W t)) (ha:PE X a (cE X.K W ma)) (hb:PE X b (cE X.K W mb)):PE X (.IfExp c a b pos) (cE X.K W (mIf t ma mb)) := PE.weak (pe_ifExp hc ha hb) fun σ H Q ⟨g,s,A,Qa,Ea,w,r,h,q,qx⟩ =>
 ⟨g,s,A,_,Ea,w,r,h,fun g1 A1 H1 k st1 w1 h1=>by
  cases k with
  | true=>exact iteT ⟨g1,s,A1,Qa,Ea,w1,r.mono st1.le,h1,q.step st1,qx.step st1⟩
  | false=>exact iteF ⟨g1,s,A1,Qa,Ea,w1,r.mono st1.le,h1,q.step st1,qx.step st1⟩,qx⟩
end
def mNil:MA := fun _ A Q _=>Q [] A
def mCons (m:ME) (r:MA):MA := fun s A Q E=>m s A (fun x A1=>r s A1 (fun xs A2=>Q (x :: xs) A2) E) E
theorem aa_nil:PA X [] (cA X.K W mNil) := PA.weak pa_nil fun σ H Q ⟨g,s,A,Qa,Ea,w,r,h,q,qx⟩=>q g A H [] [] .refl w .nil h
theorem aa_cons {es:List Expr} {mr:MA} (he:PE X e (cE X.K W m)) (hs:PA X es (cA X.K W mr)) (h1:starEach (e :: es) X.env=(false,eval e X.env) :: starEach es X.env := by rfl):PA X (e :: es) (cA X.K W (mCons m mr)) := PA.weak (pa_cons he hs h1) fun σ H Q ⟨g,s,A,Qa,Ea,w,r,h,q,qx⟩ =>
 ⟨g,s,A,_,Ea,w,r,h,fun g1 A1 H1 x dx st1 w1 rx h1=>⟨g1,s,A1,_,Ea,w1,r.mono st1.le,h1,fun g2 A2 H2 xs ds st2 w2 rs h2=>q g2 A2 H2 _ _ (st1.trans st2) w2 (.cons (rx.mono st2.le) rs) h2,qx.step st1⟩,qx⟩
def itL (A:AH):D→Option (List D)
 | .lst xs=>some xs
 | .ref n=>match A n with
  | some (.lst xs)=>some xs
  | _=>none
 | _=>none
def itS (A:AH):D→Option (List D)
 | .tup xs=>some xs
 | .ktup xs=>some xs
 | d=>itL A d
theorem Wr.getL {K:PySem.W.Frag} {g:Sg} {A:AH} {H:Hp} {v:V} {d:D} {xs:List D} (w:Wr K g A H) (r:Rep K g v d) (h:itL A d=some xs):∃ a vs,v = .ref a∧Rd H a (.lst vs)∧Reps K g vs xs := by
 cases r with
 | lst h1 h2=>cases h; exact ⟨_,_,rfl,w.sub.rd h1,h2⟩
 | ref h1 =>
  rename_i a n
  unfold itL at h
  simp only at h
  split at h
  ·rename_i ys e
   cases h
   obtain ⟨b,q1,q2,vs,q3,q4⟩ := w.nd n _ e
   rw [h1] at q1; cases q1
   exact ⟨a,vs,rfl, .inl q3,q4⟩
  ·cases h
 | _=>cases h
theorem Wr.getS {K:PySem.W.Frag} {g:Sg} {A:AH} {H:Hp} {v:V} {d:D} {xs:List D} (w:Wr K g A H) (r:Rep K g v d) (h:itS A d=some xs):∃ a vs,v = .ref a∧(SqL K H a vs∨SqT K H a vs)∧Reps K g vs xs := by
 cases r with
 | tup h1 h2=>cases h; exact ⟨_,_,rfl, .inr (w.sub.sqt (.inl (.inl h1))),h2⟩
 | ktup h1 h2=>cases h; exact ⟨_,_,rfl, .inr (w.sub.sqt h1),h2⟩
 | lst h1 h2=>obtain ⟨a,vs,h3,h4,h5⟩ := w.getL (.lst h1 h2) h; exact ⟨a,vs,h3, .inl (.inl h4),h5⟩
 | ref h1=>obtain ⟨a,vs,h3,h4,h5⟩ := w.getL (.ref h1) h; exact ⟨a,vs,h3, .inl (.inl h4),h5⟩
 | _=>cases h
def mStar (m:ME) (r:MA):MA := fun s A Q E=>m s A (fun x A1=>∃ xs,itS A1 x=some xs∧r s A1 (fun ys A2=>Q (xs ++ ys) A2) E) E
theorem aa_star {es:List Expr} {p:Pos} {mr:MA} (he:PE X e (cE X.K W m)) (hs:PA X es (cA X.K W mr)) (h1:starEach (.Starred e p :: es) X.env=(true,eval e X.env) :: starEach es X.env := by rfl):PA X (.Starred e p :: es) (cA X.K W (mStar m mr)) := PA.weak (StX.pa_star he hs h1) fun σ H Q ⟨g,s,A,Qa,Ea,w,r,h,q,qx⟩ =>
 ⟨g,s,A,_,Ea,w,r,h,fun g1 A1 H1 x dx st1 w1 rx ⟨xs,h0,h1⟩=>by
  obtain ⟨a,vs,e1,e2,e3⟩ := w1.getS rx h0
  exact ⟨a,vs,e1,e2.symm,g1,s,A1,_,Ea,w1,r.mono st1.le,h1,fun g2 A2 H2 ys ds st2 w2 rs h2=>q g2 A2 H2 _ _ (st1.trans st2) w2 ((e3.mono st2.le).app rs) h2,qx.step st1⟩,qx⟩
def mLst (r:MA):ME := fun s A Q E=>r s A (fun ds A1=>ds.length≤sizeLine∧Q (.lst ds) A1) E
section
variable {es:List Expr} {mr:MA}
theorem ae_lst (h:PA X es (cA X.K W mr)):PE X (.List es pos) (cE X.K W (mLst mr)) := PE.weak (pe_lst h) fun σ H Q ⟨g,s,A,Qa,Ea,w,r,h,q,qx⟩ =>
 ⟨g,s,A,_,Ea,w,r,h,fun g1 A1 H1 xs ds st1 w1 rs ⟨hl,h1⟩=>⟨by rw [rs.len]; exact hl,fun p np=>by
  obtain ⟨w2,st2⟩ := w1.new (o := .lst xs) np
  exact q _ _ _ _ _ (st1.trans st2) w2 (.lst (.inl upd_same) (rs.mono st2.le)) h1⟩,qx⟩
end
end
end Am
namespace Am
open PySem PySem.Spec PyProof.Rows L2
open Fm (same_new rEqP rNeP rInP rCatR rAddA rSlA rListOf rTupOf rLenA rInt1 rMulA rDivA rModA rPowA rGtA rGeA rJoinA)
section
variable {K:PySem.W.Frag} {g:Sg} {A:AH} {H:Hp} {v:V} {d:D}
def fI (C:Int→Int→Prop) (h:Int→Int→D):F2 := fun x y A Q=>∃ i j,x = .int i∧y = .int j∧C i j∧Q (h i j) A
def fAddG (cat:List D→AH→QE→Prop):F2 := fun x y A Q=>match x with
 | .int i=>∃ j,y = .int j∧Q (.int (i + j)) A
 | .str a=>∃ b,y = .str b∧a.length + b.length≤sizeLine∧Q (.str (a ++ b)) A
 | x=>∃ xs ys,itL A x=some xs∧itL A y=some ys∧xs.length + ys.length≤sizeLine∧cat (xs ++ ys) A Q
def oldL (ds:List D) (A:AH) (Q:QE):Prop := Q (.lst ds) A
def MkL (K:PySem.W.Frag) (f:List D→AH→QE→Prop):Prop := ∀ g A H p vs ds Qa Q,Wr K g A H→H p=none→Reps K g vs ds→f ds A Qa→Post K g A H Qa Q→Q (.ref p) (upd H p (.lst vs))
theorem mk_old:MkL K oldL := fun g A H p vs ds Qa Q w np r h q=>by
 obtain ⟨w2,st2⟩ := w.new (o := .lst vs) np
 exact q _ _ _ _ _ st2 w2 (.lst (.inl upd_same) (r.mono st2.le)) h
def fAdd:F2 := fAddG oldL
theorem os_addG {cat:List D→AH→QE→Prop} (mk:MkL K cat):OpS K (rAddA) (fAddG cat) := fun g A H x y dx dy Qa Q w rx ry h p=>by
 have fin:(∃ xs ys,itL A dx=some xs∧itL A dy=some ys∧xs.length + ys.length≤sizeLine∧cat (xs ++ ys) A Qa)→rAddA x y H Q := fun ⟨xs,ys,e1,e2,hl,q⟩=>by
  obtain ⟨a,vs,rfl,h1,h2⟩ := w.getL rx e1
  obtain ⟨b,us,rfl,h3,h4⟩ := w.getL ry e2
  exact .inr (.inr ⟨a,b,vs,us,rfl,rfl,h1,h3,by rw [h2.len,h4.len]; exact hl,fun q' nq=>mk g A H q' _ _ Qa Q w nq (h2.app h4) q p⟩)
 cases dx with
 | int i=>obtain ⟨j,e,q⟩ := h; subst e; exact .inl ⟨i,j,rx.int_,ry.int_,p.now w (.int _) q⟩
 | str i=>obtain ⟨j,e,hl,q⟩ := h; subst e; exact .inr (.inl ⟨i,j,rx.str_,ry.str_,hl,p.now w (.str _) q⟩)
 | _=>exact fin h
theorem os_add:OpS K (rAddA) fAdd := os_addG mk_old
mutual
def toP:D→Option PyData
 | .non=>some .none
 | .bl b=>some (.bool b)
 | .int i=>some (.int i)
 | .str x=>some (.str x)
 | .tup xs=>(toPs xs).map .tuple
 | .ktup xs=>(toPs xs).map .tuple
 | .lst xs=>(toPs xs).map .list
 | _=>none
def toPs:List D→Option (List PyData)
 | []=>some []
 | x :: xs=>(toP x).bind fun p=>(toPs xs).map fun ps=>p :: ps
end
def toPA (A:AH):D→Option PyData
 | .ref n=>match A n with
  | some (.lst xs)=>(toPs xs).map .list
  | _=>none
 | d=>toP d
mutual
theorem Rep.dp (s:Sub g.S H):∀ {v:V} {d:D} {p:PyData},Rep K g v d→toP d=some p→Dp K H v p
 | _,_,_, .non,e=>by cases e; exact .non
 | _,_,_, .bl b,e=>by cases e; exact .bl b
 | _,_,_, .int b,e=>by cases e; exact .int b
 | _,_,_, .str b,e=>by cases e; exact .str b
 | _,_,_, .ty b,e=>by cases e
 | _,_,_, .cls b,e=>by cases e
 | _,_,_, .tup (ds := ds) h r,e=>by
  unfold toP at e
  cases q:toPs ds with
  | none=>rw [q] at e; cases e
  | some ps=>rw [q] at e; cases e; exact .tup (s.sqt (.inl (.inl h))) (Reps.dp s r q)
 | _,_,_, .ktup (ds := ds) h r,e=>by
  unfold toP at e
  cases q:toPs ds with
  | none=>rw [q] at e; cases e
  | some ps=>rw [q] at e; cases e; exact .tup (s.sqt h) (Reps.dp s r q)
 | _,_,_, .lst (ds := ds) h r,e=>by
  unfold toP at e
  cases q:toPs ds with
  | none=>rw [q] at e; cases e
  | some ps=>rw [q] at e; cases e; exact .lst (.inl (s.rd h)) (Reps.dp s r q)
 | _,_,_, .dK _ _ _,e=>by cases e
 | _,_,_, .dT _ _ _,e=>by cases e
 | _,_,_, .ins _ _ _,e=>by cases e
 | _,_,_, .exn _ _ _,e=>by cases e
 | _,_,_, .scr _,e=>by cases e
 | _,_,_, .ref _,e=>by cases e
theorem Reps.dp (s:Sub g.S H):∀ {vs:List V} {ds:List D} {ps:List PyData},Reps K g vs ds→toPs ds=some ps→DpAll K H vs ps
 | _,_,_, .nil,e=>by cases e; exact .nil
 | _,_,_, .cons (d := d) (ds := ds) h r,e=>by
  unfold toPs at e
  cases q:toP d with
  | none=>rw [q] at e; cases e
  | some p =>
   rw [q] at e
   cases q2:toPs ds with
   | none=>rw [q2] at e; cases e
   | some ps=>rw [q2] at e; cases e; exact .cons (Rep.dp s h q) (Reps.dp s r q2)
end
theorem Wr.dp {p:PyData} (w:Wr K g A H) (r:Rep K g v d) (h:toPA A d=some p):Dp K H v p := by
 cases d with
 | ref n =>
  unfold toPA at h
  simp only at h
  split at h
  ·rename_i xs e
   obtain ⟨a,vs,rfl,h1,h2⟩ := w.getL (xs := xs) r (by unfold itL; simp only [e])
   cases q:toPs xs with
   | none=>rw [q] at h; cases h
   | some ps=>rw [q] at h; cases h; exact .lst (.inl h1) (Reps.dp w.sub h2 q)
  ·cases h
 | _=>exact Rep.dp w.sub r h
def fEq (neg:Bool):F2 := fun x y A Q=>∃ p q,toPA A x=some p∧toPA A y=some q∧p.plain=true∧q.plain=true∧min p.depth q.depth≤60∧Q (.bl (PyData.eqv p q != neg)) A
theorem os_eq:OpS K (rEqP K) (fEq false) := fun g A H x y dx dy Qa Q w rx ry ⟨p,q,h1,h2,h3,h4,h5,h6⟩ po=>⟨p,q,w.dp rx h1,w.dp ry h2,h3,h4,h5,po.now w (.bl _) (by simpa using h6)⟩
theorem os_ne:OpS K (rNeP K) (fEq true) := fun g A H x y dx dy Qa Q w rx ry ⟨p,q,h1,h2,h3,h4,h5,h6⟩ po=>⟨p,q,w.dp rx h1,w.dp ry h2,h3,h4,h5,po.now w (.bl _) (by simpa using h6)⟩
def fIn (neg:Bool):F2 := fun x y A Q=>match y with
 | .str z=>∃ c,x = .str ⟨#[c]⟩∧Q (.bl (decide (c∈z.cps.toList) != neg)) A
 | y=>∃ ys p ps,itS A y=some ys∧toPA A x=some p∧toPs ys=some ps∧p.plain=true∧PyData.plainAll ps=true∧p.depth≤60∧Q (.bl (ps.any (fun z=>PyData.eqv z p) != neg)) A
theorem os_in {neg:Bool}:OpS K (rInP K neg) (fIn neg) := fun g A H x y dx dy Qa Q w rx ry h po=>by
 have fin:(∃ ys p ps,itS A dy=some ys∧toPA A dx=some p∧toPs ys=some ps∧p.plain=true∧PyData.plainAll ps=true∧p.depth≤60∧Qa (.bl (ps.any (fun z=>PyData.eqv z p) != neg)) A)→rInP K neg x y H Q := fun ⟨ys,p,ps,h1,h2,h3,h4,h5,h6,h7⟩=>by
  obtain ⟨a,vs,rfl,hs,hr⟩ := w.getS ry h1
  refine .inl ⟨p,ps,w.dp rx h2, ?_,h4,h5,h6,po.now w (.bl _) (by cases neg <;> simpa using h7)⟩
  rcases hs with hs | hs
  ·exact .inl (.lst hs (Reps.dp w.sub hr h3))
  ·exact .inr (.tup hs (Reps.dp w.sub hr h3))
 cases dy with
 | str z =>
  obtain ⟨c,e,q⟩ := h
  subst e
  exact .inr ⟨c,z,rx.str_,ry.str_,po.now w (.bl _) (by cases neg <;> simpa using q)⟩
 | _=>exact fin h
theorem Reps.atI {vs:List V} {ds:List D} {i:Int} {d:D} (h:Reps K g vs ds) (e:L2.atI ds i=some d):∃ v,L2.atI vs i=some v∧Rep K g v d := by
 unfold L2.atI at e ⊢
 rw [h.len]
 cases q:ixN ds.length i with
 | none=>rw [q] at e; cases e
 | some j=>rw [q] at e; exact h.at_ e
def fIx:F2 := fun x y A Q=>match x with
 | .str z=>∃ i c,y = .int i∧z.length≤sizeLine∧L2.atI z.cps.toList i=some c∧Q (.str ⟨#[c]⟩) A
 | x=>∃ xs i d,itS A x=some xs∧y = .int i∧L2.atI xs i=some d∧Q d A
theorem os_ix:OpS K (rIx K) fIx := fun g A H x y dx dy Qa Q w rx ry h po=>by
 have fin:(∃ xs i d,itS A dx=some xs∧dy = .int i∧L2.atI xs i=some d∧Qa d A)→rIx K x y H Q := fun ⟨xs,i,d,h1,h2,h3,h4⟩=>by
  subst h2
  obtain ⟨a,vs,rfl,hs,hr⟩ := w.getS rx h1
  obtain ⟨v,e1,e2⟩ := hr.atI h3
  rcases hs with hs | hs
  ·exact .inl ⟨a,vs,i,v,rfl,ry.int_,hs,e1,po.now w e2 h4⟩
  ·exact .inr (.inl ⟨a,vs,i,v,rfl,ry.int_,hs,e1,po.now w e2 h4⟩)
 cases dx with
 | str z =>
  obtain ⟨i,c,e,hz,h1,q⟩ := h
  subst e
  exact .inr (.inr ⟨z,i,c,rx.str_,ry.int_,hz,h1,po.now w (.str _) q⟩)
 | _=>exact fin h
def fLen:List D→AH→QE→Prop := fun ds A Q=>∃ x,ds=[x]∧match x with
 | .str z=>z.length≤sizeLine∧Q (.int z.length) A
 | x=>∃ xs,itS A x=some xs∧Q (.int xs.length) A
theorem Reps.one {vs:List V} (h:Reps K g vs [d]):∃ v,vs=[v]∧Rep K g v d := by
 cases h with
 | cons h r=>cases r; exact ⟨_,rfl,h⟩
theorem cs_len:CallS K (rLenA K) fLen := fun g A H xs ds Qa Q w rs ⟨x,e,h⟩ po=>by
 subst e
 obtain ⟨v,rfl,r⟩ := rs.one
 have fin:(∃ xs,itS A x=some xs∧Qa (.int xs.length) A)→rLenA K [v] H Q := fun ⟨xs,h1,h2⟩=>by
  obtain ⟨a,vs,rfl,hs,hr⟩ := w.getS r h1
  refine ⟨_,xs.length,rfl, ?_,po.now w (.int _) h2⟩
  rcases hs with hs | hs
  ·exact .inl ⟨vs,hs,hr.len.symm⟩
  ·exact .inr ⟨vs,hs,hr.len.symm⟩
 cases x with
 | str z=>rw [r.str_]; exact ⟨_,z.length,rfl,⟨h.1,rfl⟩,po.now w (.int _) h.2⟩
 | _=>exact fin h
def fListG (mk:List D→AH→QE→Prop):List D→AH→QE→Prop := fun ds A Q=>∃ x xs,ds=[x]∧itS A x=some xs∧mk xs A Q
def fList := fListG oldL
theorem cs_listG {mk:List D→AH→QE→Prop} (m:MkL K mk):CallS K (rListOf K) (fListG mk) := fun g A H xs ds Qa Q w rs ⟨x,ys,e,h1,h2⟩ po=>by
 subst e
 obtain ⟨v,rfl,r⟩ := rs.one
 obtain ⟨a,vs,rfl,hs,hr⟩ := w.getS r h1
 exact ⟨a,vs,rfl,hs,fun l nl=>m g A H l vs ys Qa Q w nl hr h2 po⟩
theorem cs_list:CallS K (rListOf K) fList := cs_listG mk_old
def fTupOf:List D→AH→QE→Prop := fun ds A Q=>∃ x,ds=[x]∧match x with
 | .tup xs=>Q (.tup xs) A
 | x=>∃ xs,itL A x=some xs∧Q (.tup xs) A
theorem cs_tup:CallS K (rTupOf K) fTupOf := fun g A H xs ds Qa Q w rs ⟨x,e,h⟩ po=>by
 subst e
 obtain ⟨v,rfl,r⟩ := rs.one
 have fin:(∃ xs,itL A x=some xs∧Qa (.tup xs) A)→rTupOf K [v] H Q := fun ⟨xs,h1,h2⟩=>by
  obtain ⟨a,vs,rfl,hs,hr⟩ := w.getL r h1
  refine ⟨a,vs,rfl, .inl ⟨.inl hs,fun l nl=>?_⟩⟩
  obtain ⟨w2,st2⟩ := w.new (o := .tup vs) nl
  exact po _ _ _ _ _ st2 w2 (.tup upd_same (hr.mono st2.le)) h2
 cases x with
 | tup ys =>
  cases r with
  | tup h1 h2=>exact ⟨_,_,rfl, .inr ⟨w.sub.sqt (.inl (.inl h1)),po.now w (.tup h1 h2) h⟩⟩
 | _=>exact fin h
end
section
variable {X:Cx} {e:Expr} {es:List Expr} {W:WX} {p pos:Pos} {x:Str} {mr:MA}
def mCB (f:List D→AH→QE→Prop) (r:MA):ME := fun s A Q E=>r s A (fun ds A1=>f ds A1 Q) E
theorem c_cb {K:PySem.W.Frag} {r:List V→Hp→VK→Prop} {f:List D→AH→QE→Prop} (cs:CallS K r f):∀ σ H Q,cE K W (mCB f mr) σ H Q→tCB r (cA K W mr) σ H Q := fun σ H Q ⟨g,s,A,Qa,Ea,w,rs,h,q,qx⟩ =>
 ⟨g,s,A,_,Ea,w,rs,h,fun g1 A1 H1 vs ds st1 w1 r1 h1=>cs g1 A1 H1 vs ds Qa Q w1 r1 h1 (q.step st1),qx⟩
end
end Am
namespace Am
open PySem PySem.Spec PyProof.Rows L2
open Fm (same_new rSlA rJoinA)
section
variable {K:PySem.W.Frag} {g g':Sg} {A:AH} {H:Hp} {v:V} {d:D} {W:WX} {m ma mb mc:ME} {κ:Type} [DecidableEq κ]
def KReps (K:PySem.W.Frag) (g:Sg) (kvs:List (κ × V)) (ds:List (κ × D)):Prop := kvs.map (·.1)=ds.map (·.1)∧Reps K g (kvs.map (·.2)) (ds.map (·.2))
theorem KReps.nil:KReps K g ([]:List (κ × V)) [] := ⟨rfl, .nil⟩
theorem KReps.ind:∀ {kvs:List (κ × V)} {ds:List (κ × D)},KReps K g kvs ds→(kvs=[]∧ds=[])∨∃ k v d kr dr,kvs=(k,v) :: kr∧ds=(k,d) :: dr∧Rep K g v d∧KReps K g kr dr
 | [],[],_=>.inl ⟨rfl,rfl⟩
 | [],_ :: _,h=>by cases h.1
 | _ :: _,[],h=>by cases h.1
 | (k,v) :: kr,(k',d) :: dr,⟨h1,h2⟩=>by
  simp only [List.map_cons,List.cons.injEq] at h1
  obtain ⟨e,h1⟩ := h1
  subst e
  cases h2 with
  | cons h r=>exact .inr ⟨k,v,d,kr,dr,rfl,rfl,h,h1,r⟩
theorem KReps.cons {k:κ} {kvs:List (κ × V)} {ds:List (κ × D)} (r:Rep K g v d) (h:KReps K g kvs ds):KReps K g ((k,v) :: kvs) ((k,d) :: ds) := ⟨by simp [h.1], .cons r h.2⟩
theorem KReps.mono {kvs:List (κ × V)} {ds:List (κ × D)} (e:g.le g') (h:KReps K g kvs ds):KReps K g' kvs ds := ⟨h.1,h.2.mono e⟩
theorem KReps.len {kvs:List (κ × V)} {ds:List (κ × D)} (h:KReps K g kvs ds):kvs.length=ds.length := by
 have := congrArg List.length h.1
 simpa using this
theorem KReps.look {f:Str} {d:D}:∀ {kvs:List (Str × V)} {ds:List (Str × D)},KReps K g kvs ds→ds.lookup f=some d→∃ v,kvs.lookup f=some v∧Rep K g v d
 | kvs,ds,h,e=>by
  rcases h.ind with ⟨e1,e2⟩ | ⟨k,v,d',kr,dr,e1,e2,hr,ht⟩
  ·subst e2; cases e
  ·subst e1; subst e2
   rw [List.lookup_cons] at e ⊢
   cases q:(f == k) with
   | true=>rw [q] at e; cases e; exact ⟨v,rfl,hr⟩
   | false=>rw [q] at e; simp only at e ⊢; exact KReps.look ht e
 termination_by kvs=>kvs.length
 decreasing_by subst e1; simp
def valD (kvs:List (κ × D)) (k:κ):Option D := (kvs.find? fun kv=>decide (kv.1=k)).map (·.2)
def putD (kvs:List (κ × D)) (k:κ) (v:D):List (κ × D) :=
 if (kvs.any fun kv=>decide (kv.1=k))=true then kvs.map (fun kv=>if kv.1=k then (kv.1,v) else kv) else kvs ++ [(k,v)]
def dropD (kvs:List (κ × D)) (k:κ):List (κ × D) := kvs.filter fun kv=>decide (kv.1≠k)
theorem KReps.val {k:κ}:∀ {kvs:List (κ × V)} {ds:List (κ × D)},KReps K g kvs ds→Fm.Orel (fun d v=>Rep K g v d) (valD ds k) (valV kvs k)
 | kvs,ds,h=>by
  rcases h.ind with ⟨e1,e2⟩ | ⟨k',v,d',kr,dr,e1,e2,hr,ht⟩
  ·subst e1; subst e2; exact .no
  ·subst e1; subst e2
   unfold valD valV
   rw [List.find?_cons,List.find?_cons]
   by_cases q:k' = k
   ·simp only [q,decide_true,Option.map_some]; exact .yes hr
   ·simp only [q,decide_false]; exact KReps.val ht
 termination_by kvs=>kvs.length
 decreasing_by subst e1; simp
theorem KReps.any {k:κ}:∀ {kvs:List (κ × V)} {ds:List (κ × D)},KReps K g kvs ds→(kvs.any fun kv=>decide (kv.1=k))=(ds.any fun kv=>decide (kv.1=k))
 | kvs,ds,h=>by
  rcases h.ind with ⟨e1,e2⟩ | ⟨k',v,d',kr,dr,e1,e2,hr,ht⟩
  ·subst e1; subst e2; rfl
  ·subst e1; subst e2
   rw [List.any_cons,List.any_cons,KReps.any ht]
 termination_by kvs=>kvs.length
 decreasing_by subst e1; simp
theorem KReps.app:∀ {kvs kvs':List (κ × V)} {ds ds':List (κ × D)},KReps K g kvs ds→KReps K g kvs' ds'→KReps K g (kvs ++ kvs') (ds ++ ds') := fun h h'=>⟨by rw [List.map_append,List.map_append,h.1,h'.1],by rw [List.map_append,List.map_append]; exact h.2.app h'.2⟩
theorem KReps.put {k:κ} {kvs:List (κ × V)} {ds:List (κ × D)} (h:KReps K g kvs ds) (r:Rep K g v d):KReps K g (putK kvs k v) (putD ds k d) := by
 have mp:∀ {kvs:List (κ × V)} {ds:List (κ × D)},KReps K g kvs ds→KReps K g (kvs.map fun kv=>if kv.1=k then (kv.1,v) else kv) (ds.map fun kv=>if kv.1=k then (kv.1,d) else kv) := by
  intro kvs
  induction kvs with
  | nil =>
   intro ds h
   rcases h.ind with ⟨e1,e2⟩ | ⟨k',v',d',kr,dr,e1,e2,hr,ht⟩
   ·subst e2; exact .nil
   ·cases e1
  | cons p t ih =>
   intro ds h
   rcases h.ind with ⟨e1,e2⟩ | ⟨k',v',d',kr,dr,e1,e2,hr,ht⟩
   ·cases e1
   ·cases e1; subst e2
    rw [List.map_cons,List.map_cons]
    by_cases q:k' = k
    ·simp only [q,if_true]; exact (ih ht).cons r
    ·simp only [q,if_false]; exact (ih ht).cons hr
 unfold putK putD
 rw [h.any]
 split
 ·exact mp h
 ·exact h.app (KReps.nil.cons r)
theorem KReps.drop {k:κ} {kvs:List (κ × V)} {ds:List (κ × D)} (h:KReps K g kvs ds):KReps K g (dropK kvs k) (dropD ds k) := by
 unfold dropK dropD
 induction kvs generalizing ds with
 | nil =>
  rcases h.ind with ⟨e1,e2⟩ | ⟨k',v',d',kr,dr,e1,e2,hr,ht⟩
  ·subst e2; exact .nil
  ·cases e1
 | cons p t ih =>
  rcases h.ind with ⟨e1,e2⟩ | ⟨k',v',d',kr,dr,e1,e2,hr,ht⟩
  ·cases e1
  ·cases e1; subst e2
   rw [List.filter_cons,List.filter_cons]
   by_cases q:k' = k
   ·simp only [q,ne_eq,not_true_eq_false,decide_false,Bool.false_eq_true,if_false]; exact ih ht
   ·simp only [q,ne_eq,not_false_eq_true,decide_true,if_true]; exact (ih ht).cons hr
def insOf (A:AH):D→Option (Str × List (Str × D))
 | .ins c fs=>some (c,fs)
 | .ref n=>match A n with
  | some (.ins c fs)=>some (c,fs)
  | _=>none
 | _=>none
theorem Wr.ins {c:Str} {fs:List (Str × D)} (w:Wr K g A H) (r:Rep K g v d) (h:insOf A d=some (c,fs)):∃ a dx fvs,v = .ref a∧H a=some (.ins (He.ga K c) dx fvs)∧KReps K g fvs fs := by
 cases r with
 | ins h1 h2 h3=>cases h; exact ⟨_,_,_,rfl,w.sub.ins h1,h2,h3⟩
 | ref h1 =>
  rename_i a n
  unfold insOf at h
  simp only at h
  split at h
  ·rename_i c fs e
   cases h
   obtain ⟨b,q1,q2,dx,fvs,q3,q4,q5⟩ := w.nd n _ e
   rw [h1] at q1; cases q1
   exact ⟨a,dx,fvs,rfl,q3,q4,q5⟩
  ·cases h
 | _=>cases h
def mFld (cs:List Str) (f:Str) (m:ME):ME := fun s A Q E=>m s A (fun d A1=>∃ c fs v,insOf A1 d=some (c,fs)∧c∈cs∧fs.lookup f=some v∧Q v A1) E
theorem c_fld {cs:List Str} {f:Str} (hc:∀ c∈cs,Cls K (He.ga K c)∧NoAttr K (He.ga K c) f):∀ σ H Q,cE K W (mFld cs f m) σ H Q→tFld K (cE K W m) f σ H Q := fun σ H Q ⟨g,s,A,Qa,Ea,w,rs,h,q,qx⟩ =>
 ⟨g,s,A,_,Ea,w,rs,h,fun g1 A1 H1 x dx st1 w1 r1 ⟨c,fs,u,h1,h2,h3,h4⟩=>by
  obtain ⟨a,dd,fvs,rfl,q1,q2⟩ := w1.ins r1 h1
  obtain ⟨v,q3,q4⟩ := q2.look h3
  exact ⟨a,_,dd,fvs,v,rfl,q1,(hc c h2).1,(hc c h2).2,q3,q _ _ _ _ _ st1 w1 q4 h4⟩,qx⟩
abbrev MO := Sl→AH→(Option Int→AH→Prop)→QX→Prop
def cO (K:PySem.W.Frag) (W:WX) (m:MO):TO := fun σ H Q=>∃ g s A Qa Ea,Wr K g A H∧RepS K g σ s∧m s A Qa Ea∧(∀ g' A' H' o,Stp g A H g' A' H'→Wr K g' A' H'→Qa o A'→Q o H')∧PostX K g A H Ea (fun c d H'=>W c d σ H')
def mNoPart:MO := fun _ A Q _=>Q none A
def mPart (m:ME):MO := fun s A Q E=>m s A (fun d A1=>∃ i,d = .int i∧Q (some i) A1) E
theorem c_noPart:∀ σ H Q,cO K W mNoPart σ H Q→tNoPart σ H Q := fun σ H Q ⟨g,s,A,Qa,Ea,w,rs,h,q,qx⟩=>q g A H none .refl w h
theorem c_part:∀ σ H Q,cO K W (mPart m) σ H Q→tPart (cE K W m) σ H Q := fun σ H Q ⟨g,s,A,Qa,Ea,w,rs,h,q,qx⟩ =>
 ⟨g,s,A,_,Ea,w,rs,h,fun g1 A1 H1 x dx st1 w1 r1 ⟨i,e,h1⟩=>⟨i,by subst e; exact r1.int_,q g1 A1 H1 _ st1 w1 h1⟩,qx⟩
theorem PO.weak {X:Cx} {e:Option Expr} {t t':TO} (h:PO X e t) (k:∀ σ H Q,t' σ H Q→t σ H Q):PO X e t' := ⟨fun pins s σ H Q I q=>h.run pins s σ H Q I (k σ H Q q)⟩
def cutD (xs:List D) (lo hi:Option Int):List D := (xs.drop (HT.sIx xs.length 0 lo)).take (HT.sIx xs.length xs.length hi - HT.sIx xs.length 0 lo)
theorem Reps.cut {vs:List V} {ds:List D} {lo hi:Option Int} (h:Reps K g vs ds):Reps K g (cutV vs lo hi) (cutD ds lo hi) := by
 unfold cutV cutD
 rw [h.len]
 exact (h.drop_ _).take_ _
def fSlG (mk:List D→AH→QE→Prop) (x:D) (lo hi:Option Int) (A:AH) (Q:QE):Prop := match x with
 | .str z=>z.length≤sizeLine∧Q (.str (cutS z lo hi)) A
 | x=>∃ xs,itL A x=some xs∧mk (cutD xs lo hi) A Q
def mSlG (mk:List D→AH→QE→Prop) (m:ME) (lo hi:MO):ME := fun s A Q E=>m s A (fun x A1=>lo s A1 (fun l A2=>hi s A2 (fun h A3=>fSlG mk x l h A3 Q) E) E) E
def mSl := mSlG oldL
theorem c_slG {mk:List D→AH→QE→Prop} {lo hi:MO} (k:MkL K mk):∀ σ H Q,cE K W (mSlG mk m lo hi) σ H Q→tSl (Fm.rSlA K) (cE K W m) (cO K W lo) (cO K W hi) σ H Q := fun σ H Q ⟨g,s,A,Qa,Ea,w,rs,h,q,qx⟩ =>
 ⟨g,s,A,_,Ea,w,rs,h,fun g1 A1 H1 x dx st1 w1 r1 h1=>⟨g1,s,A1,_,Ea,w1,rs.mono st1.le,h1,fun g2 A2 H2 l st2 w2 h2=>⟨g2,s,A2,_,Ea,w2,rs.mono (st1.trans st2).le,h2,fun g3 A3 H3 hh st3 w3 h3=>by
  have r3 := r1.mono (st2.trans st3).le
  have st := (st1.trans st2).trans st3
  have fin:(∃ xs,itL A3 dx=some xs∧mk (cutD xs l hh) A3 Qa)→Fm.rSlA K x l hh H3 Q := fun ⟨xs,e1,e2⟩=>by
   obtain ⟨a,vs,rfl,q1,q2⟩ := w3.getL r3 e1
   exact .inl ⟨a,vs,rfl, .inl q1,fun p np=>k g3 A3 H3 p _ _ Qa Q w3 np q2.cut e2 (q.step st)⟩
  cases dx with
  | str z=>exact .inr ⟨z,r3.str_,h3.1,q _ _ _ _ _ st w3 (.str _) h3.2⟩
  | _=>exact fin h3,qx.step (st1.trans st2)⟩,qx.step st1⟩,qx⟩
theorem c_sl {lo hi:MO}:∀ σ H Q,cE K W (mSl m lo hi) σ H Q→tSl (Fm.rSlA K) (cE K W m) (cO K W lo) (cO K W hi) σ H Q := c_slG mk_old
def mRev (m:ME):ME := fun s A Q E=>m s A (fun x A1=>∃ xs,itL A1 x=some xs∧Q (.lst xs.reverse) A1) E
theorem c_rev:∀ σ H Q,cE K W (mRev m) σ H Q→tRevL K (cE K W m) σ H Q := fun σ H Q ⟨g,s,A,Qa,Ea,w,rs,h,q,qx⟩ =>
 ⟨g,s,A,_,Ea,w,rs,h,fun g1 A1 H1 x dx st1 w1 r1 ⟨xs,e1,e2⟩=>by
  obtain ⟨a,vs,rfl,q1,q2⟩ := w1.getL r1 e1
  exact ⟨a,vs,rfl, .inl q1,fun p np=>mk_old g1 A1 H1 p _ _ Qa Q w1 np q2.rev e2 (q.step st1)⟩,qx⟩
theorem Wr.nodeL {n:Nat} {xs:List D} (w:Wr K g A H) (r:Rep K g v (.ref n)) (h:A n=some (.lst xs)):∃ a vs,v = .ref a∧g.i n=some a∧H a=some (.lst vs)∧Reps K g vs xs := by
 cases r with
 | ref h1 =>
  obtain ⟨a,q1,q2,vs,q3,q4⟩ := w.nd n _ h
  rw [h1] at q1; cases q1
  exact ⟨_,vs,rfl,h1,q3,q4⟩
def strsOf:List D→Option (List Str)
 | []=>some []
 | .str x :: r=>(strsOf r).map fun ys=>x :: ys
 | _=>none
theorem strsOf_ok:∀ {vs:List V} {ds:List D} {zs:List Str},Reps K g vs ds→strsOf ds=some zs→vs=zs.map V.str
 | _,_,_, .nil,e=>by cases e; rfl
 | _,_,_, .cons (d := d) (ds := ds) h r,e=>by
  cases d with
  | str x =>
   unfold strsOf at e
   cases q:strsOf ds with
   | none=>rw [q] at e; cases e
   | some ys=>rw [q] at e; cases e; rw [h.str_,strsOf_ok r q]; rfl
  | _=>cases e
def mJoin (ma mb:ME):ME := fun s A Q E=>ma s A (fun x A1=>∃ a,x = .str a∧mb s A1 (fun y A2=>∃ ys zs,itS A2 y=some ys∧strsOf ys=some zs∧(zs.map (·.length)).sum + zs.length * a.length≤16777216∧Q (.str (Txt.join a zs)) A2) E) E
theorem c_join:∀ σ H Q,cE K W (mJoin ma mb) σ H Q→tM1 (rJoinA K) (cE K W ma) (cE K W mb) σ H Q := fun σ H Q ⟨g,s,A,Qa,Ea,w,rs,h,q,qx⟩ =>
 ⟨g,s,A,_,Ea,w,rs,h,fun g1 A1 H1 x dx st1 w1 r1 ⟨a,e,h1⟩=>by
  subst e
  refine ⟨⟨a,r1.str_⟩,g1,s,A1,_,Ea,w1,rs.mono st1.le,h1,fun g2 A2 H2 y dy st2 w2 r2 ⟨ys,zs,e1,e2,e3,h2⟩=>?_,qx.step st1⟩
  obtain ⟨p,vs,rfl,q1,q2⟩ := w2.getS r2 e1
  have := strsOf_ok q2 e2
  subst this
  exact ⟨a,p,zs,r1.str_,rfl,q1,e3,q _ _ _ _ _ (st1.trans st2) w2 (.str _) h2⟩,qx⟩
end
end Am
namespace Am
open PySem PySem.Spec PyProof.Rows L2
open Fm (same_new iSeq)
abbrev MG := D→Sl→AH→(Sl→AH→Prop)→Prop
abbrev MI := Sl→AH→(List D→(AH→Prop)→AH→Prop)→QX→Prop
structure WalkD (K:PySem.W.Frag) (J:It) (g:Sg) (items:List D) (ck:AH→Prop):Prop where
 go:∀ i g2 A2 H2,g.le g2→Wr K g2 A2 H2→ck A2→i < items.length→J.go i H2
 yl:∀ i g2 A2 H2 x H' d,g.le g2→Wr K g2 A2 H2→ck A2→items[i]? = some d→J.yld i H2 x H'→∃ g3,Stp g2 A2 H2 g3 A2 H'∧Wr K g3 A2 H'∧Rep K g3 x d
 st:∀ i g2 A2 H2,g.le g2→Wr K g2 A2 H2→ck A2→items.length≤i→J.stop i H2
def cI (K:PySem.W.Frag) (W:WX) (m:MI):TI := fun σ H R=>∃ g s A Ra Ea,Wr K g A H∧RepS K g σ s∧m s A Ra Ea∧(∀ g' A' H' J items ck,Stp g A H g' A' H'→Wr K g' A' H'→WalkD K J g' items ck→Ra items ck A'→R J H')∧PostX K g A H Ea (fun c d H'=>W c d σ H')
theorem PI.weak {X:Cx} {tg e:Expr} {t t':TI} (h:PI X tg e t) (k:∀ σ H Q,t' σ H Q→t σ H Q):PI X tg e t' := ⟨fun pins s σ H Q I q=>h.run pins s σ H Q I (k σ H Q q)⟩
section
variable {K:PySem.W.Frag} {g g':Sg} {A:AH} {H:Hp} {v:V} {d:D} {W:WX} {m ma mb mc:ME}
abbrev ckT:AH→Prop := fun _=>True
def chars (z:Str):List D := z.cps.toList.map fun c=>.str ⟨#[c]⟩
def fSeq (d:D) (A:AH) (R:List D→(AH→Prop)→AH→Prop):Prop := match d with
 | .str z=>R (chars z) ckT A
 | .ref n=>∃ xs,A n=some (.lst xs)∧R xs (fun A2=>A2 n=some (.lst xs)) A
 | d=>∃ xs,itS A d=some xs∧R xs ckT A
def mSeq (m:ME):MI := fun s A R E=>m s A (fun d A1=>fSeq d A1 R) E
theorem walk_fr {a:Addr} {vs:List V} {items:List D} (h:Rd g.S a (.lst vs)) (r:Reps K g vs items):WalkD K (Itl K a) g items ckT where
 go := fun i g2 A2 H2 le w _ hi=>by
  have := (w.sub.rd (Fm.Same.rd le.s h))
  have hi':i < vs.length := by rw [r.len]; exact hi
  exact ⟨vs,vs[i], .inl this,List.getElem?_eq_getElem hi'⟩
 yl := fun i g2 A2 H2 x H' d le w _ hd y=>by
  obtain ⟨e,hy⟩ := y
  subst e
  obtain ⟨u,h1,h2⟩ := r.at_ hd
  have := hy vs (.inl (w.sub.rd (Fm.Same.rd le.s h)))
  rw [h1] at this; cases this
  exact ⟨g2, .refl,w,h2.mono le⟩
 st := fun i g2 A2 H2 le w _ hi=>⟨vs, .inl (w.sub.rd (Fm.Same.rd le.s h)),by rw [r.len]; exact hi⟩
theorem walk_frT {a:Addr} {vs:List V} {items:List D} (h:SqT K g.S a vs) (r:Reps K g vs items):WalkD K (Itt K a) g items ckT where
 go := fun i g2 A2 H2 le w _ hi=>by
  have := (w.sub.sqt (Fm.Same.tup le.s h))
  have hi':i < vs.length := by rw [r.len]; exact hi
  exact ⟨vs,vs[i],this,List.getElem?_eq_getElem hi'⟩
 yl := fun i g2 A2 H2 x H' d le w _ hd y=>by
  obtain ⟨e,hy⟩ := y
  subst e
  obtain ⟨u,h1,h2⟩ := r.at_ hd
  have := hy vs (w.sub.sqt (Fm.Same.tup le.s h))
  rw [h1] at this; cases this
  exact ⟨g2, .refl,w,h2.mono le⟩
 st := fun i g2 A2 H2 le w _ hi=>⟨vs,w.sub.sqt (Fm.Same.tup le.s h),by rw [r.len]; exact hi⟩
theorem walk_nd {a:Addr} {n:Nat} {items:List D} (h:g.i n=some a):WalkD K (Itl K a) g items (fun A2=>A2 n=some (.lst items)) where
 go := fun i g2 A2 H2 le w ck hi=>by
  obtain ⟨b,vs,e,q1,q2,q3⟩ := w.nodeL (v := .ref a) (.ref (le.i _ _ h)) ck
  cases e
  have hi':i < vs.length := by rw [q3.len]; exact hi
  exact ⟨vs,vs[i], .inl (.inl q2),List.getElem?_eq_getElem hi'⟩
 yl := fun i g2 A2 H2 x H' d le w ck hd y=>by
  obtain ⟨e,hy⟩ := y
  subst e
  obtain ⟨b,vs,e,q1,q2,q3⟩ := w.nodeL (v := .ref a) (.ref (le.i _ _ h)) ck
  cases e
  obtain ⟨u,h1,h2⟩ := q3.at_ hd
  have := hy vs (.inl (.inl q2))
  rw [h1] at this; cases this
  exact ⟨g2, .refl,w,h2⟩
 st := fun i g2 A2 H2 le w ck hi=>by
  obtain ⟨b,vs,e,q1,q2,q3⟩ := w.nodeL (v := .ref a) (.ref (le.i _ _ h)) ck
  cases e
  exact ⟨vs, .inl (.inl q2),by rw [q3.len]; exact hi⟩
theorem walk_str {z:Str}:WalkD K (Its z) g (chars z) ckT where
 go := fun i g2 A2 H2 le w _ hi=>by
  have:i < z.cps.size := by simpa [chars] using hi
  exact this
 yl := fun i g2 A2 H2 x H' d le w _ hd y=>by
  obtain ⟨e,c,h1,h2⟩ := y
  subst e
  subst h2
  unfold chars at hd
  rw [List.getElem?_map] at hd
  have h1':z.cps.toList[i]? = some c := by simpa using h1
  rw [h1'] at hd
  cases hd
  exact ⟨g2, .refl,w, .str _⟩
 st := fun i g2 A2 H2 le w _ hi=>by
  have:z.cps.size≤i := by simpa [chars] using hi
  exact this
def intsD (lo:Int) (n:Nat):List D := (List.range n).map fun i=>.int (lo + (i:Nat))
theorem walk_rng {lo : Int} {n : Nat} : WalkD K (Itr lo n) g (intsD lo n) ckT where
  go := fun i g2 A2 H2 le w _ hi => by
    have : i < n := by simpa [intsD] using hi
    exact this
  yl := fun i g2 A2 H2 x H' d le w _ hd y => by
    obtain ⟨e, h2⟩ := y
    subst e
    subst h2
    unfold intsD at hd
    rw [List.getElem?_map] at hd
    cases q : (List.range n)[i]? with
    | none => rw [q] at hd; cases hd
    | some j =>
      rw [q] at hd
      have : j = i := by
        rw [List.getElem?_range] at q
        · exact (Option.some.inj q).symm
        · exact Classical.byContradiction fun z => by rw [List.getElem?_eq_none (by simpa using z)] at q; cases q
      subst this
      cases hd
      exact ⟨g2, .refl, w, .int _⟩
  st := fun i g2 A2 H2 le w _ hi => by
    have : n ≤ i := by simpa [intsD] using hi
    exact this
theorem c_seq:∀ σ H R,cI K W (mSeq m) σ H R→iSeq K (cE K W m) σ H R := fun σ H R ⟨g,s,A,Ra,Ea,w,rs,h,q,qx⟩ =>
 ⟨g,s,A,_,Ea,w,rs,h,fun g1 A1 H1 x dx st1 w1 r1 h1=>by
  cases r1 with
  | str z=>exact .inr (.inr ⟨z,rfl,q g1 A1 H1 _ _ _ st1 w1 walk_str h1⟩)
  | ref hi =>
   obtain ⟨xs,e1,e2⟩ := h1
   obtain ⟨a,vs,e,q1,q2,q3⟩ := w1.nodeL (.ref hi) e1
   cases e
   exact .inl ⟨_,rfl,⟨vs, .inl (.inl q2)⟩,q g1 A1 H1 _ _ _ st1 w1 (walk_nd hi) e2⟩
  | lst h2 h3 =>
   obtain ⟨xs,e1,e2⟩ := h1
   cases e1
   exact .inl ⟨_,rfl,⟨_, .inl (w1.sub.rd h2)⟩,q g1 A1 H1 _ _ _ st1 w1 (walk_fr h2 h3) e2⟩
  | tup h2 h3 =>
   obtain ⟨xs,e1,e2⟩ := h1
   cases e1
   exact .inr (.inl ⟨_,rfl,⟨_,w1.sub.sqt (.inl (.inl h2))⟩,q g1 A1 H1 _ _ _ st1 w1 (walk_frT (.inl (.inl h2)) h3) e2⟩)
  | ktup h2 h3 =>
   obtain ⟨xs,e1,e2⟩ := h1
   cases e1
   exact .inr (.inl ⟨_,rfl,⟨_,w1.sub.sqt h2⟩,q g1 A1 H1 _ _ _ st1 w1 (walk_frT h2 h3) e2⟩)
  | _=>exact (by obtain ⟨xs,e1,_⟩ := h1; cases e1),qx⟩
def mRng1 (r:MA):MI := fun s A R E=>r s A (fun ds A1=>∃ j:Int,ds=[.int j] ∧ -(2 ^ 62)≤j∧j < 2 ^ 62∧R (intsD 0 j.toNat) ckT A1) E
theorem c_rng1 {mr:MA}:∀ σ H R,cI K W (mRng1 mr) σ H R→iRng1 (cA K W mr) σ H R := fun σ H R ⟨g,s,A,Ra,Ea,w,rs,h,q,qx⟩ =>
 ⟨g,s,A,_,Ea,w,rs,h,fun g1 A1 H1 xs ds st1 w1 r1 ⟨j,e,h0,h1,h2⟩=>by
  subst e
  obtain ⟨v,rfl,r⟩ := r1.one
  exact ⟨j,by rw [r.int_],h0,h1,q g1 A1 H1 _ _ _ st1 w1 walk_rng h2⟩,qx⟩
end
def TgS (K:PySem.W.Frag) (t:TG) (mg:MG) (vs:List Nat):Prop := ∀ g A H v d σ s Qa Q,Wr K g A H→Rep K g v d→RepS K g σ s→mg d s A Qa →
 (∀ σ' s',RepS K g σ' s'→(∀ us:List Nat,(∀ i∈vs,i∈us)→wipe σ' us=wipe σ us)→Qa s' A→Q σ' H)→t v σ H Q
theorem wipe_at:∀ (us:List Nat) (σ:L2.St) (n:Nat),(wipe σ us)[n]? = if n∈us∧n < σ.length then some none else σ[n]?
 | [],σ,n=>by simp [wipe]
 | u :: us,σ,n=>by
  show ((wipe σ us).set u none)[n]? = _
  rw [List.getElem?_set,wipe_at us σ n,wipe_length]
  by_cases h1:u=n
  ·subst h1
   by_cases h2:u < σ.length
   ·simp [h2]
   ·simp [h2,List.getElem?_eq_none (Nat.le_of_not_lt h2)]
  ·have h1':¬ n=u := fun e=>h1 e.symm
   simp [h1,h1']
theorem wipe_set {σ:L2.St} {i:Nat} {v:Option V} {us:List Nat} (h:i∈us):wipe (σ.set i v) us=wipe σ us := by
 apply List.ext_getElem?
 intro n
 rw [wipe_at,wipe_at,List.length_set,List.getElem?_set]
 by_cases h1:n∈us∧n < σ.length
 ·rw [if_pos h1,if_pos h1]
 ·rw [if_neg h1,if_neg h1]
  by_cases h2:i=n
  ·subst h2
   have:¬ i < σ.length := fun z=>h1 ⟨h,z⟩
   rw [if_pos rfl,if_neg this,List.getElem?_eq_none (Nat.le_of_not_lt this)]
  ·rw [if_neg h2]
section
variable {K:PySem.W.Frag}
def gN (i:Nat):MG := fun d s A Q=>Q (s.set i (some d)) A
theorem tg_name {i:Nat}:TgS K (gName i) (gN i) [i] := fun g A H v d σ s Qa Q w r rs h q=>q _ _ (rs.set r) (fun us hu=>wipe_set (hu i (by simp))) h
end
abbrev NX:QX := fun _ _=>False
def wipeD (s:Sl):List Nat→Sl
 | []=>s
 | v :: vs=>(wipeD s vs).set v none
def lcL (ck:AH→Prop) (tg:MG) (tt:MT) (te:ME) (s:Sl):List D→AH→(List D→AH→Prop)→Prop
 | [],A,Q=>ck A∧Q [] A
 | d :: ds,A,Q=>ck A∧tg d s A fun s1 A1=>tt s1 A1 (fun b A2=>if b=true then te s1 A2 (fun y A3=>lcL ck tg tt te s ds A3 fun ys A4=>Q (y :: ys) A4) NX else lcL ck tg tt te s ds A2 Q) NX
def mYes:MT := fun _ A Q _=>Q true A
def mLcG (mk:List D→AH→QE→Prop) (mi:MI) (tg:MG) (tt:MT) (te:ME) (vs:List Nat):ME := fun s A Q E=>mi s A (fun items ck A1=>items.length≤sizeLine∧lcL ck tg tt te (wipeD s vs) items A1 fun ds A2=>mk ds A2 Q) E
def mLc := mLcG oldL
section
variable {K:PySem.W.Frag} {W:WX}
theorem c_yes:∀ σ H Q,cT K W mYes σ H Q→tYes σ H Q := fun σ H Q ⟨g,s,A,Qa,Ea,w,rs,h,q,qx⟩=>q g A H true .refl w h
theorem RepS.wipe {g:Sg} {σ:L2.St} {s:Sl} (h:RepS K g σ s):∀ vs:List Nat,RepS K g (L2.wipe σ vs) (wipeD s vs)
 | []=>h
 | v :: vs=>(RepS.wipe h vs).unset
theorem wipe_wipe {σ:L2.St} (vs:List Nat):L2.wipe (L2.wipe σ vs) vs=L2.wipe σ vs := by
 apply List.ext_getElem?
 intro n
 rw [wipe_at,wipe_at,wipe_length]
 by_cases h:n∈vs∧n < σ.length
 ·rw [if_pos h,if_pos h]
 ·rw [if_neg h,if_neg h]
def MkX (K:PySem.W.Frag) (mk:List D→AH→QE→Prop):Prop := ∀ g A H p vs ds Qa (Q:VK),Wr K g A H→H p=some (.lst vs)→g.S p=none→(∀ n,g.i n≠some p)→Reps K g vs ds→mk ds A Qa →
 (∀ g' A' v d,g.le g'→(∀ a,Own g' A' a→Own g A a∨a=p)→(∀ a,a≠p→g.S a=none→g'.S a=none)→(∀ n a,g'.i n=some a→g.i n=some a∨a=p)→Wr K g' A' H→Rep K g' v d→Qa d A'→Q v H)→Q (.ref p) H
theorem mx_old:MkX K oldL := fun g A H p vs ds Qa Q w hp hS hi r h q=>by
 have le:g.le ⟨upd g.S p (.lst vs),g.i⟩ := ⟨same_new hS,fun _ _ h=>h⟩
 refine q ⟨upd g.S p (.lst vs),g.i⟩ A (.ref p) (.lst ds) le (fun a h=>.inl h) (fun a ha hs=>by show upd g.S p (.lst vs) a=none; rw [upd_ne ha]; exact hs) (fun _ _ h=>.inl h) ⟨fun b o e=>?_,w.inj,w.ex,w.fin,fun n x h=>?_⟩ (.lst (.inl upd_same) (r.mono le)) h
 ·by_cases hb:b=p
  ·subst hb; have e':upd g.S b (.lst vs) b=some o := e; rw [upd_same] at e'; cases e'; exact ⟨_,hp, .inl rfl⟩
  ·have e':upd g.S p (.lst vs) b=some o := e; rw [upd_ne hb] at e'; exact w.sub b o e'
 ·obtain ⟨a,h1,h2,h3⟩ := w.nd n x h
  have hn:a≠p := fun z=>hi n (by rw [← z]; exact h1)
  exact ⟨a,h1,by show upd g.S p (.lst vs) a=none; rw [upd_ne hn]; exact h2,h3.mono le rfl⟩
end
end Am
namespace Am
open PySem PySem.Spec PyProof.Rows L2
open Fm (same_new iSeq)
section
variable {K:PySem.W.Frag} {W:WX}
theorem c_lcG {mk:List D→AH→QE→Prop} {mi:MI} {t:TG} {tg:MG} {tt:MT} {te:ME} {vs ws:List Nat} (hk:MkX K mk) (ht:TgS K t tg ws) (hw:∀ i∈ws,i∈vs) :
  ∀ σ H Q,cE K W (mLcG mk mi tg tt te vs) σ H Q→tLc (cI K W mi) t (cT K WF tt) (cE K WF te) vs σ H Q := fun σ H Q ⟨g,s,A,Qa,Ea,w,rs,h,q,qx⟩ =>
 ⟨g,s,A,_,Ea,w,rs,h,fun g1 A1 H1 J items ck st1 w1 wk ⟨hz,h1⟩ D nD=>by
  have nS:g1.S D=none := w1.sub.free nD
  have nI:∀ n,g1.i n≠some D := fun n e=>w1.ex n D e nD
  obtain ⟨w1',st1'⟩ := w1.tmp (o := .lst []) nD
  refine ⟨fun i m H=>m=items.length - i∧i≤items.length∧∃ g2 A2 acc ds,Stp g1 A1 H1 g2 A2 H∧Wr K g2 A2 H∧H D=some (.lst acc)∧g2.S D=none∧(∀ n,g2.i n≠some D)∧Reps K g2 acc ds∧acc.length≤i∧lcL ck tg tt te (wipeD s vs) (items.drop i) A2 fun ys A3=>mk (ds ++ ys) A3 Qa,
   ⟨items.length,by omega,by omega,g1,A1,[],[],st1',w1',upd_same,nS,nI, .nil,Nat.le_refl _,by simpa using h1⟩, ?_⟩
  rintro i m H2 ⟨rfl,hin,g2,A2,acc,ds,st2,w2,hD,hS,hI,ra,hl,h2⟩
  have rs2 := (rs.mono (st1.trans st2).le).wipe vs
  by_cases hlt:i < items.length
  ·have ed:items.drop i=items[i] :: items.drop (i + 1) := List.drop_eq_getElem_cons hlt
   rw [ed] at h2
   obtain ⟨hck,h2⟩ := h2
   refine .inr ⟨wk.go i g2 A2 H2 st2.le w2 hck hlt,fun H'=>∃ g3 A3 acc ds,Stp g1 A1 H1 g3 A3 H'∧Wr K g3 A3 H'∧H' D=some (.lst acc)∧g3.S D=none∧(∀ n,g3.i n≠some D)∧Reps K g3 acc ds∧acc.length≤i + 1∧lcL ck tg tt te (wipeD s vs) (items.drop (i + 1)) A3 fun ys A4=>mk (ds ++ ys) A4 Qa,
    fun H' h=>⟨items.length - (i + 1),by omega,rfl,hlt,h⟩,fun x H' y=>?_⟩
   obtain ⟨g3,st3,w3,rx⟩ := wk.yl i g2 A2 H2 x H' _ st2.le w2 hck (List.getElem?_eq_getElem hlt) y
   have keep:∀ {g4 A4 H4},Stp g2 A2 H2 g4 A4 H4→H4 D=some (.lst acc)∧g4.S D=none∧∀ n,g4.i n≠some D := fun st=>st.beside hD hS hI
   refine ht g3 A2 H' x _ _ _ _ _ w3 rx (rs2.mono st3.le) h2 fun σ4 s4 rs4 e4 h4=>⟨by rw [e4 vs hw,wipe_wipe],g3,s4,A2,_,NX,w3,rs4,h4,fun g5 A5 H5 b st5 w5 h5=>?_,fun _ _ _ _ _ _ _ _ _ z=>z⟩
   have st25 := st3.trans st5
   cases b with
   | false =>
    obtain ⟨k1,k2,k3⟩ := keep st25
    exact iteF ⟨g5,A5,acc,ds,st2.trans st25,w5,k1,k2,k3,ra.mono st25.le,by omega,h5⟩
   | true =>
    refine iteT ⟨g5,s4,A5,_,NX,w5,rs4.mono st5.le,h5,fun g6 A6 H6 y6 d6 st6 w6 r6 h6=>?_,fun _ _ _ _ _ _ _ _ _ z=>z⟩
    have st26 := st25.trans st6
    obtain ⟨k1,k2,k3⟩ := keep st26
    refine ⟨acc,k1,by omega, ?_⟩
    have w7 := w6.own (o := .lst (acc ++ [y6])) k2 k3
    refine ⟨g6,A6,acc ++ [y6],ds ++ [d6], ?_,w7,upd_same,k2,k3,(ra.mono st26.le).app (.cons r6 .nil),by simpa using hl,by simpa [List.append_assoc] using h6⟩
    exact (st2.trans st26).put nD
  ·have e:i=items.length := by omega
   subst e
   rw [List.drop_length] at h2
   obtain ⟨hck,h2⟩ := h2
   refine .inl ⟨wk.st _ g2 A2 H2 st2.le w2 hck (Nat.le_refl _),hk g2 A2 H2 D acc ds Qa Q w2 hD hS hI ra (by simpa using h2) fun g' A' v d le own sn inw w' r' h'=>?_⟩
   refine q g' A' H2 v d (st1.trans ⟨st2.le.trans le,st2.kp,fun a ha=>?_,st2.ex,fun a o h1 h0 h2 h3=>?_,fun n a e=>?_⟩) w' r' h'
   ·rcases own a ha with z | z
    ·exact st2.nw a z
    ·exact .inr (by rw [z]; exact nD)
   ·exact sn a (ne_of_none h1 nD) (st2.sn a o h1 h0 h2 h3)
   ·rcases inw n a e with z | z
    ·exact st2.inw n a z
    ·exact .inr (by rw [z]; exact nD),qx⟩
end
end Am
namespace Am
open PySem PySem.Spec PyProof.Rows L2
open Fm (same_new iSeq)
section
variable {K:PySem.W.Frag} {W:WX}
theorem c_lc {mi:MI} {t:TG} {tg:MG} {tt:MT} {te:ME} {vs ws:List Nat} (ht:TgS K t tg ws) (hw:∀ i∈ws,i∈vs):∀ σ H Q,cE K W (mLc mi tg tt te vs) σ H Q→tLc (cI K W mi) t (cT K WF tt) (cE K WF te) vs σ H Q := c_lcG mx_old ht hw
end
structure AEnds where
 nx:Sl→AH→Prop
 rt:QE
 bk:Sl→AH→Prop
 ct:Sl→AH→Prop
 ex:Xc→Sl→AH→Prop
abbrev MS := AEnds→Sl→AH→Prop
def PostN (K:PySem.W.Frag) (g:Sg) (A:AH) (H:Hp) (Qa:Sl→AH→Prop) (Q:L2.St→Hp→Prop):Prop := ∀ g' A' H' σ' s',Stp g A H g' A' H'→Wr K g' A' H'→RepS K g' σ' s'→Qa s' A'→Q σ' H'
def PostW (K:PySem.W.Frag) (g:Sg) (A:AH) (H:Hp) (Ea:Xc→Sl→AH→Prop) (W:WX):Prop := ∀ g' A' H' σ' s' x cls dd,Stp g A H g' A' H'→Wr K g' A' H'→RepS K g' σ' s'→RepX K g' cls dd x→Ea x s' A'→W cls dd σ' H'
structure PostS (K:PySem.W.Frag) (g:Sg) (A:AH) (H:Hp) (Da:AEnds) (D:Ends) (W:WX):Prop where
 nx:PostN K g A H Da.nx D.nx
 rt:Post K g A H Da.rt D.rt
 bk:PostN K g A H Da.bk D.bk
 ct:PostN K g A H Da.ct D.ct
 ex:PostW K g A H Da.ex W
def cS (K:PySem.W.Frag) (W:WX) (m:MS):TS := fun D σ H=>∃ g s A Da,Wr K g A H∧RepS K g σ s∧m Da s A∧PostS K g A H Da D W
theorem PS.weak {X:Cx} {st:Stmt} {t t':TS} (h:PS X st t) (k:∀ D σ H,t' D σ H→t D σ H):PS X st t' := ⟨fun pins s σ H D I q=>h.run pins s σ H D I (k D σ H q)⟩
theorem PSs.weak {X:Cx} {st:List Stmt} {t t':TS} (h:PSs X st t) (k:∀ D σ H,t' D σ H→t D σ H):PSs X st t' := ⟨fun pins s σ H D I q=>h.run pins s σ H D I (k D σ H q)⟩
section
variable {K:PySem.W.Frag} {W:WX} {g g1:Sg} {A A1:AH} {H H1:Hp} {m ma mb mc:ME}
theorem PostN.step {Qa:Sl→AH→Prop} {Q:L2.St→Hp→Prop} (q:PostN K g A H Qa Q) (s:Stp g A H g1 A1 H1):PostN K g1 A1 H1 Qa Q := fun g' A' H' σ s2 s' w r h=>q g' A' H' σ s2 (s.trans s') w r h
theorem PostW.step {Ea:Xc→Sl→AH→Prop} (q:PostW K g A H Ea W) (s:Stp g A H g1 A1 H1):PostW K g1 A1 H1 Ea W := fun g' A' H' σ s2 x c d s' w r rx h=>q g' A' H' σ s2 x c d (s.trans s') w r rx h
theorem PostS.step {Da:AEnds} {D:Ends} (q:PostS K g A H Da D W) (s:Stp g A H g1 A1 H1):PostS K g1 A1 H1 Da D W := ⟨q.nx.step s,q.rt.step s,q.bk.step s,q.ct.step s,q.ex.step s⟩
theorem PostW.at_ {Ea:Xc→Sl→AH→Prop} {σ:L2.St} {s:Sl} (q:PostW K g A H Ea W) (rs:RepS K g σ s):PostX K g A H (fun x A'=>Ea x s A') (fun c d H'=>W c d σ H') := fun g' A' H' x c d st w rx h=>q g' A' H' σ s x c d st w (rs.mono st.le) rx h
def mNext:MS := fun D s A=>D.nx s A
def mSq (t u:MS):MS := fun D s A=>t { D with nx := fun s' A'=>u D s' A' } s A
theorem c_next:∀ D σ H,cS K W mNext D σ H→tNext D σ H := fun D σ H ⟨g,s,A,Da,w,rs,h,q⟩=>q.nx g A H σ s .refl w rs h
theorem c_sq {t u:MS}:∀ D σ H,cS K W (mSq t u) D σ H→tSeq (cS K W t) (cS K W u) D σ H := fun D σ H ⟨g,s,A,Da,w,rs,h,q⟩ =>
 ⟨g,s,A,_,w,rs,h,⟨fun g1 A1 H1 σ1 s1 st1 w1 r1 h1=>⟨g1,s1,A1,Da,w1,r1,h1,q.step st1⟩,q.rt,q.bk,q.ct,q.ex⟩⟩
def mSet (m:ME) (tg:MG):MS := fun D s A=>m s A (fun d A1=>tg d s A1 D.nx) fun x A1=>D.ex x s A1
theorem c_set {t:TG} {tg:MG} {ws:List Nat} (ht:TgS K t tg ws):∀ D σ H,cS K W (mSet m tg) D σ H→tAsg (cE K W m) t D σ H := fun D σ H ⟨g,s,A,Da,w,rs,h,q⟩ =>
 ⟨g,s,A,_,_,w,rs,h,fun g1 A1 H1 x dx st1 w1 r1 h1=>ht g1 A1 H1 x dx σ s _ _ w1 r1 (rs.mono st1.le) h1 fun σ' s' rs' _ h'=>q.nx g1 A1 H1 σ' s' st1 w1 rs' h',q.ex.at_ rs⟩
def mDrop (m:ME):MS := fun D s A=>m s A (fun _ A1=>D.nx s A1) fun x A1=>D.ex x s A1
theorem c_drop:∀ D σ H,cS K W (mDrop m) D σ H→tDrop (cE K W m) D σ H := fun D σ H ⟨g,s,A,Da,w,rs,h,q⟩ =>
 ⟨g,s,A,_,_,w,rs,h,fun g1 A1 H1 x dx st1 w1 r1 h1=>q.nx g1 A1 H1 σ s st1 w1 (rs.mono st1.le) h1,q.ex.at_ rs⟩
def mRet (m:ME):MS := fun D s A=>m s A D.rt fun x A1=>D.ex x s A1
theorem c_ret:∀ D σ H,cS K W (mRet m) D σ H→tRet (cE K W m) D σ H := fun D σ H ⟨g,s,A,Da,w,rs,h,q⟩=>⟨g,s,A,_,_,w,rs,h,q.rt,q.ex.at_ rs⟩
def mIfS (t:MT) (u v:MS):MS := fun D s A=>t s A (fun b A1=>if b=true then u D s A1 else v D s A1) fun x A1=>D.ex x s A1
theorem c_ifS {t:MT} {u v:MS}:∀ D σ H,cS K W (mIfS t u v) D σ H→tIfS (cT K W t) (cS K W u) (cS K W v) D σ H := fun D σ H ⟨g,s,A,Da,w,rs,h,q⟩ =>
 ⟨g,s,A,_,_,w,rs,h,fun g1 A1 H1 b st1 w1 h1=>by
  cases b with
  | true=>exact iteT ⟨g1,s,A1,Da,w1,rs.mono st1.le,h1,q.step st1⟩
  | false=>exact iteF ⟨g1,s,A1,Da,w1,rs.mono st1.le,h1,q.step st1⟩,q.ex.at_ rs⟩
def forL (ck:AH→Prop) (tg:MG) (tb:MS):List D→MS
 | [],D,s,A=>ck A∧D.nx s A
 | d :: ds,D,s,A=>ck A∧tg d s A fun s1 A1=>tb { D with nx := fun s2 A2=>forL ck tg tb ds D s2 A2,ct := fun s2 A2=>forL ck tg tb ds D s2 A2,bk := D.nx } s1 A1
def mFor (mi:MI) (tg:MG) (tb:MS):MS := fun D s A=>mi s A (fun items ck A1=>forL ck tg tb items D s A1) fun x A1=>D.ex x s A1
theorem c_for {mi:MI} {t:TG} {tg:MG} {tb:MS} {ws:List Nat} (ht:TgS K t tg ws):∀ D σ H,cS K W (mFor mi tg tb) D σ H→tFor (cI K W mi) t (cS K W tb) D σ H := fun D σ H ⟨g,s,A,Da,w,rs,h,q⟩ =>
 ⟨g,s,A,_,_,w,rs,h,fun g1 A1 H1 J items ck st1 w1 wk h1=>by
  refine ⟨fun i m σ H=>m=items.length - i∧i≤items.length∧∃ g2 A2 s2,Stp g1 A1 H1 g2 A2 H∧Wr K g2 A2 H∧RepS K g2 σ s2∧forL ck tg tb (items.drop i) Da s2 A2,⟨items.length,by omega,by omega,g1,A1,s, .refl,w1,rs.mono st1.le,by simpa using h1⟩, ?_⟩
  rintro i m σ2 H2 ⟨rfl,hin,g2,A2,s2,st2,w2,rs2,h2⟩
  have st12 := st1.trans st2
  by_cases hlt:i < items.length
  ·have ed:items.drop i=items[i] :: items.drop (i + 1) := List.drop_eq_getElem_cons hlt
   rw [ed] at h2
   obtain ⟨hck,h2⟩ := h2
   refine .inr ⟨wk.go i g2 A2 H2 st2.le w2 hck hlt,fun σ' H'=>∃ g3 A3 s3,Stp g1 A1 H1 g3 A3 H'∧Wr K g3 A3 H'∧RepS K g3 σ' s3∧forL ck tg tb (items.drop (i + 1)) Da s3 A3,fun σ' H' h=>⟨items.length - (i + 1),by omega,rfl,hlt,h⟩,fun x H' y=>?_⟩
   obtain ⟨g3,st3,w3,rx⟩ := wk.yl i g2 A2 H2 x H' _ st2.le w2 hck (List.getElem?_eq_getElem hlt) y
   refine ht g3 A2 H' x _ _ _ _ _ w3 rx (rs2.mono st3.le) h2 fun σ4 s4 rs4 _ h4=>⟨g3,s4,A2,_,w3,rs4,h4, ?_⟩
   have st13 := st12.trans st3
   have n5:PostN K g3 A2 H' (fun s2 A2=>forL ck tg tb (items.drop (i + 1)) Da s2 A2) (fun σ' H'=>∃ g3 A3 s3,Stp g1 A1 H1 g3 A3 H'∧Wr K g3 A3 H'∧RepS K g3 σ' s3∧forL ck tg tb (items.drop (i + 1)) Da s3 A3) := fun g5 A5 H5 σ5 s5 st5 w5 rs5 h5=>⟨g5,A5,s5,(st2.trans st3).trans st5,w5,rs5,h5⟩
   exact ⟨n5,q.rt.step st13,q.nx.step st13,n5,q.ex.step st13⟩
  ·have e:i=items.length := by omega
   subst e
   rw [List.drop_length] at h2
   obtain ⟨hck,h2⟩ := h2
   exact .inl ⟨wk.st _ g2 A2 H2 st2.le w2 hck (Nat.le_refl _),q.nx g2 A2 H2 σ2 s2 st12 w2 rs2 h2⟩,q.ex.at_ rs⟩
end
end Am
namespace Am
open PySem PySem.Spec PyProof.Rows L2
open Fm (same_new iSeq rOwn rOwnIn rOwnEq rOwnLen tClS tStatS tMakeS tOpS TyE ClsX)
section
variable {K:PySem.W.Frag} {W:WX} {g g1:Sg} {A A1:AH} {H H1:Hp} {m ma mb mc:ME} {v:V} {d:D}
def putFD (f:Str) (v:D):List (Str × D)→List (Str × D)
 | []=>[(f,v)]
 | (g,x) :: r=>if g=f then (g,v) :: r else (g,x) :: putFD f v r
theorem KReps.putF {f:Str} (r:Rep K g v d):∀ {kvs:List (Str × V)} {ds:List (Str × D)},KReps K g kvs ds→KReps K g (putF f v kvs) (putFD f d ds)
 | kvs,ds,h=>by
  rcases h.ind with ⟨e1,e2⟩ | ⟨k,v',d',kr,dr,e1,e2,hr,ht⟩
  ·subst e1; subst e2; exact KReps.nil.cons r
  ·subst e1; subst e2
   unfold L2.putF putFD
   by_cases q:k=f
   ·rw [if_pos q,if_pos q]; exact ht.cons r
   ·rw [if_neg q,if_neg q]; exact (KReps.putF r ht).cons hr
 termination_by kvs=>kvs.length
 decreasing_by subst e1; simp
theorem Wr.nodeI {n:Nat} {c:Str} {fs:List (Str × D)} (w:Wr K g A H) (r:Rep K g v (.ref n)) (h:A n=some (.ins c fs)):∃ a dx fvs,v = .ref a∧g.i n=some a∧H a=some (.ins (He.ga K c) dx fvs)∧KReps K g fvs fs := by
 cases r with
 | ref h1 =>
  obtain ⟨a,q1,q2,dx,vs,q3,q4,q5⟩ := w.nd n _ h
  rw [h1] at q1; cases q1
  exact ⟨_,dx,vs,rfl,h1,q3,q4,q5⟩
def mSFld (cs:List Str) (f:Str) (mo mv:ME):MS := fun D s A=>mv s A (fun y A1=>mo s A1 (fun x A2=>∃ n c fs,x = .ref n∧A2 n=some (.ins c fs)∧c∈cs∧fs.length < 1000∧D.nx s (put A2 n (.ins c (putFD f y fs)))) fun e A2=>D.ex e s A2) fun e A1=>D.ex e s A1
theorem c_sfld {cs:List Str} {f:Str} {mo mv:ME} (hc:∀ c∈cs,Cls K (He.ga K c)∧NoAttr K (He.ga K c) f):∀ D σ H,cS K W (mSFld cs f mo mv) D σ H→sFld K (cE K W mo) (cE K W mv) f D σ H := fun D σ H ⟨g,s,A,Da,w,rs,h,q⟩ =>
 ⟨g,s,A,_,_,w,rs,h,fun g1 A1 H1 y dy st1 w1 r1 h1=>⟨g1,s,A1,_,_,w1,rs.mono st1.le,h1,fun g2 A2 H2 x dx st2 w2 r2 ⟨n,c,fs,e1,e2,e3,e4,h2⟩=>by
  subst e1
  obtain ⟨a,ddx,fvs,rfl,q1,q2,q3⟩ := w2.nodeI r2 e2
  have hp := KReps.putF (f := f) (r1.mono st2.le) q3
  obtain ⟨w3,st3⟩ := w2.set (o := .ins (He.ga K c) ddx (L2.putF f y fvs)) (y := .ins c (putFD f dy fs)) q1 e2 ⟨_,_,upd_same,hp.1,hp.2⟩
  have st := (st1.trans st2).trans st3
  exact ⟨a,_,ddx,fvs,rfl,q2,(hc c e3).1,(hc c e3).2,by rw [q3.len]; exact e4,q.nx _ _ _ σ s st w3 (rs.mono st.le) h2⟩,(q.step st1).ex.at_ (rs.mono st1.le)⟩,q.ex.at_ rs⟩
def mPar (i j:Nat) (r:MA):MS := fun D s A=>r s A (fun ds A1=>∃ a b,ds=[a,b]∧D.nx ((s.set i (some a)).set j (some b)) A1) fun e A=>D.ex e s A
theorem c_par {i j:Nat} {mr:MA}:∀ D σ H,cS K W (mPar i j mr) D σ H→tPar i j (cA K W mr) D σ H := fun D σ H ⟨g,s,A,Da,w,rs,h,q⟩ =>
 ⟨g,s,A,_,_,w,rs,h,fun g1 A1 H1 xs ds st1 w1 r1 ⟨a,b,e,h1⟩=>by
  subst e
  cases r1 with
  | cons ra r1=>cases r1 with
   | cons rb r1 =>
    cases r1
    exact ⟨_,_,rfl,q.nx _ _ _ _ _ st1 w1 (((rs.mono st1.le).set ra).set rb) h1⟩,q.ex.at_ rs⟩
abbrev FN := List D→AH→QE→QX→Prop
def spM (K:PySem.W.Frag) (f:FN):Sp := fun vs H Q E=>∃ g A ds Qa Ea,Wr K g A H∧Reps K g vs ds∧f ds A Qa Ea∧Post K g A H Qa Q∧PostX K g A H Ea E
def Fg (A:AH) (P:AH→Prop):Prop := ∃ A',Les A' A∧P A'
def mFn (k n:Nat) (body:MS):FN := fun ds A Q E=>ds.length=k∧body { nx := fun _ A'=>Fg A' (Q .non),rt := fun d A'=>Fg A' (Q d),bk := fun _ _=>False,ct := fun _ _=>False,ex := fun x _ A'=>Fg A' (E x) } (ds.map some ++ List.replicate (n - k) none) A
abbrev WD (E:XK):WX := fun c d _ H=>E c d H
theorem Reps.slots {vs:List V} {ds:List D} (n:Nat) (h:Reps K g vs ds):RepS K g (vs.map some ++ List.replicate n none) (ds.map some ++ List.replicate n none) := by
 refine ⟨by simp [h.len],fun i d e=>?_⟩
 have hi:i < ds.length := Classical.byContradiction fun z=>by
  rw [List.getElem?_append_right (by simpa using z),List.getElem?_replicate] at e
  split at e <;> cases e
 rw [List.getElem?_append_left (by simpa using hi),List.getElem?_map] at e
 cases q:ds[i]? with
 | none=>rw [q] at e; cases e
 | some d' =>
  rw [q] at e; cases e
  obtain ⟨v,h1,h2⟩ := h.at_ q
  exact ⟨v,by rw [List.getElem?_append_left (by rw [List.length_map,h.len]; exact hi),List.getElem?_map,h1]; rfl,h2⟩
theorem fn_ok {k:Nat} {N:List Str} {body:MS} {vs:List V} {Q:VK} {E:XK} (h:spM K (mFn k N.length body) vs H Q E):cS K (WD E) body { nx := fun _ H'=>Q .non H',rt := Q } (start N vs) H := by
 obtain ⟨g,A,ds,Qa,Ea,w,r,⟨hk,h⟩,q,qx⟩ := h
 have hl:vs.length=k := by rw [r.len]; exact hk
 refine ⟨g,_,A,_,w, ?_,h,⟨fun g' A' H' σ' s' st w' _ ⟨A2,l2,h'⟩=>q _ _ _ _ _ (st.forget l2) (w'.forget l2) .non h',fun g' A' H' v d st w' r' ⟨A2,l2,h'⟩=>q _ _ _ _ _ (st.forget l2) (w'.forget l2) r' h',fun _ _ _ _ _ _ _ _ z=>z,fun _ _ _ _ _ _ _ _ z=>z,fun g' A' H' σ' s' x c d st w' _ rx ⟨A2,l2,h'⟩=>qx _ _ _ _ _ _ (st.forget l2) (w'.forget l2) rx h'⟩⟩
 unfold L2.start
 rw [hl]
 exact r.slots _
theorem fn_len {k n:Nat} {body:MS} {vs:List V} {Q:VK} {E:XK} (h:spM K (mFn k n body) vs H Q E):vs.length=k := by
 obtain ⟨g,A,ds,Qa,Ea,w,r,⟨hk,h⟩,q,qx⟩ := h
 rw [r.len]; exact hk
def mCall (f:FN) (r:MA):ME := fun s A Q E=>r s A (fun ds A1=>f ds A1 Q E) E
theorem c_cl {f:FN} {mr:MA}:∀ σ H Q,cE K W (mCall f mr) σ H Q→tClS (spM K f) (WE W) (cA K W mr) σ H Q := fun σ H Q ⟨g,s,A,Qa,Ea,w,rs,h,q,qx⟩ =>
 ⟨g,s,A,_,Ea,w,rs,h,fun g1 A1 H1 vs ds st1 w1 r1 h1=>⟨g1,A1,ds,Qa,Ea,w1,r1,h1,q.step st1,qx.step st1⟩,qx⟩
theorem c_stat {f:FN} {mr:MA} {C:Addr}:∀ σ H Q,cE K W (mCall f mr) σ H Q→tStatS C (spM K f) (WE W) (tC (.ref C)) (cA K W mr) σ H Q := fun σ H Q h=>⟨rfl,c_cl σ H Q h⟩
def mMakeG (fin:AH→D→QE→Prop) (c:Str) (f:FN) (r:MA):ME := fun s A Q E=>r s A (fun ds A1=>∀ n,A1 n=none→f (.ref n :: ds) (put A1 n (.ins c [])) (fun d A2=>d = .non∧fin A2 (.ref n) Q) E) E
def FinS (K:PySem.W.Frag) (fin:AH→D→QE→Prop):Prop := ∀ g A H v d Qa Q,Wr K g A H→Rep K g v d→fin A d Qa→Post K g A H Qa Q→Q v H
theorem c_makeG {fin:AH→D→QE→Prop} {f:FN} {mr:MA} {c:Str} (hf:FinS K fin):∀ σ H Q,cE K W (mMakeG fin c f mr) σ H Q→tMakeS (He.ga K c) (spM K f) (WE W) (cA K W mr) σ H Q := fun σ H Q ⟨g,s,A,Qa,Ea,w,rs,h,q,qx⟩ =>
 ⟨g,s,A,_,Ea,w,rs,h,fun g1 A1 H1 vs ds st1 w1 r1 h1 x dx nx ndx hne=>by
  obtain ⟨w2,st2⟩ := w1.tmp (o := .own x) ndx
  have nx2:upd H1 dx (.own x) x=none := by rw [upd_ne (Ne.symm hne)]; exact nx
  obtain ⟨n,hA,hi,w3,st3⟩ := w2.node (o := .ins (He.ga K c) dx []) (x := .ins c []) nx2 fun g' e=>⟨dx,[],upd_same,rfl, .nil⟩
  have st := (st1.trans st2).trans st3
  have hn := h1 n hA
  refine ⟨_,_,_,_,_,w3, .cons (.ref (if_pos rfl)) (r1.mono (st2.trans st3).le),hn,fun g4 A4 H4 v d st4 w4 r4 ⟨e,h4⟩=>?_,qx.step st⟩
  subst e
  exact ⟨r4.non_,hf g4 A4 H4 (.ref x) (.ref n) Qa Q w4 (.ref (st4.le.i _ _ (if_pos rfl))) h4 (q.step (st.trans st4))⟩,qx⟩
def mOwn (c:Str) (f:FN) (ma mb:ME):ME := fun s A Q E=>ma s A (fun x A1=>mb s A1 (fun y A2=>(∃ fs,insOf A2 x=some (c,fs))∧(∃ fs,insOf A2 y=some (c,fs))∧f [x,y] A2 Q E) E) E
theorem c_own {f:FN} {c:Str}:∀ σ H Q,cE K W (mOwn c f ma mb) σ H Q→tOpS (fun σ=>rOwn (He.ga K c) (spM K f) (WE W σ)) (cE K W ma) (cE K W mb) σ H Q := fun σ H Q ⟨g,s,A,Qa,Ea,w,rs,h,q,qx⟩ =>
 ⟨g,s,A,_,Ea,w,rs,h,fun g1 A1 H1 x dx st1 w1 r1 h1=>⟨g1,s,A1,_,Ea,w1,rs.mono st1.le,h1,fun g2 A2 H2 y dy st2 w2 r2 ⟨⟨fs,h3⟩,⟨gs,h4⟩,h2⟩=>by
  have r1' := r1.mono st2.le
  have st := st1.trans st2
  obtain ⟨a,d1,f1,e1,q1,_⟩ := w2.ins r1' h3
  obtain ⟨b,d2,f2,e2,q2,_⟩ := w2.ins r2 h4
  exact ⟨a,b,d1,d2,f1,f2,e1,e2,q1,q2,g2,A2,_,Qa,Ea,w2, .cons r1' (.cons r2 .nil),h2,q.step st,qx.step st⟩,qx.step st1⟩,qx⟩
theorem nox {A0:AH} {E:XK}:PostX K g A0 H NX E := fun _ _ _ _ _ _ _ _ _ z=>z.elim
def mOwnIn (neg:Bool) (c:Str) (f:FN) (ma mb:ME):ME := fun s A Q E=>ma s A (fun x A1=>mb s A1 (fun y A2=>(∃ fs,insOf A2 y=some (c,fs))∧f [y,x] A2 (fun d A3=>∃ b,d = .bl b∧Q (.bl (if neg then !b else b)) A3) NX) E) E
theorem c_ownIn {f:FN} {c:Str} {neg:Bool} {E:XK}:∀ σ H Q,cE K W (mOwnIn neg c f ma mb) σ H Q→tOp (rOwnIn (He.ga K c) (spM K f) E neg) (cE K W ma) (cE K W mb) σ H Q := fun σ H Q ⟨g,s,A,Qa,Ea,w,rs,h,q,qx⟩ =>
 ⟨g,s,A,_,Ea,w,rs,h,fun g1 A1 H1 x dx st1 w1 r1 h1=>⟨g1,s,A1,_,Ea,w1,rs.mono st1.le,h1,fun g2 A2 H2 y dy st2 w2 r2 ⟨⟨fs,h3⟩,h2⟩=>by
  have st := st1.trans st2
  obtain ⟨a,d1,f1,e1,q1,_⟩ := w2.ins r2 h3
  exact ⟨a,d1,f1,e1,q1,g2,A2,_,_,_,w2, .cons r2 (.cons (r1.mono st2.le) .nil),h2,fun g3 A3 H3 z dz st3 w3 r3 ⟨b,eb,h3⟩=>⟨b,by subst eb; exact r3.bl_,q _ _ _ _ _ (st.trans st3) w3 (.bl _) h3⟩,nox⟩,qx.step st1⟩,qx⟩
def mOwnLen (c:Str) (f:FN) (r:MA):ME := fun s A Q E=>r s A (fun ds A1=>∃ x,ds=[x]∧(∃ fs,insOf A1 x=some (c,fs))∧f [x] A1 (fun d A2=>∃ n:Int,d = .int n∧0≤n∧n < 2 ^ 63∧Q (.int n) A2) NX) E
theorem c_ownLen {f:FN} {c:Str} {mr:MA} {E:XK}:∀ σ H Q,cE K W (mOwnLen c f mr) σ H Q→tCB (rOwnLen (He.ga K c) (spM K f) E) (cA K W mr) σ H Q := fun σ H Q ⟨g,s,A,Qa,Ea,w,rs,h,q,qx⟩ =>
 ⟨g,s,A,_,Ea,w,rs,h,fun g1 A1 H1 xs ds st1 w1 r1 ⟨x,e,⟨fs,h0⟩,h1⟩=>by
  subst e
  obtain ⟨v,rfl,r⟩ := r1.one
  obtain ⟨a,d1,f1,rfl,q1,_⟩ := w1.ins r h0
  exact ⟨a,d1,f1,rfl,q1,g1,A1,_,_,_,w1, .cons r .nil,h1,fun g3 A3 H3 z dz st3 w3 r3 ⟨n,eb,h0,hn,h3⟩=>⟨n,by subst eb; exact r3.int_,h0,hn,q _ _ _ _ _ (st1.trans st3) w3 (.int _) h3⟩,nox⟩,qx⟩
end
end Am
namespace Am
open PySem PySem.Spec PyProof.Rows L2
open Fm (same_new iSeq rOwnEq TyE ClsX tRz spE1)
inductive TyN where
 | b (n:String) | c (n:Str)
 deriving DecidableEq
def tyD (A:AH):D→Option TyN
 | .non=>some (.b "NoneType")
 | .bl _=>some (.b "bool")
 | .int _=>some (.b "int")
 | .str _=>some (.b "str")
 | .tup _=>some (.b "tuple")
 | .ktup _=>some (.b "tuple")
 | .lst _=>some (.b "list")
 | .ins c _=>some (.c c)
 | .ref n=>match A n with
  | some (.lst _)=>some (.b "list")
  | some (.dK _)=>some (.b "dict")
  | some (.dT _)=>some (.b "dict")
  | some (.ins c _)=>some (.c c)
  | _=>none
 | _=>none
def TyN.val (K:PySem.W.Frag):TyN→Value
 | .b n=>.type n
 | .c n=>.ref (He.ga K n)
section
variable {K:PySem.W.Frag} {W:WX} {g g1:Sg} {A A1:AH} {H H1:Hp} {m ma mb mc:ME} {v:V} {d:D}
def CsOk (K:PySem.W.Frag) (cs:List Str):Prop := ∀ c∈cs,Cls K (He.ga K c)∧ClsX K (He.ga K c)
def inCs (cs:List Str):TyN→Prop
 | .b _=>True
 | .c n=>n∈cs
theorem tyD_ok {cs:List Str} {t:TyN} (hc:CsOk K cs) (w:Wr K g A H) (r:Rep K g v d) (h:tyD A d=some t) (ht:inCs cs t):TyX K H v (t.val K) := by
 cases r with
 | non=>cases h; exact .base .non
 | bl b=>cases h; exact .base (.bl b)
 | int b=>cases h; exact .base (.int b)
 | str b=>cases h; exact .base (.str b)
 | tup h1 h2=>cases h; exact Fm.ty_tup (w.sub.sqt (.inl (.inl h1)))
 | ktup h1 h2=>cases h; exact Fm.ty_tup (w.sub.sqt h1)
 | lst h1 h2 =>
  cases h
  rcases w.sub.rd h1 with h3 | ⟨o,h3⟩
  ·exact .base (.lst h3)
  ·exact .base (.frz h3)
 | ins h1 h2 h3 =>
  cases h
  obtain ⟨q1,q2⟩ := hc _ ht
  exact Fm.ty_ins q1 q2 (w.sub.ins h1)
 | ref h1 =>
  rename_i a n
  unfold tyD at h
  simp only at h
  cases e:A n with
  | none=>rw [e] at h; cases h
  | some x =>
   rw [e] at h
   obtain ⟨b,q1,q2,q3⟩ := w.nd n x e
   rw [h1] at q1; cases q1
   cases x with
   | lst xs=>cases h; obtain ⟨vs,z,_⟩ := q3; exact .base (.lst z)
   | dK xs=>cases h; obtain ⟨vs,z,_⟩ := q3; exact .base (.dK z)
   | dT xs=>cases h; obtain ⟨vs,z,_⟩ := q3; exact .base (.dT z)
   | ins c fs =>
    cases h
    obtain ⟨dx,vs,z,_⟩ := q3
    obtain ⟨z1,z2⟩ := hc _ ht
    exact Fm.ty_ins z1 z2 z
   | pool=>cases h
   | lkK o us ds=>cases h
   | lkT o us ds=>cases h
 | _=>cases h
def mIsi (tab:List (TyN × Bool)) (m:ME):ME := fun s A Q E=>m s A (fun d A1=>∃ t b,tyD A1 d=some t∧tab.lookup t=some b∧Q (.bl b) A1) E
theorem lookup_mem {α β:Type} [BEq α] [LawfulBEq α] {a:α} {b:β}:∀ {l:List (α × β)},l.lookup a=some b→(a,b)∈l
 | (k,x) :: r,h=>by
  rw [List.lookup_cons] at h
  cases q:(a == k) with
  | true=>rw [q] at h; cases h; rw [eq_of_beq q]; exact List.mem_cons_self ..
  | false=>rw [q] at h; exact List.mem_cons_of_mem _ (lookup_mem h)
theorem c_isi {cs:List Str} {tab:List (TyN × Bool)} {c:V} {u:Value} (hcs:CsOk K cs) (hu:ClsV c u) (ht:∀ p∈tab,inCs cs p.1∧PySem.W.kitOne K (p.1.val K) u=some p.2):∀ σ H Q,cE K W (mIsi tab m) σ H Q→tCB (rIsi K) (tCons (cE K W m) (tCons (tC c) tNil)) σ H Q := fun σ H Q ⟨g,s,A,Qa,Ea,w,rs,h,q,qx⟩ =>
 ⟨g,s,A,_,Ea,w,rs,h,fun g1 A1 H1 x dx st1 w1 r1 ⟨t,b,h1,h2,h3⟩=>by
  obtain ⟨z1,z2⟩ := ht _ (lookup_mem h2)
  exact ⟨x,c,_,u,b,rfl,hu,tyD_ok hcs w1 r1 h1 z1,z2,q _ _ _ _ _ st1 w1 (.bl _) h3⟩,qx⟩
def mOwnEq (ts:List TyN) (c:Str) (f:FN) (ma mb:ME):ME := fun s A Q E=>ma s A (fun x A1=>mb s A1 (fun y A2=>(∃ fs,insOf A2 x=some (c,fs))∧(∃ t,tyD A2 y=some t∧t∈ts)∧f [x,y] A2 Q NX) E) E
theorem c_ownEq {cs:List Str} {ts:List TyN} {c:Str} {f:FN} {E:XK} (hcs:CsOk K cs) (ht:∀ t∈ts,inCs cs t∧PySem.W.notFirst K (He.ga K c) (t.val K)=true):∀ σ H Q,cE K W (mOwnEq ts c f ma mb) σ H Q→tOp (rOwnEq K (He.ga K c) (spM K f) E) (cE K W ma) (cE K W mb) σ H Q := fun σ H Q ⟨g,s,A,Qa,Ea,w,rs,h,q,qx⟩ =>
 ⟨g,s,A,_,Ea,w,rs,h,fun g1 A1 H1 x dx st1 w1 r1 h1=>⟨g1,s,A1,_,Ea,w1,rs.mono st1.le,h1,fun g2 A2 H2 y dy st2 w2 r2 ⟨⟨fs,h3⟩,⟨t,h4,h5⟩,h2⟩=>by
  have r1' := r1.mono st2.le
  have st := st1.trans st2
  obtain ⟨a,d1,f1,e1,q1,_⟩ := w2.ins r1' h3
  exact ⟨a,d1,f1,_,e1,q1, .inl (tyD_ok hcs w2 r2 h4 (ht t h5).1),(ht t h5).2,g2,A2,_,Qa,_,w2, .cons r1' (.cons r2 .nil),h2,q.step st,nox⟩,qx.step st1⟩,qx⟩
def mRz1 (c f:Str) (m:ME):MS := fun D s A=>m s A (fun v A1=>D.ex ⟨c,[(f,v)]⟩ s A1) fun e A=>D.ex e s A
theorem c_rz1 {c f:Str}:∀ D σ H,cS K W (mRz1 c f m) D σ H→tRz (He.ga K c) (spE1 (He.ga K c) f) (tCons (cE K W m) tNil) W D σ H := fun D σ H ⟨g,s,A,Da,w,rs,h,q⟩ =>
 ⟨g,s,A,_,_,w,rs,h,fun g1 A1 H1 v dv st1 w1 r1 h1=>⟨by simp,fun a na=>⟨a,v,rfl,upd_same,fun dx nx hne=>by
  have hda:H1 dx=none := by rw [upd_ne hne] at nx; exact nx
  refine ⟨rfl,dx,[(f,v)],upd_same,by rw [upd_ne hne,upd_same],hda, ?_⟩
  have e:upd (L2.del (upd (upd (upd H1 a (exo a (He.ga K c) none)) dx (exd dx [(f,v)])) a (exo a (He.ga K c) (some dx))) a) dx (.xd [(f,v)])=upd H1 dx (.xd [(f,v)]) := by
   funext b
   by_cases h1:b=dx
   ·subst h1; rw [upd_same,upd_same]
   ·rw [upd_ne h1,upd_ne h1]
    by_cases h2:b=a
    ·subst h2; rw [L2.del_same,na]
    ·rw [L2.del_ne h2,upd_ne h2,upd_ne h1,upd_ne h2]
  rw [e]
  obtain ⟨w2,st2⟩ := w1.new (o := .xd [(f,v)]) hda
  exact q.ex _ _ _ σ s ⟨c,[(f,dv)]⟩ _ _ (st1.trans st2) w2 (rs.mono (st1.trans st2).le) ⟨rfl, .inl ⟨dx,_,rfl,upd_same,rfl, .cons (r1.mono st2.le) .nil⟩⟩ h1⟩⟩,q.ex.at_ rs⟩
def tOrs {α:Type} (l:List α) (t:α→TE):TE := fun σ H Q=>∃ c∈l,t c σ H Q
theorem pe_ors {α:Type} {X:Cx} {e:Expr} {l:List α} {t:α→TE} (h:∀ c∈l,PE X e (t c)):PE X e (tOrs l t) := ⟨fun pins s σ H Q I ⟨c,hc,q⟩=>(h c hc).run pins s σ H Q I q⟩
end
end Am
namespace Am
open PySem PySem.Spec PyProof.Rows L2
open Fm (same_new iSeq rOwnEq TyE ClsX tRz spE1 run_fnRS getst_ok)
section
variable {X:Cx} {W:WX} {e:Expr} {m ma mb:ME} {t:TE}
theorem passF (σ:L2.St):PassesAt (L2.CX X.prog X.w) X σ (WE WF σ) := fun _ _ _ _ _ _ h=>by
 obtain ⟨_,_,_,_,_,_,_,_,_,_,_,_,z⟩ := h
 exact z.elim
theorem passF0:Passes (L2.CX X.prog X.w) X E0 := fun _ _ _ _ _ _ _ h=>by
 obtain ⟨_,_,_,_,_,_,_,_,_,_,_,_,z⟩ := h
 exact z.elim
theorem at_cmpX (h:PT X e (tTest t)) (c:∀ σ H Q,cE X.K W m σ H Q→t σ H Q):PT X e (cT X.K W (mB m)) := PT.weak h fun σ H Q q=>tTest_mono c σ H Q (c_tTest σ H Q q)
theorem PTs.weak {es:List Expr} {t t':TT} (h:PTs X es t) (k:∀ σ H Q,t' σ H Q→t σ H Q):PTs X es t' := ⟨fun pins s σ H Q I q=>h.run pins s σ H Q I (k σ H Q q)⟩
end
def fPool:FN := fun ds A Q _=>∃ ns,ds=[.scr ns]∧ns.length≤63∧∀ n,A n=none→Q (.ref n) (put A n .pool)
def fDraw:FN := fun ds A Q _=>∃ n k,ds=[.ref n, .int k]∧A n=some .pool∧0 < k∧k.natAbs.log2 < 9000∧∀ r,0≤r→r < k→Q (.int r) A
theorem FnR.up {P:Program} {w:World} {K:PySem.W.Frag} {mg:Str→Option Value} {base:Heap} {CX:CXT} {k:Nat} {f:Addr} {sp:Sp} (F:FnR P w K mg base CX0 k f sp):FnR P w K mg base CX k f sp := fun A outer s H us vs Q E hr e0 r h =>
 codeAny_mono (F A outer s H us vs Q E hr e0 r h) fun r s' hq=>by
  cases r with
  | error e=>exact False.elim hq
  | ok fl=>cases fl <;> exact hq
section
variable {K:PySem.W.Frag} {cs:List Str}
def inCsB (cs:List Str):TyN→Bool
 | .b _=>true
 | .c n=>cs.contains n
theorem inCsB_ok {t:TyN} (h:inCsB cs t=true):inCs cs t := by
 cases t with
 | b n=>trivial
 | c n=>exact List.contains_iff_mem.mp h
def isTab (K:PySem.W.Frag) (u:Value) (tab:List (TyN × Bool)):Bool := tab.all fun p=>decide (PySem.W.kitOne K (p.1.val K) u=some p.2)
theorem isTab_ok {u:Value} {tab:List (TyN × Bool)} (hi:(tab.all fun p=>inCsB cs p.1)=true) (h:isTab K u tab=true):∀ p∈tab,inCs cs p.1∧PySem.W.kitOne K (p.1.val K) u=some p.2 := fun p hp =>
 ⟨inCsB_ok (List.all_eq_true.mp hi p hp),of_decide_eq_true (List.all_eq_true.mp h p hp)⟩
def nfTab (K:PySem.W.Frag) (C:Addr) (ts:List TyN):Bool := ts.all fun t=>PySem.W.notFirst K C (t.val K)
theorem nfTab_ok {C:Addr} {ts:List TyN} (hi:(ts.all fun t=>inCsB cs t)=true) (h:nfTab K C ts=true):∀ t∈ts,inCs cs t∧PySem.W.notFirst K C (t.val K)=true := fun t ht =>
 ⟨inCsB_ok (List.all_eq_true.mp hi t ht),List.all_eq_true.mp h t ht⟩
def xmTab (K:PySem.W.Frag) (c:Value) (tab:List (Str × Bool)):Bool := tab.all fun p=>decide (PySem.W.exmOne K (.ref (He.ga K p.1)) c=some p.2)
theorem xmTab_ok {c:Value} {tab:List (Str × Bool)} (h:xmTab K c tab=true):∀ p∈tab,PySem.W.exmOne K (.ref (He.ga K p.1)) c=some p.2 := fun p hp=>of_decide_eq_true (List.all_eq_true.mp h p hp)
def ixTab (K:PySem.W.Frag) (c:Value) (tab:List (Str × Bool)):Bool := tab.all fun p=>decide (PySem.W.kitOne K (.ref (He.ga K p.1)) c=some p.2)
theorem ixTab_ok {c:Value} {tab:List (Str × Bool)} (h:ixTab K c tab=true):∀ p∈tab,PySem.W.kitOne K (.ref (He.ga K p.1)) c=some p.2 := fun p hp=>of_decide_eq_true (List.all_eq_true.mp h p hp)
end
end Am
namespace Am
open PySem PySem.Spec PyProof.Rows L2
theorem Les.trans {A B C:AH} (h:Les A B) (h':Les B C):Les A C := fun n x e=>h' n x (h n x e)
theorem fg {A:AH} {P:AH→Prop} (h:P A):Fg A P := ⟨A, .refl,h⟩
theorem law_start {K:PySem.W.Frag} {N:List Str} {body:MS} {H:Hp} {a:Addr} {ns:List Int} {Q:VK} (hS:SqL K H a (ns.map V.int)) (h:body { nx := fun _ _=>False,rt := fun d _=>d = .bl true,bk := fun _ _=>False,ct := fun _ _=>False,ex := fun _ _ _=>False } ([some (.scr ns)] ++ List.replicate (N.length - 1) none) (fun _=>none)) (q:∀ H',Q (.bl true) H') :
  cS K WF body { nx := fun _ H'=>Q .non H',rt := Q } (start N [.ref a]) H := by
 obtain ⟨S,eS⟩:∃ S:Hp,S=fun b=>if b=a then H a else none := ⟨_,rfl⟩
 have sub:Sub S H := fun b o e=>by
  rw [eS] at e
  by_cases hb:b=a
  ·simp only [hb,if_true] at e; exact ⟨o,by rw [hb]; exact e, .inl rfl⟩
  ·simp only [hb,if_false] at e; cases e
 have hS':SqL K S a (ns.map V.int) := by
  rcases hS with (e | ⟨o,e⟩) | e
  ·exact .inl (.inl (by rw [eS]; simpa using e))
  ·exact .inl (.inr ⟨o,by rw [eS]; simpa using e⟩)
  ·exact .inr e
 refine ⟨⟨S,fun _=>none⟩,_,fun _=>none,_,⟨sub,fun _ _ _ z=>(by cases z),fun _ _ z=>(by cases z),⟨0,fun _ _=>rfl⟩,fun _ _ z=>(by cases z)⟩, ?_,h,⟨fun _ _ _ _ _ _ _ _ z=>z.elim,fun _ _ _ v d _ _ r e=>by subst e; rw [r.bl_]; exact q _,fun _ _ _ _ _ _ _ _ z=>z.elim,fun _ _ _ _ _ _ _ _ z=>z.elim,fun _ _ _ _ _ _ _ _ _ _ _ _ z=>z.elim⟩⟩
 exact Reps.slots (vs := [.ref a]) (ds := [.scr ns]) _ (.cons (.scr hS') .nil)
end Am
namespace Am
open PySem PySem.Spec PyProof.Rows L2
def mStarFn (k:Nat) (f:FN):FN := fun ds A Q E=>k≤ds.length∧(ds.drop k).length≤sizeLine∧f (ds.take k ++ [.tup (ds.drop k)]) A Q E
theorem star_sp {K:PySem.W.Frag} {k:Nat} {f:FN} {vs:List V} {H:Hp} {Q:VK} {E:XK} (h:spM K (mStarFn k f) vs H Q E):∃ ws rest,vs=ws ++ rest∧ws.length=k∧rest.length≤sizeLine∧∀ p,H p=none→spM K f (ws ++ [V.ref p]) (upd H p (.tup rest)) Q E := by
 obtain ⟨g,A,ds,Qa,Ea,w,r,⟨hk,hz,h⟩,q,qx⟩ := h
 have hl := r.len
 refine ⟨vs.take k,vs.drop k,(List.take_append_drop k vs).symm,by rw [List.length_take]; omega,by rw [(r.drop_ k).len]; exact hz,fun p np=>?_⟩
 obtain ⟨w2,st2⟩ := w.new (o := .tup (vs.drop k)) np
 exact ⟨_,A,_,Qa,Ea,w2,((r.take_ k).mono st2.le).app (.cons (.tup upd_same ((r.drop_ k).mono st2.le)) .nil),h,q.step st2,qx.step st2⟩
theorem FnR.imp' {P:Program} {w:World} {K:PySem.W.Frag} {mg:Str→Option Value} {base:Heap} {CX:CXT} {k:Nat} {f:Addr} {sp sp':Sp} (F:FnR P w K mg base CX k f sp) (h:∀ vs H Q E,sp' vs H Q E→sp vs H Q E):FnR P w K mg base CX k f sp' := fun A outer s H us vs Q E hr e0 r q=>F A outer s H us vs Q E hr e0 r (h vs H Q E q)
theorem fnR_star {P:Program} {w:World} {K:PySem.W.Frag} {mg:Str→Option Value} {base:Heap} {k:Nat} {f:Addr} {x qual:Str} {st:Stmt} {N ps:List Str} {pv:Str} {n:Nat} {body:MS} (F:∃ fd,Fun K x qual st f fd) (S:FnScope N (ps ++ [pv]) (defScope st))
  (hb:∀ (kV doc pm:Value) (an:Option Addr) (cdv ct:Value) (us rest:List Value),us.length=ps.length→bindArgs (PySem.W.fnOf x qual (defArgs st) (defBody st) (defScope st) .none kV doc pm an cdv ct) ⟨us ++ rest,[]⟩=(newTuple rest >>= fun t=>pure (ps.zip us ++ [(pv,t)])))
  (hn:ps.length=n)
  (hw:∀ (cdv:Value) (A:Around) (outer:List Env) (s:Shared) (H:Hp) (E:XK),Room k (A.deeper (envOfC qual (defScope st) s.heap.objs.size f cdv))→PSs (cxOf (L2.CX P w) P w K mg base N qual (defScope st) f cdv A outer s H E) (defBody st) (cS K (WD E) body)) :
  FnR P w K mg base (L2.CX P w) (k + 1) f (spM K (mStarFn n (mFn (n + 1) N.length body))) := by
 obtain ⟨fd,F⟩ := F
 obtain ⟨oc,od,kV,doc,pm,an,cdv,ct,osl,rfl,lk,hcd⟩ := F.ex
 subst hn
 exact FnR.imp' (StX.fn_star (sp := spM K (mFn (ps.length + 1) N.length body)) lk hcd S StX.cxUp (fun us rest hl=>hb kV doc pm an cdv ct us rest hl) fun A outer s H vs Q E hr h=>⟨cS K (WD E) body,hw cdv A outer s H E hr,fn_ok h⟩) fun vs H Q E h=>star_sp h
end Am
namespace Am
open PySem PySem.Spec PyProof.Rows L2
open Fm (same_new)
end Am
namespace Am
open PySem PySem.Spec PyProof.Rows L2
open PySem.W (Datum Tup T3 T4)
mutual
def ofP:PyData→D
 | .none=>.non
 | .bool b=>.bl b
 | .int i=>.int i
 | .str x=>.str x
 | .list xs=>.lst (ofPs xs)
 | .tuple xs=>.tup (ofPs xs)
 | .dict _=>.non
def ofPs:List PyData→List D
 | []=>[]
 | x :: xs=>ofP x :: ofPs xs
end
mutual
theorem toP_ofP:∀ (p:PyData),p.plain=true→toP (ofP p)=some p
 | .none,_=>rfl
 | .bool b,_=>rfl
 | .int i,_=>rfl
 | .str x,_=>rfl
 | .list xs,h=>by
  unfold ofP toP
  rw [toPs_ofPs xs (by unfold PyData.plain at h; exact h)]
  rfl
 | .tuple xs,h=>by
  unfold ofP toP
  rw [toPs_ofPs xs (by unfold PyData.plain at h; exact h)]
  rfl
 | .dict _,h=>by unfold PyData.plain at h; cases h
theorem toPs_ofPs:∀ (ps:List PyData),PyData.plainAll ps=true→toPs (ofPs ps)=some ps
 | [],_=>rfl
 | p :: ps,h=>by
  unfold PyData.plainAll at h
  obtain ⟨h1,h2⟩ := Bool.and_eq_true_iff.mp h
  unfold ofPs toPs
  rw [toP_ofP p h1,toPs_ofPs ps h2]
  rfl
end
theorem ofPs_map:∀ ps:List PyData,ofPs ps=ps.map ofP
 | []=>rfl
 | p :: ps=>by rw [ofPs,ofPs_map ps]; rfl
section
variable {α β γ δ:Type} [DecidableEq α] [Datum α] [DecidableEq β] [Datum β] [DecidableEq γ] [Datum γ] [DecidableEq δ] [Datum δ] {A:AH}
def en (a:α):D := ofP (Datum.toD a)
@[simp] theorem en_int (i:Int):en i = .int i := rfl
@[simp] theorem en_bl (b:Bool):en b = .bl b := rfl
@[simp] theorem en_str (z:Str):en z = .str z := rfl
theorem en_tup (xs:List α):en (Tup.mk xs) = .tup (xs.map en) := by
 show D.tup (ofPs (xs.map Datum.toD))=_
 rw [ofPs_map,List.map_map]
 rfl
@[simp] theorem toP_en (a:α):toP (en a)=some (Datum.toD a) := toP_ofP _ (Datum.plain a)
theorem toPs_map (xs:List α):toPs (xs.map en)=some (xs.map Datum.toD) := by
 have:xs.map en=ofPs (xs.map Datum.toD) := by rw [ofPs_map,List.map_map]; rfl
 rw [this]
 exact toPs_ofPs _ (PySem.W.plainAll_map xs)
theorem toPA_en (a:α):toPA A (en a)=some (Datum.toD a) := by
 have h := toP_en a
 cases e:en a with
 | ref n=>rw [e] at h; cases h
 | _=>rw [e] at h; exact h
def LsD (A:AH) (d:D) (xs:List α):Prop := itL A d=some (xs.map en)
def SqD (A:AH) (d:D) (xs:List α):Prop := itS A d=some (xs.map en)
theorem LsD.sq {d:D} {xs:List α} (h:LsD A d xs):SqD A d xs := by
 unfold LsD at h
 unfold SqD
 cases d <;> first | exact h | cases h
theorem LsD.toPA {d:D} {xs:List α} (h:LsD A d xs):toPA A d=some (.list (xs.map Datum.toD)) := by
 unfold LsD itL at h
 unfold Am.toPA
 cases d with
 | lst ys=>cases h; show toP (.lst (xs.map en))=_; unfold toP; rw [toPs_map]; rfl
 | ref n =>
  simp only at h
  split at h
  ·rename_i ys e
   cases h
   simp only [e]
   rw [toPs_map]
   rfl
  ·cases h
 | _=>cases h
theorem w_eq {neg:Bool} {a b:α} {Q:QE} (q:Q (.bl (decide (a=b) != neg)) A) (hd:Datum.depth α≤60 := by decide):fEq neg (en a) (en b) A Q :=
 ⟨_,_,toPA_en a,toPA_en b,Datum.plain a,Datum.plain b,Nat.le_trans (Nat.min_le_left _ _) (Nat.le_trans (Datum.depth_le a) hd),by rw [Datum.eqv]; exact q⟩
theorem w_eqL {neg:Bool} {x y:D} {xs ys:List α} {Q:QE} (hx:LsD A x xs) (hy:LsD A y ys) (q:Q (.bl (decide (xs=ys) != neg)) A) (hd:Datum.depth (List α)≤60 := by decide):fEq neg x y A Q :=
 ⟨_,_,hx.toPA,hy.toPA,Datum.plain xs,Datum.plain ys,Nat.le_trans (Nat.min_le_left _ _) (Nat.le_trans (Datum.depth_le xs) hd),by
  have := Datum.eqv xs ys
  have e:PyData.eqv (.list (xs.map Datum.toD)) (.list (ys.map Datum.toD))=decide (xs=ys) := this
  rw [e]; exact q⟩
theorem w_in {neg:Bool} {a:α} {y:D} {xs:List α} {Q:QE} (hy:SqD A y xs) (q:Q (.bl (decide (a∈xs) != neg)) A) (hd:Datum.depth α≤60 := by decide):fIn neg (en a) y A Q := by
 have fin:∃ ys p ps,itS A y=some ys∧toPA A (en a)=some p∧toPs ys=some ps∧p.plain=true∧PyData.plainAll ps=true∧p.depth≤60∧Q (.bl (ps.any (fun z=>PyData.eqv z p) != neg)) A :=
  ⟨_,_,_,hy,toPA_en a,toPs_map xs,Datum.plain a,PySem.W.plainAll_map xs,Nat.le_trans (Datum.depth_le a) hd,by rw [PySem.W.any_datum]; exact q⟩
 unfold fIn
 cases y with
 | str z=>cases hy
 | _=>exact fin
theorem w_ix {x:D} {xs:List α} {i:Nat} {j:Int} {a:α} {Q:QE} (hx:SqD A x xs) (hj:j=(i:Int)) (h:xs[i]? = some a) (q:Q (en a) A):fIx x (.int j) A Q := by
 have fin:∃ ys i d,itS A x=some ys∧D.int j = .int i∧L2.atI ys i=some d∧Q d A := ⟨_,j,en a,hx,rfl,by rw [hj]; exact atI_nat (by rw [List.getElem?_map,h]; rfl),q⟩
 unfold fIx
 cases x with
 | str z=>cases hx
 | _=>exact fin
theorem w_ixS {z:Str} {i c:Nat} {j:Int} {Q:QE} (hj:j=(i:Int)) (hz:z.length≤sizeLine) (h:z.cps.toList[i]? = some c) (q:Q (.str ⟨#[c]⟩) A):fIx (.str z) (.int j) A Q := ⟨j,c,rfl,hz,by rw [hj]; exact atI_nat h,q⟩
end
section
variable {α:Type} {ck:AH→Prop} {tg:MG} {tt:MT} {te tk tv:ME} {s:Sl} {A:AH}
theorem lc_map {xs:List α} {e:α→D} {p:α→Bool} {f:α→D} {Q:List D→AH→Prop} (hc:ck A)
  (hb:∀ x∈xs,∀ (R:D→AH→Prop) (R':AH→Prop),(p x=true→R (f x) A)→(p x=false→R' A)→tg (e x) s A fun s1 A1=>tt s1 A1 (fun b A2=>if b=true then te s1 A2 R NX else R' A2) NX)
  (q:Q ((xs.filter p).map f) A):lcL ck tg tt te s (xs.map e) A Q := by
 induction xs generalizing Q with
 | nil=>exact ⟨hc,q⟩
 | cons x xs ih =>
  refine ⟨hc,hb x (List.mem_cons_self ..) _ _ (fun hp=>?_) (fun hp=>?_)⟩
  ·refine ih (fun y hy=>hb y (List.mem_cons_of_mem _ hy)) ?_
   rw [List.filter_cons,hp] at q
   exact q
  ·refine ih (fun y hy=>hb y (List.mem_cons_of_mem _ hy)) ?_
   rw [List.filter_cons,hp] at q
   exact q
theorem lc_each {xs:List α} {e:α→D} {E:α→D→Prop} {Q:List D→AH→Prop} (hc:ck A)
  (hb:∀ x∈xs,∀ (R:D→AH→Prop) (R':AH→Prop),(∀ y,E x y→R y A)→tg (e x) s A fun s1 A1=>tt s1 A1 (fun b A2=>if b=true then te s1 A2 R NX else R' A2) NX)
  (q:∀ ys,Paired E xs ys→Q ys A):lcL ck tg tt te s (xs.map e) A Q := by
 induction xs generalizing Q with
 | nil=>exact ⟨hc,q [] .nil⟩
 | cons x xs ih=>exact ⟨hc,hb x (List.mem_cons_self ..) _ _ fun y hy=>ih (fun y hy=>hb y (List.mem_cons_of_mem _ hy)) fun ys hys=>q (y :: ys) (.cons hy hys)⟩
end
theorem for_inv {ck:AH→Prop} {tg:MG} {tb:MS} {D0:AEnds} (items:List D) (J:Nat→Sl→AH→Prop) {s:Sl} {A:AH} (h0:J 0 s A) (hck:∀ i s A,J i s A→ck A)
  (step:∀ i d s A (N:Sl→AH→Prop),items[i]? = some d→J i s A→(∀ s' A',J (i + 1) s' A'→N s' A')→tg d s A fun s1 A1=>tb { D0 with nx := N,ct := N,bk := D0.nx } s1 A1)
  (fin:∀ s A,J items.length s A→D0.nx s A):forL ck tg tb items D0 s A := by
 have go:∀ (ds pre:List D) (s:Sl) (A:AH),items=pre ++ ds→J pre.length s A→forL ck tg tb ds D0 s A := by
  intro ds
  induction ds with
  | nil =>
   intro pre s A e h
   rw [List.append_nil] at e
   subst e
   exact ⟨hck _ _ _ h,fin _ _ h⟩
  | cons d ds ih =>
   intro pre s A e h
   refine ⟨hck _ _ _ h,step pre.length d s A _ (by rw [e]; simp) h fun s' A' h'=>ih (pre ++ [d]) s' A' (by rw [e]; simp) (by rw [List.length_append]; exact h')⟩
 exact go items [] s A rfl h0
end Am
namespace Am
open PySem PySem.Spec PyProof.Rows L2
open PySem.W (Datum Tup T3 T4)
def Pv (m:ME) (s:Sl) (A:AH) (d:D):Prop := ∀ Q E,Q d A→m s A Q E
def Pt (m:MT) (s:Sl) (A:AH) (b:Bool):Prop := ∀ Q E,Q b A→m s A Q E
def Pa (m:MA) (s:Sl) (A:AH) (ds:List D):Prop := ∀ Q E,Q ds A→m s A Q E
def Po (m:MO) (s:Sl) (A:AH) (o:Option Int):Prop := ∀ Q E,Q o A→m s A Q E
def Fv (f:FN) (ds:List D) (A:AH) (d:D):Prop := ∀ Q E,Q d A→f ds A Q E
section
variable {s:Sl} {A:AH} {m ma mb mc:ME} {d x y z:D} {ds:List D} {a b:Bool} {t u:MT} {mr:MA} {α β γ δ:Type} [DecidableEq α] [Datum α] [DecidableEq β] [Datum β] [DecidableEq γ] [Datum γ] [DecidableEq δ] [Datum δ]
theorem pv_var {i:Nat} (h:s[i]? = some (some d)):Pv (mVar i) s A d := fun Q E q=>⟨d,h,q⟩
theorem pv_c:Pv (mC d) s A d := fun Q E q=>q
theorem pv_op {f:F2} (ha:Pv ma s A x) (hb:Pv mb s A y) (hf:∀ Q:QE,Q d A→f x y A Q):Pv (mOp f ma mb) s A d := fun Q E q=>ha _ E (hb _ E (hf Q q))
theorem Pv.is (h:Pv m s A x) (e:x=y):Pv m s A y := e ▸ h
theorem Pt.is (h:Pt t s A a) (e:a=b):Pt t s A b := e ▸ h
theorem pv_in {neg:Bool} {a:α} {xs:List α} (ha:Pv ma s A (en a)) (hb:Pv mb s A y) (hy:SqD A y xs) (hd:Datum.depth α≤60 := by decide):Pv (mOp (fIn neg) ma mb) s A (.bl (decide (a∈xs) != neg)) := pv_op ha hb fun Q q=>w_in hy q hd
theorem pv_inS {neg:Bool} {a:Str} {xs:List Str} (ha:Pv ma s A (.str a)) (hb:Pv mb s A y) (hy:SqD A y xs):Pv (mOp (fIn neg) ma mb) s A (.bl (decide (a∈xs) != neg)) := pv_in (α := Str) ha hb hy
theorem pv_ix {xs:List α} {i:Nat} {j:Int} {a:α} (ha:Pv ma s A x) (hb:Pv mb s A (.int j)) (hx:SqD A x xs) (hj:j=(i:Int)) (h:xs[i]? = some a):Pv (mOp fIx ma mb) s A (en a) := pv_op ha hb fun Q q=>w_ix hx hj h q
theorem pv_addI {i j:Int} (ha:Pv ma s A (.int i)) (hb:Pv mb s A (.int j)):Pv (mOp fAdd ma mb) s A (.int (i + j)) := pv_op ha hb fun Q q=>⟨j,rfl,q⟩
theorem pv_addS {i j:Str} (ha:Pv ma s A (.str i)) (hb:Pv mb s A (.str j)) (h:i.length + j.length≤sizeLine):Pv (mOp fAdd ma mb) s A (.str (i ++ j)) := pv_op ha hb fun Q q=>⟨j,rfl,h,q⟩
theorem pv_andV (ha:Pv ma s A (.bl a)) (hb:a=true→Pv mb s A (.bl b)):Pv (mAndV ma mb) s A (.bl (a && b)) := fun Q E q=>ha _ E ⟨a,rfl,by
 cases a with
 | true=>exact iteT (hb rfl _ E q)
 | false=>exact iteF q⟩
theorem pv_if (ht:Pt t s A a) (h1:a=true→Pv ma s A d) (h2:a=false→Pv mb s A d):Pv (mIf t ma mb) s A d := fun Q E q=>ht _ E (by
 cases a with
 | true=>exact iteT (h1 rfl _ E q)
 | false=>exact iteF (h2 rfl _ E q))
theorem pt_b (h:Pv m s A (.bl a)):Pt (mB m) s A a := fun Q E q=>h _ E ⟨a,rfl,q⟩
theorem pt_or (h1:Pt t s A a) (h2:a=false→Pt u s A b):Pt (mOr t u) s A (a || b) := fun Q E q=>h1 _ E (by
 cases a with
 | true=>exact iteT q
 | false=>exact iteF (h2 rfl _ E q))
theorem pt_not (h:Pt t s A a):Pt (mNot t) s A (!a) := fun Q E q=>h _ E q
theorem pa_nil':Pa mNil s A [] := fun Q E q=>q
theorem pa_cons' (h:Pv m s A d) (hr:Pa mr s A ds):Pa (mCons m mr) s A (d :: ds) := fun Q E q=>h _ E (hr _ E q)
theorem pa_1 (h:Pv m s A x):Pa (mCons m mNil) s A [x] := pa_cons' h pa_nil'
theorem pa_2 (h:Pv ma s A x) (h2:Pv mb s A y):Pa (mCons ma (mCons mb mNil)) s A [x,y] := pa_cons' h (pa_1 h2)
theorem pa_3 (h:Pv ma s A x) (h2:Pv mb s A y) (h3:Pv mc s A z):Pa (mCons ma (mCons mb (mCons mc mNil))) s A [x,y,z] := pa_cons' h (pa_2 h2 h3)
theorem pa_star' {xs:List D} (h:Pv m s A d) (hx:itS A d=some xs) (hr:Pa mr s A ds):Pa (mStar m mr) s A (xs ++ ds) := fun Q E q=>h _ E ⟨xs,hx,hr _ E q⟩
theorem sz {n:Nat} (h:n≤1000):n≤sizeLine := Fm.small_size h
theorem pv_lst (h:Pa mr s A ds) (hz:ds.length≤sizeLine := by exact sz (by simp)):Pv (mLst mr) s A (.lst ds) := fun Q E q=>h _ E ⟨hz,q⟩
theorem pv_cb {f:List D→AH→QE→Prop} (h:Pa mr s A ds) (hf:∀ Q:QE,Q d A→f ds A Q):Pv (mCB f mr) s A d := fun Q E q=>h _ E (hf Q q)
theorem pv_fld {cs:List Str} {f c:Str} {fs:List (Str × D)} (h:Pv m s A x) (hx:insOf A x=some (c,fs)) (hc:c∈cs) (hf:fs.lookup f=some d):Pv (mFld cs f m) s A d := fun Q E q=>h _ E ⟨c,fs,d,hx,hc,hf,q⟩
theorem pv_isi {tab:List (TyN × Bool)} {t:TyN} (h:Pv m s A x) (ht:tyD A x=some t) (hb:tab.lookup t=some b):Pv (mIsi tab m) s A (.bl b) := fun Q E q=>h _ E ⟨t,b,ht,hb,q⟩
theorem pv_call {f:FN} (h:Pa mr s A ds) (hf:Fv f ds A d):Pv (mCall f mr) s A d := fun Q E q=>h _ E (hf Q E q)
theorem pv_own {f:FN} {c:Str} {fs gs:List (Str × D)} (h1:Pv ma s A x) (h2:Pv mb s A y) (hx:insOf A x=some (c,fs)) (hy:insOf A y=some (c,gs)) (hf:Fv f [x,y] A d):Pv (mOwn c f ma mb) s A d := fun Q E q=>h1 _ E (h2 _ E ⟨⟨fs,hx⟩,⟨gs,hy⟩,hf Q E q⟩)
theorem pv_ownIn {f:FN} {c:Str} {fs:List (Str × D)} {neg:Bool} (h1:Pv ma s A x) (h2:Pv mb s A y) (hy:insOf A y=some (c,fs)) (hf:Fv f [y,x] A (.bl b)):Pv (mOwnIn neg c f ma mb) s A (.bl (if neg then !b else b)) := fun Q E q=>h1 _ E (h2 _ E ⟨⟨fs,hy⟩,hf _ NX ⟨b,rfl,q⟩⟩)
theorem pv_ownLen {f:FN} {c:Str} {fs:List (Str × D)} {n:Int} (h:Pv m s A x) (hx:insOf A x=some (c,fs)) (hf:Fv f [x] A (.int n)) (h0:0≤n) (h1:n < 2 ^ 63):Pv (mOwnLen c f (mCons m mNil)) s A (.int n) := fun Q E q=>(pa_1 h) _ E ⟨x,rfl,⟨fs,hx⟩,hf _ NX ⟨n,rfl,h0,h1,q⟩⟩
theorem pv_ownEq {f:FN} {ts:List TyN} {t:TyN} {c:Str} {fs:List (Str × D)} (h1:Pv ma s A x) (h2:Pv mb s A y) (hx:insOf A x=some (c,fs)) (hy:tyD A y=some t) (ht:t∈ts) (hf:Fv f [x,y] A d):Pv (mOwnEq ts c f ma mb) s A d := fun Q E q=>h1 _ E (h2 _ E ⟨⟨fs,hx⟩,⟨t,hy,ht⟩,hf Q NX q⟩)
theorem strsOf_map:∀ zs:List Str,strsOf (zs.map en)=some zs
 | []=>rfl
 | z :: zs=>by rw [List.map_cons,en_str]; unfold strsOf; rw [strsOf_map zs]; rfl
theorem po_no:Po mNoPart s A none := fun Q E q=>q
theorem po_so {i:Int} (h:Pv m s A (.int i)):Po (mPart m) s A (some i) := fun Q E q=>h _ E ⟨i,rfl,q⟩
theorem pv_sl {lo hi:MO} {l h:Option Int} {xs:List D} (hx:Pv m s A x) (h1:Po lo s A l) (h2:Po hi s A h) (hl:itL A x=some xs):Pv (mSl m lo hi) s A (.lst (cutD xs l h)) := fun Q E q=>hx _ E (h1 _ E (h2 _ E (by
 cases x with
 | str z=>cases hl
 | _=>exact ⟨xs,hl,q⟩)))
theorem pv_slS {lo hi:MO} {l h:Option Int} {z:Str} (hx:Pv m s A (.str z)) (h1:Po lo s A l) (h2:Po hi s A h) (hz:z.length≤sizeLine):Pv (mSl m lo hi) s A (.str (cutS z l h)) := fun Q E q=>hx _ E (h1 _ E (h2 _ E ⟨hz,q⟩))
theorem pv_rev {xs:List D} (hx:Pv m s A x) (hl:itL A x=some xs):Pv (mRev m) s A (.lst xs.reverse) := fun Q E q=>hx _ E ⟨xs,hl,q⟩
theorem cutD_map {ι:Type} (e:ι→D) (xs:List ι) (lo hi:Option Int):cutD (xs.map e) lo hi=((xs.drop (HT.sIx xs.length 0 lo)).take (HT.sIx xs.length xs.length hi - HT.sIx xs.length 0 lo)).map e := by
 unfold cutD
 rw [List.length_map,List.map_take,List.map_drop]
theorem pv_lcS {tg:MG} {te:ME} {vs:List Nat} {z:Str} {p:Nat→Bool} {f:Nat→D} (hx:Pv m s A (.str z)) (hz:z.length≤sizeLine)
  (hb:∀ c∈z.cps.toList,∀ (R:Sl→AH→Prop),(∀ s1,Pt t s1 A (p c)→(p c=true→Pv te s1 A (f c))→R s1 A)→tg (.str ⟨#[c]⟩) (wipeD s vs) A R):Pv (mLc (mSeq m) tg t te vs) s A (.lst ((z.cps.toList.filter p).map f)) := fun Q E q=>hx _ E ⟨by unfold chars; rw [List.length_map,Array.length_toList]; exact hz,lc_map (ck := ckT) True.intro (fun a ha R R' h1 h2=>hb a ha _ fun s1 ht he=>ht _ _ (by
 cases e:p a with
 | true=>exact iteT (he e _ _ (h1 e))
 | false=>exact iteF (h2 e))) q⟩
variable {D0:AEnds}
theorem s_set {i:Nat} (h:Pv m s A d) (q:D0.nx (s.set i (some d)) A):mSet m (gN i) D0 s A := h _ _ q
theorem s_ret (h:Pv m s A d) (q:D0.rt d A):mRet m D0 s A := h _ _ q
theorem s_if {u v:MS} (h:Pt t s A a) (h1:a=true→u D0 s A) (h2:a=false→v D0 s A):mIfS t u v D0 s A := h _ _ (by
 cases a with
 | true=>exact iteT (h1 rfl)
 | false=>exact iteF (h2 rfl))
theorem w_draw {n:Nat} {k:Int} {ma mb:ME} {Q:QE} {E:QX} (ha:Pv ma s A (.ref n)) (hb:Pv mb s A (.int k)) (hA:A n=some .pool) (hk:0 < k) (hl:k.natAbs.log2 < 9000) (q:∀ r,0≤r→r < k→Q (.int r) A):mCall fDraw (mCons ma (mCons mb mNil)) s A Q E := (pa_2 ha hb) _ _ ⟨n,k,rfl,hA,hk,hl,q⟩
end
end Am
namespace Am
open PySem PySem.Spec PyProof.Rows L2
open PySem.W (Datum Tup T3 T4)
def Px (m:ME) (s:Sl) (A:AH) (R:D→Prop):Prop := ∀ Q E,(∀ d,R d→Q d A)→m s A Q E
def Pxt (m:MT) (s:Sl) (A:AH):Prop := ∀ Q E,(∀ b,Q b A)→m s A Q E
def Fx (f:FN) (ds:List D) (A:AH) (R:D→Prop):Prop := ∀ Q E,(∀ d,R d→Q d A)→f ds A Q E
section
variable {s:Sl} {A:AH} {m ma mb mc:ME} {d x y z:D} {ds:List D} {a b:Bool} {t u:MT} {mr:MA} {R R1 R2:D→Prop} {α β:Type} [DecidableEq α] [Datum α] [DecidableEq β] [Datum β]
theorem Pv.px (h:Pv m s A d):Px m s A fun e=>e=d := fun Q E q=>h Q E (q d rfl)
theorem Px.imp (h:Px m s A R) (k:∀ d,R d→R1 d):Px m s A R1 := fun Q E q=>h Q E fun d r=>q d (k d r)
theorem Pt.px (h:Pt t s A a):Pxt t s A := fun Q E q=>h Q E (q a)
theorem px_op {f:F2} (ha:Px ma s A R1) (hb:Px mb s A R2) (hf:∀ x y,R1 x→R2 y→∀ Q:QE,(∀ d,R d→Q d A)→f x y A Q):Px (mOp f ma mb) s A R := fun Q E q=>ha _ E fun x rx=>hb _ E fun y ry=>hf x y rx ry Q q
theorem px_op' {f:F2} (ha:Px ma s A R1) (hb:Px mb s A R2) (hf:∀ x y,R1 x→R2 y→Px (mOp f (mC x) (mC y)) s A R):Px (mOp f ma mb) s A R := px_op ha hb fun x y rx ry Q q=>hf x y rx ry Q NX q
def DrN (k:Int):D→Prop := fun d=>∃ r,d = .int r∧0≤r∧r < k
theorem px_draw {n:Nat} {k:Int} (hA:A n=some .pool) (ha:Pv ma s A (.ref n)) (hb:Pv mb s A (.int k)) (hk:0 < k := by decide) (hl:k.natAbs.log2 < 9000 := by decide):Px (mCall fDraw (mCons ma (mCons mb mNil))) s A (DrN k) := fun Q E q=>w_draw ha hb hA hk hl fun r h0 h1=>q _ ⟨r,rfl,h0,h1⟩
theorem DrN.i {k:Int} (d:D) (h:DrN k d):∃ i,d = .int i := by obtain ⟨r,e,_⟩ := h; exact ⟨r,e⟩
theorem px_addD {k j:Int} (ha:Px ma s A (DrN k)):Px (mOp fAdd (mC (.int j)) ma) s A fun d=>∃ r,d = .int r∧j≤r∧r < j + k := px_op' (Pv.px pv_c) ha fun u v e ⟨r,e2,q0,q1⟩=>by
 subst e e2
 exact (pv_addI pv_c pv_c).px.imp fun d e=>⟨_,e,by omega,by omega⟩
variable {D0:AEnds}
theorem s_setX {i:Nat} (h:Px m s A R) (q:∀ d,R d→D0.nx (s.set i (some d)) A):mSet m (gN i) D0 s A := h _ _ q
theorem len_intsD {lo:Int} {n:Nat}:(intsD lo n).length=n := by unfold intsD; simp
theorem px_lcR {tg:MG} {te:ME} {vs:List Nat} {j:Int} {E0:Nat→D→Prop} (hx:Pv m s A (.int j)) (h0:0≤j) (hz:j≤1000)
  (hb:∀ i:Nat,i < j.toNat→∀ (R:Sl→AH→Prop),(∀ s1,Px te s1 A (E0 i)→R s1 A)→tg (.int i) (wipeD s vs) A R):Px (mLc (mRng1 (mCons m mNil)) tg mYes te vs) s A fun d=>∃ ys,d = .lst ys∧Paired E0 (List.range j.toNat) ys := fun Q E q =>
 hx (fun d A1=>∃ k:Int,[d]=[.int k] ∧ -(2 ^ 62)≤k∧k < 2 ^ 62∧(intsD 0 k.toNat).length≤sizeLine∧lcL ckT tg mYes te (wipeD s vs) (intsD 0 k.toNat) A1 fun ys A2=>Q (.lst ys) A2) _ ⟨j,rfl,by omega,by omega,by rw [len_intsD]; exact sz (by omega),by
  have e:intsD 0 j.toNat=(List.range j.toNat).map fun i:Nat=>D.int i := by unfold intsD; simp
  rw [e]
  exact lc_each (ck := ckT) (E := E0) True.intro (fun i hi R R' k=>hb i (List.mem_range.mp hi) _ fun s1 h=>(show (if true=true then te s1 A R NX else R' A) from iteT (B := R' A) (h _ _ k))) fun ys hys=>q _ ⟨ys,rfl,hys⟩⟩
end
theorem pv_ixd {s:Sl} {A:AH} {ma mb:ME} {ds:List D} {j:Int} {d:D} (ha:Pv ma s A (.lst ds)) (hb:Pv mb s A (.int j)) (h:L2.atI ds j=some d):Pv (mOp fIx ma mb) s A d := pv_op ha hb fun Q q=>⟨_,_,_,rfl,rfl,h,q⟩
theorem s_ifF {s:Sl} {A:AH} {t:MT} {u:MS} {D0:AEnds} (h:Pt t s A false) (q:D0.nx s A):mIfS t u mNext D0 s A := h _ _ (iteF q)
theorem Les.put' {A A':AH} {n:Nat} {x:Nd} (h:Les A A') (hn:A n=none):Les A (put A' n x) := fun k y e=>by
 rw [put_ne (fun z=>by rw [z,hn] at e; cases e)]
 exact h k y e
theorem LsD.put {α:Type} [DecidableEq α] [Datum α] {A:AH} {x:D} {xs:List α} {n:Nat} {Z:Nd} (h:LsD A x xs) (hn:A n=none):LsD (put A n Z) x xs := by
 cases x with
 | ref k =>
  unfold LsD itL at h ⊢
  simp only at h ⊢
  have:k≠n := fun e=>by rw [e,hn] at h; cases h
  rw [put_ne this]
  exact h
 | _=>exact h
end Am
namespace Am
open PySem PySem.Spec PyProof.Rows L2
open PySem.W (Datum Tup T3 T4)
def P2 (f:F2) (x y:D) (A:AH) (d:D):Prop := ∀ Q:QE,Q d A→f x y A Q
def P1 (f:F1) (x:D) (A:AH) (d:D):Prop := ∀ Q:QE,Q d A→f x A Q
def PB (f:List D→AH→QE→Prop) (ds:List D) (A:AH) (d:D):Prop := ∀ Q:QE,Q d A→f ds A Q
def UE {α:Type} [DecidableEq α] [Datum α] (d:D) (a:α):Prop := d=en a
section
variable {α β γ δ:Type} {i1:DecidableEq α} {j1:Datum α} {i2:DecidableEq β} {j2:Datum β} {i3:DecidableEq γ} {j3:Datum γ} {i4:DecidableEq δ} {j4:Datum δ}
variable {A:AH} {x y d:D} {xs ys:List α} {a b:α}
theorem p2_eq (hx:UE x a) (hy:UE y b) (hd:Datum.depth α≤60):P2 (fEq false) x y A (.bl (decide (a=b))) := fun Q q=>by
 rw [hx,hy]; exact w_eq (by rw [Bool.bne_false]; exact q) hd
theorem p2_ne (hx:UE x a) (hy:UE y b) (hd:Datum.depth α≤60):P2 (fEq true) x y A (.bl (!decide (a=b))) := fun Q q=>by
 rw [hx,hy]; exact w_eq (by rw [Bool.bne_true]; exact q) hd
theorem p2_eqL (hx:LsD A x xs) (hy:LsD A y ys) (hd:Datum.depth (List α)≤60):P2 (fEq false) x y A (.bl (decide (xs=ys))) := fun Q q=>w_eqL hx hy (by rw [Bool.bne_false]; exact q) hd
theorem p2_in (hx:UE x a) (hy:SqD A y xs) (hd:Datum.depth α≤60):P2 (fIn false) x y A (.bl (decide (a∈xs))) := fun Q q=>by
 rw [hx]; exact w_in hy (by rw [Bool.bne_false]; exact q) hd
theorem p2_nin (hx:UE x a) (hy:SqD A y xs) (hd:Datum.depth α≤60):P2 (fIn true) x y A (.bl (!decide (a∈xs))) := fun Q q=>by
 rw [hx]; exact w_in hy (by rw [Bool.bne_true]; exact q) hd
theorem p2_addI {i j:Int}:P2 fAdd (.int i) (.int j) A (.int (i + j)) := fun Q q=>⟨j,rfl,q⟩
theorem p2_addS {i j:Str} (h:i.length + j.length≤sizeLine):P2 fAdd (.str i) (.str j) A (.str (i ++ j)) := fun Q q=>⟨j,rfl,h,q⟩
theorem pb_list {ds:List D} (h:itS A x=some ds):PB fList [x] A (.lst ds) := fun Q q=>⟨x,ds,rfl,h,q⟩
theorem pb_tup {ds:List D} (h:itL A x=some ds):PB fTupOf [x] A (.tup ds) := fun Q q=>⟨x,rfl,by
 cases x with
 | tup ys=>cases h
 | _=>exact ⟨ds,h,q⟩⟩
def ItL (A:AH) (x:D) {ι:Type} (xs:List ι) (e:ι→D):Prop := itL A x=some (xs.map e)
def ItS (A:AH) (x:D) {ι:Type} (xs:List ι) (e:ι→D):Prop := itS A x=some (xs.map e)
theorem it_l {ι:Type} {xs:List ι} {e:ι→D}:ItS A (.lst (xs.map e)) xs e := rfl
theorem it_t {ι:Type} {xs:List ι} {e:ι→D}:ItS A (.tup (xs.map e)) xs e := rfl
end
section
variable {s s':Sl} {A:AH} {m ma mb mc:ME} {d x y z:D} {ds:List D} {a b:Bool} {t u:MT} {mr:MA} {Q:QE} {E:QX}
theorem pv_op2 {f:F2} (ha:Pv ma s A x) (hb:Pv mb s A y) (hf:P2 f x y A d):Pv (mOp f ma mb) s A d := pv_op ha hb hf
theorem pv_cbB {f:List D→AH→QE→Prop} (h:Pa mr s A ds) (hf:PB f ds A d):Pv (mCB f mr) s A d := pv_cb h hf
theorem pv_ifS {x y:Str} (ht:Pt t s A a) (h1:a=true→Pv ma s A (.str x)) (h2:a=false→Pv mb s A (.str y)):Pv (mIf t ma mb) s A (.str (if a=true then x else y)) := pv_if ht (fun h=>by rw [h]; exact h1 h) (fun h=>by rw [h]; exact h2 h)
theorem Pv.wp (q:Q d A) (h:Pv m s A d):m s A Q E := h Q E q
theorem P2.wp {f:F2} (q:Q d A) (h:P2 f x y A d):f x y A Q := h Q q
theorem w_callW {f:FN} (q:f ds A Q E) (h:Pa mr s A ds):mCall f mr s A Q E := h _ _ q
def Tg (tg:MG) (d:D) (s:Sl) (s':Sl):Prop := ∀ A (R:Sl→AH→Prop),R s' A→tg d s A R
theorem tg_n {i:Nat} (h:s.set i (some d)=s'):Tg (gN i) d s s' := fun A R r=>by unfold gN; rw [h]; exact r
def LcB (tg:MG) (t:MT) (te:ME) (s:Sl) (A:AH) (d:D) (b:Bool) (y:D):Prop := ∃ s1,Tg tg d s s1∧Pt t s1 A b∧(b=true→Pv te s1 A y)
theorem lcb {tg:MG} {te:ME} (h:Tg tg d s s') (ht:Pt t s' A b) (he:b=true→Pv te s' A y):LcB tg t te s A d b y := ⟨s',h,ht,he⟩
theorem ItS.seq {ι:Type} {xs:List ι} {e:ι→D} {R:List D→(AH→Prop)→AH→Prop} (h:ItS A x xs e) (q:∀ ck:AH→Prop,ck A→(∀ A',(∀ n,x = .ref n→A' n=A n)→ck A')→R (xs.map e) ck A):fSeq x A R := by
 unfold ItS at h
 unfold fSeq
 cases x with
 | str z=>cases h
 | ref n =>
  unfold itS itL at h
  simp only at h
  split at h
  ·rename_i ys e
   cases h
   exact ⟨_,e,q _ e fun A' k=>by rw [k n rfl]; exact e⟩
  ·cases h
 | _=>exact ⟨_,h,q ckT True.intro fun _ _=>True.intro⟩
def fnE (Q:QE) (E:QX):AEnds := { nx := fun _ A'=>Fg A' (Q .non),rt := fun d A'=>Fg A' (Q d),bk := fun _ _=>False,ct := fun _ _=>False,ex := fun x _ A'=>Fg A' (E x) }
def sqE (u:MS) (D:AEnds):AEnds := { D with nx := fun s' A'=>u D s' A' }
variable {D0:AEnds} {N:Sl→AH→Prop} {S U V:MS} {xc:Xc}
theorem fn_in {k n:Nat} {body:MS} (h:body (fnE Q E) s A) (h1:ds.length=k) (hs:ds.map some ++ List.replicate (n - k) none=s):mFn k n body ds A Q E := by subst hs; exact ⟨h1,h⟩
theorem fv_in {k n:Nat} {body:MS} (h:∀ Q E,Q d A→body (fnE Q E) s A) (h1:ds.length=k) (hs:ds.map some ++ List.replicate (n - k) none=s):Fv (mFn k n body) ds A d := fun Q E q=>fn_in (h Q E q) h1 hs
theorem s_sq (h:S (sqE U D0) s A):mSq S U D0 s A := h
theorem nx_sq (h:U D0 s A):(sqE U D0).nx s A := h
theorem t_par {i j:Nat} {s1:Sl} (k:D0.nx s' A) (h:Pa mr s A [x,y]) (h1:s.set i (some x)=s1) (h2:s1.set j (some y)=s'):mPar i j mr D0 s A := h _ _ ⟨x,y,rfl,by rw [h1,h2]; exact k⟩
end
end Am
namespace Am
open PySem PySem.Spec PyProof.Rows L2
open PySem.W (Datum Tup T3 T4)
structure Cells0 (B:AH) (cs:List (Nat × Nd)) (A:AH):Prop where
 nd:(cs.map (·.1)).Nodup
 get:∀ c∈cs,A c.1=some c.2
 fr:∀ c∈cs,B c.1=none
 le:Les B A
def Cells (B:AH) (sg:List (List (Nat × Nd))) (A:AH):Prop := Cells0 B sg.flatten A
def remL (A:AH) (ns:List Nat):AH := fun m=>if m∈ns then none else A m
theorem remL_no {A:AH} {ns:List Nat} {m:Nat} (h:m ∉ ns):remL A ns m=A m := if_neg h
theorem remL_in {A:AH} {ns:List Nat} {m:Nat} (h:m∈ns):remL A ns m=none := if_pos h
section
variable {B A A':AH} {cs ds ws ws' rest:List (Nat × Nd)} {sg:List (List (Nat × Nd))} {n i j:Nat} {X Y:Nd}
theorem Cells0.non (h:Cells0 B cs A) (hn:A n=none):B n=none := by
 cases e:B n with
 | none=>rfl
 | some x=>rw [h.le n x e] at hn; cases hn
theorem Cells0.perm (h:Cells0 B cs A) (p:cs.Perm ds):Cells0 B ds A := ⟨(p.map _).nodup_iff.mp h.nd,fun c hc=>h.get c (p.mem_iff.mpr hc),fun c hc=>h.fr c (p.mem_iff.mpr hc),h.le⟩
theorem Cells0.sub (h:Cells0 B cs A) (k:ds.Sublist cs):Cells0 B ds A := ⟨h.nd.sublist (k.map _),fun c hc=>h.get c (k.subset hc),fun c hc=>h.fr c (k.subset hc),h.le⟩
theorem Cells0.focus (h:Cells0 B (ws ++ rest) A):Cells0 (remL A (ws.map (·.1))) ws A := by
 refine ⟨h.nd.sublist ((List.sublist_append_left ws rest).map _),fun c hc=>h.get c (List.mem_append.mpr (.inl hc)),fun c hc=>remL_in (List.mem_map.mpr ⟨c,hc,rfl⟩),fun m x e=>?_⟩
 unfold remL at e
 split at e
 ·cases e
 ·exact e
theorem Cells0.back (h:Cells0 B (ws ++ rest) A) (h':Cells0 (remL A (ws.map (·.1))) ws' A'):Cells0 B (ws' ++ rest) A' := by
 have nd := h.nd
 rw [List.map_append,List.nodup_append] at nd
 have out:∀ c∈rest,c.1 ∉ ws.map (·.1) := fun c hc hm=>nd.2.2 _ hm _ (List.mem_map.mpr ⟨c,hc,rfl⟩) rfl
 have new:∀ c∈ws',c.1∈ws.map (·.1)∨A c.1=none := fun c hc=>by
  have := h'.fr c hc
  unfold remL at this
  split at this
  ·rename_i e; exact .inl e
  ·exact .inr this
 have old:∀ c∈rest,A c.1=some c.2 := fun c hc=>h.get c (List.mem_append.mpr (.inr hc))
 refine ⟨?_,fun c hc=>?_,fun c hc=>?_,fun m x e=>?_⟩
 ·rw [List.map_append,List.nodup_append]
  refine ⟨h'.nd,nd.2.1,fun a ha b hb=>?_⟩
  obtain ⟨c,hc,rfl⟩ := List.mem_map.mp ha
  obtain ⟨d,hd,rfl⟩ := List.mem_map.mp hb
  intro e
  rcases new c hc with h1 | h1
  ·exact out d hd (e ▸ h1)
  ·rw [e,old d hd] at h1; cases h1
 ·rcases List.mem_append.mp hc with hc | hc
  ·exact h'.get c hc
  ·exact h'.le _ _ (by rw [remL_no (out c hc)]; exact old c hc)
 ·rcases List.mem_append.mp hc with hc | hc
  ·rcases new c hc with h1 | h1
   ·obtain ⟨d,hd,e⟩ := List.mem_map.mp h1
    rw [← e]; exact h.fr d (List.mem_append.mpr (.inl hd))
   ·exact h.non h1
  ·exact h.fr c (List.mem_append.mpr (.inr hc))
 ·refine h'.le m x ?_
  rw [remL_no]
  ·exact h.le m x e
  ·intro hm
   obtain ⟨d,hd,e2⟩ := List.mem_map.mp hm
   have := h.fr d (List.mem_append.mpr (.inl hd))
   rw [e2,e] at this; cases this
theorem flat_set (h:sg[i]? = some ws):sg.flatten.Perm (ws ++ (sg.set i []).flatten) := by
 induction sg generalizing i with
 | nil=>simp at h
 | cons s sg ih =>
  cases i with
  | zero=>simp at h; subst h; simp
  | succ i =>
   simp at h
   have := ih h
   simp only [List.flatten_cons,List.set_cons_succ]
   refine (this.append_left s).trans ?_
   rw [← List.append_assoc,← List.append_assoc]
   exact List.perm_append_comm.append_right _
theorem flat_put (h:i < sg.length):(sg.set i ws).flatten.Perm (ws ++ (sg.set i []).flatten) := by
 have := flat_set (sg := sg.set i ws) (i := i) (ws := ws) (by rw [List.getElem?_set_self h])
 rw [List.set_set] at this
 exact this
theorem Cells.focus (h:Cells B sg A) (i:Nat) (e:sg[i]? = some ws):Cells0 (remL A (ws.map (·.1))) ws A := (Cells0.perm h (flat_set e)).focus
theorem Cells.back (h:Cells B sg A) (i:Nat) (e:sg[i]? = some ws) (h':Cells0 (remL A (ws.map (·.1))) ws' A'):Cells B (sg.set i ws') A' := ((Cells0.perm h (flat_set e)).back h').perm (flat_put (List.getElem?_eq_some_iff.mp e).1).symm
theorem Cells.nil_ {A:AH}:Cells A [] A where
 nd := .nil
 get := fun _ h=>nomatch h
 fr := fun _ h=>nomatch h
 le := Les.refl
theorem Cells.le (h:Cells B sg A):Les B A := Cells0.le h
theorem Cells.at (h:Cells B sg A) (i:Nat) (e:sg[i]? = some [(n,X)]):A n=some X := (h.focus i e).get _ (List.mem_singleton.mpr rfl)
theorem Cells0.put1 (h:Cells0 B [(n,X)] A) (Y:Nd):Cells0 B [(n,Y)] (put A n Y) := by
 have hb := h.fr _ (List.mem_singleton.mpr rfl)
 refine ⟨by simp,fun c hc=>?_,fun c hc=>?_,h.le.put' hb⟩
 ·rw [List.mem_singleton.mp hc]; exact put_same
 ·rw [List.mem_singleton.mp hc]; exact hb
theorem Cells.put (h:Cells B sg A) (i:Nat) (e:sg[i]? = some [(n,X)]) (Y:Nd):Cells B (sg.set i [(n,Y)]) (put A n Y) := h.back i e ((h.focus i e).put1 Y)
theorem Cells.new (h:Cells B sg A) (X:Nd) (hn:A n=none):Cells B (sg ++ [[(n,X)]]) (Am.put A n X) := by
 have h0:Cells0 B sg.flatten A := h
 have ne:∀ c∈sg.flatten,c.1≠n := fun c hc e=>by have := h0.get c hc; rw [e,hn] at this; cases this
 show Cells0 B (sg ++ [[(n,X)]]).flatten _
 rw [List.flatten_append]
 show Cells0 B (sg.flatten ++ [(n,X)]) _
 refine ⟨?_,fun c hc=>?_,fun c hc=>?_,h0.le.put' (h0.non hn)⟩
 ·rw [List.map_append,List.nodup_append]
  refine ⟨h0.nd,by simp,fun a ha b hb=>?_⟩
  obtain ⟨c,hc,rfl⟩ := List.mem_map.mp ha
  have:b=n := by simpa using hb
  rw [this]; exact ne c hc
 ·rcases List.mem_append.mp hc with hc | hc
  ·rw [put_ne (ne c hc)]; exact h0.get c hc
  ·rw [List.mem_singleton.mp hc]; exact put_same
 ·rcases List.mem_append.mp hc with hc | hc
  ·exact h0.fr c hc
  ·rw [List.mem_singleton.mp hc]; exact h0.non hn
theorem Cells.take (h:Cells B sg A) (k:Nat):Cells B (sg.take k) A := by
 have:sg.flatten=(sg.take k).flatten ++ (sg.drop k).flatten := by rw [← List.flatten_append,List.take_append_drop]
 have h':Cells0 B ((sg.take k).flatten ++ (sg.drop k).flatten) A := this ▸ h
 exact h'.sub (List.sublist_append_left _ _)
theorem flat_erase:∀ {sg:List (List (Nat × Nd))} {i:Nat},(sg.eraseIdx i).flatten=(sg.set i []).flatten
 | [],_=>by simp
 | s :: sg,0=>by simp
 | s :: sg,i + 1=>by simp [flat_erase (sg := sg) (i := i)]
theorem flat_set_sub:∀ {sg:List (List (Nat × Nd))} {i:Nat},(sg.set i []).flatten.Sublist sg.flatten
 | [],_=>by simp
 | s :: sg,0=>by simp
 | s :: sg,i + 1=>by simp only [List.set_cons_succ,List.flatten_cons]; exact (List.Sublist.refl s).append flat_set_sub
theorem Cells.erase (h:Cells B sg A) (k:Nat):Cells B (sg.eraseIdx k) A := by
 unfold Cells
 rw [flat_erase]
 exact Cells0.sub h flat_set_sub
theorem Cells.cut (h:Cells B sg A) (i:Nat) (e:sg[i]? = some [(n,X)]):Cells B (sg.eraseIdx i) (rem A n) := by
 have:Cells B (sg.set i []) (rem A n) := h.back i e (by
  refine ⟨.nil,fun _ h=>(nomatch h),fun _ h=>(nomatch h),fun m x e=>?_⟩
  unfold remL at e
  unfold rem
  simp only [List.map_cons,List.map_nil,List.mem_singleton] at e
  exact e)
 unfold Cells at this ⊢
 rw [flat_erase]; exact this
end
def Sz (n:Nat):Prop := n≤sizeLine
theorem Sz.of {n:Nat} (h:n≤1000000):Sz n := Nat.le_trans h (by decide)
def ixG {α:Type} (d0:α) (xs:List α) (i:Int):α := (xs[i.toNat]?).getD d0
def rng (j:Int):List Int := (List.range j.toNat).map fun i:Nat=>(i:Int)
def cutL {α:Type} (xs:List α) (lo hi:Option Int):List α := (xs.drop (HT.sIx xs.length 0 lo)).take (HT.sIx xs.length xs.length hi - HT.sIx xs.length 0 lo)
section
variable {ι α β:Type} {s s':Sl} {A B:AH} {m ma mb mc:ME} {d x y z:D} {xs:List ι} {e:ι→D}
theorem ItL.toS (h:ItL A x xs e):ItS A x xs e := by
 unfold ItL ItS itS at *
 cases x <;> first | exact h | cases h
theorem il_l:ItL A (.lst (xs.map e)) xs e := rfl
theorem ItL.same {A':AH} (h:ItL B x xs e) (l:Les B A) (l':Les B A'):∀ n,x = .ref n→A' n=A n := fun n ex=>by
 subst ex
 unfold ItL itL at h
 simp only at h
 cases q:B n with
 | none=>rw [q] at h; cases h
 | some z=>rw [l n z q,l' n z q]
theorem ItS.sq {α:Type} {i1:DecidableEq α} {j1:Datum α} {xs:List α} (h:ItS A x xs en):SqD A x xs := h
theorem ue_t {α:Type} {i1:DecidableEq α} {j1:Datum α} {xs:List α}:UE (.tup (xs.map en)) (Tup.mk xs) := (en_tup xs).symm
theorem atI_G {d0:ι} {j:Int} (h:0≤j∧j < xs.length):L2.atI (xs.map e) j=some (e (ixG d0 xs j)) := by
 have hj:j.toNat < xs.length := by omega
 have e1:ixG d0 xs j=xs[j.toNat] := by unfold ixG; rw [List.getElem?_eq_getElem hj]; rfl
 have h2:L2.atI (xs.map e) ((j.toNat:Nat):Int)=some (e xs[j.toNat]) := atI_nat (by rw [List.getElem?_map,List.getElem?_eq_getElem hj]; rfl)
 have e2:((j.toNat:Nat):Int)=j := by omega
 rw [e1,← h2,e2]
theorem p2_ixG {d0:ι} {j:Int} (hx:ItS A x xs e) (h:0≤j∧j < xs.length):P2 fIx x (.int j) A (e (ixG d0 xs j)) := fun Q q=>by
 have fin:∃ ys i d,itS A x=some ys∧D.int j = .int i∧L2.atI ys i=some d∧Q d A := ⟨_,j,_,hx,rfl,atI_G h,q⟩
 unfold fIx
 cases x with
 | str z=>cases hx
 | _=>exact fin
theorem pb_lenI (hx:ItS A x xs e):PB fLen [x] A (.int xs.length) := fun Q q=>by
 refine ⟨x,rfl, ?_⟩
 have fin:∃ ys,itS A x=some ys∧Q (.int ys.length) A := ⟨_,hx,by rw [List.length_map]; exact q⟩
 cases x with
 | str z=>cases hx
 | _=>exact fin
theorem pb_listI (hx:ItS A x xs e):PB fList [x] A (.lst (xs.map e)) := pb_list hx
theorem pb_tupI (hx:ItL A x xs e):PB fTupOf [x] A (.tup (xs.map e)) := pb_tup hx
theorem pv_slG {lo hi:MO} {l h:Option Int} (hx:Pv m s A x) (h1:Po lo s A l) (h2:Po hi s A h) (hl:ItL A x xs e):Pv (mSl m lo hi) s A (.lst ((cutL xs l h).map e)) := (pv_sl hx h1 h2 hl).is (by rw [cutD_map]; rfl)
theorem pv_revI (hx:Pv m s A x) (hl:ItL A x xs e):Pv (mRev m) s A (.lst (xs.reverse.map e)) := (pv_rev hx hl).is (by rw [List.map_reverse])
theorem p2_addLI {ys:List ι} (hx:ItL A x xs e) (hy:ItL A y ys e) (h:Sz (xs.length + ys.length)):P2 fAdd x y A (.lst ((xs ++ ys).map e)) := fun Q q=>by
 unfold fAdd fAddG
 have fin:∃ us vs,itL A x=some us∧itL A y=some vs∧us.length + vs.length≤sizeLine∧oldL (us ++ vs) A Q := ⟨_,_,hx,hy,by rw [List.length_map,List.length_map]; exact h,by rw [← List.map_append]; exact q⟩
 cases x with
 | int i=>cases hx
 | str z=>cases hx
 | tup ds=>cases hx
 | lst us=>exact fin
 | ref n=>exact fin
 | _=>cases hx
end
def Mi (mi:MI) (s:Sl) (A:AH) (xs:List D) (P:AH→Prop):Prop := ∀ (R:List D→(AH→Prop)→AH→Prop) (E:QX),(∀ ck:AH→Prop,ck A→(∀ A',P A'→ck A')→R xs ck A)→mi s A R E
section
variable {ι α β σ:Type} {s s':Sl} {A B:AH} {m ma mb mc te:ME} {t:MT} {tg:MG} {d x y z:D} {xs:List ι} {e:ι→D} {mi:MI} {P:AH→Prop}
theorem mi_seq (h:Pv m s A x) (hl:ItS A x xs e):Mi (mSeq m) s A (xs.map e) (fun A'=>∀ n,x = .ref n→A' n=A n) := fun R E k=>h _ E (ItS.seq hl fun ck h1 h2=>k ck h1 h2)
theorem intsD_rng (j:Int):intsD 0 j.toNat=(rng j).map en := by unfold intsD rng; rw [List.map_map]; exact List.map_congr_left fun i _=>by show D.int _=D.int _; rw [Int.zero_add]
theorem mi_rng {j:Int} (h:Pv m s A (.int j)) (hb:-(2 ^ 62)≤j∧j < 2 ^ 62):Mi (mRng1 (mCons m mNil)) s A ((rng j).map en) (fun _=>True) := fun R E k=>(pa_1 h) (fun ds A1=>∃ i:Int,ds=[.int i] ∧ -(2 ^ 62)≤i∧i < 2 ^ 62∧R (intsD 0 i.toNat) ckT A1) E ⟨j,rfl,hb.1,hb.2,by rw [intsD_rng]; exact k ckT True.intro fun _ _=>True.intro⟩
theorem v_lcFM {p:ι→Bool} {g:ι→β} {e':β→D} {vs:List Nat} (hm:Mi mi s A (xs.map e) P) (hw:wipeD s vs=s') (hz:Sz xs.length) (hb:∀ a∈xs,LcB tg t te s' A (e a) (p a) (e' (g a))):Pv (mLc mi tg t te vs) s A (.lst (((xs.filter p).map g).map e')) := fun Q E q=>hm _ _ fun ck hck _=>⟨by rw [List.length_map]; exact hz,by
 rw [hw]
 refine lc_map (f := fun a=>e' (g a)) hck (fun a ha R R' h1 h2=>?_) (by show Q (.lst _) A; rw [List.map_map] at q; exact q)
 obtain ⟨s1,k1,k2,k3⟩ := hb a ha
 refine k1 A _ (k2 _ _ ?_)
 cases e:p a with
 | true=>exact iteT (k3 e _ _ (h1 e))
 | false=>exact iteF (h2 e)⟩
theorem v_lcF {p:ι→Bool} {vs:List Nat} (hm:Mi mi s A (xs.map e) P) (hw:wipeD s vs=s') (hz:Sz xs.length) (hb:∀ a∈xs,LcB tg t te s' A (e a) (p a) (e a)):Pv (mLc mi tg t te vs) s A (.lst ((xs.filter p).map e)) := (v_lcFM (g := id) (e' := e) hm hw hz hb).is (by rw [List.map_id])
variable {D0:AEnds} {U V S:MS} {Q:QE} {E:QX}
theorem at_s {M:MS} (e:s=s') (h:M D0 s' A):M D0 s A := e ▸ h
theorem at_n {N:Sl→AH→Prop} (e:s=s') (h:N s' A):N s A := e ▸ h
theorem u_set {i:Nat} (h:Pv m s A d) (hs:s.set i (some d)=s') (q:D0.nx s' A):mSet m (gN i) D0 s A := by subst hs; exact h _ _ q
theorem u_setE {i:Nat} (h:m s A (fun d A1=>D0.nx (s.set i (some d)) A1) (fun x A1=>D0.ex x s A1)):mSet m (gN i) D0 s A := h
theorem u_ret (h:Pv m s A d) (q:D0.rt d A):mRet m D0 s A := h _ _ q
theorem u_retE (h:m s A D0.rt (fun x A1=>D0.ex x s A1)):mRet m D0 s A := h
theorem u_dropE (h:m s A (fun _ A1=>D0.nx s A1) (fun x A1=>D0.ex x s A1)):mDrop m D0 s A := h
theorem u_rz1 {c f:Str} (h:Pv m s A d) (q:D0.ex ⟨c,[(f,d)]⟩ s A):mRz1 c f m D0 s A := h _ _ q
theorem u_for {Wb:Prop} (hm:Mi mi s A (xs.map e) P) (h:∀ ck:AH→Prop,ck A→(∀ A',P A'→ck A')→forL ck tg U (xs.map e) D0 s A):mFor mi tg U D0 s A := hm _ _ h
end
end Am
namespace Am
open PySem PySem.Spec PyProof.Rows L2
open PySem.W (Datum Tup T3 T4)
section
variable {ι α β σ:Type} {s s':Sl} {A B:AH} {m ma mb mc te:ME} {t u:MT} {tg:MG} {d x y z:D} {ds:List D} {xs:List ι} {e:ι→D} {Q:QE} {E:QX} {D0:AEnds} {U Vv:MS} {mr:MA}
theorem dr_small {k:Int} (h:0 < k∧k≤1000000000):k.natAbs.log2 < 9000 := by
 have h1:k.natAbs < 2 ^ 30 := by omega
 by_cases h0:k.natAbs=0
 ·rw [h0]; decide
 ·exact Nat.lt_of_lt_of_le ((Nat.log2_lt h0).mpr h1) (by decide)
theorem w_drawA {n:Nat} {k:Int} (h:Pa mr s A [.ref n, .int k]) (hA:A n=some .pool) (hk:0 < k) (hl:k.natAbs.log2 < 9000) (q:∀ r,0≤r→r < k→Q (.int r) A):mCall fDraw mr s A Q E := h _ _ ⟨n,k,rfl,hA,hk,hl,q⟩
theorem u_gN {i:Nat} {R:Sl→AH→Prop} (hs:s.set i (some d)=s') (h:R s' A):gN i d s A R := by subst hs; exact h
theorem il_r (h:itL A x=some (xs.map e)):ItL A x xs e := h
theorem w_poolA {ns:List Int} (hns:ns.length≤63) (hv:Pa mr s A [.scr ns]) (q:∀ n,A n=none→Q (.ref n) (put A n .pool)):mCall fPool mr s A Q E := hv _ _ ⟨ns,rfl,hns,q⟩
end
theorem ue_r {α:Type} {i1:DecidableEq α} {j1:Datum α} {d:D} {a:α} (h:d=en a):UE d a := h
section
variable {α:Type} [DecidableEq α] [Datum α] {A:AH} {x y:D} {a b:α} {xs ys:List α}
def eqB (a b:α):Bool := decide (a=b)
def inB (a:α) (xs:List α):Bool := decide (a∈xs)
theorem eqB_iff:eqB a b=true↔a=b := by unfold eqB; exact decide_eq_true_iff
theorem inB_iff:inB a xs=true↔a∈xs := by unfold inB; exact decide_eq_true_iff
theorem eqB_no:eqB a b=false↔a≠b := by unfold eqB; exact decide_eq_false_iff_not
theorem q2_eq (hx:UE x a) (hy:UE y b) (hd:Datum.depth α≤60):P2 (fEq false) x y A (.bl (eqB a b)) := p2_eq hx hy hd
theorem q2_ne (hx:UE x a) (hy:UE y b) (hd:Datum.depth α≤60):P2 (fEq true) x y A (.bl (!eqB a b)) := p2_ne hx hy hd
theorem q2_eqL (hx:ItL A x xs en) (hy:ItL A y ys en) (hd:Datum.depth (List α)≤60):P2 (fEq false) x y A (.bl (eqB xs ys)) := p2_eqL hx hy hd
theorem q2_in (hx:UE x a) (hy:SqD A y xs) (hd:Datum.depth α≤60):P2 (fIn false) x y A (.bl (inB a xs)) := p2_in hx hy hd
theorem q2_nin (hx:UE x a) (hy:SqD A y xs) (hd:Datum.depth α≤60):P2 (fIn true) x y A (.bl (!inB a xs)) := p2_nin hx hy hd
end
end Am
namespace Am
open PySem PySem.Spec PyProof.Rows L2
open Fm (same_new same_upd same_both Same.rd Same.tup Same.sql tMakeS)
open PySem.W (Datum Tup T3 T4)
def frzL (fz:D→AH→QE→Prop):List D→AH→(List D→AH→Prop)→Prop
 | [],A,Q=>Q [] A
 | d :: ds,A,Q=>fz d A fun d' A1=>frzL fz ds A1 fun ds' A2=>Q (d' :: ds') A2
def zipK {κ:Type} (ks:List (κ × D)) (ds:List D):List (κ × D) := (ks.map (·.1)).zip ds
def frzD:Nat→D→AH→QE→Prop
 | 0,d,A,Q=>Q d A
 | k + 1,d,A,Q=>match d with
  | .ref n=>match A n with
   | some (.lst xs)=>frzL (frzD k) xs (rem A n) fun xs' A'=>Q (.lst xs') A'
   | some (.dK kvs)=>frzL (frzD k) (kvs.map (·.2)) (rem A n) fun xs' A'=>Q (.dK (zipK kvs xs')) A'
   | some (.dT kvs)=>frzL (frzD k) (kvs.map (·.2)) (rem A n) fun xs' A'=>Q (.dT (zipK kvs xs')) A'
   | some (.ins c fs)=>frzL (frzD k) (fs.map (·.2)) (rem A n) fun xs' A'=>Q (.ins c (zipK fs xs')) A'
   | _=>Q d A
  | d=>Q d A
section
variable {K:PySem.W.Frag}
theorem zipK_1 {κ:Type} {ks:List (κ × D)} {ds:List D} (h:ks.length=ds.length):(zipK ks ds).map (·.1)=ks.map (·.1) := by
 unfold zipK
 rw [List.map_fst_zip]
 rw [List.length_map,h]; exact Nat.le_refl _
theorem zipK_2 {κ:Type} {ks:List (κ × D)} {ds:List D} (h:ks.length=ds.length):(zipK ks ds).map (·.2)=ds := by
 unfold zipK
 rw [List.map_snd_zip]
 rw [List.length_map,h]; exact Nat.le_refl _
theorem frzL_ok {fz:D→AH→QE→Prop} (hf:∀ {g:Sg} {A:AH} {H:Hp} {v:V} {d:D} {R:QE} {X:Prop},Wr K g A H→Rep K g v d→fz d A R→(∀ g' A' d',Stp g A H g' A' H→Wr K g' A' H→Rep K g' v d'→R d' A'→X)→X) :
  ∀ {ds:List D} {vs:List V} {g:Sg} {A:AH} {H:Hp} {R:List D→AH→Prop} {X:Prop},Wr K g A H→Reps K g vs ds→frzL fz ds A R→(∀ g' A' ds',Stp g A H g' A' H→Wr K g' A' H→Reps K g' vs ds'→R ds' A'→X)→X
 | [],_,g,A,H,R,X,w,r,h,q=>by cases r; exact q g A [] .refl w .nil h
 | d :: ds,_,g,A,H,R,X,w,r,h,q=>by
  cases r with
  | cons r1 r2=>exact hf w r1 h fun g1 A1 d1 st1 w1 q1 h1=>frzL_ok hf w1 (r2.mono st1.le) h1 fun g2 A2 ds2 st2 w2 q2 h2=>q g2 A2 _ (st1.trans st2) w2 (.cons (q1.mono st2.le) q2) h2
theorem frzD_ok:∀ (k:Nat) {g:Sg} {A:AH} {H:Hp} {v:V} {d:D} {R:QE} {X:Prop},Wr K g A H→Rep K g v d→frzD k d A R→(∀ g' A' d',Stp g A H g' A' H→Wr K g' A' H→Rep K g' v d'→R d' A'→X)→X
 | 0,g,A,H,v,d,R,X,w,r,h,q=>q g A d .refl w r h
 | k + 1,g,A,H,v,d,R,X,w,r,h,q=>by
  unfold frzD at h
  cases d with
  | ref n =>
   obtain ⟨a,rfl,hi⟩:∃ a,v = .ref a∧g.i n=some a := by cases r with | ref h=>exact ⟨_,rfl,h⟩
   simp only at h
   cases e:A n with
   | none=>rw [e] at h; exact q _ _ _ .refl w (.ref hi) h
   | some x =>
    rw [e] at h
    obtain ⟨b,q1,q2,q3⟩ := w.nd n x e
    rw [hi] at q1; cases q1
    cases x with
    | lst xs =>
     obtain ⟨vs,z1,z2⟩ := q3
     obtain ⟨w2,st2⟩ := w.freeze hi e z1
     exact frzL_ok (frzD_ok k) w2 (z2.mono st2.le) h fun g1 A1 ds st1 w1 r1 h3=>q _ _ _ (st2.trans st1) w1 (.lst (Fm.Same.rd st1.le.s (.inl upd_same)) r1) h3
    | dK xs =>
     obtain ⟨vs,z1,z2,z3⟩ := q3
     obtain ⟨w2,st2⟩ := w.freeze hi e z1
     exact frzL_ok (frzD_ok k) w2 (z3.mono st2.le) h fun g1 A1 ds st1 w1 r1 h3=>by
      have hl:xs.length=ds.length := by
       have l1 := r1.len
       have l2 := congrArg List.length z2
       simp only [List.length_map] at l1 l2
       omega
      exact q _ _ _ (st2.trans st1) w1 (.dK (Fm.Same.rd st1.le.s (.inl upd_same)) (by rw [zipK_1 hl]; exact z2) (by rw [zipK_2 hl]; exact r1)) h3
    | dT xs =>
     obtain ⟨vs,z1,z2,z3⟩ := q3
     obtain ⟨w2,st2⟩ := w.freeze hi e z1
     exact frzL_ok (frzD_ok k) w2 (z3.mono st2.le) h fun g1 A1 ds st1 w1 r1 h3=>by
      have hl:xs.length=ds.length := by
       have l1 := r1.len
       have l2 := congrArg List.length z2
       simp only [List.length_map] at l1 l2
       omega
      exact q _ _ _ (st2.trans st1) w1 (.dT (Fm.Same.rd st1.le.s (.inl upd_same)) (by rw [zipK_1 hl]; exact z2) (by rw [zipK_2 hl]; exact r1)) h3
    | ins c fs =>
     obtain ⟨dx,vs,z1,z2,z3⟩ := q3
     obtain ⟨w2,st2⟩ := w.freeze hi e z1
     exact frzL_ok (frzD_ok k) w2 (z3.mono st2.le) h fun g1 A1 ds st1 w1 r1 h3=>by
      have hl:fs.length=ds.length := by
       have l1 := r1.len
       have l2 := congrArg List.length z2
       simp only [List.length_map] at l1 l2
       omega
      exact q _ _ _ (st2.trans st1) w1 (.ins (st1.le.s _ _ upd_same) (by rw [zipK_1 hl]; exact z2) (by rw [zipK_2 hl]; exact r1)) h3
    | pool=>exact q _ _ _ .refl w (.ref hi) h
    | lkK o us ds=>exact q _ _ _ .refl w (.ref hi) h
    | lkT o us ds=>exact q _ _ _ .refl w (.ref hi) h
  | _=>exact q _ _ _ .refl w r h
def frzF (A:AH) (d:D) (Q:QE):Prop := frzD 3 d A Q
theorem fin_deep:FinS K frzF := fun g A H v d Qa Q w r h q=>frzD_ok 3 w r h fun g' A' d' st w' r' h'=>q g' A' H v d' st w' r' h'
def mMakeD := mMakeG frzF
variable {W:WX} {m:ME}
theorem c_makeD {f:FN} {mr:MA} {c:Str}:∀ σ H Q,cE K W (mMakeD c f mr) σ H Q→tMakeS (He.ga K c) (spM K f) (WE W) (cA K W mr) σ H Q := c_makeG fin_deep
end
def Tre (d:D):Prop := ∀ n,d≠.ref n
theorem frz_tre {k:Nat} {d:D} {A:AH} {Q:QE} (h:Tre d) (q:Q d A):frzD k d A Q := by
 cases k with
 | zero=>exact q
 | succ k =>
  unfold frzD
  cases d with
  | ref n=>exact absurd rfl (h n)
  | _=>exact q
theorem frzL_nil {fz:D→AH→QE→Prop} {A:AH} {R:List D→AH→Prop} (q:R [] A):frzL fz [] A R := q
theorem frzL_cons {fz:D→AH→QE→Prop} {A:AH} {R:List D→AH→Prop} {d:D} {ds:List D} (h:fz d A fun d' A1=>frzL fz ds A1 fun ds' A2=>R (d' :: ds') A2):frzL fz (d :: ds) A R := h
theorem frz_ins {k n:Nat} {c:Str} {fs:List (Str × D)} {A:AH} {Q:QE} (hA:A n=some (.ins c fs)) (h:frzL (frzD k) (fs.map (·.2)) (rem A n) fun xs A'=>Q (.ins c (zipK fs xs)) A'):frzD (k + 1) (.ref n) A Q := by unfold frzD; simp only [hA]; exact h
section
variable {κ α:Type} [DecidableEq κ]
def valA (l:List (κ × α)) (k:κ):Option α := (l.find? fun p=>decide (p.1=k)).map (·.2)
end
inductive Exv where
 | badSchema (a:Option Int) | unknown (z:Str) | noThing (i:Int) | wrongEnds (z:Str) | badPattern (z:Str) | misfit (i:Int) (z:Str) | otherSchema | badRow (i:Int) | undone (i:Int) (w:D) | notKept | tooWide (z:Option Str) | badEdit (i:Int) | badLine (i:Int)
abbrev encOI (o:Option Int):D := en o
def encX:Exv→Xc
 | .badSchema a=>⟨"BadSchema",[("at",encOI a)]⟩
 | .unknown z=>⟨"Unknown",[("name", .str z)]⟩
 | .noThing i=>⟨"NoThing",[("number", .int i)]⟩
 | .wrongEnds z=>⟨"WrongEnds",[("name", .str z)]⟩
 | .badPattern z=>⟨"BadPattern",[("name", .str z)]⟩
 | .misfit i z=>⟨"Misfit",[("part", .str z),("at", .int i)]⟩
 | .otherSchema=>⟨"OtherSchema",[]⟩
 | .badRow i=>⟨"BadRow",[("index", .int i)]⟩
 | .undone i w=>⟨"Undone",[("why",w),("index", .int i)]⟩
 | .notKept=>⟨"NotKept",[]⟩
 | .tooWide z=>⟨"TooWide",[("kind",en z)]⟩
 | .badEdit i=>⟨"BadEdit",[("index", .int i)]⟩
 | .badLine i=>⟨"BadLine",[("number", .int i)]⟩
theorem u_sfldS {cs:List Str} {f:Str} {mo mv:ME} {D0:AEnds} {s:Sl} {A:AH} (h:mv s A (fun y A1=>mo s A1 (fun x A2=>∃ n c fs,x = .ref n∧A2 n=some (.ins c fs)∧c∈cs∧fs.length < 1000∧D0.nx s (put A2 n (.ins c (putFD f y fs)))) fun e A2=>D0.ex e s A2) fun e A1=>D0.ex e s A1):mSFld cs f mo mv D0 s A := h
theorem u_sfld1 {cs:List Str} {f c:Str} {n:Nat} {fs fs':List (Str × D)} {y:D} {A:AH} {Rn:AH→Prop} (hA:A n=some (.ins c fs)) (hc:c∈cs) (hl:fs.length < 1000) (he:putFD f y fs=fs') (q:Rn (put A n (.ins c fs'))):∃ n' c' fs'',D.ref n = .ref n'∧A n' = some (.ins c' fs'')∧c'∈cs∧fs''.length < 1000∧Rn (put A n' (.ins c' (putFD f y fs''))) := ⟨n,c,fs,rfl,hA,hc,hl,by rw [he]; exact q⟩
theorem w_makeD {c:Str} {f:FN} {mr:MA} {s:Sl} {A:AH} {Q:QE} {E:QX} {ds:List D} (ha:Pa mr s A ds) (h:∀ n,A n=none→f (.ref n :: ds) (put A n (.ins c [])) (fun d A2=>d = .non∧frzF A2 (.ref n) Q) E):mMakeD c f mr s A Q E := ha _ _ h
theorem u_nxi {n:Nat} {Q:QE} {E:QX} {s:Sl} {A:AH} (h:frzD 3 (.ref n) A Q):(fnE (fun d A2=>d = .non∧frzF A2 (.ref n) Q) E).nx s A := fg ⟨rfl,h⟩
end Am
namespace Am
open PySem PySem.Spec PyProof.Rows L2
end Am
namespace Am
open PySem PySem.Spec PyProof.Rows L2
open Fm
end Am
namespace Am
open PySem PySem.Spec PyProof.Rows L2
end Am
namespace Am
open PySem PySem.Spec PyProof.Rows L2 PySem.W PySem.Calls PyProof.V
end Am
namespace Am
open PySem PySem.Spec PyProof.Rows L2
section
variable {prog:Program} {w:World} {A:Around} {E:Value→Shared→Prop} {s:Shared} {Q:Bool→Shared→Prop}
def KTup (h:Heap) (v:Value) (k:List Key):Prop := ∃ a o its n,v = .ref a∧h.get? a=some o∧o.cls = .type "tuple" ∧ o.data = .seq its n∧Vals (k.map kV) its.toList
theorem KTup.keeps {h h':Heap} {v:Value} {k:List Key} (p:KTup h v k) (kp:∀ b o,h.get? b=some o→o.cls = .type "tuple" → h'.get? b=some o):KTup h' v k := by
 obtain ⟨a,o,its,n,e,ho,hc,r⟩ := p
 exact ⟨a,o,its,n,e,kp a o ho hc,hc,r⟩
end
end Am
namespace Am
open PySem PySem.Spec PyProof.Rows L2
end Am
namespace Am
open PySem PySem.Spec PyProof.Rows L2
open PySem.W (Datum Tup)
end Am
namespace Am
open PySem PySem.Spec PyProof.Rows L2
open PySem.W (Datum Tup)
end Am
namespace Am
open PySem PySem.Spec PyProof.Rows L2
end Am
namespace Am
open PySem PySem.Spec PyProof.Rows L2
end Am
namespace Am
open PySem PySem.Spec PyProof.Rows L2
end Am
namespace Am
open PySem PySem.Spec PyProof.Rows L2
open Fm (fnR_of)
end Am
namespace Am
open PySem PySem.Spec PyProof.Rows L2
open PySem.W (Datum Tup T3 T4)
open Fm (rTupOf)
section
variable {ι α κ:Type} {s s':Sl} {A A':AH} {ma mb m me:ME} {x y d:D} {ds:List D} {f:FN} {c:Str} {Q:QE} {E:QX} {D0:AEnds} {fs:List (Str × D)} {n:Nat} {mm:MS} {xc:Xc}
theorem pa_starI {mr:MA} {xs ys:List ι} {e:ι→D} (h:Pv m s A d) (hx:ItS A d xs e) (hr:Pa mr s A (ys.map e)):Pa (mStar m mr) s A ((xs ++ ys).map e) := by
 have := pa_star' h hx hr
 rw [← List.map_append] at this
 exact this
theorem pa_starN {xs:List ι} {e:ι→D} (h:Pv m s A d) (hx:ItS A d xs e):Pa (mStar m mNil) s A (xs.map e) := by
 have := pa_star' h hx (pa_nil' (s := s) (A := A))
 rw [List.append_nil] at this
 exact this
theorem pa_consI {mr:MA} {z:ι} {ys:List ι} {e:ι→D} (h:Pv m s A (e z)) (hr:Pa mr s A (ys.map e)):Pa (mCons m mr) s A ((z :: ys).map e) := pa_cons' h hr
end
end Am
namespace Am
open PySem PySem.Spec PyProof.Rows L2
open PySem.W (Datum Tup T3 T4)
end Am
namespace Am
open PySem PySem.Spec PyProof.Rows L2
open Fm (tOpS)
end Am
namespace Am
open PySem PySem.Spec PyProof.Rows L2
open PySem.W (Datum Tup T3 T4)
end Am
namespace Am
open PySem PySem.Spec PyProof.Rows L2
open PySem.W (Datum Tup T3 T4)
end Am
namespace Am
open PySem PySem.Spec PyProof.Rows L2
open PySem.W (Datum Tup T3 T4)
end Am
namespace Am
open PySem PySem.Spec PyProof.Rows L2
open PySem.W (Datum Tup T3 T4)
open Fm (uniq)
end Am
namespace Am
open PySem PySem.Spec PyProof.Rows L2
end Am
namespace Am
open PySem PySem.Spec PyProof.Rows L2
end Am
namespace Am
open PySem PySem.Spec PyProof.Rows L2
open Fm (same_new)
open RZ (ItzT iZipA)
end Am
namespace Am
open PySem PySem.Spec PyProof.Rows L2
open Fm (fnR_of)
section
variable {P:Program} {w:World} {K:PySem.W.Frag} {mg:Str→Option Value} {base:Heap} {k:Nat} {f:Addr} {x qual:Str} {st:Stmt} {N ps:List Str} {fn:FN} {bs:List Bool} {kws:List (Str × V)} {sp:Sp}
theorem spM_never:∀ vs H Q E,¬ spM K (fun _ _ _ _=>False) vs H Q E := fun vs H Q E ⟨g,A,ds,Qa,Ea,w,r,h,q,qx⟩=>h
theorem fnR_never {CX:CXT}:FnR P w K mg base CX k f (spM K (fun _ _ _ _=>False)) := fun A outer s H us vs Q E hr e r h=>(spM_never _ _ _ _ h).elim
end
end Am
namespace Am
open PySem PySem.Spec PyProof.Rows L2
end Am
namespace Am
open PySem PySem.Spec PyProof.Rows L2
end Am
namespace Am
open PySem PySem.Spec PyProof.Rows L2
open Fm (rGetL)
end Am
namespace Am
open PySem PySem.Spec PyProof.Rows L2 Fm
section
variable {X:Cx} {W:WX} {e a b c:Expr} {es:List Expr} {m ma mb mc:ME} {pos:Pos} {x:Str}
theorem q0 (i:Nat) (hN:X.N[i]? = some x := by rfl) (hv:Vis X.env.scope x := by first | exact Or.inl rfl | exact Or.inr (Or.inl rfl) | exact Or.inr (Or.inr rfl)) (hd:(x == ("__debug__":Str))=false := by decide) (hc:(x == ("__classdict__":Str))=false := by decide):PE X (.Name x pos) (cE X.K W (mVar i)) := ae_var (pv i hN hv hd hc)
theorem q1 {i:Int} {j:Nat}:PE X (.Constant (.int i) j pos) (cE X.K W (mC (.int i))) := ae_c (fun _=>.int _) pe_int
theorem q2 {j:Nat}:PE X (.Constant (.str x) j pos) (cE X.K W (mC (.str x))) := ae_c (fun _=>.str _) pe_str
theorem qa (ha:PE X a (cE X.K W ma)) (h1:starEach [a] X.env=(false,eval a X.env) :: starEach [] X.env := by rfl):PA X [a] (cA X.K W (mCons ma mNil)) := aa_cons ha aa_nil h1
theorem qb (ha:PE X a (cE X.K W ma)) (hb:PE X b (cE X.K W mb)) (h1:starEach [a,b] X.env=(false,eval a X.env) :: starEach [b] X.env := by rfl) (h2:starEach [b] X.env=(false,eval b X.env) :: starEach [] X.env := by rfl):PA X [a,b] (cA X.K W (mCons ma (mCons mb mNil))) := aa_cons ha (aa_cons hb aa_nil h2) h1
theorem qc {mr:MA} (ha:PE X a (cE X.K W ma)) (hb:PE X b (cE X.K W mb)) (hs:PA X es (cA X.K W mr)) (h1:starEach (a :: b :: es) X.env=(false,eval a X.env) :: starEach (b :: es) X.env := by rfl) (h2:starEach (b :: es) X.env=(false,eval b X.env) :: starEach es X.env := by rfl):PA X (a :: b :: es) (cA X.K W (mCons ma (mCons mb mr))) := aa_cons ha (aa_cons hb hs h2) h1
theorem qi (ha:PE X a (cE X.K W ma)) (hb:PE X b (cE X.K W mb)) (h:PlainIx b := by exact fun _ _=>rfl):PE X (.Subscript a b pos) (cE X.K W (mOp fIx ma mb)) := PE.weak (pe_ix ix_seq ha hb h) (c_op os_ix)
theorem ql {p:Pos} {mr:MA} (hm:X.mg x=none) (ha:PA X (e :: es) (cA X.K W mr)) (hg:Gl X x := by rfl) (hv:bootBuiltins x=some (.builtin "len") := by decide +kernel) (hn:x ≠ "__name__" := by decide) (hdb:(x == ("__debug__":Str))=false := by decide)
 (he:starEach (e :: es) X.env=(false,eval e X.env) :: starEach es X.env := by rfl) (hpl:(backTo pos (starEach es X.env)).any (·.1)=false := by rfl):PE X (.Call (.Name x p) (e :: es) [] pos) (cE X.K W (mCB fLen mr)) := PE.weak (pe_callB call_lenA hg hm hv ha hn hdb he hpl) (c_cb cs_len)
theorem qf {f:Str} {cs:List Str} (h:PE X e (cE X.K W m)) (hc:∀ c∈cs,Cls X.K (He.ga X.K c)∧NoAttr X.K (He.ga X.K c) f) (hb:attributeBase e f X.env (eval e X.env)=eval e X.env := by rfl):PE X (.Attribute e f pos) (cE X.K W (mFld cs f m)) := PE.weak (pe_fld h hb) (c_fld hc)
theorem qk {p:Pos} {k:Nat} {f:Addr} {fn:FN} {mr:MA} (F:FnR X.prog X.w X.K X.mg X.base (L2.CX X.prog X.w) k f (spM X.K fn)) (hx:∀ σ,PassesAt (L2.CX X.prog X.w) X σ (WE W σ)) {K':Nat} (hr:Room K' X.A) (hm:X.mg x=some (.ref f)) (hk:PySem.W.keepIn X.K (.ref f)=true) (ha:PA X (e :: es) (cA X.K W mr)) (hl:k≤K' := by decide) (hg:Gl X x := by rfl) (hdb:(x == ("__debug__":Str))=false := by decide)
 (he:starEach (e :: es) X.env=(false,eval e X.env) :: starEach es X.env := by rfl) (hpl:(backTo pos (starEach es X.env)).any (·.1)=false := by rfl):PE X (.Call (.Name x p) (e :: es) [] pos) (cE X.K W (mCall fn mr)) := PE.weak (pe_clS F (hr.mono hl) hg hm hk hx ha hdb he hpl) c_cl
theorem qe (hu:X.A.units + 64 < cLine) (ha:PE X a (cE X.K W ma)) (hb:PE X b (cE X.K W mb)):PT X (.Compare a [.Eq] [b] pos) (cT X.K W (mB (mOp (fEq false) ma mb))) := at_cmp (op_eqP hu) os_eq ha hb (nomark _)
theorem qn (hu:X.A.units + 64 < cLine) (ha:PE X a (cE X.K W ma)) (hb:PE X b (cE X.K W mb)):PT X (.Compare a [.NotEq] [b] pos) (cT X.K W (mB (mOp (fEq true) ma mb))) := at_cmp (op_neP hu) os_ne ha hb (nomark _)
theorem qg (i:Nat) {N ps:List Str} {sc:Scope} (S:FnScope N ps sc) (hi:N[i]? = some x) (hN:X.N=N := by rfl) (hx:L2.Loc X.env.scope x := by first | exact .inl rfl | exact .inr rfl) (hf:X.fn x=true∨X.env.scope.names.lookup x=some .local := by first | exact .inl rfl | exact .inr rfl | assumption):PG X (.Name x pos) (gName i) := pg_name (by rw [hN]; exact S.nd) (by rw [hN]; exact hi) hx hf
variable {st:Stmt} {rest u v:List Stmt} {t:MT} {ms mu mv:MS}
theorem ra {tt:TS} {tm:MS} (h:PS X st tt) (k:∀ D σ H,cS X.K W tm D σ H→tt D σ H) (r:PSs X rest (cS X.K W mu)):PSs X (st :: rest) (cS X.K W (mSq tm mu)) := PSs.weak (pss_cons (PS.weak h k) r) c_sq
theorem rb (h:PS X st (cS X.K W ms)) (r:PSs X rest (cS X.K W mu)):PSs X (st :: rest) (cS X.K W (mSq ms mu)) := PSs.weak (pss_cons h r) c_sq
theorem rz:PSs X [] (cS X.K W mNext) := PSs.weak pss_nil c_next
theorem ri {tc:Expr} (h:PT X tc (cT X.K W t)) (h1:PSs X u (cS X.K W mu)) (h2:PSs X v (cS X.K W mv)):PS X (.If tc u v pos) (cS X.K W (mIfS t mu mv)) := PS.weak (ps_if h h1 h2) c_ifS
theorem rj {tc:Expr} (h:PT X tc (cT X.K W t)) (h1:PSs X u (cS X.K W mu)):PS X (.If tc u [] pos) (cS X.K W (mIfS t mu mNext)) := ri h h1 rz
theorem rr (h:PE X e (cE X.K W m)):PS X (.Return (some e) pos) (cS X.K W (mRet m)) := PS.weak (ps_ret h) c_ret
theorem rd (h:PE X e (cE X.K W m)) (hs:swapsWith e none pos.line X.env=pure false := by rfl):PS X (.Expr e pos) (cS X.K W (mDrop m)) := PS.weak (ps_expr h hs) c_drop
theorem rs (i:Nat) {N ps:List Str} {sc:Scope} {pos':Pos} (S:FnScope N ps sc) (hi:N[i]? = some x) (h:PE X e (cE X.K W m)) (hN:X.N=N := by rfl) (hx:L2.Loc X.env.scope x := by first | exact .inl rfl | exact .inr rfl) (hs:swapsWith e (some (.Name x pos')) pos.line X.env=pure false := by rfl) (hf:X.fn x=true∨X.env.scope.names.lookup x=some .local := by first | exact .inl rfl | exact .inr rfl | assumption) :
 PS X (.Assign [.Name x pos'] e pos) (cS X.K W (mSet m (gN i))) := PS.weak (ps_set (by rw [hN]; exact S.nd) (by rw [hN]; exact hi) hx h hs hf) (c_set tg_name)
end
abbrev WkP (P:Program) (w:World) (K:PySem.W.Frag) (mg:Str→Option Value) (base:Heap) (N:List Str) (q:Str) (st:Stmt) (f:Addr) (k:Nat) (b:MS):Prop :=
 ∀ (cdv:Value) (A:Around) (outer:List Env) (s:Shared) (H:Hp) (E:XK),Room k (A.deeper (envOfC q (defScope st) s.heap.objs.size f cdv))→PSs (cxOf (L2.CX P w) P w K mg base N q (defScope st) f cdv A outer s H E) (defBody st) (cS K (WD E) b)
theorem wk_in {P:Program} {w:World} {K:PySem.W.Frag} {mg:Str→Option Value} {base:Heap} {N:List Str} {q:Str} {st:Stmt} {f:Addr} {k:Nat} {b:MS}
  (h:∀ (cdv:Value) (A:Around) (outer:List Env) (s:Shared) (H:Hp) (E:XK),Room k (A.deeper (envOfC q (defScope st) s.heap.objs.size f cdv))→Takes (cxOf (L2.CX P w) P w K mg base N q (defScope st) f cdv A outer s H E) (WD E)→(∀ σ,PassesAt (L2.CX P w) (cxOf (L2.CX P w) P w K mg base N q (defScope st) f cdv A outer s H E) σ (WE (WD E) σ))→PassesOwn (model P w) (cxOf (L2.CX P w) P w K mg base N q (defScope st) f cdv A outer s H E).A (cxOf (L2.CX P w) P w K mg base N q (defScope st) f cdv A outer s H E).env (cxOf (L2.CX P w) P w K mg base N q (defScope st) f cdv A outer s H E).xe →
   PSs (cxOf (L2.CX P w) P w K mg base N q (defScope st) f cdv A outer s H E) (defBody st) (cS K (WD E) b)):WkP P w K mg base N q st f k b := fun cdv A outer s H E hr =>
 have tk:Takes (cxOf (L2.CX P w) P w K mg base N q (defScope st) f cdv A outer s H E) (WD E) := takes_of rfl rfl rfl rfl
 h cdv A outer s H E hr tk (fun σ=>passAt tk σ) (passes_of rfl)
abbrev GX (P:Program) (w:World) (K:PySem.W.Frag) (mg:Str→Option Value) (base:Heap) (k:Nat) (f:Addr) (m:FN):Prop := FnR P w K mg base (L2.CX P w) k f (spM K m)
theorem fsc {N P:List Str} {sc:Scope} (a:sc.kind = .function := by rfl) (b:sc.isCoroutine=false := by rfl) (c:sc.isGenerator=false := by rfl) (d:N.Nodup := by decide +kernel) (e:N.take P.length=P := by rfl) (f:∀ x∈P,sc.names.lookup x=some .local∨sc.names.lookup x=some .cell := by decide +kernel) (g:∀ y∈sc.names,y.2≠.free := by decide +kernel):FnScope N P sc := ⟨a,b,c,d,e,f,g⟩
theorem okX {P:Program} {w:World} {K:PySem.W.Frag} {mg:Str→Option Value} {base:Heap} {k:Nat} {f:Addr} {fn:FN} {x qual:Str} {st:Stmt} {N ps:List Str} {b:MS} (F:∃ fd,Fun K x qual st f fd) (S:FnScope N ps (defScope st)) (W:WkP P w K mg base N qual st f k b) (len:∀ vs H Q E,spM K fn vs H Q E→vs.length=ps.length := by exact fun vs H Q E h=>fn_len h)
 (hb:∀ (kV doc pm:Value) (an:Option Addr) (cdv ct:Value) (us:List Value),us.length=ps.length→bindArgs (PySem.W.fnOf x qual (defArgs st) (defBody st) (defScope st) .none kV doc pm an cdv ct) ⟨us,[]⟩=pure (ps.zip us) := by first | exact (fun _ _ _ _ _ _ us hl=>match us,hl with | [_],_=>rfl) | exact (fun _ _ _ _ _ _ us hl=>match us,hl with | [_,_],_=>rfl) | exact (fun _ _ _ _ _ _ us hl=>match us,hl with | [_,_,_],_=>rfl) | exact (fun _ _ _ _ _ _ us hl=>match us,hl with | [_,_,_,_],_=>rfl) | exact (fun _ _ _ _ _ _ us hl=>match us,hl with | [_,_,_,_,_],_=>rfl) | exact (fun _ _ _ _ _ _ us hl=>match us,hl with | [_,_,_,_,_,_],_=>rfl) | exact (fun _ _ _ _ _ _ us hl=>match us,hl with | [_,_,_,_,_,_,_],_=>rfl) | exact (fun _ _ _ _ _ _ us hl=>match us,hl with | [_,_,_,_,_,_,_,_],_=>rfl))
 (hq:∀ H vs Q E,spM K fn vs H Q E→cS K (WD E) b { nx := fun _ H'=>Q .non H',rt := Q } (start N vs) H := by exact fun H vs Q E h=>fn_ok h):GX P w K mg base (k + 1) f fn := fnR_defX F S len hb (fun E=>cS K (WD E) b) W hq
end Am
namespace Am
open PySem PySem.Spec PyProof.Rows L2
end Am
namespace Am
open PySem PySem.Spec PyProof.Rows L2
def strsB:List Value→List Str→Bool
 | [],[]=>true
 | .str y _ :: vs,x :: xs=>y == x && strsB vs xs
 | _,_=>false
theorem strsB_ok:∀ {vs:List Value} {xs:List Str},strsB vs xs=true→Vals (xs.map V.str) vs
 | [],[],_=>.nil
 | .str y t :: vs,x :: xs,h=>by
  unfold strsB at h
  rw [Bool.and_eq_true] at h
  have e:y=x := by simpa using h.1
  subst e
  exact .cons ⟨t,rfl⟩ (strsB_ok h.2)
def tupSB (K:PySem.W.Frag) (a:Addr) (xs:List Str):Bool := match K.lookup a with
 | some ⟨.type n,_, .seq its _,_⟩=>n == "tuple" && decide (its.size≤100) && strsB its.toList xs
 | _=>false
theorem tupSB_ok {K:PySem.W.Frag} {H:Hp} {a:Addr} {xs:List Str} (h:tupSB K a xs=true):SqT K H a (xs.map V.str) := by
 unfold tupSB at h
 split at h
 ·rename_i n od its m sl e
  rw [Bool.and_eq_true,Bool.and_eq_true] at h
  have h1:n = "tuple" := by simpa using h.1.1
  have h2:its.size≤100 := of_decide_eq_true h.1.2
  subst h1
  exact .inr ⟨_,its,m,e,rfl,rfl,Nat.le_trans h2 (by decide),strsB_ok h.2⟩
 ·cases h
def cvB (K:PySem.W.Frag) (C:Addr) (f:Str) (xs:List Str):Bool := PySem.W.readsIn K C (.type "type") && (PySem.W.specialIn K (.ref C) "__getattribute__" == some (some (.builtin "type.__getattribute__"))) && (match PySem.W.findCls K (.ref C) (.type "type") f with
 | some (.val (.ref a))=>tupSB K a xs
 | _=>false)
section
variable {X:Cx} {W:WX} {e:Expr} {f:Str} {pos:Pos} {C:Addr} {xs:List Str}
theorem reps_str {g:Sg}:∀ {xs:List Str},Reps X.K g (xs.map V.str) (xs.map D.str)
 | []=>.nil
 | x :: xs=>.cons (.str x) reps_str
theorem ae_cvT (he:PE X e (tC (V.ref C))) (h:cvB X.K C f xs=true) (hb:attributeBase e f X.env (eval e X.env)=eval e X.env := by rfl):PE X (.Attribute e f pos) (cE X.K W (mC (.ktup (xs.map D.str)))) := by
 unfold cvB at h
 rw [Bool.and_eq_true,Bool.and_eq_true,beq_iff_eq] at h
 obtain ⟨⟨h1,h2⟩,h3⟩ := h
 split at h3
 ·rename_i a e1
  refine ae_c (v := .ref a) (fun g=>.ktup (tupSB_ok h3) reps_str) (PE.weak (ClX.pe_cval he hb) fun σ H Q q=>?_)
  exact ⟨C, .type "type", .ref a, .ref a,rfl,⟨h1,h2⟩,⟨e1,rfl⟩,q⟩
 ·cases h3
end
end Am
namespace Am
open PySem PySem.Spec PyProof.Rows L2
end Am
namespace Am
open PySem PySem.Spec PyProof.Rows L2
end Am
namespace Am
open PySem PySem.Spec PyProof.Rows L2
end Am
namespace Am
open PySem PySem.Spec PyProof.Rows L2
end Am
namespace Am
open PySem PySem.Spec PyProof.Rows L2
end Am
namespace Am
open PySem PySem.Spec PyProof.Rows L2
end Am
namespace Am
open PySem PySem.Spec PyProof.Rows L2
end Am
namespace Am
open PySem PySem.Spec PyProof.Rows L2
end Am
namespace Fm
open PySem PySem.Spec PyProof.Rows L2
end Fm
namespace Am
open PySem PySem.Spec PyProof.Rows L2
end Am
namespace Fm
open PySem PySem.Spec PyProof.Rows L2
def FnG (P:Program) (w:World) (K:PySem.W.Frag) (mg:Str→Option Value) (base:Heap) (CX:CXT) (k:Nat) (f:Addr) (sp:Sp):Prop :=
 ∀ (A:Around) (fs:List Env) (s:Shared) (H:Hp) (us:List Value) (vs:List V) (Q:VK) (E:XK),A.guards=some []→Room k A→Env0 P w K mg base A fs s H→Vals vs us→sp vs H Q E →
  codeAny (model P w) A (.call (.ref f) { pos := us,kw := [] }) (CR CX fs P w H s Q E) s
section
variable {P:Program} {w:World} {K:PySem.W.Frag} {mg:Str→Option Value} {base:Heap} {CX:CXT} {j k:Nat} {f:Addr} {sp sp2:Sp}
theorem FnG.mono (F:FnG P w K mg base CX j f sp) (le:j≤k):FnG P w K mg base CX k f sp := fun A fs s H us vs Q E g hr=>F A fs s H us vs Q E g (hr.mono le)
end
end Fm
namespace Am
open PySem PySem.Spec PyProof.Rows L2 Fm
end Am
namespace Fm
open PySem PySem.Spec PyProof.Rows L2
end Fm
namespace Am
open PySem PySem.Spec PyProof.Rows L2
open Fm (rNeP rInt1)
end Am
namespace Fm
open PySem PySem.Spec PyProof.Rows L2 ItX
end Fm
namespace Am
open PySem PySem.Spec PyProof.Rows L2
open PySem.W (Datum Tup T3 T4)
section
variable {K:PySem.W.Frag} {W:WX} {c fld:Str} {f:FN} {mr:MA}
theorem Wr.itl {g:Sg} {A:AH} {H:Hp} {v:V} {d:D} {xs:List D} (w:Wr K g A H) (r:Rep K g v d) (h:itL A d=some xs):∃ b vs,v = .ref b∧SqL K H b vs∧Reps K g vs xs := by
 cases r with
 | ref hi =>
  have h' := h
  unfold itL at h'
  simp only at h'
  split at h'
  ·rename_i ys e
   cases h'
   obtain ⟨b,vs,e1,p1,p2,p3⟩ := w.nodeL (.ref hi) e
   cases e1
   exact ⟨_,vs,rfl, .inl (.inl p2),p3⟩
  ·cases h'
 | lst h2 h5=>cases h; exact ⟨_,_,rfl, .inl (w.sub.rd h2),h5⟩
 | _=>cases h
end
end Am
namespace Fm
open PySem PySem.Spec PyProof.Rows L2
def growI (acc:List Int) (z:Int):List Int := if z∈acc then acc else acc ++ [z]
def uniqI (zs:List Int):List Int := zs.foldl growI []
theorem code_set_ledI {w:World} {prog:Program} {A:Around} {s:Shared} {E:Value→Shared→Prop} (a:Value) {Q₁:Value→Shared→Prop}
  (h:Q₁ (.ref s.heap.objs.size) { s with heap := s.heap.push { cls := .type "set",dict := none,data := .set #[] 0 (.fresh 0 0 (!w.params.followText "set-order")) } }) :
  codeAny (model prog w) A (.call (.builtin "set.__new__") ⟨[.type "set",a],[]⟩) (wants Q₁ E) s := by
 refine codeAny_of_tree ?_
 show wpAny _ A.in1 (do checkBuiltinCall "set.__new__" ⟨[.type "set",a],[]⟩; again (.builtin "set.__new__" ⟨[.type "set",a],[]⟩)) _ _ s
 refine wpAny_bind (wpAny_of_eq (PySem.F.newCall_set_1 a) (wpAny_pure ⟨plainId_quiet PySem.F.plain_set_new _,codeAny_builtin PySem.F.entry_set_new ?_⟩))
 rw [Around.under_plainId PySem.F.plain_set_new _]
 unfold Builtin.«set.__new__» Builtin.Frozenset.newClass
 have hsub := sub_set_self
 obtain ⟨hp,g,d,tk,os⟩ := s
 dsimp only
 wp_walk
 refine wpAny_askSetting (wpAny_pure ?_)
 dsimp only
 simp only [newObj]
 refine wpAny_bind (wpAny_alloc (wpAny_pure ?_))
 exact wpAny_pure h
section
variable {prog:Program} {w:World} {A:Around} {R:Result→Shared→Prop} {it T:Addr} {fp wr:List Addr} {G:Array GenState→Array GenState→Prop} {n:Nat} {P:Nat→Value→Prop} {St:Nat→Shared→Prop} {zs:List Int}
def GotI (w:World) (zs:List Int) (T:Addr) (i:Nat) (h:Heap):Prop := SetR w h T (fun z=>decide (z∈zs.take i)) (uniqI (zs.take i)).length
theorem GotI.keep {i:Nat} {h h':Heap} (q:GotI w zs T i h) (k:∀ o,h.get? T=some o→h'.get? T=some o):GotI w zs T i h' := SetR.at q k
variable {l:Addr} {vs:Array Value} {s:Shared} {E:Value→Shared→Prop} {Q:Value→Shared→Prop}
end
def rSetL (K:PySem.W.Frag) (w:World):List V→Hp→VK→Prop := fun xs H Q=>∃ (l:Addr) (ns:List Int),xs=[.ref l]∧SqL K H l (ns.map V.int)∧ns.length≤100∧∀ p,H p=none→Q (.ref p) (upd H p (SetO w p (fun k=>decide (k∈ns)) (uniqI ns).length))
end Fm
namespace Am
open PySem PySem.Spec PyProof.Rows L2
open Fm (rSetL uniqI)
end Am
namespace Am
open PySem PySem.Spec PyProof.Rows L2
end Am
namespace Fm
open PySem PySem.Spec PyProof.Rows L2
end Fm
namespace Fm
open PySem PySem.Spec PyProof.Rows L2
end Fm
namespace Fm
open PySem PySem.Spec PyProof.Rows L2
end Fm
namespace Fm
open PySem PySem.Spec PyProof.Rows L2 RZ
open PySem.Builtin.SmallTypes (nextOf ownedTupleIsFree ownedTupleHandOut)
end Fm
namespace Am
open PySem PySem.Spec PyProof.Rows L2
end Am
namespace Am
open PySem PySem.Spec PyProof.Rows L2
open Fm (xcO tTryKp tXk rIsK)
section
variable {K:PySem.W.Frag} {W:WX} {g:Sg} {s:Sl} {A:AH} {Q:QE} {E:QX}
theorem RepS.same {σ:L2.St} {j:Nat} {v:V} {d:D} (h:RepS K g σ s) (e:σ[j]? = some (some v)) (r:Rep K g v d):RepS K g σ (s.set j (some d)) := by
 have := h.set (i := j) r
 rwa [show σ.set j (some v)=σ from by
  refine List.ext_getElem? fun k=>?_
  by_cases q:j=k
  ·subst q
   rw [List.getElem?_set_self ((List.getElem?_eq_some_iff.mp e).1),e]
  ·rw [List.getElem?_set_ne q]] at this
theorem Rep.exn_inv {v:V} {a:Addr} {cls:Value} {d:Option Addr} {c:Str} {fs:List (Str × D)} (r:Rep K g v (.exn a cls d c fs)):v = .ref a∧cls = .ref (He.ga K c)∧((∃ dd fvs,d=some dd∧g.S dd=some (.xd fvs)∧fvs.map (·.1)=fs.map (·.1)∧Reps K g (fvs.map (·.2)) (fs.map (·.2)))∨(d=none∧fs=[])) := by
 cases r with
 | exn h1 h2 h3=>exact ⟨rfl,rfl, .inl ⟨_,_,rfl,h1,h2,h3⟩⟩
 | exn0=>exact ⟨rfl,rfl, .inr ⟨rfl,rfl⟩⟩
theorem Rep.exk_inv {v:V} {c:Str} {fs:List (Str × D)} (r:Rep K g v (.exk c fs)):∃ a,v = .ref a∧((∃ dd fvs,g.S a=some (xcO a (.ref (He.ga K c)) (some dd))∧g.S dd=some (.xd fvs)∧fvs.map (·.1)=fs.map (·.1)∧Reps K g (fvs.map (·.2)) (fs.map (·.2)))∨(g.S a=some (xcO a (.ref (He.ga K c)) none)∧fs=[])) := by
 cases r with
 | exk h0 h1 h2 h3=>exact ⟨_,rfl, .inl ⟨_,_,h0,h1,h2,h3⟩⟩
 | exk0 h0=>exact ⟨_,rfl, .inr ⟨h0,rfl⟩⟩
def mTryK (tab:List (Str × Bool)) (i j:Nat) (mb:MS) (ms:Addr→Value→Option Addr→MS):MS := fun D s A =>
 mb { D with ex := fun x s' A'=>∃ b,tab.lookup x.c=some b∧(b=true→∀ a cls d,ms a cls d { nx := fun s2 A2=>∃ c fs,s2[j]? = some (some (.exn a cls d c fs))∧D.nx ((s2.set j (some (.exk c fs))).set i none) A2,rt := fun _ _=>False,bk := fun _ _=>False,ct := fun _ _=>False,ex := fun _ _ _=>False } (s'.set i (some (.exn a cls d x.c x.fs))) A')∧(b=false→D.ex x s' A') } s A
theorem c_tryK {tab:List (Str × Bool)} {i j:Nat} {mb:MS} {ms:Addr→Value→Option Addr→MS} {cV:Value} (ht:∀ p∈tab,PySem.W.exmOne K (.ref (He.ga K p.1)) cV=some p.2) :
  ∀ D σ H,cS K W (mTryK tab i j mb ms) D σ H→tTryKp K cV i (fun W'=>cS K W' mb) (fun a cls d=>cS K WF (ms a cls d)) W D σ H := fun D σ H ⟨g,s,A,Da,w,rs,h,q⟩ =>
 ⟨g,s,A,_,w,rs,h,⟨q.nx,q.rt,q.bk,q.ct,fun g1 A1 H1 σ1 s1 x cls dd st1 w1 rs1 rx ⟨b,hb,hy,hn⟩=>by
  have hcl := rx.1
  subst hcl
  refine ⟨b,ht _ (lookup_mem hb),fun eb a na=>?_,fun eb=>q.ex _ _ _ _ _ _ _ _ st1 w1 rs1 rx (hn eb)⟩
  have q1 := q.step st1
  have re:Rep K g1 (.ref a) (.exn a (.ref (He.ga K x.c)) dd x.c x.fs) := by
   rcases rx.2 with ⟨a0,fvs,e0,hS,hk,hr⟩ | ⟨e0,e1⟩
   ·subst e0; exact .exn hS hk hr
   ·subst e0; rw [e1]; exact .exn0
  refine ⟨g1,_,A1,_,w1,rs1.set re,hy eb a _ _,⟨fun g2 A2 H2 σ2 s2 st2 w2 rs2 ⟨c,fs,hj,h2⟩ free=>?_,fun _ _ _ _ _ _ _ _ z=>z.elim,fun _ _ _ _ _ _ _ _ z=>z.elim,fun _ _ _ _ _ _ _ _ z=>z.elim,fun _ _ _ _ _ _ _ _ _ _ _ _ z=>z⟩⟩
  obtain ⟨v,ev,rv⟩ := rs2.at_ j _ hj
  obtain ⟨rfl,ecl,hv⟩ := rv.exn_inv
  obtain ⟨w3,st3⟩ := w2.new (o := xcO a (.ref (He.ga K x.c)) dd) free
  have hd:Rep K ⟨upd g2.S a (xcO a (.ref (He.ga K x.c)) dd),g2.i⟩ (.ref a) (.exk c fs) := by
   rcases hv with ⟨d2,fvs,e2,hS,hk,hr⟩ | ⟨e2,e3⟩
   ·subst e2
    exact .exk (by rw [ecl]; exact upd_same) (st3.le.s _ _ hS) hk (hr.mono st3.le)
   ·subst e2
    subst e3
    exact .exk0 (by rw [ecl]; exact upd_same)
  exact q1.nx _ _ _ _ _ (st2.trans st3) w3 (((rs2.mono st3.le).same ev hd).unset) h2⟩⟩
def mXk (cs:List Str) (f:Str) (i:Nat):ME := fun s A Q _=>∃ c fs v,s[i]? = some (some (.exk c fs))∧c∈cs∧fs.lookup f=some v∧Q v A
theorem c_xk {cs:List Str} {f:Str} {i:Nat}:∀ σ H Q,cE K W (mXk cs f i) σ H Q→tOrs cs (fun c=>tXk (He.ga K c) f (tVar i)) σ H Q := fun σ H Q ⟨g,s,A,Qa,Ea,w,rs,⟨c,fs,v,h1,h2,h3,h4⟩,q,qx⟩=>by
 obtain ⟨u,e1,r⟩ := rs.at_ i _ h1
 obtain ⟨a,rfl,⟨dd,fvs,h0,hS,hk,hr⟩ | ⟨_,e⟩⟩ := r.exk_inv
 ·obtain ⟨z,z1,z2⟩ := KReps.look (K := K) (g := g) ⟨hk,hr⟩ h3
  exact ⟨c,h2,_,e1,a,dd,fvs,z,rfl,w.sub.at_ h0 (by constructor <;> intro _ z <;> cases z),w.sub.at_ hS (by constructor <;> intro _ z <;> cases z),z1,q.now w z2 h4⟩
 ·rw [e] at h3; cases h3
theorem pv_xk {cs:List Str} {f c:Str} {i:Nat} {fs:List (Str × D)} {v:D} (h:s[i]? = some (some (.exk c fs))) (hc:c∈cs) (hf:fs.lookup f=some v):Pv (mXk cs f i) s A v := fun Q E q=>⟨c,fs,v,h,hc,hf,q⟩
def mIsK (tab:List (Str × Bool)) (i:Nat):ME := fun s A Q _=>∃ c fs b,s[i]? = some (some (.exk c fs))∧tab.lookup c=some b∧Q (.bl b) A
theorem c_isK {tab:List (Str × Bool)} {i:Nat} {c:V} {cv:Value} (hc:∀ u,RelV c u→u=cv) (ht:∀ p∈tab,PySem.W.kitOne K (.ref (He.ga K p.1)) cv=some p.2) :
  ∀ σ H Q,cE K W (mIsK tab i) σ H Q→tOrs (tab.map (·.1)) (fun n=>tCB (rIsK K (He.ga K n)) (tCons (tVar i) (tCons (tC c) tNil))) σ H Q := fun σ H Q ⟨g,s,A,Qa,Ea,w,rs,⟨n,fs,b,h1,h2,h3⟩,q,qx⟩=>by
 obtain ⟨u,e1,r⟩ := rs.at_ i _ h1
 have hm := lookup_mem h2
 obtain ⟨a,rfl,⟨dd,fvs,h0,hS,hk,hr⟩ | ⟨h0,e⟩⟩ := r.exk_inv
 ·exact ⟨n,List.mem_map.mpr ⟨_,hm,rfl⟩,_,e1,a,some dd,c,cv,b,rfl,w.sub.at_ h0 (by constructor <;> intro _ z <;> cases z),fun d2 e2=>by cases e2; exact ⟨fvs,w.sub.at_ hS (by constructor <;> intro _ z <;> cases z)⟩,hc,ht _ hm,q.now w (.bl _) h3⟩
 ·exact ⟨n,List.mem_map.mpr ⟨_,hm,rfl⟩,_,e1,a,none,c,cv,b,rfl,w.sub.at_ h0 (by constructor <;> intro _ z <;> cases z),(fun d2 e2=>nomatch e2),hc,ht _ hm,q.now w (.bl _) h3⟩
theorem pv_isK {tab:List (Str × Bool)} {c:Str} {i:Nat} {fs:List (Str × D)} {b:Bool} (h:s[i]? = some (some (.exk c fs))) (hb:tab.lookup c=some b):Pv (mIsK tab i) s A (.bl b) := fun Q E q=>⟨c,fs,b,h,hb,q⟩
end
end Am
namespace Am
open PySem PySem.Spec PyProof.Rows L2
end Am
namespace Fm
open PySem PySem.Spec PyProof.Rows L2
def growS (acc:List Str) (z:Str):List Str := if z∈acc then acc else acc ++ [z]
def uniqS (zs:List Str):List Str := zs.foldl growS []
theorem uniqS_snoc (zs:List Str) (z:Str):uniqS (zs ++ [z])=growS (uniqS zs) z := by unfold uniqS; rw [List.foldl_append]; rfl
theorem uniqS_mem (zs:List Str):∀ z,z∈uniqS zs↔z∈zs := by
 have go:∀ (zs acc:List Str) z,z∈zs.foldl growS acc↔z∈acc∨z∈zs := by
  intro zs
  induction zs with
  | nil=>intro acc z; simp
  | cons y r ih =>
   intro acc z
   rw [List.foldl_cons,ih]
   unfold growS
   by_cases h:y∈acc
   ·rw [if_pos h,List.mem_cons]
    exact ⟨fun q=>q.elim .inl fun q=>.inr (.inr q),fun q=>q.elim .inl fun q=>q.elim (fun e=>.inl (e ▸ h)) .inr⟩
   ·rw [if_neg h,List.mem_append,List.mem_singleton,List.mem_cons]
    exact ⟨fun q=>q.elim (fun q=>q.elim .inl fun e=>.inr (.inl e)) fun q=>.inr (.inr q),fun q=>q.elim (fun q=>.inl (.inl q)) fun q=>q.elim (fun e=>.inl (.inr e)) .inr⟩
 intro z
 have := go zs [] z
 simpa [uniqS] using this
theorem uniqS_len (zs:List Str):(uniqS zs).length≤zs.length := by
 have go:∀ (zs acc:List Str),(zs.foldl growS acc).length≤acc.length + zs.length := by
  intro zs
  induction zs with
  | nil=>intro acc; exact Nat.le_refl _
  | cons y r ih =>
   intro acc
   have h1 := ih (growS acc y)
   have h2:(growS acc y).length≤acc.length + 1 := by unfold growS; split <;> simp
   rw [List.foldl_cons,List.length_cons]
   omega
 have := go zs []
 simpa [uniqS] using this
theorem uniqS_nd (zs:List Str):(uniqS zs).Nodup := by
 have go:∀ (zs acc:List Str),acc.Nodup→(zs.foldl growS acc).Nodup := by
  intro zs
  induction zs with
  | nil=>intro acc h; exact h
  | cons y r ih =>
   intro acc h
   rw [List.foldl_cons]
   refine ih _ ?_
   unfold growS
   split
   ·exact h
   ·rename_i hm
    rw [List.nodup_append]
    exact ⟨h,by simp,fun a ha b hb e=>hm (by rw [List.mem_singleton.mp hb] at e; rw [← e]; exact ha)⟩
 exact go zs [] .nil
theorem nd_len {α:Type} [DecidableEq α]:∀ {l m:List α},l.Nodup→(∀ x∈l,x∈m)→l.length≤m.length
 | [],_,_,_=>Nat.zero_le _
 | a :: l,m,h,hs=>by
  rw [List.nodup_cons] at h
  have ha := hs a (List.mem_cons_self ..)
  have := nd_len (l := l) (m := m.erase a) h.2 fun x hx=>(List.mem_erase_of_ne (fun e=>h.1 (by rw [← e]; exact hx))).mpr (hs x (List.mem_cons_of_mem _ hx))
  rw [List.length_erase_of_mem ha] at this
  have := List.length_pos_of_mem ha
  rw [List.length_cons]
  omega
theorem nd_full {α:Type} [DecidableEq α] {l m:List α} (h:l.Nodup) (hs:∀ x∈l,x∈m) (e:m.length≤l.length):∀ x∈m,x∈l := fun x hx=>Classical.byContradiction fun n=>by
 have := nd_len (l := x :: l) (m := m) (List.nodup_cons.mpr ⟨n,h⟩) fun y hy=>by
  rcases List.mem_cons.mp hy with e | hy
  ·rw [e]; exact hx
  ·exact hs y hy
 rw [List.length_cons] at this
 omega
theorem slot_set_eq:Slot "set" (cmpInfo .Eq).2.1 "set.__eq__" :=
 .of (owner := "set") (n := "__eq__") (by rw [typeLookup_type,builtinLookup_eq_fast]; kernel_rfl) (by decide +kernel) (by decide +kernel) (by decide +kernel)
  (by first | exact .inl (by decide +kernel) | exact .inr (by decide +kernel)) (by rw [isSubtype_type]; kernel_rfl)
theorem entry_set_eq:entryFor table "set.__eq__" = some Builtin.«frozenset.__eq__» :=
 entryFor_alias (id' := "frozenset.__eq__") (by kernel_rfl) rfl (by decide +kernel) (by kernel_rfl)
theorem args_set_eq (a b:Value):argsOk "set.__eq__" ⟨[a,b],[]⟩ := by unfold argsOk; kernel_rfl
section
variable {prog:Program} {w:World} {A:Around} {E:Value→Shared→Prop} {s:Shared} {a b:Addr} {S T:Str→Bool} {n m:Nat}
theorem set_ty {S:Str→Bool} (d:s.heap.SetOf (PySem.strKind prog w) a S n):s.TypeIs (.ref a) "set" := by
 obtain ⟨o,es,ep,t,ho,hx,_⟩ := d
 exact ⟨o,ho,hx.1⟩
theorem sz_of {S:Str→Bool} {Q:Nat→Shared→Prop} (d:s.heap.SetOf (PySem.strKind prog w) a S n) (h:Q n s):wpAny (model prog w) A (Builtin.Frozenset.sizeOf a) Q E s := by
 obtain ⟨o,es,ep,t,ho,_,hd,_,_,_,hf,hn⟩ := d
 unfold Builtin.Frozenset.sizeOf setEntries
 refine wpAny_bind (wpAny_bind (wpAny_setState_of ho hd hf (wpAny_pure (wpAny_pure ?_))))
 subst hn
 exact h
theorem any_set {S:Str→Bool} {Q:Bool→Shared→Prop} (d:s.heap.SetOf (PySem.strKind prog w) a S n) (h:Q true s):wpAny (model prog w) A (Builtin.Frozenset.isAnySet (.ref a)) Q E s := by
 unfold Builtin.Frozenset.isAnySet
 refine wpAny_bind (wpAny_isInstance (T := "set") (set_ty d) PySem.F.sub_set_set ?_)
 exact wpAny_pure h
theorem sub_of {fid:String} {Q:Bool→Shared→Prop} (da:s.heap.SetOf (PySem.strKind prog w) a S n) (db:s.heap.SetOf (PySem.strKind prog w) b T m) (hn:n≤m) (h:∀ r:Bool,(r=true→∀ k,S k=true→T k=true)→(r=false→∃ k,S k=true∧T k=false)→Q r s) :
  wpAny (model prog w) A (Builtin.Frozenset.subsetOf fid a b) Q E s := by
 unfold Builtin.Frozenset.subsetOf
 refine wpAny_bind (sz_of da ?_)
 refine wpAny_bind (sz_of db ?_)
 rw [if_neg (by omega)]
 obtain ⟨o,es,ep,t,ho,hx,hd,hel,hm,hb,hf,hs⟩ := id da
 obtain ⟨o2,es2,ep2,t2,ho2,hx2,hd2,hel2,hm2,hb2,hf2,hs2⟩ := id db
 refine wpAny_bind (wpAny_setEpoch_of ho hd hf ?_)
 have walk:∀ {Q:List (Int × Value)→Shared→Prop},Q es.toList s→wpAny (model prog w) A (Builtin.Frozenset.walkUnseen a b) Q E s := fun {Q} q=>by
  unfold Builtin.Frozenset.walkUnseen setEntries
  refine wpAny_bind (wpAny_bind (wpAny_setState_of ho hd hf (wpAny_pure ?_)))
  refine wpAny_bind (wpAny_bind (wpAny_setState_of ho2 hd2 hf2 (wpAny_pure ?_)))
  have isS:∀ e∈(es,ep,t).fst.toList ++ (es2,ep2,t2).fst.toList,∃ k tk,e.2=Value.str k tk := fun e he=>by
   have one:∀ {l:List (Int × Value)},ElemsOf (PySem.strKind prog w) l→e∈l→∃ k tk,e.2=Value.str k tk := fun h1 h2=>by
    obtain ⟨⟨k,h3,_⟩,_⟩ := h1 e h2
    obtain ⟨tk,e1⟩ := Value.isStrOf_shape (x := k) (v := e.2) h3
    exact ⟨k,tk,e1⟩
   rcases List.mem_append.mp he with h1 | h1
   ·exact one hel h1
   ·exact one hel2 h1
  refine wpAny_bind (wpAny_forIn_list _ (fun rest b s'=>s' = s∧b=(none,())∧∀ e∈rest,∃ k tk,e.2=Value.str k tk) _ ?_ ?_ _ _ ⟨rfl,rfl,isS⟩)
  ·rintro ⟨hh,x⟩ rest b s' ⟨rfl,rfl,hr⟩
   obtain ⟨k,tk,e1⟩ := hr _ (List.mem_cons_self ..)
   cases e1
   refine wpAny_bind (m := Builtin.Frozenset.quietEq (.str k tk)) (wpAny_pure ?_)
   rw [if_neg (by decide)]
   exact wpAny_pure ⟨rfl,rfl,fun e he=>hr e (List.mem_cons_of_mem _ he)⟩
  ·rintro b s' ⟨rfl,rfl,_⟩
   exact wpAny_pure q
 refine wpAny_bind (walk ?_)
 refine wpAny_bind (wpAny_forIn_list _ (fun rest b s'=>s' = s∧b=(none,())∧∃ pre,es.toList=pre ++ rest∧∀ e∈pre,∀ k,(PySem.strKind prog w).is k e.2=true→T k=true) _ ?_ ?_ _ _ ⟨rfl,rfl,[],rfl,fun _ h=>nomatch h⟩)
 ·rintro ⟨hh,x⟩ rest b' s' ⟨rfl,rfl,pre,hp,hT⟩
  have hmem:(hh,x)∈es.toList := by rw [hp]; simp
  obtain ⟨⟨k,h3,h4⟩,h5⟩ := hel _ hmem
  have h4:hh=(PySem.strKind prog w).hash k := h4
  subst h4
  refine wpAny_bind (wpAny_holding (wpAny_setFind_of h3 h5 db fun r hr=>?_))
  cases r with
  | none =>
   rw [if_pos (show (none:Option Nat).isNone=true from rfl)]
   exact wpAny_pure (wpAny_pure (h false (fun e=>nomatch e) fun _=>⟨k,(hm k).mpr ⟨_,hmem,h3⟩,hr.symm⟩))
  | some j =>
   rw [if_neg (show ¬ (some j:Option Nat).isNone=true from fun e=>nomatch e)]
   unfold Builtin.Frozenset.unchanged
   refine wpAny_bind (wpAny_bind (wpAny_setEpoch_of ho hd hf ?_))
   rw [if_neg (by simp)]
   refine wpAny_pure (wpAny_pure ⟨rfl,rfl,pre ++ [((PySem.strKind prog w).hash k,x)],by rw [hp]; simp,fun e he k' hk'=>?_⟩)
   rcases List.mem_append.mp he with he | he
   ·exact hT e he k' hk'
   ·rw [List.mem_singleton.mp he] at hk'
    have := (PySem.strKind prog w).inj _ _ _ hk' h3
    rw [this]
    exact hr.symm
 ·rintro b' s' ⟨rfl,rfl,pre,hp,hT⟩
  rw [List.append_nil] at hp
  exact wpAny_pure (h true (fun _ k hk=>by
   obtain ⟨e,he,hi⟩ := (hm k).mp hk
   exact hT e (hp ▸ he) k hi) fun e=>nomatch e)
theorem set_eq {Q:Value→Shared→Prop} (da:s.heap.SetOf (PySem.strKind prog w) a S n) (db:s.heap.SetOf (PySem.strKind prog w) b T m) (hu:A.units < cLine) (h:∀ r:Bool,(r=true→n=m∧∀ k,S k=true→T k=true)→(r=false→n≠m∨∃ k,S k=true∧T k=false)→Q (.bool r) s) :
  wpAny (model prog w) A (compareOp .Eq (.ref a) (.ref b)) Q E s := by
 refine wpAny_richCompare_same_room (op := .Eq) (set_ty da) (set_ty db) slot_set_eq (wpAny_call_entry slot_set_eq (set_ty da) entry_set_eq ?_ (args_set_eq _ _)) hu
 show wpAny _ _ (Builtin.Frozenset.slot1 "__eq__" ⟨[.ref a, .ref b],[]⟩ >>= _) _ _ s
 refine wpAny_bind ?_
 unfold Builtin.Frozenset.slot1
 refine wpAny_bind (m := slotArgs "__eq__" 1 _) (wpAny_pure ?_)
 refine wpAny_pure ?_
 refine wpAny_bind (any_set db ?_)
 rw [if_neg (by decide)]
 refine wpAny_bind (m := Builtin.Frozenset.addrOf (.ref a)) (wpAny_pure ?_)
 refine wpAny_bind (m := Builtin.Frozenset.addrOf (.ref b)) (wpAny_pure ?_)
 refine wpAny_bind (sz_of da ?_)
 refine wpAny_bind (sz_of db ?_)
 dsimp only
 refine wpAny_bind ?_
 by_cases e:n=m
 ·rw [if_neg (by simp [e])]
  refine wpAny_bind (wpAny_bind (wpAny_isInstance (T := "set") (set_ty da) PySem.F.sub_set_frozenset (wpAny_pure ?_)))
  rw [if_neg (by decide)]
  refine sub_of da db (by omega) fun r h1 h2=>?_
  refine wpAny_pure ⟨_,rfl,(fun x=>nomatch x),h r (fun er=>⟨e,h1 er⟩) fun er=>.inr (h2 er)⟩
 ·rw [if_pos (by simp [e])]
  refine wpAny_pure ?_
  refine wpAny_pure ⟨_,rfl,(fun x=>nomatch x),h false (fun er=>nomatch er) fun _=>.inl e⟩
end
section
variable {prog:Program} {w:World} {A:Around} {R:Result→Shared→Prop} {it T:Addr} {fp wr:List Addr} {G:Array GenState→Array GenState→Prop} {n:Nat} {P:Nat→Value→Prop} {St:Nat→Shared→Prop} {zs:List Str}
def GotS (P:Program) (w:World) (zs:List Str) (T:Addr) (i:Nat) (h:Heap):Prop := h.SetOf (PySem.strKind P w) T (fun z=>decide (z∈zs.take i)) (uniqS (zs.take i)).length
theorem GotS.keep {i:Nat} {h h':Heap} (q:GotS prog w zs T i h) (k:∀ o,h.get? T=some o→h'.get? T=some o):GotS prog w zs T i h' := by obtain ⟨o,es,ep,t,ho,r⟩ := q; exact ⟨o,es,ep,t,k _ ho,r⟩
theorem put_allS (wk:WalksS prog w A.in1 it fp wr G n P St) (out:T ∉ fp) (hl:zs.length=n) (few:n≤100) (hv:∀ i v,P i v→∃ t,v=Value.str (zs.getD i Str.empty) t) :
  ∀ d i:Nat,i + d=n→∀ st:Shared,St i st→GotS prog w zs T i st.heap→(∀ s2,Moved (T :: wr) G st s2→GotS prog w zs T n s2.heap→R (.ok (.ret .none)) s2) →
   codeAny (model prog w) A (.builtin "set.update.loop" ⟨[.ref T, .ref it],[]⟩) R st := by
 have outw:T ∉ wr := fun h=>out (wk.sub _ h)
 have more:∀ b∈wr,b∈T :: wr := fun b hb=>List.mem_cons_of_mem _ hb
 intro d
 induction d with
 | zero =>
  intro i e st hst got fin
  obtain rfl:i=n := e
  refine codeAny_builtin (PyProof.Rows.F.entry_set_update_loop) ?_
  rw [(Around.under_plainId PyProof.Rows.F.plain_set_update_loop _)]
  show wpAny _ A.in1 (pyNext (.ref it) >>= _) _ _ st
  refine wpAny_bind (wk.done st _ _ hst fun s2 mv=>?_)
  show wpAny _ A.in1 (ret Value.none) _ _ s2
  exact wpAny_pure (fin s2 (mv.mono more) (got.keep fun o q=>mv.heap T _ outw q))
 | succ d ih =>
  intro i e st hst got fin
  have hi:i < n := by omega
  refine codeAny_builtin (PyProof.Rows.F.entry_set_update_loop) ?_
  rw [(Around.under_plainId PyProof.Rows.F.plain_set_update_loop _)]
  show wpAny _ A.in1 (pyNext (.ref it) >>= _) _ _ st
  refine wpAny_bind (wk.item i st _ _ hi hst fun v s2 hp hst2 mv=>?_)
  obtain ⟨t,rfl⟩ := hv i v hp
  have got2:GotS prog w zs T i s2.heap := got.keep fun o q=>mv.heap T _ outw q
  obtain ⟨z,hz⟩:∃ z,z=zs.getD i Str.empty := ⟨_,rfl⟩
  have hat:zs[i]? = some z := by
   have:i < zs.length := by omega
   rw [hz,List.getD_eq_getElem?_getD,List.getElem?_eq_getElem this]; rfl
  have etk:zs.take (i + 1)=zs.take i ++ [z] := by rw [List.take_succ,hat]; rfl
  rw [← hz]
  show wpAny _ A.in1 (holding [Value.str z t] (setAdd T (.str z t)) >>= _) _ _ s2
  refine wpAny_bind (wpAny_holding ?_)
  unfold setAdd
  refine wpAny_holding (wpAny_bind ((PySem.strKind prog w).pyHash (k := z) (strKind_is prog w z t) ?_))
  have room:(uniqS (zs.take i)).length + 1 < scanBound := by
   have h1 := uniqS_len (zs.take i)
   have h2 := List.length_take_le i zs
   unfold scanBound
   omega
  refine wpAny_setAddHashed_of (knd := PySem.strKind prog w) (s := { s2 with toks := s2.toks + 1 }) (strKind_is prog w z t) rfl got2 room fun h' sb got3=>?_
  have got4:GotS prog w zs T (i + 1) h' := by
   unfold GotS
   rw [etk,uniqS_snoc]
   have e:(if decide (z∈zs.take i)=true then (uniqS (zs.take i)).length else (uniqS (zs.take i)).length + 1)=(growS (uniqS (zs.take i)) z).length := by
    unfold growS
    by_cases hm:z∈zs.take i
    ·rw [if_pos ((uniqS_mem _ _).mpr hm),if_pos (decide_eq_true hm)]
    ·rw [if_neg (fun q=>hm ((uniqS_mem _ _).mp q)),if_neg (by rw [decide_eq_false hm]; simp),List.length_append]; rfl
   refine SetOf_congr got3 (fun k=>?_) ?_
   ·rw [Bool.eq_iff_iff]; simp
   ·rw [← e]
  have stay:∀ b,b≠T→∀ o,s2.heap.get? b=some o→h'.get? b=some o := fun b hb o q=>(sb.2 b hb).trans q
  refine wpAny_pure ⟨plainId_quiet (PyProof.Rows.F.plain_set_update_loop) _,ih (i + 1) (by omega) _ (wk.frame _ s2 _ _ hst2 (Nat.le_succ _) fun b hb=>stay b fun q=>out (q ▸ hb)) got4 fun s3 mv3 got5=>?_⟩
  exact fin s3 (Moved.trans wk.gtrans ((mv.mono more).then_heap (Nat.le_succ _) fun b o hb q=>stay b (fun q=>hb (q ▸ List.mem_cons_self)) o q) mv3) got5
abbrev blankS (led:Bool):Obj := { cls := .type "set",dict := none,data := .set #[] 0 (.fresh 0 0 led) }
variable {l:Addr} {vs:Array Value} {s:Shared} {E:Value→Shared→Prop} {Q:Value→Shared→Prop}
theorem set_ofS (calm:A.handled=none) (tp:s.heap.IsList l vs) (txt:∀ i v,vs[i]? = some v→∃ t,v=Value.str (zs.getD i Str.empty) t) (nz:zs.length=vs.size) (few:zs.length≤100)
  (fin:∀ (h':Heap) (tk:Nat),GotS prog w zs s.heap.objs.size zs.length h'→OldStay s h'→Q (.ref s.heap.objs.size) { s with heap := h',toks := tk }) :
  wpAny (model prog w) A (call (.type "set") [.ref l]) Q E s := by
 obtain ⟨cc,rest,mro⟩ := PySem.F.called_set.mro
 have q1 := PySem.F.called_set.made; have q2 := PySem.F.called_set.sub; have q3 := PySem.F.called_set.notType
 have q4 := PySem.F.called_set.canCreate; have q5 := PySem.F.typeCall_set_1 (.ref l)
 apply wpAny_call
 apply codeAny_of_tree
 show wpAny _ _ (callAny (.type "set") _) _ _ _
 apply wpAny_pure
 constructor
 ·exact Code.quiet_builtin _ (by decide +kernel)
 apply codeAny_builtin PySem.F.entry_type_call
 rw [Around.under_plain (weight_type_call_type _ _ _) rfl]
 repeat (any_goals (first | assumption | wp_step))
 refine codeAny_mono (code_set_ledI (.ref l) (E := E) (Q₁ := fun x s1=>x = .ref s.heap.objs.size∧s1 = { s with heap := s.heap.push (blankS (!w.params.followText "set-order")) }) ⟨rfl,rfl⟩) fun r s1 hr=>?_
 rcases r with ⟨e⟩ | ⟨fl⟩
 ·exact hr
 cases fl with
 | ret x =>
  obtain ⟨rfl,rfl⟩ := hr
  obtain ⟨led,hled⟩:∃ led,led=(!w.params.followText "set-order") := ⟨_,rfl⟩
  rw [← hled]
  have fresh0:(s.heap.push (blankS led)).SetOf (PySem.strKind prog w) s.heap.objs.size (fun _=>false) 0 := ⟨blankS led,#[],0, .fresh 0 0 led,Heap.get?_push_size _ rfl,⟨rfl,rfl,rfl⟩,rfl,(fun _ h=>nomatch h),(fun k=>by simp),by decide,by cases led <;> rfl,rfl⟩
  have at0:(s.heap.push (blankS led)).get? s.heap.objs.size=some (blankS led) := Heap.get?_push_size _ rfl
  have ty0:Shared.TypeIs { s with heap := s.heap.push (blankS led) } (.ref s.heap.objs.size) "set" := ⟨_,at0,rfl⟩
  have q6 := PySem.F.called_set.init.lookup; have q7 := PySem.F.called_set.init.bind (.ref s.heap.objs.size)
  repeat (any_goals (first | assumption | wp_step))
  refine codeAny_mono (codeAny_call_builtin (R := wants (fun r s2=>r = .none∧∃ h' tk,s2 = { s with heap := h',toks := tk }∧GotS prog w zs s.heap.objs.size zs.length h'∧OldStay s h') E) PySem.F.called_set.init.plain PySem.F.entry_set_init (check_set_init_1 ty0 ?_)) fun r2 s2 hr2=>?_
  ·obtain ⟨⟨oc,od,odt,osl⟩,hol,hcl,nl,hdl⟩ := tp
   simp only at hcl hdl
   subst hcl hdl
   have at1:(s.heap.push (blankS led)).get? l=some { cls := .type "list",dict := od,data := .seq vs nl,slots := osl } := Heap.get?_push_of_some _ hol
   have p1 := PySem.F.sub_list_set; have p2 := PySem.F.sub_list_frozenset
   have p3:(Value.type "list" == Value.type "dict")=false := by decide
   have tp1:(s.heap.push (blankS led)).IsList l vs := ⟨_,at1,rfl,nl,rfl⟩
   unfold Builtin.«set.__init__» noKeywords Builtin.Frozenset.updateFrom
   generalize ePI:pyIter=PI
   wp_walk
   subst ePI
   apply wpAny_pyIter_list tp1
   apply wpAny_bind
   apply wpAny_runValue
   have ll:l < s.heap.objs.size := Heap.lt_size hol
   have sz:(s.heap.push (blankS led)).objs.size=s.heap.objs.size + 1 := Heap.size_push _ _
   have ni:l≠(s.heap.push (blankS led)).objs.size := fun q=>absurd (q.trans (Heap.size_push _ _)) (Nat.ne_of_lt (Nat.lt_succ_of_lt ll))
   have no:s.heap.objs.size ∉ [(s.heap.push (blankS led)).objs.size,l] := by
    intro q
    rcases List.mem_cons.mp q with q | q
    ·rw [Heap.size_push] at q; exact absurd q (Nat.ne_of_lt (Nat.lt_succ_self _))
    ·exact absurd (List.mem_singleton.mp q) (Nat.ne_of_gt ll)
   refine put_allS ((Walks.list (by simp [calm]) _ l ni vs).toS) no nz (by omega) (fun i v hv=>txt i v hv) vs.size 0 (by omega) _ ⟨⟨_,Heap.get?_push_size _ rfl,rfl,rfl⟩,tp1.push _⟩ ?_ fun s3 mv got=>?_
   ·have at2:((s.heap.push (blankS led)).push { cls := .type "list_iterator",data := .fields #[.ref l, .int 0 0] }).get? s.heap.objs.size=some (blankS led) := Heap.get?_push_of_some _ at0
    obtain ⟨o,es,ep,t,ho,r⟩ := fresh0
    exact SetOf_congr ⟨o,es,ep,t,Heap.get?_push_of_some _ ho,r⟩ (fun _=>by simp) rfl
   ·obtain ⟨h3,g3,d3,t3,o3⟩ := s3
    have z1:g3=s.gens := mv.gens
    have z2:d3=s.drawn := mv.drawn
    have z3:o3=s.os := mv.os
    subst z1 z2 z3
    show wpAny _ _ _ _ _ _
    apply wpAny_pure
    show wpAny _ _ (ret Value.none) _ _ _
    refine wpAny_pure (⟨rfl,h3,t3,rfl,nz ▸ got,fun b o hb q=>?_⟩)
    refine mv.heap b o (fun z=>?_) (Heap.get?_push_of_some _ (Heap.get?_push_of_some _ q))
    rcases List.mem_cons.mp z with z | z
    ·exact absurd z (Nat.ne_of_lt hb)
    ·have z := List.mem_singleton.mp z
     rw [Heap.size_push] at z
     exact absurd z (Nat.ne_of_lt (Nat.lt_succ_of_lt hb))
  ·cases r2 with
   | error e=>exact hr2
   | ok fl2 =>
    cases fl2 with
    | ret r =>
     obtain ⟨rfl,h',tk,rfl,got,stay⟩ := hr2
     repeat (any_goals (first | assumption | wp_step))
     exact fin _ _ got stay
    | _=>exact hr2.elim
 | _=>exact hr.elim
end
def SetSL (P:Program) (w:World) (a:Addr) (xs:List Str):HO := .ext fun h=>h.SetOf (PySem.strKind P w) a (fun z=>decide (z∈xs)) (uniqS xs).length
theorem setSL_new {w:World} {P P':Program} {H:Hp} {h:Heap} {a:Addr} {xs:List Str} (R:h.SetOf (PySem.strKind P w) a (fun z=>decide (z∈xs)) (uniqS xs).length):ObjOk P' w H h a (SetSL P w a xs) := by
 have ⟨o,es,ep,t,ho,r⟩ := R
 exact ⟨R,⟨o,ho⟩,fun h1 h2 ⟨o,es,ep,t,ho,r⟩ k=>⟨o,es,ep,t,k _ ho,r⟩⟩
theorem setSL_get {X:Cx} {pins:List (Addr × Obj)} {σ:L2.St} {H:Hp} {s:Shared} {a:Addr} {xs:List Str} (I:Inv X pins σ H s) (ha:H a=some (SetSL X.prog X.w a xs)):s.heap.SetOf (PySem.strKind X.prog X.w) a (fun z=>decide (z∈xs)) (uniqS xs).length := (I.hok a _ ha).1
def rSetS (K:PySem.W.Frag) (P:Program) (w:World):List V→Hp→VK→Prop := fun us H Q=>∃ (l:Addr) (xs:List Str),us=[.ref l]∧SqL K H l (xs.map V.str)∧xs.length≤100∧∀ p,H p=none→Q (.ref p) (upd H p (SetSL P w p xs))
theorem call_setS {X:Cx} (hc:X.calm=true):CallR X (.type "set") (rSetS X.K X.prog X.w) := by
 intro pins s σ H xs us Q I r h
 obtain ⟨l,ns,rfl,hl,few,q⟩ := h
 obtain ⟨u,rfl,ru⟩ := vals1 r
 cases ru
 obtain ⟨its,rv,pl,hz⟩ := I.list hl
 have ln := rv.length
 rw [List.length_map] at ln
 refine set_ofS (zs := ns) (I.ok.hd hc) pl.isList (fun i v hv=>?_) (by rw [List.size_toArray,← ln]) few fun h' tk got stay=>?_
 ·rw [List.getElem?_toArray] at hv
  have hi:i < ns.length := by have := (List.getElem?_eq_some_iff.mp hv).1; omega
  obtain ⟨u,hu,ru⟩ := rv.get (i := i) (by rw [List.getElem?_map,List.getElem?_eq_getElem hi]; rfl)
  rw [hv] at hu
  cases hu
  obtain ⟨t,rfl⟩ := ru
  exact ⟨t,by rw [List.getD_eq_getElem?_getD,List.getElem?_eq_getElem hi]; rfl⟩
 ·have got:h'.SetOf (PySem.strKind X.prog X.w) s.heap.objs.size (fun z=>decide (z∈ns.take ns.length)) (uniqS (ns.take ns.length)).length := got
  rw [List.take_length] at got
  exact ⟨.ref _,_,I.laid (t' := tk) (fun b u e=>stay b u (Heap.lt_size e) e) (Nat.le_refl _) (setSL_new got),rfl,q _ (I.hok.fresh (Nat.le_refl _))⟩
def rSetEq (P:Program) (w:World):R2 := fun x y H Q=>∃ p q xs ys,x = .ref p∧y = .ref q∧H p=some (SetSL P w p xs)∧H q=some (SetSL P w q ys)∧((∀ z,z∈xs↔z∈ys)→Q (.bl true) H)∧(¬ (∀ z,z∈xs↔z∈ys)→Q (.bl false) H)
theorem op_seq {X:Cx} (hu0:X.A.units + 64 < cLine):OpR X (compareOp .Eq) (rSetEq X.prog X.w) := by
 have hu:X.A.units < cLine := Nat.lt_of_le_of_lt (Nat.le_add_right _ 64) hu0
 intro pins s σ H x y v u Q I rx ry h
 obtain ⟨p,q,xs,ys,rfl,rfl,ea,eb,q1,q2⟩ := h
 obtain rfl:v=Value.ref p := rx
 obtain rfl:u=Value.ref q := ry
 have mu:∀ {zs:List Str} (z:Str),z∈uniqS zs↔z∈zs := fun {zs} z=>uniqS_mem zs z
 refine set_eq (setSL_get I ea) (setSL_get I eb) hu fun r h1 h2=>?_
 cases r with
 | true =>
  obtain ⟨e,hs⟩ := h1 rfl
  have sub:∀ z∈xs,z∈ys := fun z hz=>of_decide_eq_true (hs z (decide_eq_true hz))
  have full := nd_full (uniqS_nd xs) (fun z hz=>(mu z).mpr (sub z ((mu z).mp hz))) (Nat.le_of_eq e.symm)
  exact fin_bl I (q1 fun z=>⟨sub z,fun hz=>(mu z).mp (full z ((mu z).mpr hz))⟩) rfl
 | false =>
  refine fin_bl I (q2 fun hz=>?_) rfl
  rcases h2 rfl with e | ⟨k,k1,k2⟩
  ·refine e (Nat.le_antisymm (nd_len (uniqS_nd xs) fun z h=>(mu z).mpr ((hz z).mp ((mu z).mp h))) (nd_len (uniqS_nd ys) fun z h=>(mu z).mpr ((hz z).mpr ((mu z).mp h))))
  ·exact of_decide_eq_false k2 ((hz k).mp (of_decide_eq_true k1))
end Fm
namespace Am
open PySem PySem.Spec PyProof.Rows L2
open Fm (rSetS rSetEq SetSL)
def mSetEq (ma mb:ME):ME := fun s A Q E=>ma s A (fun d A1=>∃ xs:List Str,itL A1 d=some (xs.map D.str)∧xs.length≤100∧mb s A1 (fun d2 A2=>∃ ys:List Str,itL A2 d2=some (ys.map D.str)∧ys.length≤100∧((∀ z,z∈xs↔z∈ys)→Q (.bl true) A2)∧(¬ (∀ z,z∈xs↔z∈ys)→Q (.bl false) A2)) E) E
section
variable {K:PySem.W.Frag} {W:WX} {ma mb:ME}
theorem reps_strI {g:Sg}:∀ {zs:List Str} {vs:List V},Reps K g vs (zs.map D.str)→vs=zs.map V.str
 | [],_,h=>by cases h; rfl
 | z :: zs,_,h=>by
  cases h with
  | cons h1 h2=>rw [h1.str_,reps_strI h2]; rfl
theorem not_own {g:Sg} {A:AH} {H:Hp} {p:Addr} (w:Wr K g A H) (np:H p=none):¬ Own g A p := fun ⟨n,x,_,h⟩=>w.ex n p h np
theorem c_setEq {P0:Program} {w0:World}:∀ σ H Q,cE K W (mSetEq ma mb) σ H Q→tOp (rSetEq P0 w0) (tCB (rSetS K P0 w0) (tCons (cE K W ma) tNil)) (tCB (rSetS K P0 w0) (tCons (cE K W mb) tNil)) σ H Q := fun σ H Q ⟨g,s,A,Qa,Ea,w,rs,h,q,qx⟩ =>
 ⟨g,s,A,_,Ea,w,rs,h,fun g1 A1 H1 x dx st1 w1 r1 ⟨xs,h1,h2,h3⟩=>by
  obtain ⟨b,vs,rfl,sq,rp⟩ := w1.itl r1 h1
  have e := reps_strI rp
  subst e
  refine ⟨b,xs,rfl,sq,h2,fun p np=>?_⟩
  obtain ⟨w2,st2⟩ := w1.tmp (o := SetSL P0 w0 p xs) np
  refine ⟨g1,s,A1,_,Ea,w2,rs.mono st1.le,h3,fun g2 A2 H2 y dy st3 w3 r3 ⟨ys,k1,k2,k3,k4⟩=>?_,qx.step (st1.trans st2)⟩
  obtain ⟨b2,vs2,rfl,sq2,rp2⟩ := w3.itl r3 k1
  have e := reps_strI rp2
  subst e
  refine ⟨b2,ys,rfl,sq2,k2,fun p2 np2=>?_⟩
  obtain ⟨w4,st4⟩ := w3.tmp (o := SetSL P0 w0 p2 ys) np2
  have hp:H2 p=some (SetSL P0 w0 p xs) := st3.kp _ _ upd_same (not_own w1 np)
  have hne:p≠p2 := fun e=>by rw [e,np2] at hp; cases hp
  exact ⟨p,p2,xs,ys,rfl,rfl,by rw [upd_ne hne]; exact hp,upd_same,fun hz=>q _ A2 _ _ _ (((st1.trans st2).trans st3).trans st4) w4 (.bl _) (k3 hz),fun hz=>q _ A2 _ _ _ (((st1.trans st2).trans st3).trans st4) w4 (.bl _) (k4 hz)⟩,qx⟩
theorem w_setEq {s:Sl} {A:AH} {Q:QE} {E:QX} {x y:D} {xs ys:List Str} (h1:Pv ma s A x) (h2:Pv mb s A y) (e1:itL A x=some (xs.map D.str)) (e2:itL A y=some (ys.map D.str)) (l1:xs.length≤100) (l2:ys.length≤100) (q1:(∀ z,z∈xs↔z∈ys)→Q (.bl true) A) (q2:¬ (∀ z,z∈xs↔z∈ys)→Q (.bl false) A):mSetEq ma mb s A Q E := h1 _ _ ⟨xs,e1,l1,h2 _ _ ⟨ys,e2,l2,q1,q2⟩⟩
end
end Am
namespace Lw
open PySem PySem.Spec PyProof.Rows L2 Fm Am
open PySem.W (Datum Tup T3 T4)
abbrev css:List Str := ["Wishes"]
def ti_Wishes:List (TyN × Bool) := [(.b "str",false),(.b "int",false),(.b "bool",false),(.b "NoneType",false),(.b "tuple",false),(.b "list",false),(.c "Wishes",true)]
def ti_tuple:List (TyN × Bool) := [(.b "str",false),(.b "int",false),(.b "bool",false),(.b "NoneType",false),(.b "tuple",true),(.b "list",false),(.c "Wishes",false)]
def ts_Wishes:List TyN := [.b "str", .b "int", .b "bool", .b "NoneType", .b "tuple", .b "list", .c "Wishes"]
def tc_FoundError:List (Str × Bool) := [("Unknown",true),("OtherSchema",true)]
def tx_OtherSchema:List (Str × Bool) := [("Unknown",false),("OtherSchema",true)]
def tx_Unknown:List (Str × Bool) := [("Unknown",true),("OtherSchema",false)]
def tx_ValueError:List (Str × Bool) := [("Unknown",true),("OtherSchema",true)]
@[reducible] def b_Wishes_init:MS :=
 (mSFld ["Wishes"] "names" (mVar 0) (mCB fTupOf (mCons (mLc (mSeq (mC (.ktup [(.str "kept"),(.str "let"),(.str "clear"),(.str "full"),(.str "again"),(.str "order"),(.str "eager")]))) (gN 2) (mOr (mB (mOp (fEq false) (mVar 2) (mC (.str "kept")))) (mB (mOp (fIn false) (mVar 2) (mVar 1)))) (mVar 2) [2]) mNil)))
def m_Wishes_init:FN := mFn 2 3 b_Wishes_init
@[reducible] def b_Wishes_contains:MS :=
 (mRet (mOp (fIn false) (mVar 1) (mFld ["Wishes"] "names" (mVar 0))))
def m_Wishes_contains:FN := mFn 2 2 b_Wishes_contains
@[reducible] def b_Wishes_len:MS :=
 (mRet (mCB fLen (mCons (mFld ["Wishes"] "names" (mVar 0)) mNil)))
def m_Wishes_len:FN := mFn 1 1 b_Wishes_len
@[reducible] def b_Wishes_eq:MS :=
 (mRet (mAndV (mIsi ti_Wishes (mVar 1)) (mOp (fEq false) (mFld ["Wishes"] "names" (mVar 0)) (mFld ["Wishes"] "names" (mVar 1)))))
def m_Wishes_eq:FN := mFn 2 2 b_Wishes_eq
def m_law_pool:FN := fPool
def m_law_draw:FN := fDraw
@[reducible] def b_law_word:MS :=
 (mSq (mSet (mC (.str "abcdefghijklmnopqrstuvwxyz")) (gN 2))
  (mSq (mSet (mOp fAdd (mC (.int 1)) (mCall m_law_draw (mCons (mVar 0) (mCons (mC (.int 8)) mNil)))) (gN 3))
  (mSq (mSet (mJoin (mC (.str "")) (mLc (mRng1 (mCons (mVar 3) mNil)) (gN 5) mYes (mOp fIx (mVar 2) (mCall m_law_draw (mCons (mVar 0) (mCons (mC (.int 26)) mNil)))) [5])) (gN 4))
  (mSq (mIfS (mB (mOp (fIn false) (mVar 4) (mVar 1))) (mSet (mOp fIx (mLc (mSeq (mVar 2)) (gN 6) (mB (mOp (fIn true) (mOp fAdd (mSl (mVar 4) mNoPart (mPart (mC (.int 7)))) (mVar 6)) (mVar 1))) (mOp fAdd (mSl (mVar 4) mNoPart (mPart (mC (.int 7)))) (mVar 6)) [6]) (mC (.int 0))) (gN 4)) mNext)
  (mRet (mVar 4))))))
def m_law_word:FN := mFn 2 7 b_law_word
@[reducible] def b_Wishes_of:MS :=
 (mSq (mFor (mSeq (mLst (mCons (mVar 0) (mStar (mVar 1) mNil)))) (gN 2) (mIfS (mB (mOp (fIn true) (mVar 2) (mC (.ktup [(.str "kept"),(.str "let"),(.str "clear"),(.str "full"),(.str "again"),(.str "order"),(.str "eager")])))) (mRz1 "Unknown" "name" (mVar 2)) mNext))
  (mRet (mMakeD "Wishes" m_Wishes_init (mCons (mLst (mCons (mVar 0) (mStar (mVar 1) mNil))) mNil))))
def m_Wishes_of:FN := mStarFn 1 (mFn (1 + 1) 3 b_Wishes_of)
@[reducible] def b_Wishes_or:MS :=
 (mRet (mMakeD "Wishes" m_Wishes_init (mCons (mLst (mStar (mFld ["Wishes"] "names" (mVar 0)) (mStar (mFld ["Wishes"] "names" (mVar 1)) mNil))) mNil)))
def m_Wishes_or:FN := mFn 2 2 b_Wishes_or
@[reducible] def b_Wishes_and:MS :=
 (mRet (mMakeD "Wishes" m_Wishes_init (mCons (mLc (mSeq (mFld ["Wishes"] "names" (mVar 0))) (gN 2) (mB (mOp (fIn false) (mVar 2) (mFld ["Wishes"] "names" (mVar 1)))) (mVar 2) [2]) mNil)))
def m_Wishes_and:FN := mFn 2 3 b_Wishes_and
@[reducible] def b_Wishes_sub:MS :=
 (mRet (mMakeD "Wishes" m_Wishes_init (mCons (mLc (mSeq (mFld ["Wishes"] "names" (mVar 0))) (gN 2) (mB (mOp (fIn true) (mVar 2) (mFld ["Wishes"] "names" (mVar 1)))) (mVar 2) [2]) mNil)))
def m_Wishes_sub:FN := mFn 2 3 b_Wishes_sub
@[reducible] def b_law_is:MS :=
 (mSq (mSet (mLst (mCons (mC (.str "kept")) (mCons (mC (.str "let")) (mCons (mC (.str "clear")) (mCons (mC (.str "full")) (mCons (mC (.str "again")) (mCons (mC (.str "order")) (mCons (mC (.str "eager")) mNil)))))))) (gN 3))
  (mSq (mIfS (mOr (mB (mOp (fEq true) (mFld ["Wishes"] "names" (mVar 0)) (mCB fTupOf (mCons (mLc (mSeq (mVar 3)) (gN 4) (mOr (mB (mOp (fIn false) (mVar 4) (mVar 1))) (mB (mOp (fEq false) (mVar 4) (mC (.str "kept"))))) (mVar 4) [4]) mNil)))) (mB (mOp (fEq true) (mOwnLen "Wishes" m_Wishes_len (mCons (mVar 0) mNil)) (mCB fLen (mCons (mFld ["Wishes"] "names" (mVar 0)) mNil))))) (mRet (mC (.bl false))) mNext)
  (mSq (mIfS (mOr (mNot (mB (mIsi ti_tuple (mFld ["Wishes"] "names" (mVar 0))))) (mOr (mB (mOwnIn false "Wishes" m_Wishes_contains (mVar 2) (mVar 0))) (mB (mOwnEq ts_Wishes "Wishes" m_Wishes_eq (mVar 0) (mFld ["Wishes"] "names" (mVar 0)))))) (mRet (mC (.bl false))) mNext)
  (mRet (mOp (fEq false) (mLc (mSeq (mVar 3)) (gN 4) (mB (mOwnIn false "Wishes" m_Wishes_contains (mVar 4) (mVar 0))) (mVar 4) [4]) (mCB fList (mCons (mFld ["Wishes"] "names" (mVar 0)) mNil)))))))
def m_law_is:FN := mFn 3 5 b_law_is
@[reducible] def b_law_of (f:FN):MS :=
 (mSq (mIfS (mB (mOp (fEq false) (mCB fLen (mCons (mVar 0) mNil)) (mC (.int 1)))) (mRet (mCall m_Wishes_of (mCons (mOp fIx (mVar 0) (mC (.int 0))) mNil))) mNext)
  (mSq (mIfS (mB (mOp (fEq false) (mCB fLen (mCons (mVar 0) mNil)) (mC (.int 2)))) (mRet (mCall m_Wishes_of (mCons (mOp fIx (mVar 0) (mC (.int 0))) (mCons (mOp fIx (mVar 0) (mC (.int 1))) mNil)))) mNext)
  (mSq (mIfS (mB (mOp (fEq false) (mCB fLen (mCons (mVar 0) mNil)) (mC (.int 3)))) (mRet (mCall m_Wishes_of (mCons (mOp fIx (mVar 0) (mC (.int 0))) (mCons (mOp fIx (mVar 0) (mC (.int 1))) (mCons (mOp fIx (mVar 0) (mC (.int 2))) mNil))))) mNext)
  (mSq (mIfS (mB (mOp (fEq false) (mCB fLen (mCons (mVar 0) mNil)) (mC (.int 4)))) (mRet (mCall m_Wishes_of (mCons (mOp fIx (mVar 0) (mC (.int 0))) (mCons (mOp fIx (mVar 0) (mC (.int 1))) (mCons (mOp fIx (mVar 0) (mC (.int 2))) (mCons (mOp fIx (mVar 0) (mC (.int 3))) mNil)))))) mNext)
  (mRet (mOwn "Wishes" m_Wishes_or (mCall f (mCons (mSl (mVar 0) mNoPart (mPart (mC (.int 4)))) mNil)) (mCall f (mCons (mSl (mVar 0) (mPart (mC (.int 4))) mNoPart) mNil))))))))
def m_law_of:Nat→FN
 | 0=>fun _ _ _ _=>False
 | d + 1=>mFn 1 1 (b_law_of (m_law_of d))
@[reducible] def b_law_refused:MS :=
 (mSq (mSet (mC .non) (gN 1))
  (mSq (mTryK tc_FoundError 2 1 (mDrop (mCall (m_law_of 5) (mCons (mVar 0) mNil))) (fun ea ecls ed=>(mSet (mVar 2) (gN 1))))
  (mSq (mIfS (mOr (mNot (mB (mIsK tx_Unknown 1))) (mOr (mB (mIsK tx_OtherSchema 1)) (mNot (mB (mIsK tx_ValueError 1))))) (mRet (mC .non)) mNext)
  (mRet (mXk ["Unknown"] "name" 1)))))
def m_law_refused:FN := mFn 1 3 b_law_refused
@[reducible] def b_law:MS :=
 (mSq (mSet (mCall m_law_pool (mCons (mVar 0) mNil)) (gN 1))
  (mSq (mSet (mLst (mCons (mC (.str "kept")) (mCons (mC (.str "let")) (mCons (mC (.str "clear")) (mCons (mC (.str "full")) (mCons (mC (.str "again")) (mCons (mC (.str "order")) (mCons (mC (.str "eager")) mNil)))))))) (gN 2))
  (mSq (mIfS (mB (mOp (fEq true) (mC (.ktup [(.str "kept"),(.str "let"),(.str "clear"),(.str "full"),(.str "again"),(.str "order"),(.str "eager")])) (mCB fTupOf (mCons (mVar 2) mNil)))) (mRet (mC (.bl false))) mNext)
  (mSq (mSet (mCall m_law_word (mCons (mVar 1) (mCons (mLst mNil) mNil))) (gN 3))
  (mSq (mSet (mIf (mB (mOp (fIn false) (mVar 3) (mVar 2))) (mOp fAdd (mVar 3) (mC (.str "z"))) (mVar 3)) (gN 3))
  (mSq (mSet (mLc (mRng1 (mCons (mC (.int 2)) mNil)) (gN 10) mYes (mLc (mRng1 (mCons (mOp fAdd (mC (.int 1)) (mCall m_law_draw (mCons (mVar 1) (mCons (mC (.int 7)) mNil)))) mNil)) (gN 11) mYes (mOp fIx (mVar 2) (mCall m_law_draw (mCons (mVar 1) (mCons (mC (.int 7)) mNil)))) [11]) [10]) (gN 4))
  (mSq (mPar 5 6 (mCons (mCall (m_law_of 5) (mCons (mOp fIx (mVar 4) (mC (.int 0))) mNil)) (mCons (mCall (m_law_of 5) (mCons (mOp fIx (mVar 4) (mC (.int 1))) mNil)) mNil)))
  (mSq (mFor (mRng1 (mCons (mC (.int 2)) mNil)) (gN 7) (mSq (mIfS (mOr (mNot (mB (mCall m_law_is (mCons (mVar 5) (mCons (mOp fIx (mVar 4) (mC (.int 0))) (mCons (mVar 3) mNil)))))) (mNot (mB (mCall m_law_is (mCons (mVar 6) (mCons (mOp fIx (mVar 4) (mC (.int 1))) (mCons (mVar 3) mNil))))))) (mRet (mC (.bl false))) mNext)
  (mSq (mIfS (mNot (mB (mCall m_law_is (mCons (mOwn "Wishes" m_Wishes_or (mVar 5) (mVar 6)) (mCons (mOp fAdd (mOp fIx (mVar 4) (mC (.int 0))) (mOp fIx (mVar 4) (mC (.int 1)))) (mCons (mVar 3) mNil)))))) (mRet (mC (.bl false))) mNext)
  (mSq (mIfS (mNot (mB (mCall m_law_is (mCons (mOwn "Wishes" m_Wishes_and (mVar 5) (mVar 6)) (mCons (mLc (mSeq (mOp fIx (mVar 4) (mC (.int 0)))) (gN 12) (mB (mOp (fIn false) (mVar 12) (mOp fIx (mVar 4) (mC (.int 1))))) (mVar 12) [12]) (mCons (mVar 3) mNil)))))) (mRet (mC (.bl false))) mNext)
  (mSq (mIfS (mNot (mB (mCall m_law_is (mCons (mOwn "Wishes" m_Wishes_sub (mVar 5) (mVar 6)) (mCons (mLc (mSeq (mOp fIx (mVar 4) (mC (.int 0)))) (gN 12) (mB (mOp (fIn true) (mVar 12) (mOp fIx (mVar 4) (mC (.int 1))))) (mVar 12) [12]) (mCons (mVar 3) mNil)))))) (mRet (mC (.bl false))) mNext)
  (mIfS (mB (mOp (fEq true) (mOwnEq ts_Wishes "Wishes" m_Wishes_eq (mVar 5) (mVar 6)) (mSetEq (mOp fAdd (mOp fIx (mVar 4) (mC (.int 0))) (mLst (mCons (mC (.str "kept")) mNil))) (mOp fAdd (mOp fIx (mVar 4) (mC (.int 1))) (mLst (mCons (mC (.str "kept")) mNil)))))) (mRet (mC (.bl false))) mNext))))))
  (mSq (mIfS (mOr (mNot (mB (mOwnEq ts_Wishes "Wishes" m_Wishes_eq (mCall (m_law_of 5) (mCons (mOp fAdd (mRev (mOp fIx (mVar 4) (mC (.int 0)))) (mOp fIx (mVar 4) (mC (.int 0)))) mNil)) (mVar 5)))) (mNot (mB (mCall m_law_is (mCons (mCall (m_law_of 5) (mCons (mVar 2) mNil)) (mCons (mVar 2) (mCons (mVar 3) mNil))))))) (mRet (mC (.bl false))) mNext)
  (mSq (mSet (mSl (mOp fIx (mVar 4) (mC (.int 1))) mNoPart (mPart (mC (.int 3)))) (gN 8))
  (mSq (mSet (mCall m_law_draw (mCons (mVar 1) (mCons (mOp fAdd (mCB fLen (mCons (mVar 8) mNil)) (mC (.int 1))) mNil))) (gN 9))
  (mSq (mIfS (mOr (mB (mOp (fEq true) (mCall m_law_refused (mCons (mOp fAdd (mOp fAdd (mSl (mVar 8) mNoPart (mPart (mVar 9))) (mLst (mCons (mVar 3) mNil))) (mSl (mVar 8) (mPart (mVar 9)) mNoPart)) mNil)) (mVar 3))) (mB (mOp (fEq true) (mCall m_law_refused (mCons (mLst (mCons (mVar 3) (mCons (mOp fAdd (mVar 3) (mC (.str "y"))) mNil))) mNil)) (mVar 3)))) (mRet (mC (.bl false))) mNext)
  (mRet (mAndV (mOp (fEq false) (mCall m_law_refused (mCons (mLst (mCons (mOp fAdd (mVar 3) (mC (.str "y"))) (mCons (mVar 3) (mCons (mOp fIx (mVar 8) (mC (.int 0))) mNil)))) mNil)) (mOp fAdd (mVar 3) (mC (.str "y")))) (mCall m_law_is (mCons (mCall (m_law_of 5) (mCons (mVar 8) mNil)) (mCons (mVar 8) (mCons (mVar 3) mNil))))))))))))))))))
end Lw
namespace Lw
open PySem PySem.Spec PyProof.Rows L2 Fm Am
open PySem.W (Datum Tup T3 T4)
def topS (i : Nat) : Stmt := PySem.Challenge.pw_foundormade_k36_wishes_as_sets.main.body.getD i (.Pass ⟨0,0,0,0⟩)
abbrev s_Wishes_init:Stmt := inClass (topS 5) 1
abbrev N_Wishes_init:List Str := ["self","names","name"]
abbrev ps_Wishes_init:List Str := ["self","names"]
theorem sc_Wishes_init:FnScope N_Wishes_init ps_Wishes_init (defScope s_Wishes_init) := fsc
abbrev s_Wishes_of:Stmt := inClass (topS 5) 2
abbrev N_Wishes_of:List Str := ["first","rest","name"]
abbrev ps_Wishes_of:List Str := ["first","rest"]
theorem sc_Wishes_of:FnScope N_Wishes_of ps_Wishes_of (defScope s_Wishes_of) := fsc
abbrev s_Wishes_or:Stmt := inClass (topS 5) 3
abbrev N_Wishes_or:List Str := ["self","other"]
abbrev ps_Wishes_or:List Str := ["self","other"]
theorem sc_Wishes_or:FnScope N_Wishes_or ps_Wishes_or (defScope s_Wishes_or) := fsc
abbrev s_Wishes_and:Stmt := inClass (topS 5) 4
abbrev N_Wishes_and:List Str := ["self","other","name"]
abbrev ps_Wishes_and:List Str := ["self","other"]
theorem sc_Wishes_and:FnScope N_Wishes_and ps_Wishes_and (defScope s_Wishes_and) := fsc
abbrev s_Wishes_sub:Stmt := inClass (topS 5) 5
abbrev N_Wishes_sub:List Str := ["self","other","name"]
abbrev ps_Wishes_sub:List Str := ["self","other"]
theorem sc_Wishes_sub:FnScope N_Wishes_sub ps_Wishes_sub (defScope s_Wishes_sub) := fsc
abbrev s_Wishes_contains:Stmt := inClass (topS 5) 6
abbrev N_Wishes_contains:List Str := ["self","name"]
abbrev ps_Wishes_contains:List Str := ["self","name"]
theorem sc_Wishes_contains:FnScope N_Wishes_contains ps_Wishes_contains (defScope s_Wishes_contains) := fsc
abbrev s_Wishes_len:Stmt := inClass (topS 5) 7
abbrev N_Wishes_len:List Str := ["self"]
abbrev ps_Wishes_len:List Str := ["self"]
theorem sc_Wishes_len:FnScope N_Wishes_len ps_Wishes_len (defScope s_Wishes_len) := fsc
abbrev s_Wishes_eq:Stmt := inClass (topS 5) 8
abbrev N_Wishes_eq:List Str := ["self","other"]
abbrev ps_Wishes_eq:List Str := ["self","other"]
theorem sc_Wishes_eq:FnScope N_Wishes_eq ps_Wishes_eq (defScope s_Wishes_eq) := fsc
abbrev s_law_pool:Stmt := topS 7
abbrev N_law_pool:List Str := ["_law_script","_law_greats","_law_seed","_law_cell"]
abbrev ps_law_pool:List Str := ["_law_script"]
theorem sc_law_pool:FnScope N_law_pool ps_law_pool (defScope s_law_pool) := fsc
abbrev s_law_draw:Stmt := topS 8
abbrev N_law_draw:List Str := ["_law_pool_here","_law_limit","_law_digit","_law_mixed"]
abbrev ps_law_draw:List Str := ["_law_pool_here","_law_limit"]
theorem sc_law_draw:FnScope N_law_draw ps_law_draw (defScope s_law_draw) := fsc
abbrev s_law_word:Stmt := topS 9
abbrev N_law_word:List Str := ["_law_pool_here","_law_used","_law_letters","_law_size","_law_word_here","_law_k","_law_letter"]
abbrev ps_law_word:List Str := ["_law_pool_here","_law_used"]
theorem sc_law_word:FnScope N_law_word ps_law_word (defScope s_law_word) := fsc
abbrev s_law_of:Stmt := topS 10
abbrev N_law_of:List Str := ["_law_names"]
abbrev ps_law_of:List Str := ["_law_names"]
theorem sc_law_of:FnScope N_law_of ps_law_of (defScope s_law_of) := fsc
abbrev s_law_refused:Stmt := topS 11
abbrev N_law_refused:List Str := ["_law_names","_law_caught","e"]
abbrev ps_law_refused:List Str := ["_law_names"]
theorem sc_law_refused:FnScope N_law_refused ps_law_refused (defScope s_law_refused) := fsc
abbrev s_law_is:Stmt := topS 12
abbrev N_law_is:List Str := ["_law_wishes","_law_due","_law_word_here","_law_names","_law_name"]
abbrev ps_law_is:List Str := ["_law_wishes","_law_due","_law_word_here"]
theorem sc_law_is:FnScope N_law_is ps_law_is (defScope s_law_is) := fsc
abbrev s_law:Stmt := topS 13
abbrev N_law:List Str := ["_law_script","_law_pool_here","_law_names","_law_word_here","_law_rows","_law_first","_law_second","_law_again","_law_good","_law_at","_law_side","_law_k","_law_name"]
abbrev ps_law:List Str := ["_law_script"]
theorem sc_law:FnScope N_law ps_law (defScope s_law) := fsc
abbrev s_Unknown_init:Stmt := inClass (topS 2) 0
abbrev s_OtherSchema_init:Stmt := inClass (topS 3) 0
structure Txt (K:PySem.W.Frag) (mg:Str→Option Value):Prop where
 d_Wishes_init:∃ fd,Fun K "__init__" "Wishes.__init__" s_Wishes_init (He.ma K (He.ga K "Wishes") "__init__") fd
 d_Wishes_of:∃ fd,Fun K "of" "Wishes.of" s_Wishes_of (He5.wf K (He.ga K "Wishes") "staticmethod" "of") fd
 d_Wishes_or:∃ fd,Fun K "__or__" "Wishes.__or__" s_Wishes_or (He.ma K (He.ga K "Wishes") "__or__") fd
 d_Wishes_and:∃ fd,Fun K "__and__" "Wishes.__and__" s_Wishes_and (He.ma K (He.ga K "Wishes") "__and__") fd
 d_Wishes_sub:∃ fd,Fun K "__sub__" "Wishes.__sub__" s_Wishes_sub (He.ma K (He.ga K "Wishes") "__sub__") fd
 d_Wishes_contains:∃ fd,Fun K "__contains__" "Wishes.__contains__" s_Wishes_contains (He.ma K (He.ga K "Wishes") "__contains__") fd
 d_Wishes_len:∃ fd,Fun K "__len__" "Wishes.__len__" s_Wishes_len (He.ma K (He.ga K "Wishes") "__len__") fd
 d_Wishes_eq:∃ fd,Fun K "__eq__" "Wishes.__eq__" s_Wishes_eq (He.ma K (He.ga K "Wishes") "__eq__") fd
 g_law_pool:mg "_law_pool" = some (.ref (He.ga K "_law_pool"))
 d_law_pool:∃ fd,Fun K "_law_pool" "_law_pool" s_law_pool (He.ga K "_law_pool") fd
 k_law_pool:PySem.W.keepIn K (.ref (He.ga K "_law_pool"))=true
 g_law_draw:mg "_law_draw" = some (.ref (He.ga K "_law_draw"))
 d_law_draw:∃ fd,Fun K "_law_draw" "_law_draw" s_law_draw (He.ga K "_law_draw") fd
 k_law_draw:PySem.W.keepIn K (.ref (He.ga K "_law_draw"))=true
 g_law_word:mg "_law_word" = some (.ref (He.ga K "_law_word"))
 d_law_word:∃ fd,Fun K "_law_word" "_law_word" s_law_word (He.ga K "_law_word") fd
 k_law_word:PySem.W.keepIn K (.ref (He.ga K "_law_word"))=true
 g_law_of:mg "_law_of" = some (.ref (He.ga K "_law_of"))
 d_law_of:∃ fd,Fun K "_law_of" "_law_of" s_law_of (He.ga K "_law_of") fd
 k_law_of:PySem.W.keepIn K (.ref (He.ga K "_law_of"))=true
 g_law_refused:mg "_law_refused" = some (.ref (He.ga K "_law_refused"))
 d_law_refused:∃ fd,Fun K "_law_refused" "_law_refused" s_law_refused (He.ga K "_law_refused") fd
 k_law_refused:PySem.W.keepIn K (.ref (He.ga K "_law_refused"))=true
 g_law_is:mg "_law_is" = some (.ref (He.ga K "_law_is"))
 d_law_is:∃ fd,Fun K "_law_is" "_law_is" s_law_is (He.ga K "_law_is") fd
 k_law_is:PySem.W.keepIn K (.ref (He.ga K "_law_is"))=true
 g_law:mg "law" = some (.ref (He.ga K "law"))
 d_law:∃ fd,Fun K "law" "law" s_law (He.ga K "law") fd
 k_law:PySem.W.keepIn K (.ref (He.ga K "law"))=true
 g_Wishes:mg "Wishes" = some (.ref (He.ga K "Wishes"))
 c_Wishes:Cls K (He.ga K "Wishes")
 x_Wishes:ClsX K (He.ga K "Wishes")
 sf_Wishes:PySem.W.selfFirst K (He.ga K "Wishes")=true
 mk_Wishes:Mk K (He.ga K "Wishes") (He.ma K (He.ga K "Wishes") "__init__")
 ne_Wishes:PySem.W.findIn K (.ref (He.ga K "Wishes")) "__ne__" = some (some (.builtin "object.__ne__"))
 nf_Wishes:∀ t∈ts_Wishes,inCs css t∧PySem.W.notFirst K (He.ga K "Wishes") (t.val K)=true
 s_Wishes_of:Stat K (He.ga K "Wishes") "of" (He.ma K (He.ga K "Wishes") "of") (He5.wf K (He.ga K "Wishes") "staticmethod" "of")
 m_Wishes_or:Meth K (He.ga K "Wishes") "__or__" (He.ma K (He.ga K "Wishes") "__or__")
 o_Wishes_or:Own K (He.ga K "Wishes") "__or__" (He.ma K (He.ga K "Wishes") "__or__")
 m_Wishes_and:Meth K (He.ga K "Wishes") "__and__" (He.ma K (He.ga K "Wishes") "__and__")
 o_Wishes_and:Own K (He.ga K "Wishes") "__and__" (He.ma K (He.ga K "Wishes") "__and__")
 m_Wishes_sub:Meth K (He.ga K "Wishes") "__sub__" (He.ma K (He.ga K "Wishes") "__sub__")
 o_Wishes_sub:Own K (He.ga K "Wishes") "__sub__" (He.ma K (He.ga K "Wishes") "__sub__")
 m_Wishes_contains:Meth K (He.ga K "Wishes") "__contains__" (He.ma K (He.ga K "Wishes") "__contains__")
 o_Wishes_contains:Own K (He.ga K "Wishes") "__contains__" (He.ma K (He.ga K "Wishes") "__contains__")
 m_Wishes_len:Meth K (He.ga K "Wishes") "__len__" (He.ma K (He.ga K "Wishes") "__len__")
 o_Wishes_len:Own K (He.ga K "Wishes") "__len__" (He.ma K (He.ga K "Wishes") "__len__")
 m_Wishes_eq:Meth K (He.ga K "Wishes") "__eq__" (He.ma K (He.ga K "Wishes") "__eq__")
 o_Wishes_eq:Own K (He.ga K "Wishes") "__eq__" (He.ma K (He.ga K "Wishes") "__eq__")
 cs:CsOk K css
 f_names:∀ c∈(["Wishes"]:List Str),Cls K (He.ga K c)∧NoAttr K (He.ga K c) "names"
 is_Wishes:∀ p∈ti_Wishes,inCs css p.1∧PySem.W.kitOne K (p.1.val K) (.ref (He.ga K "Wishes"))=some p.2
 is_tuple:∀ p∈ti_tuple,inCs css p.1∧PySem.W.kitOne K (p.1.val K) (.type "tuple")=some p.2
 xm_FoundError:∀ p∈tc_FoundError,PySem.W.exmOne K (.ref (He.ga K p.1)) (.ref (He.ga K "FoundError"))=some p.2
 ix_OtherSchema:∀ p∈tx_OtherSchema,PySem.W.kitOne K (.ref (He.ga K p.1)) (.ref (He.ga K "OtherSchema"))=some p.2
 ix_Unknown:∀ p∈tx_Unknown,PySem.W.kitOne K (.ref (He.ga K p.1)) (.ref (He.ga K "Unknown"))=some p.2
 ix_ValueError:∀ p∈tx_ValueError,PySem.W.kitOne K (.ref (He.ga K p.1)) (.type "ValueError")=some p.2
 xf_Unknown_name:PySem.W.findIn K (.ref (He.ga K "Unknown")) "name" = some none
 g_FoundError:mg "FoundError" = some (.ref (He.ga K "FoundError"))
 g_OtherSchema:mg "OtherSchema" = some (.ref (He.ga K "OtherSchema"))
 g_Unknown:mg "Unknown" = some (.ref (He.ga K "Unknown"))
 e_Unknown : Err K PySem.Challenge.pw_foundormade_k36_wishes_as_sets.main.file (He.ga K "Unknown") (He.ma K (He.ga K "Unknown") "__init__") "Unknown.__init__" s_Unknown_init
 e_OtherSchema : Err K PySem.Challenge.pw_foundormade_k36_wishes_as_sets.main.file (He.ga K "OtherSchema") (He.ma K (He.ga K "OtherSchema") "__init__") "OtherSchema.__init__" s_OtherSchema_init
 z_super:mg "super" = none
 z_ValueError:mg "ValueError" = none
 z_int:mg "int" = none
 z_isinstance:mg "isinstance" = none
 z_len:mg "len" = none
 z_list:mg "list" = none
 z_range:mg "range" = none
 z_set:mg "set" = none
 z_tuple:mg "tuple" = none
 cv_Wishes_NAMES:cvB K (He.ga K "Wishes") "NAMES" ["kept","let","clear","full","again","order","eager"]=true
end Lw
namespace Lw
open PySem PySem.Spec PyProof.Rows L2 Fm Am
open PySem.W (Datum Tup T3 T4)
def fa:List (PySem.W.Frag→Bool) := [fun K=>(He.Fa.glo "_law_pool").ok K,
 fun K=>(He.Fa.glo "_law_draw").ok K,
 fun K=>(He.Fa.glo "_law_word").ok K,
 fun K=>(He.Fa.glo "_law_of").ok K,
 fun K=>(He.Fa.glo "_law_refused").ok K,
 fun K=>(He.Fa.glo "_law_is").ok K,
 fun K=>(He.Fa.glo "law").ok K,
 fun K=>(He.Fa.glo "Wishes").ok K,
 fun K=>(He.Fa.cls "Wishes").ok K,
 fun K=>clsXB K (He.ga K "Wishes"),
 fun K=>PySem.W.selfFirst K (He.ga K "Wishes"),
 fun K=>(He.Fa.mkr "Wishes").ok K,
 fun K=>He.eqO (PySem.W.findIn K (.ref (He.ga K "Wishes")) "__ne__") (some (some (.builtin "object.__ne__"))),
 fun K=>nfTab K (He.ga K "Wishes") ts_Wishes,
 fun K=>statB K (He.ga K "Wishes") "of",
 fun K=>(He.Fa.meth "Wishes" "__or__").ok K,
 fun K=>(He.Fa.meth "Wishes" "__and__").ok K,
 fun K=>(He.Fa.meth "Wishes" "__sub__").ok K,
 fun K=>(He.Fa.meth "Wishes" "__contains__").ok K,
 fun K=>(He.Fa.meth "Wishes" "__len__").ok K,
 fun K=>(He.Fa.meth "Wishes" "__eq__").ok K,
 fun K=>(He.Fa.noat "Wishes" "names").ok K,
 fun K=>isTab K (.ref (He.ga K "Wishes")) ti_Wishes,
 fun K=>isTab K (.type "tuple") ti_tuple,
 fun K=>xmTab K (.ref (He.ga K "FoundError")) tc_FoundError,
 fun K=>ixTab K (.ref (He.ga K "OtherSchema")) tx_OtherSchema,
 fun K=>ixTab K (.ref (He.ga K "Unknown")) tx_Unknown,
 fun K=>ixTab K (.type "ValueError") tx_ValueError,
 fun K=>He.eqO (PySem.W.findIn K (.ref (He.ga K "Unknown")) "name") (some none),
 fun K=>(He.Fa.glo "FoundError").ok K,
 fun K=>(He.Fa.glo "OtherSchema").ok K,
 fun K=>(He.Fa.glo "Unknown").ok K,
 fun K=>(He.Fa.free "super").ok K,
 fun K=>(He.Fa.free "ValueError").ok K,
 fun K=>(He.Fa.free "int").ok K,
 fun K=>(He.Fa.free "isinstance").ok K,
 fun K=>(He.Fa.free "len").ok K,
 fun K=>(He.Fa.free "list").ok K,
 fun K=>(He.Fa.free "range").ok K,
 fun K=>(He.Fa.free "set").ok K,
 fun K=>(He.Fa.free "tuple").ok K,
 fun K=>cvB K (He.ga K "Wishes") "NAMES" ["kept","let","clear","full","again","order","eager"]]
def fn:List He5.DefA := [⟨fun K=>(He.ma K (He.ga K "Wishes") "__init__"),"__init__","Wishes.__init__",defArgs s_Wishes_init,defBody s_Wishes_init,defScope s_Wishes_init,[],[]⟩,
 ⟨fun K=>(He5.wf K (He.ga K "Wishes") "staticmethod" "of"),"of","Wishes.of",defArgs s_Wishes_of,defBody s_Wishes_of,defScope s_Wishes_of,[],[]⟩,
 ⟨fun K=>(He.ma K (He.ga K "Wishes") "__or__"),"__or__","Wishes.__or__",defArgs s_Wishes_or,defBody s_Wishes_or,defScope s_Wishes_or,[],[]⟩,
 ⟨fun K=>(He.ma K (He.ga K "Wishes") "__and__"),"__and__","Wishes.__and__",defArgs s_Wishes_and,defBody s_Wishes_and,defScope s_Wishes_and,[],[]⟩,
 ⟨fun K=>(He.ma K (He.ga K "Wishes") "__sub__"),"__sub__","Wishes.__sub__",defArgs s_Wishes_sub,defBody s_Wishes_sub,defScope s_Wishes_sub,[],[]⟩,
 ⟨fun K=>(He.ma K (He.ga K "Wishes") "__contains__"),"__contains__","Wishes.__contains__",defArgs s_Wishes_contains,defBody s_Wishes_contains,defScope s_Wishes_contains,[],[]⟩,
 ⟨fun K=>(He.ma K (He.ga K "Wishes") "__len__"),"__len__","Wishes.__len__",defArgs s_Wishes_len,defBody s_Wishes_len,defScope s_Wishes_len,[],[]⟩,
 ⟨fun K=>(He.ma K (He.ga K "Wishes") "__eq__"),"__eq__","Wishes.__eq__",defArgs s_Wishes_eq,defBody s_Wishes_eq,defScope s_Wishes_eq,[],[]⟩,
 ⟨fun K=>(He.ga K "_law_pool"),"_law_pool","_law_pool",defArgs s_law_pool,defBody s_law_pool,defScope s_law_pool,[],[]⟩,
 ⟨fun K=>(He.ga K "_law_draw"),"_law_draw","_law_draw",defArgs s_law_draw,defBody s_law_draw,defScope s_law_draw,[],[]⟩,
 ⟨fun K=>(He.ga K "_law_word"),"_law_word","_law_word",defArgs s_law_word,defBody s_law_word,defScope s_law_word,[],[]⟩,
 ⟨fun K=>(He.ga K "_law_of"),"_law_of","_law_of",defArgs s_law_of,defBody s_law_of,defScope s_law_of,[],[]⟩,
 ⟨fun K=>(He.ga K "_law_refused"),"_law_refused","_law_refused",defArgs s_law_refused,defBody s_law_refused,defScope s_law_refused,[],[]⟩,
 ⟨fun K=>(He.ga K "_law_is"),"_law_is","_law_is",defArgs s_law_is,defBody s_law_is,defScope s_law_is,[],[]⟩,
 ⟨fun K=>(He.ga K "law"),"law","law",defArgs s_law,defBody s_law,defScope s_law,[],[]⟩]
def fe : List DefE := [⟨fun K => He.ga K "Unknown","Unknown.__init__",s_Unknown_init,PySem.Challenge.pw_foundormade_k36_wishes_as_sets.main.file⟩,
 ⟨fun K => He.ga K "OtherSchema","OtherSchema.__init__",s_OtherSchema_init,PySem.Challenge.pw_foundormade_k36_wishes_as_sets.main.file⟩]
abbrev R : PySem.W.OpenRow := PySem.W.OpenLaw.row PySem.Challenge.rw_foundormade_k36_wishes_as_sets
abbrev hk:PySem.W.Hook := hookE 6 fa fn fe
def ob (s:PySem.W.SharedT):He.AlD := obsEG 6 fa fn fe (HandSHeadRun.getT s)
theorem an_t {a b:Bool} (h:a=true) (k:b=true):(a && b)=true := by rw [h,k]; rfl
theorem topK:R.wellSaid=true := by
 unfold PySem.W.OpenRow.wellSaid PySem.W.OpenRow.partSaid PySem.W.looksOpen
 repeat' (with_reducible refine an_t ?_ ?_)
 all_goals decide +kernel
theorem topW:R.prog.tablesWhole=true := by decide +kernel
theorem ob_eq (s:PySem.W.SharedT):ob s=hk.obs s.abs := obsEG_eq (HandSHeadRun.getT_eq s)
theorem topL : PySem.W.OpenLaw.wellSaid PySem.Challenge.rw_foundormade_k36_wishes_as_sets = true := by
 unfold PySem.W.OpenLaw.wellSaid
 repeat' (with_reducible refine an_t ?_ ?_)
 ·exact topK
 all_goals decide +kernel
def names:List PySem.Str := [("FoundError":PySem.Str),("Unknown":PySem.Str),("OtherSchema":PySem.Str),("Wishes":PySem.Str),("_law_pool":PySem.Str),("_law_draw":PySem.Str),("_law_word":PySem.Str),("_law_of":PySem.Str),("_law_refused":PySem.Str),("_law_is":PySem.Str)]
theorem run (w:World):HandSHeadRun.RunEq R (PySem.W.view R.prog [13]) hk ob 12000 names w := by
 intro os
 kernel_rfl
open PySem.W PySem.Calls in
theorem topH (call:PySem.W.WalkO (PySem.W.view R.prog [13]) names (PySem.W.XL (PySem.W.view R.prog [13]) []) hk.says R.toRowW (HandSHeadRun.topDef R.prog 13) [] fun f vs=>PySem.call f vs):R.Holds := by
 refine HandSHeadRun.head_any (r := R) (q := PySem.W.view R.prog [13]) (H := hk) (ob := ob) (M := 12000) (loose := names) (d := HandSHeadRun.topDef R.prog 13) (kwd := []) ob_eq
  (by kernel_rfl) (fun s=>by kernel_rfl) run (by kernel_rfl) (by kernel_rfl) (by kernel_rfl) (by rfl) topK (by decide +kernel) ⟨rfl,rfl,rfl,rfl,rfl,topW⟩ ?hw call
 case hw=>w_witness2
theorem topDf:(HandSHeadRun.topDef R.prog 13).params.defaults=[] := by kernel_rfl
theorem topNm:(HandSHeadRun.topDef R.prog 13).name=("law":PySem.Str) := by kernel_rfl
theorem txt_of {K:PySem.W.Frag} {h:Heap} {mg:Str→Option Value} (X:K.In h) (G:h.Ns mainGlobals mg) (ce:obsE fa fn fe K=valE fn fe):Txt K mg :=
 have c := toB ce
 ⟨defF (fun K=>(He.ma K (He.ga K "Wishes") "__init__")) c 0,
  defF (fun K=>(He5.wf K (He.ga K "Wishes") "staticmethod" "of")) c 1,
  defF (fun K=>(He.ma K (He.ga K "Wishes") "__or__")) c 2,
  defF (fun K=>(He.ma K (He.ga K "Wishes") "__and__")) c 3,
  defF (fun K=>(He.ma K (He.ga K "Wishes") "__sub__")) c 4,
  defF (fun K=>(He.ma K (He.ga K "Wishes") "__contains__")) c 5,
  defF (fun K=>(He.ma K (He.ga K "Wishes") "__len__")) c 6,
  defF (fun K=>(He.ma K (He.ga K "Wishes") "__eq__")) c 7,
  He.glo_ok X G (factB c 0),
  defF (fun K=>(He.ga K "_law_pool")) c 8,
  defK (fun K=>(He.ga K "_law_pool")) s_law_pool "_law_pool" "_law_pool" c 8,
  He.glo_ok X G (factB c 1),
  defF (fun K=>(He.ga K "_law_draw")) c 9,
  defK (fun K=>(He.ga K "_law_draw")) s_law_draw "_law_draw" "_law_draw" c 9,
  He.glo_ok X G (factB c 2),
  defF (fun K=>(He.ga K "_law_word")) c 10,
  defK (fun K=>(He.ga K "_law_word")) s_law_word "_law_word" "_law_word" c 10,
  He.glo_ok X G (factB c 3),
  defF (fun K=>(He.ga K "_law_of")) c 11,
  defK (fun K=>(He.ga K "_law_of")) s_law_of "_law_of" "_law_of" c 11,
  He.glo_ok X G (factB c 4),
  defF (fun K=>(He.ga K "_law_refused")) c 12,
  defK (fun K=>(He.ga K "_law_refused")) s_law_refused "_law_refused" "_law_refused" c 12,
  He.glo_ok X G (factB c 5),
  defF (fun K=>(He.ga K "_law_is")) c 13,
  defK (fun K=>(He.ga K "_law_is")) s_law_is "_law_is" "_law_is" c 13,
  He.glo_ok X G (factB c 6),
  defF (fun K=>(He.ga K "law")) c 14,
  defK (fun K=>(He.ga K "law")) s_law "law" "law" c 14,
  He.glo_ok X G (factB c 7),
  He.cls_ok (factB c 8),
  clsXB_ok (factB c 9),
  factB c 10,
  He.mkr_ok (factB c 11),
  He.eqO_ok (factB c 12),
  nfTab_ok (cs := css) (by decide +kernel) (factB c 13),
  statB_ok (factB c 14),
  He.meth_ok (factB c 15),
  own_of (He.meth_ok (factB c 15)),
  He.meth_ok (factB c 16),
  own_of (He.meth_ok (factB c 16)),
  He.meth_ok (factB c 17),
  own_of (He.meth_ok (factB c 17)),
  He.meth_ok (factB c 18),
  own_of (He.meth_ok (factB c 18)),
  He.meth_ok (factB c 19),
  own_of (He.meth_ok (factB c 19)),
  He.meth_ok (factB c 20),
  own_of (He.meth_ok (factB c 20)),
  (List.forall_mem_cons.mpr ⟨⟨He.cls_ok (factB c 8),clsXB_ok (factB c 9)⟩,(fun c hc=>nomatch hc)⟩),
  (List.forall_mem_cons.mpr ⟨⟨He.cls_ok (factB c 8),He.noat_ok (factB c 21)⟩,(fun c hc=>nomatch hc)⟩),
  isTab_ok (cs := css) (by decide +kernel) (factB c 22),
  isTab_ok (cs := css) (by decide +kernel) (factB c 23),
  xmTab_ok (factB c 24),
  ixTab_ok (factB c 25),
  ixTab_ok (factB c 26),
  ixTab_ok (factB c 27),
  He.eqO_ok (factB c 28),
  He.glo_ok X G (factB c 29),
  He.glo_ok X G (factB c 30),
  He.glo_ok X G (factB c 31),
  toE ce 0,
  toE ce 1,
  He.free_ok X G (factB c 32),
  He.free_ok X G (factB c 33),
  He.free_ok X G (factB c 34),
  He.free_ok X G (factB c 35),
  He.free_ok X G (factB c 36),
  He.free_ok X G (factB c 37),
  He.free_ok X G (factB c 38),
  He.free_ok X G (factB c 39),
  He.free_ok X G (factB c 40),
  factB c 41⟩
end Lw
namespace Lw
open PySem PySem.Spec PyProof.Rows L2 Fm Am
open PySem.W (Datum Tup T3 T4)
section
variable {P:Program} {w:World} {K:PySem.W.Frag} {mg:Str→Option Value} {base:Heap}
theorem wk_Wishes_init (T:Txt K mg):WkP P w K mg base N_Wishes_init "Wishes.__init__" s_Wishes_init (He.ma K (He.ga K "Wishes") "__init__") 0 b_Wishes_init := wk_in fun cdv A outer s H E hr tk hx po=>by
 unfold b_Wishes_init
 exact (pss_one (Am.PS.weak (ps_fld (q0 0) (Am.PE.weak (pe_callTy call_tupA (by rfl) T.z_tuple (by decide +kernel) (qa (Am.PE.weak (pe_lc (own := [("name",2)]) rfl sc_Wishes_init.nd (PI.weak (pi_seq (ae_cvT (xs := ["kept","let","clear","full","again","order","eager"]) (pe_glob (v := .ref (He.ga K "Wishes")) (by rfl) T.g_Wishes rfl) T.cv_Wishes_NAMES)) c_seq) (blkOk_by (own := [("name",2)]) (N := N_Wishes_init) (sc := defScope s_Wishes_init) (by decide +kernel)) (fun _ _ _ _ _=>(qg 2 sc_Wishes_init rfl)) (fun _ _ _ _ _=>(pts_one (PW.pt (aw_or (qe hr.units (q0 2) q2) (pw_or1 (at_cmp (op_inP (units65 hr)) os_in (q0 2) (q0 1) rfl)))))) (fun _ _ _ _ _=>(q0 2))) (c_lc tg_name (by decide))))) (c_cb cs_tup)) rfl) (c_sfld T.f_names)))
theorem wk_Wishes_of (T:Txt K mg) (G_Wishes_init:GX P w K mg base 1 (He.ma K (He.ga K "Wishes") "__init__") m_Wishes_init) (E_Unknown:FnR P w K mg base CX0 1 (He.ma K (He.ga K "Unknown") "__init__") (spE1 (He.ga K "Unknown") "name")):WkP P w K mg base N_Wishes_of "Wishes.of" s_Wishes_of (He5.wf K (He.ga K "Wishes") "staticmethod" "of") 2 b_Wishes_of := wk_in fun cdv A outer s H E hr tk hx po=>by
 unfold b_Wishes_of
 exact (ra (ps_for po rfl (PI.weak (pi_seq (ae_lst (aa_cons (q0 0) (aa_star (q0 1) aa_nil)))) c_seq) (qg 2 sc_Wishes_of rfl) (pss_one (rj (at_cmp (op_notInP (units65 hr)) os_in (q0 2) (ae_cvT (xs := ["kept","let","clear","full","again","order","eager"]) (pe_glob (v := .ref (He.ga K "Wishes")) (by rfl) T.g_Wishes rfl) T.cv_Wishes_NAMES) rfl) (pss_one (Am.PS.weak (ps_rz rfl tk T.e_Unknown E_Unknown (hr.mono (by decide)) (by rfl) T.g_Unknown (pa_cons (q0 2) pa_nil)) c_rz1))))) (c_for tg_name)
(pss_one (rr (Am.PE.weak (pe_makeS T.mk_Wishes G_Wishes_init (hr.mono (by decide)) (by rfl) T.g_Wishes hx (qa (ae_lst (aa_cons (q0 0) (aa_star (q0 1) aa_nil))))) c_makeD))))
theorem wk_Wishes_or (T:Txt K mg) (G_Wishes_init:GX P w K mg base 1 (He.ma K (He.ga K "Wishes") "__init__") m_Wishes_init):WkP P w K mg base N_Wishes_or "Wishes.__or__" s_Wishes_or (He.ma K (He.ga K "Wishes") "__or__") 2 b_Wishes_or := wk_in fun cdv A outer s H E hr tk hx po=>by
 unfold b_Wishes_or
 exact (pss_one (rr (Am.PE.weak (pe_makeS T.mk_Wishes G_Wishes_init (hr.mono (by decide)) (by rfl) T.g_Wishes hx (qa (ae_lst (aa_star (qf (q0 0) T.f_names) (aa_star (qf (q0 1) T.f_names) aa_nil))))) c_makeD)))
theorem wk_Wishes_and (T:Txt K mg) (G_Wishes_init:GX P w K mg base 1 (He.ma K (He.ga K "Wishes") "__init__") m_Wishes_init):WkP P w K mg base N_Wishes_and "Wishes.__and__" s_Wishes_and (He.ma K (He.ga K "Wishes") "__and__") 2 b_Wishes_and := wk_in fun cdv A outer s H E hr tk hx po=>by
 unfold b_Wishes_and
 exact (pss_one (rr (Am.PE.weak (pe_makeS T.mk_Wishes G_Wishes_init (hr.mono (by decide)) (by rfl) T.g_Wishes hx (qa (Am.PE.weak (pe_lc (own := [("name",2)]) rfl sc_Wishes_and.nd (PI.weak (pi_seq (qf (q0 0) T.f_names)) c_seq) (blkOk_by (own := [("name",2)]) (N := N_Wishes_and) (sc := defScope s_Wishes_and) (by decide +kernel)) (fun _ _ _ _ _=>(qg 2 sc_Wishes_and rfl)) (fun _ _ _ _ _=>(pts_one (at_cmp (op_inP (units65 hr)) os_in (q0 2) (qf (q0 1) T.f_names) rfl))) (fun _ _ _ _ _=>(q0 2))) (c_lc tg_name (by decide))))) c_makeD)))
theorem wk_Wishes_sub (T:Txt K mg) (G_Wishes_init:GX P w K mg base 1 (He.ma K (He.ga K "Wishes") "__init__") m_Wishes_init):WkP P w K mg base N_Wishes_sub "Wishes.__sub__" s_Wishes_sub (He.ma K (He.ga K "Wishes") "__sub__") 2 b_Wishes_sub := wk_in fun cdv A outer s H E hr tk hx po=>by
 unfold b_Wishes_sub
 exact (pss_one (rr (Am.PE.weak (pe_makeS T.mk_Wishes G_Wishes_init (hr.mono (by decide)) (by rfl) T.g_Wishes hx (qa (Am.PE.weak (pe_lc (own := [("name",2)]) rfl sc_Wishes_sub.nd (PI.weak (pi_seq (qf (q0 0) T.f_names)) c_seq) (blkOk_by (own := [("name",2)]) (N := N_Wishes_sub) (sc := defScope s_Wishes_sub) (by decide +kernel)) (fun _ _ _ _ _=>(qg 2 sc_Wishes_sub rfl)) (fun _ _ _ _ _=>(pts_one (at_cmp (op_notInP (units65 hr)) os_in (q0 2) (qf (q0 1) T.f_names) rfl))) (fun _ _ _ _ _=>(q0 2))) (c_lc tg_name (by decide))))) c_makeD)))
theorem wk_Wishes_contains (T:Txt K mg):WkP P w K mg base N_Wishes_contains "Wishes.__contains__" s_Wishes_contains (He.ma K (He.ga K "Wishes") "__contains__") 0 b_Wishes_contains := wk_in fun cdv A outer s H E hr tk hx po=>by
 unfold b_Wishes_contains
 exact (pss_one (rr (ae_cmp (op_inP (units65 hr)) os_in (q0 1) (qf (q0 0) T.f_names) rfl)))
theorem wk_Wishes_len (T:Txt K mg):WkP P w K mg base N_Wishes_len "Wishes.__len__" s_Wishes_len (He.ma K (He.ga K "Wishes") "__len__") 0 b_Wishes_len := wk_in fun cdv A outer s H E hr tk hx po=>by
 unfold b_Wishes_len
 exact (pss_one (rr (ql T.z_len (qa (qf (q0 0) T.f_names)))))
theorem wk_Wishes_eq (T:Txt K mg):WkP P w K mg base N_Wishes_eq "Wishes.__eq__" s_Wishes_eq (He.ma K (He.ga K "Wishes") "__eq__") 0 b_Wishes_eq := wk_in fun cdv A outer s H E hr tk hx po=>by
 unfold b_Wishes_eq
 exact (pss_one (rr (ae_and (Am.PE.weak (pe_callB call_isi (by rfl) T.z_isinstance (by decide +kernel) (pa_cons (q0 1) (pa_cons (pe_glob (v := .ref (He.ga K "Wishes")) (by rfl) T.g_Wishes rfl) pa_nil))) (c_isi T.cs (.own _) T.is_Wishes)) (pe_one (ae_cmp (op_eqP hr.units) os_eq (qf (q0 0) T.f_names) (qf (q0 1) T.f_names) (nomark _))))))
def t_law_pool (K:PySem.W.Frag):TS :=
 (tSeq (tAsg (tLc (iSeq K (tSl (Fm.rSlA K) (tVar 0) tNoPart (tPart (tC (.int 63))))) (gName 3) (tTest (tOp rGeA (tVar 3) (tOp rPowA (tC (.int 10)) (tC (.int 18))))) (tCB rInt1 (tCons (tVar 3) tNil)) [3]) (gName 1))
  (tSeq (tAsg (tC (.int 7)) (gName 2))
  (tSeq (tFor (iSeq K (tSl (Fm.rSlA K) (tVar 0) tNoPart (tPart (tC (.int 63))))) (gName 3) (tAsg (tOp rModA (tCB rInt1 (tCons (tOp rAddA (tOp rAddA (tOp rMulA (tVar 2) (tC (.int 31))) (tOp rModA (tCB rInt1 (tCons (tVar 3) tNil)) (tC (.int 1000003)))) (tC (.int 1))) tNil)) (tC (.int 2147483629))) (gName 2)))
  (tRet (tLst (tCons (tVar 1) (tCons (tC (.int 0)) (tCons (tVar 2) (tCons (tC (.int 0)) tNil)))))))))
theorem wk_law_pool {P:Program} {w:World} {K:PySem.W.Frag} {mg:Str→Option Value} {base:Heap} (T:Txt K mg) (cdv:Value) (A:Around) (outer:List Env) (s:Shared) (H:Hp) (E:XK) (hr:Room 0 (A.deeper (envOfC "_law_pool" (defScope s_law_pool) s.heap.objs.size (He.ga K "_law_pool") cdv))) :
  PSs (cxOf CX0 P w K mg base N_law_pool "_law_pool" (defScope s_law_pool) (He.ga K "_law_pool") cdv A outer s H E).nox (defBody s_law_pool) (t_law_pool K) := by
 unfold t_law_pool
 exact (pss_cons (ps_setLc (i := 1) (own := [("_law_cell",3)]) rfl sc_law_pool.nd rfl rfl (sw_true rfl rfl rfl (by decide +kernel)) (pi_seq (pe_slice sl_any (pv 0) po_none (po_some pe_int))) (blkOk_by (own := [("_law_cell",3)]) (N := N_law_pool) (sc := defScope s_law_pool) (by decide +kernel)) (fun _ _ _ _ _=>(qg 3 sc_law_pool rfl)) (fun _ _ _ _ _=>(pts_one (pt_cmpR op_geA (pv 3) (pe_op op_powA pe_int pe_int) (nomark _)))) (fun _ _ _ _ _=>(pe_callTy call_intA (by rfl) T.z_int (by decide +kernel) (pa_cons (pv 3) pa_nil)))) (pss_cons (ps_set (i := 2) sc_law_pool.nd rfl (.inl rfl) pe_int) (pss_cons (ps_for PassesOwn.never rfl (pi_seq (pe_slice sl_any (pv 0) po_none (po_some pe_int))) (qg 3 sc_law_pool rfl) (pss_one (ps_set (i := 2) sc_law_pool.nd rfl (.inl rfl) (pe_op op_modA (pe_callTy call_intA (by rfl) T.z_int (by decide +kernel) (pa_cons (pe_op op_addA (pe_op op_addA (pe_op op_mulA (pv 2) pe_int) (pe_op op_modA (pe_callTy call_intA (by rfl) T.z_int (by decide +kernel) (pa_cons (pv 3) pa_nil)) pe_int)) pe_int) pa_nil)) pe_int)))) (pss_one (ps_ret (pe_lst (pa_cons (pv 1) (pa_cons pe_int (pa_cons (pv 2) (pa_cons pe_int pa_nil))))))))))
def t_law_draw (K:PySem.W.Frag):TS :=
 (tSeq (tAugS (tVar 0) (tC (.int 3)) (tC (.int 1)) rGetL (ipI (· + ·)) rSetL)
  (tSeq (tIfS (tAnd (tTest (tOp (rEqP K) (tOp (rIx K) (tVar 0) (tC (.int 1))) (tC (.int 0)))) (tTest (tOp (rNeP K) (tOp (rIx K) (tVar 0) (tC (.int 0))) (tLst tNil)))) (tSeq (tAsg (tOp (rIx K) (tOp (rIx K) (tVar 0) (tC (.int 0))) (tC (.int 0))) (gSub (tVar 0) (tC (.int 1)) rSetL))
  (tAsg (tSl (Fm.rSlA K) (tOp (rIx K) (tVar 0) (tC (.int 0))) (tPart (tC (.int 1))) tNoPart) (gSub (tVar 0) (tC (.int 0)) rSetL))) tNext)
  (tSeq (tIfS (tTest (tOp rGtA (tOp (rIx K) (tVar 0) (tC (.int 1))) (tC (.int 0)))) (tSeq (tAsg (tOp rModA (tCB rInt1 (tCons (tOp (rIx K) (tVar 0) (tC (.int 1))) tNil)) (tVar 1)) (gName 2))
  (tSeq (tAsg (tOp rDivA (tOp (rIx K) (tVar 0) (tC (.int 1))) (tVar 1)) (gSub (tVar 0) (tC (.int 1)) rSetL))
  (tRet (tVar 2)))) tNext)
  (tSeq (tAsg (tOp rModA (tCB rInt1 (tCons (tOp rAddA (tOp rMulA (tOp (rIx K) (tVar 0) (tC (.int 2))) (tC (.int 48271))) (tOp rMulA (tOp (rIx K) (tVar 0) (tC (.int 3))) (tC (.int 69621)))) tNil)) (tC (.int 2147483647))) (gName 3))
  (tSeq (tAsg (tOp rModA (tCB rInt1 (tCons (tOp rAddA (tOp rMulA (tVar 3) (tOp rAddA (tOp rDivA (tVar 3) (tC (.int 7))) (tC (.int 40692)))) (tOp rMulA (tOp (rIx K) (tVar 0) (tC (.int 3))) (tC (.int 16807)))) tNil)) (tC (.int 2147483399))) (gName 3))
  (tRet (tOp rModA (tOp rDivA (tVar 3) (tC (.int 5))) (tVar 1))))))))
theorem wk_law_draw {P:Program} {w:World} {K:PySem.W.Frag} {mg:Str→Option Value} {base:Heap} (T:Txt K mg) (cdv:Value) (A:Around) (outer:List Env) (s:Shared) (H:Hp) (E:XK) (hr:Room 0 (A.deeper (envOfC "_law_draw" (defScope s_law_draw) s.heap.objs.size (He.ga K "_law_draw") cdv))) :
  PSs (cxOf CX0 P w K mg base N_law_draw "_law_draw" (defScope s_law_draw) (He.ga K "_law_draw") cdv A outer s H E).nox (defBody s_law_draw) (t_law_draw K) := by
 unfold t_law_draw
 exact (pss_cons (ps_augS (pv 0) pe_int get_list pe_int ip_add set_list) (pss_cons (ps_if (PW.pt (pw_and (pt_cmpR (op_eqP hr.units) (pe_ix ix_seq (pv 0) pe_int (fun _ _=>rfl)) pe_int (nomark _)) (pw_and1 (pt_cmpR (op_neP hr.units) (pe_ix ix_seq (pv 0) pe_int (fun _ _=>rfl)) (pe_lst pa_nil) (nomark _))))) (pss_cons (ps_asg (pe_ix ix_seq (pe_ix ix_seq (pv 0) pe_int (fun _ _=>rfl)) pe_int (fun _ _=>rfl)) (pg_sub (pv 0) pe_int set_list)) (pss_one (ps_asg (pe_slice sl_any (pe_ix ix_seq (pv 0) pe_int (fun _ _=>rfl)) (po_some pe_int) po_none) (pg_sub (pv 0) pe_int set_list)))) pss_nil) (pss_cons (ps_if (pt_cmpR op_gtA (pe_ix ix_seq (pv 0) pe_int (fun _ _=>rfl)) pe_int (nomark _)) (pss_cons (ps_set (i := 2) sc_law_draw.nd rfl (.inl rfl) (pe_op op_modA (pe_callTy call_intA (by rfl) T.z_int (by decide +kernel) (pa_cons (pe_ix ix_seq (pv 0) pe_int (fun _ _=>rfl)) pa_nil)) (pv 1))) (pss_cons (ps_asg (pe_op op_divA (pe_ix ix_seq (pv 0) pe_int (fun _ _=>rfl)) (pv 1)) (pg_sub (pv 0) pe_int set_list)) (pss_one (ps_ret (pv 2))))) pss_nil) (pss_cons (ps_set (i := 3) sc_law_draw.nd rfl (.inl rfl) (pe_op op_modA (pe_callTy call_intA (by rfl) T.z_int (by decide +kernel) (pa_cons (pe_op op_addA (pe_op op_mulA (pe_ix ix_seq (pv 0) pe_int (fun _ _=>rfl)) pe_int) (pe_op op_mulA (pe_ix ix_seq (pv 0) pe_int (fun _ _=>rfl)) pe_int)) pa_nil)) pe_int)) (pss_cons (ps_set (i := 3) sc_law_draw.nd rfl (.inl rfl) (pe_op op_modA (pe_callTy call_intA (by rfl) T.z_int (by decide +kernel) (pa_cons (pe_op op_addA (pe_op op_mulA (pv 3) (pe_op op_addA (pe_op op_divA (pv 3) pe_int) pe_int)) (pe_op op_mulA (pe_ix ix_seq (pv 0) pe_int (fun _ _=>rfl)) pe_int)) pa_nil)) pe_int)) (pss_one (ps_ret (pe_op op_modA (pe_op op_divA (pv 3) pe_int) (pv 1)))))))))
theorem wk_law_word (T:Txt K mg) (G_law_draw:GX P w K mg base 1 (He.ga K "_law_draw") m_law_draw):WkP P w K mg base N_law_word "_law_word" s_law_word (He.ga K "_law_word") 1 b_law_word := wk_in fun cdv A outer s H E hr tk hx po=>by
 unfold b_law_word
 exact (rb (rs 2 sc_law_word rfl q2)
(rb (rs 3 sc_law_word rfl (ae_op op_addA os_add q1 (qk G_law_draw hx hr T.g_law_draw T.k_law_draw (qb (q0 0) q1))))
(rb (rs 4 sc_law_word rfl (Am.PE.weak (pe_joinA q2 (Am.PE.weak (pe_lc (own := [("_law_k",5)]) rfl sc_law_word.nd (PI.weak (pi_range1 (by rfl) T.z_range (qa (q0 3))) c_rng1) (blkOk_by (own := [("_law_k",5)]) (N := N_law_word) (sc := defScope s_law_word) (by decide +kernel)) (fun _ _ _ _ _=>(qg 5 sc_law_word rfl)) (fun _ _ _ _ _=>(PTs.weak pts_nil c_yes)) (fun _ _ _ _ _=>(qi (q0 2) (qk G_law_draw passF hr T.g_law_draw T.k_law_draw (qb (q0 0) q1))))) (c_lc tg_name (by decide)))) c_join))
(rb (rj (at_cmp (op_inP (units65 hr)) os_in (q0 4) (q0 1) rfl) (pss_one (rs 4 sc_law_word rfl (qi (Am.PE.weak (pe_lc (own := [("_law_letter",6)]) rfl sc_law_word.nd (PI.weak (pi_seq (q0 2)) c_seq) (blkOk_by (own := [("_law_letter",6)]) (N := N_law_word) (sc := defScope s_law_word) (by decide +kernel)) (fun _ _ _ _ _=>(qg 6 sc_law_word rfl)) (fun _ _ _ _ _=>(pts_one (at_cmp (op_notInP (units65 hr)) os_in (ae_op op_addA os_add (Am.PE.weak (pe_slice sl_any (q0 4) (PO.weak po_none c_noPart) (PO.weak (po_some q1) c_part)) c_sl) (q0 6)) (q0 1) rfl))) (fun _ _ _ _ _=>(ae_op op_addA os_add (Am.PE.weak (pe_slice sl_any (q0 4) (PO.weak po_none c_noPart) (PO.weak (po_some q1) c_part)) c_sl) (q0 6)))) (c_lc tg_name (by decide))) q1))))
(pss_one (rr (q0 4)))))))
theorem wk_law_of {P:Program} {w:World} {K:PySem.W.Frag} {mg:Str→Option Value} {base:Heap} (T:Txt K mg) (G_Wishes_of:FnR P w K mg base (L2.CX P w) 3 (He5.wf K (He.ga K "Wishes") "staticmethod" "of") (spM K m_Wishes_of)) (G_Wishes_or:FnR P w K mg base (L2.CX P w) 3 (He.ma K (He.ga K "Wishes") "__or__") (spM K m_Wishes_or)) {f:FN} {l:Nat} (hl:3≤l) (G_law_of:FnR P w K mg base (L2.CX P w) l (He.ga K "_law_of") (spM K f)) (cdv:Value) (A:Around) (outer:List Env) (s:Shared) (H:Hp) (E:XK) (hr:Room l (A.deeper (envOfC "_law_of" (defScope s_law_of) s.heap.objs.size (He.ga K "_law_of") cdv))) :
  PSs (cxOf (L2.CX P w) P w K mg base N_law_of "_law_of" (defScope s_law_of) (He.ga K "_law_of") cdv A outer s H E) (defBody s_law_of) (cS K (WD E) (b_law_of f)) := by
 have tk:Takes (cxOf (L2.CX P w) P w K mg base N_law_of "_law_of" (defScope s_law_of) (He.ga K "_law_of") cdv A outer s H E) (WD E) := takes_of rfl rfl rfl rfl
 have hx:∀ σ,PassesAt (L2.CX P w) (cxOf (L2.CX P w) P w K mg base N_law_of "_law_of" (defScope s_law_of) (He.ga K "_law_of") cdv A outer s H E) σ (WE (WD E) σ) := fun σ=>passAt tk σ
 have po:PassesOwn (model P w) (cxOf (L2.CX P w) P w K mg base N_law_of "_law_of" (defScope s_law_of) (He.ga K "_law_of") cdv A outer s H E).A (cxOf (L2.CX P w) P w K mg base N_law_of "_law_of" (defScope s_law_of) (He.ga K "_law_of") cdv A outer s H E).env (cxOf (L2.CX P w) P w K mg base N_law_of "_law_of" (defScope s_law_of) (He.ga K "_law_of") cdv A outer s H E).xe := passes_of rfl
 unfold b_law_of
 exact (rb (rj (qe hr.units (ql T.z_len (qa (q0 0))) q1) (pss_one (rr (Am.PE.weak (pe_staticS (pe_glob (v := .ref (He.ga K "Wishes")) (by rfl) T.g_Wishes rfl) T.s_Wishes_of G_Wishes_of (hr.mono (by omega)) hx (qa (qi (q0 0) q1))) c_stat))))
(rb (rj (qe hr.units (ql T.z_len (qa (q0 0))) q1) (pss_one (rr (Am.PE.weak (pe_staticS (pe_glob (v := .ref (He.ga K "Wishes")) (by rfl) T.g_Wishes rfl) T.s_Wishes_of G_Wishes_of (hr.mono (by omega)) hx (qb (qi (q0 0) q1) (qi (q0 0) q1))) c_stat))))
(rb (rj (qe hr.units (ql T.z_len (qa (q0 0))) q1) (pss_one (rr (Am.PE.weak (pe_staticS (pe_glob (v := .ref (He.ga K "Wishes")) (by rfl) T.g_Wishes rfl) T.s_Wishes_of G_Wishes_of (hr.mono (by omega)) hx (qc (qi (q0 0) q1) (qi (q0 0) q1) (qa (qi (q0 0) q1)))) c_stat))))
(rb (rj (qe hr.units (ql T.z_len (qa (q0 0))) q1) (pss_one (rr (Am.PE.weak (pe_staticS (pe_glob (v := .ref (He.ga K "Wishes")) (by rfl) T.g_Wishes rfl) T.s_Wishes_of G_Wishes_of (hr.mono (by omega)) hx (qc (qi (q0 0) q1) (qi (q0 0) q1) (qb (qi (q0 0) q1) (qi (q0 0) q1)))) c_stat))))
(pss_one (rr (Am.PE.weak (pe_opS (op_ownS T.sf_Wishes T.o_Wishes_or G_Wishes_or (hr.mono (by omega)) hx) (Am.PE.weak (pe_clS G_law_of (hr.mono (by omega)) (by rfl) T.g_law_of T.k_law_of hx (qa (Am.PE.weak (pe_slice sl_any (q0 0) (PO.weak po_none c_noPart) (PO.weak (po_some q1) c_part)) c_sl))) c_cl) (Am.PE.weak (pe_clS G_law_of (hr.mono (by omega)) (by rfl) T.g_law_of T.k_law_of hx (qa (Am.PE.weak (pe_slice sl_any (q0 0) (PO.weak (po_some q1) c_part) (PO.weak po_none c_noPart)) c_sl))) c_cl)) c_own)))))))
theorem wk_law_refused (T:Txt K mg) (G_law_of:GX P w K mg base 8 (He.ga K "_law_of") (m_law_of 5)):WkP P w K mg base N_law_refused "_law_refused" s_law_refused (He.ga K "_law_refused") 8 b_law_refused := wk_in fun cdv A outer s H E hr tk hx po=>by
 unfold b_law_refused
 exact (rb (rs 1 sc_law_refused rfl (ae_c (fun _=>.non) pe_non))
(ra (Fm.ps_try_kp rfl rfl sc_law_refused.nd (i := 2) rfl rfl ⟨by rfl,by decide, .inl T.g_FoundError⟩ tk (fun W0 pn0 xe0 tk0 po0=>(pss_one (rd (qk G_law_of (passW tk0) hr T.g_law_of T.k_law_of (qa (q0 0)))))) (fun ea oe ecls ed pn hz hf=>(pss_one (rs 1 sc_law_refused rfl (q0 2))))) (c_tryK T.xm_FoundError)
(rb (rj (PW.pt (aw_or (at_not (at_val (Am.PE.weak (pe_ors (l := tx_Unknown.map (fun (p:Str × Bool)=>p.1)) (t := fun (n:Str)=>tCB (Fm.rIsK K (He.ga K n)) (tCons (tVar 1) (tCons (tC (.ref (He.ga K "Unknown"))) tNil))) (List.forall_mem_cons.mpr ⟨pe_callB (Fm.call_isK T.e_Unknown.exc) (by rfl) T.z_isinstance (by decide +kernel) (pa_cons (pv 1) (pa_cons (pe_glob (v := .ref (He.ga K "Unknown")) (by rfl) T.g_Unknown rfl) pa_nil)),(List.forall_mem_cons.mpr ⟨pe_callB (Fm.call_isK T.e_OtherSchema.exc) (by rfl) T.z_isinstance (by decide +kernel) (pa_cons (pv 1) (pa_cons (pe_glob (v := .ref (He.ga K "Unknown")) (by rfl) T.g_Unknown rfl) pa_nil)),(fun c hc=>nomatch hc)⟩)⟩)) (c_isK (cv := (.ref (He.ga K "Unknown"))) (fun u r=>r) T.ix_Unknown)))) (aw_or (at_val (Am.PE.weak (pe_ors (l := tx_OtherSchema.map (fun (p:Str × Bool)=>p.1)) (t := fun (n:Str)=>tCB (Fm.rIsK K (He.ga K n)) (tCons (tVar 1) (tCons (tC (.ref (He.ga K "OtherSchema"))) tNil))) (List.forall_mem_cons.mpr ⟨pe_callB (Fm.call_isK T.e_Unknown.exc) (by rfl) T.z_isinstance (by decide +kernel) (pa_cons (pv 1) (pa_cons (pe_glob (v := .ref (He.ga K "OtherSchema")) (by rfl) T.g_OtherSchema rfl) pa_nil)),(List.forall_mem_cons.mpr ⟨pe_callB (Fm.call_isK T.e_OtherSchema.exc) (by rfl) T.z_isinstance (by decide +kernel) (pa_cons (pv 1) (pa_cons (pe_glob (v := .ref (He.ga K "OtherSchema")) (by rfl) T.g_OtherSchema rfl) pa_nil)),(fun c hc=>nomatch hc)⟩)⟩)) (c_isK (cv := (.ref (He.ga K "OtherSchema"))) (fun u r=>r) T.ix_OtherSchema))) (pw_or1 (at_not (at_val (Am.PE.weak (pe_ors (l := tx_ValueError.map (fun (p:Str × Bool)=>p.1)) (t := fun (n:Str)=>tCB (Fm.rIsK K (He.ga K n)) (tCons (tVar 1) (tCons (tC (.ty "ValueError")) tNil))) (List.forall_mem_cons.mpr ⟨pe_callB (Fm.call_isK T.e_Unknown.exc) (by rfl) T.z_isinstance (by decide +kernel) (pa_cons (pv 1) (pa_cons (pe_bltn (v := .ty "ValueError") (by rfl) T.z_ValueError (by decide +kernel) rfl) pa_nil)),(List.forall_mem_cons.mpr ⟨pe_callB (Fm.call_isK T.e_OtherSchema.exc) (by rfl) T.z_isinstance (by decide +kernel) (pa_cons (pv 1) (pa_cons (pe_bltn (v := .ty "ValueError") (by rfl) T.z_ValueError (by decide +kernel) rfl) pa_nil)),(fun c hc=>nomatch hc)⟩)⟩)) (c_isK (cv := (.type "ValueError")) (fun u r=>r) T.ix_ValueError)))))))) (pss_one (rr (ae_c (fun _=>.non) pe_non))))
(pss_one (rr (Am.PE.weak (pe_ors (l := (["Unknown"]:List Str)) (t := fun (c:Str)=>Fm.tXk (He.ga K c) "name" (tVar 1)) (List.forall_mem_cons.mpr ⟨Fm.pe_xk (xf_of T.e_Unknown.exc) T.xf_Unknown_name (pv 1),(fun c hc=>nomatch hc)⟩)) c_xk))))))
theorem wk_law_is (T:Txt K mg) (G_Wishes_contains:GX P w K mg base 1 (He.ma K (He.ga K "Wishes") "__contains__") m_Wishes_contains) (G_Wishes_eq:GX P w K mg base 1 (He.ma K (He.ga K "Wishes") "__eq__") m_Wishes_eq) (G_Wishes_len:GX P w K mg base 1 (He.ma K (He.ga K "Wishes") "__len__") m_Wishes_len):WkP P w K mg base N_law_is "_law_is" s_law_is (He.ga K "_law_is") 2 b_law_is := wk_in fun cdv A outer s H E hr tk hx po=>by
 unfold b_law_is
 exact (rb (rs 3 sc_law_is rfl (ae_lst (qc q2 q2 (qc q2 q2 (qc q2 q2 (qa q2))))))
(rb (rj (PW.pt (aw_or (qn hr.units (qf (q0 0) T.f_names) (Am.PE.weak (pe_callTy call_tupA (by rfl) T.z_tuple (by decide +kernel) (qa (Am.PE.weak (pe_lc (own := [("_law_name",4)]) rfl sc_law_is.nd (PI.weak (pi_seq (q0 3)) c_seq) (blkOk_by (own := [("_law_name",4)]) (N := N_law_is) (sc := defScope s_law_is) (by decide +kernel)) (fun _ _ _ _ _=>(qg 4 sc_law_is rfl)) (fun _ _ _ _ _=>(pts_one (PW.pt (aw_or (at_cmp (op_inP (units65 hr)) os_in (q0 4) (q0 1) rfl) (pw_or1 (qe hr.units (q0 4) q2)))))) (fun _ _ _ _ _=>(q0 4))) (c_lc tg_name (by decide))))) (c_cb cs_tup))) (pw_or1 (qn hr.units (Am.PE.weak (pe_callB (call_lenO T.o_Wishes_len G_Wishes_len (hr.mono (by decide)) passF0) (by rfl) T.z_len PySem.boot_len (qa (q0 0))) c_ownLen) (ql T.z_len (qa (qf (q0 0) T.f_names))))))) (pss_one (rr (ae_c (fun _=>.bl _) pe_bl))))
(rb (rj (PW.pt (aw_or (at_not (at_val (Am.PE.weak (pe_callB call_isi (by rfl) T.z_isinstance (by decide +kernel) (pa_cons (qf (q0 0) T.f_names) (pa_cons (pe_bltn (v := .ty "tuple") (by rfl) T.z_tuple (by decide +kernel) rfl) pa_nil))) (c_isi T.cs (.ty _) T.is_tuple)))) (aw_or (at_cmpX (pt_cmpR (op_inO T.o_Wishes_contains G_Wishes_contains (hr.mono (by decide)) passF0) (q0 2) (q0 0) rfl) c_ownIn) (pw_or1 (at_cmpX (pt_cmpR (op_eqO T.o_Wishes_eq G_Wishes_eq (hr.mono (by decide)) passF0) (q0 0) (qf (q0 0) T.f_names) (nomark _)) (c_ownEq T.cs T.nf_Wishes)))))) (pss_one (rr (ae_c (fun _=>.bl _) pe_bl))))
(pss_one (rr (ae_cmp (op_eqP hr.units) os_eq (Am.PE.weak (pe_lc (own := [("_law_name",4)]) rfl sc_law_is.nd (PI.weak (pi_seq (q0 3)) c_seq) (blkOk_by (own := [("_law_name",4)]) (N := N_law_is) (sc := defScope s_law_is) (by decide +kernel)) (fun _ _ _ _ _=>(qg 4 sc_law_is rfl)) (fun _ _ _ _ _=>(pts_one (at_cmpX (pt_cmpR (op_inO T.o_Wishes_contains G_Wishes_contains (hr.mono (by decide)) passF0) (q0 4) (q0 0) rfl) c_ownIn))) (fun _ _ _ _ _=>(q0 4))) (c_lc tg_name (by decide))) (Am.PE.weak (pe_callTy call_listA (by rfl) T.z_list (by decide +kernel) (qa (qf (q0 0) T.f_names))) (c_cb cs_list)) (nomark _)))))))
theorem wk_law {P:Program} {w:World} {K:PySem.W.Frag} {mg:Str→Option Value} {base:Heap} (T:Txt K mg) (G_Wishes_and:FnR P w K mg base (L2.CX P w) 3 (He.ma K (He.ga K "Wishes") "__and__") (spM K m_Wishes_and)) (G_Wishes_eq:FnR P w K mg base (L2.CX P w) 1 (He.ma K (He.ga K "Wishes") "__eq__") (spM K m_Wishes_eq)) (G_Wishes_or:FnR P w K mg base (L2.CX P w) 3 (He.ma K (He.ga K "Wishes") "__or__") (spM K m_Wishes_or)) (G_Wishes_sub:FnR P w K mg base (L2.CX P w) 3 (He.ma K (He.ga K "Wishes") "__sub__") (spM K m_Wishes_sub)) (G_law_draw:FnR P w K mg base (L2.CX P w) 1 (He.ga K "_law_draw") (spM K m_law_draw)) (G_law_is:FnR P w K mg base (L2.CX P w) 3 (He.ga K "_law_is") (spM K m_law_is)) (G_law_of:FnR P w K mg base (L2.CX P w) 8 (He.ga K "_law_of") (spM K (m_law_of 5))) (G_law_pool:FnR P w K mg base (L2.CX P w) 1 (He.ga K "_law_pool") (spM K m_law_pool)) (G_law_refused:FnR P w K mg base (L2.CX P w) 9 (He.ga K "_law_refused") (spM K m_law_refused)) (G_law_word:FnR P w K mg base (L2.CX P w) 2 (He.ga K "_law_word") (spM K m_law_word)) (cdv:Value) (A:Around) (outer:List Env) (s:Shared) (H:Hp) (E:XK) (hr:Room 9 (A.deeper (envOfC "law" (defScope s_law) s.heap.objs.size (He.ga K "law") cdv))) :
  PSs (cxOf CX0 P w K mg base N_law "law" (defScope s_law) (He.ga K "law") cdv A outer s H E).nox (defBody s_law) (cS K WF b_law) := by
 unfold b_law
 exact (rb (rs 1 sc_law rfl (qk G_law_pool passF hr T.g_law_pool T.k_law_pool (qa (q0 0))))
(rb (rs 2 sc_law rfl (ae_lst (qc q2 q2 (qc q2 q2 (qc q2 q2 (qa q2))))))
(rb (rj (qn hr.units (ae_cvT (xs := ["kept","let","clear","full","again","order","eager"]) (pe_glob (v := .ref (He.ga K "Wishes")) (by rfl) T.g_Wishes rfl) T.cv_Wishes_NAMES) (Am.PE.weak (pe_callTy call_tupA (by rfl) T.z_tuple (by decide +kernel) (qa (q0 2))) (c_cb cs_tup))) (pss_one (rr (ae_c (fun _=>.bl _) pe_bl))))
(rb (rs 3 sc_law rfl (qk G_law_word passF hr T.g_law_word T.k_law_word (qb (q0 1) (ae_lst aa_nil))))
(rb (rs 3 sc_law rfl (ae_ifExp (at_cmp (op_inP (units65 hr)) os_in (q0 3) (q0 2) rfl) (ae_op op_addA os_add (q0 3) q2) (q0 3)))
(rb (rs 4 sc_law rfl (Am.PE.weak (pe_lc (own := [("_law_side",10)]) rfl sc_law.nd (PI.weak (pi_range1 (by rfl) T.z_range (qa q1)) c_rng1) (blkOk_by (own := [("_law_side",10)]) (N := N_law) (sc := defScope s_law) (by decide +kernel)) (fun _ _ _ _ _=>(qg 10 sc_law rfl)) (fun _ _ _ _ _=>(PTs.weak pts_nil c_yes)) (fun _ _ _ _ _=>(Am.PE.weak (pe_lc (own := [("_law_k",11)]) rfl sc_law.nd (PI.weak (pi_range1 (by rfl) T.z_range (qa (ae_op op_addA os_add q1 (qk G_law_draw passF hr T.g_law_draw T.k_law_draw (qb (q0 1) q1))))) c_rng1) (blkOk_by (own := [("_law_k",11)]) (N := N_law) (by rfl)) (fun _ _ _ _ _=>(qg 11 sc_law rfl)) (fun _ _ _ _ _=>(PTs.weak pts_nil c_yes)) (fun _ _ _ _ _=>(qi (q0 2) (qk G_law_draw passF hr T.g_law_draw T.k_law_draw (qb (q0 1) q1))))) (c_lc tg_name (by decide))))) (c_lc tg_name (by decide))))
(ra (ps_par rfl sc_law.nd rfl rfl (by decide) rfl rfl (qb (qk G_law_of passF hr T.g_law_of T.k_law_of (qa (qi (q0 4) q1))) (qk G_law_of passF hr T.g_law_of T.k_law_of (qa (qi (q0 4) q1)))) rfl) c_par
(ra (ps_for PassesOwn.never rfl (PI.weak (pi_range1 (by rfl) T.z_range (qa q1)) c_rng1) (qg 7 sc_law rfl) (rb (rj (PW.pt (aw_or (at_not (at_val (qk G_law_is passF hr T.g_law_is T.k_law_is (qc (q0 5) (qi (q0 4) q1) (qa (q0 3)))))) (pw_or1 (at_not (at_val (qk G_law_is passF hr T.g_law_is T.k_law_is (qc (q0 6) (qi (q0 4) q1) (qa (q0 3))))))))) (pss_one (rr (ae_c (fun _=>.bl _) pe_bl))))
(rb (rj (at_not (at_val (qk G_law_is passF hr T.g_law_is T.k_law_is (qc (Am.PE.weak (pe_opS (op_ownS T.sf_Wishes T.o_Wishes_or G_Wishes_or (hr.mono (by decide)) passF) (q0 5) (q0 6)) c_own) (ae_op op_addA os_add (qi (q0 4) q1) (qi (q0 4) q1)) (qa (q0 3)))))) (pss_one (rr (ae_c (fun _=>.bl _) pe_bl))))
(rb (rj (at_not (at_val (qk G_law_is passF hr T.g_law_is T.k_law_is (qc (Am.PE.weak (pe_opS (op_ownS T.sf_Wishes T.o_Wishes_and G_Wishes_and (hr.mono (by decide)) passF) (q0 5) (q0 6)) c_own) (Am.PE.weak (pe_lc (own := [("_law_name",12)]) rfl sc_law.nd (PI.weak (pi_seq (qi (q0 4) q1)) c_seq) (blkOk_by (own := [("_law_name",12)]) (N := N_law) (sc := defScope s_law) (by decide +kernel)) (fun _ _ _ _ _=>(qg 12 sc_law rfl)) (fun _ _ _ _ _=>(pts_one (at_cmp (op_inP (units65 hr)) os_in (q0 12) (qi (q0 4) q1) rfl))) (fun _ _ _ _ _=>(q0 12))) (c_lc tg_name (by decide))) (qa (q0 3)))))) (pss_one (rr (ae_c (fun _=>.bl _) pe_bl))))
(rb (rj (at_not (at_val (qk G_law_is passF hr T.g_law_is T.k_law_is (qc (Am.PE.weak (pe_opS (op_ownS T.sf_Wishes T.o_Wishes_sub G_Wishes_sub (hr.mono (by decide)) passF) (q0 5) (q0 6)) c_own) (Am.PE.weak (pe_lc (own := [("_law_name",12)]) rfl sc_law.nd (PI.weak (pi_seq (qi (q0 4) q1)) c_seq) (blkOk_by (own := [("_law_name",12)]) (N := N_law) (sc := defScope s_law) (by decide +kernel)) (fun _ _ _ _ _=>(qg 12 sc_law rfl)) (fun _ _ _ _ _=>(pts_one (at_cmp (op_notInP (units65 hr)) os_in (q0 12) (qi (q0 4) q1) rfl))) (fun _ _ _ _ _=>(q0 12))) (c_lc tg_name (by decide))) (qa (q0 3)))))) (pss_one (rr (ae_c (fun _=>.bl _) pe_bl))))
(pss_one (rj (qn hr.units (Am.PE.weak (pe_cmpR (op_eqO T.o_Wishes_eq G_Wishes_eq (hr.mono (by decide)) passF0) (q0 5) (q0 6) (nomark _)) (c_ownEq T.cs T.nf_Wishes)) (Am.PE.weak (pe_cmpR (Fm.op_seq hr.units) (pe_callTy (Fm.call_setS rfl) (by rfl) T.z_set (by decide +kernel) (pa_cons (ae_op op_addA os_add (qi (q0 4) q1) (ae_lst (qa q2))) pa_nil)) (pe_callTy (Fm.call_setS rfl) (by rfl) T.z_set (by decide +kernel) (pa_cons (ae_op op_addA os_add (qi (q0 4) q1) (ae_lst (qa q2))) pa_nil)) (nomark _)) c_setEq)) (pss_one (rr (ae_c (fun _=>.bl _) pe_bl)))))))))) (c_for tg_name)
(rb (rj (PW.pt (aw_or (at_not (at_cmpX (pt_cmpR (op_eqO T.o_Wishes_eq G_Wishes_eq (hr.mono (by decide)) passF0) (qk G_law_of passF hr T.g_law_of T.k_law_of (qa (ae_op op_addA os_add (Am.PE.weak (pe_revL (qi (q0 4) q1)) c_rev) (qi (q0 4) q1)))) (q0 5) (nomark _)) (c_ownEq T.cs T.nf_Wishes))) (pw_or1 (at_not (at_val (qk G_law_is passF hr T.g_law_is T.k_law_is (qc (qk G_law_of passF hr T.g_law_of T.k_law_of (qa (q0 2))) (q0 2) (qa (q0 3))))))))) (pss_one (rr (ae_c (fun _=>.bl _) pe_bl))))
(rb (rs 8 sc_law rfl (Am.PE.weak (pe_slice sl_any (qi (q0 4) q1) (PO.weak po_none c_noPart) (PO.weak (po_some q1) c_part)) c_sl))
(rb (rs 9 sc_law rfl (qk G_law_draw passF hr T.g_law_draw T.k_law_draw (qb (q0 1) (ae_op op_addA os_add (ql T.z_len (qa (q0 8))) q1))))
(rb (rj (PW.pt (aw_or (qn hr.units (qk G_law_refused passF hr T.g_law_refused T.k_law_refused (qa (ae_op op_addA os_add (ae_op op_addA os_add (Am.PE.weak (pe_slice sl_any (q0 8) (PO.weak po_none c_noPart) (PO.weak (po_some (q0 9)) c_part)) c_sl) (ae_lst (qa (q0 3)))) (Am.PE.weak (pe_slice sl_any (q0 8) (PO.weak (po_some (q0 9)) c_part) (PO.weak po_none c_noPart)) c_sl)))) (q0 3)) (pw_or1 (qn hr.units (qk G_law_refused passF hr T.g_law_refused T.k_law_refused (qa (ae_lst (qb (q0 3) (ae_op op_addA os_add (q0 3) q2))))) (q0 3))))) (pss_one (rr (ae_c (fun _=>.bl _) pe_bl))))
(pss_one (rr (ae_and (ae_cmp (op_eqP hr.units) os_eq (qk G_law_refused passF hr T.g_law_refused T.k_law_refused (qa (ae_lst (qc (ae_op op_addA os_add (q0 3) q2) (q0 3) (qa (qi (q0 8) q1)))))) (ae_op op_addA os_add (q0 3) q2) (nomark _)) (pe_one (qk G_law_is passF hr T.g_law_is T.k_law_is (qc (qk G_law_of passF hr T.g_law_of T.k_law_of (qa (q0 8))) (q0 8) (qa (q0 3))))))))))))))))))))
end
end Lw
namespace Lw
open PySem PySem.Spec PyProof.Rows L2 Fm
open Am (spM fDraw fPool Wr Sg AH Stp put put_same put_ne Rep Reps Post Sub Lk)
open PySem.W (Datum Tup T3 T4)
structure PD (T H:Hp) (p g:Addr) (gs:List Int) (c sd n:Int):Prop where
 st:Same T H
 tp:T p=none
 hp:H p=some (.lst [.ref g, .int c, .int sd, .int n])
 hg:H g=some (.lst (gs.map V.int))
 lo:0≤sd
 hi:sd < 2147483648
theorem PD.ne {T H:Hp} {p g:Addr} {gs:List Int} {c sd n:Int} (h:PD T H p g gs c sd n):g≠p := fun e=>by
 have h1 := h.hp
 rw [← e,h.hg] at h1
 cases gs with
 | nil=>cases h1
 | cons a r=>cases h1
theorem PD.keep {T H H':Hp} {p g:Addr} {gs:List Int} {c sd n:Int} (h:PD T H p g gs c sd n) (e:Same H H'):PD T H' p g gs c sd n := ⟨h.st.trans e,h.tp,e _ _ h.hp,e _ _ h.hg,h.lo,h.hi⟩
theorem PD.put {T H:Hp} {p g:Addr} {gs:List Int} {c sd n c' n':Int} (h:PD T H p g gs c sd n):PD T (upd H p (.lst [.ref g, .int c', .int sd, .int n'])) p g gs c' sd n' :=
 ⟨same_upd h.st h.tp,h.tp,upd_same,by rw [upd_ne h.ne]; exact h.hg,h.lo,h.hi⟩
theorem mod_small {a m:Int} (h:0 < m):0≤a % m∧a % m < m := ⟨Int.emod_nonneg _ (by omega),Int.emod_lt_of_pos _ h⟩
theorem pure_law_draw (K : PySem.W.Frag) (H : Hp) (vs : List V) (Q : VK) (E : XK) (h : spM K fDraw vs H Q E) : t_law_draw K { nx := fun _ H' => Q .non H', rt := Q } (start N_law_draw vs) H := by
  obtain ⟨g0, A, ds, Qa, Ea, w, rv, ⟨nn, n, e0, hA, hn, hl, hq⟩, po, _⟩ := h
  subst e0
  obtain ⟨p, hi, hS, gs, c, sd, m, g, hp, hg', h0, h1⟩ := w.nd nn _ hA
  have hg : H g = some (.lst (gs.map V.int)) := w.sub.at_ hg' (by constructor <;> intro _ z <;> cases z)
  have evs : vs = [.ref p, .int n] := by
    cases rv with
    | cons r1 rv => cases rv with
      | cons r2 rv =>
        cases rv
        rw [r2.int_]
        cases r1 with
        | ref z => rw [hi] at z; cases z; rfl
  subst evs
  obtain ⟨T, eT⟩ : ∃ T : Hp, T = fun a => if a = p then none else H a := ⟨_, rfl⟩
  have nTp : T p = none := by rw [eT]; exact if_pos rfl
  have sTH : Same T H := fun b x e => by
    rw [eT] at e
    by_cases hb : b = p
    · simp only [hb, if_true] at e; cases e
    · simp only [hb, if_false] at e; exact e
  have d0 : PD T H p g gs c sd m := ⟨sTH, nTp, hp, hg, h0, h1⟩
  have fin : ∀ H' g1 gs c m r, (g1 = g ∨ H g1 = none) → PD T H' p g1 gs c sd m → 0 ≤ r → r < n → Q (.int r) H' := fun H' g1 gs1 c m r hg1 d a b => by
    have keep : ∀ b x, H b = some x → b ≠ p → H' b = some x := fun b x e hb => d.st b x (by rw [eT]; simp only [hb, if_false]; exact e)
    have hSg : ∀ x, g0.S g1 = some x → H' g1 = some x ∧ x = .lst (gs1.map V.int) := fun x e => by
      have e1 := w.sub g1 x e
      rcases hg1 with z | z
      · subst z
        rw [hg'] at e; cases e
        have k1 := keep g1 _ hg (ne_of_none hg' hS)
        exact ⟨k1, by rw [d.hg] at k1; exact (Option.some.inj k1).symm⟩
      · obtain ⟨o', e2, _⟩ := e1; rw [z] at e2; cases e2
    have le : g0.le ⟨upd g0.S g1 (.lst (gs1.map V.int)), g0.i⟩ := ⟨fun b x e => by
      show upd g0.S g1 (.lst (gs1.map V.int)) b = some x
      by_cases hb : b = g1
      · subst hb; rw [upd_same, ← (hSg x e).2]
      · rw [upd_ne hb]; exact e, fun _ _ h => h⟩
    have ng1 : g1 ≠ p := d.ne
    have nnode : ∀ k a, g0.i k = some a → A k ≠ none → a ≠ g1 := fun k a e hk z => by
      cases q : A k with
      | none => exact hk q
      | some x =>
        obtain ⟨a', k1, k2, k3⟩ := w.nd k x q
        rw [e] at k1; cases k1
        rcases hg1 with y | y
        · rw [z, y] at k2; rw [hg'] at k2; cases k2
        · exact w.ex k a e (by rw [z]; exact y)
    have w' : Wr K ⟨upd g0.S g1 (.lst (gs1.map V.int)), g0.i⟩ A H' := by
      refine ⟨fun b o e => ?_, w.inj, fun k a e => ?_, w.fin, fun k x e => ?_⟩
      · have e' : upd g0.S g1 (.lst (gs1.map V.int)) b = some o := e
        by_cases hb : b = g1
        · subst hb; rw [upd_same] at e'; cases e'; exact ⟨_, d.hg, .inl rfl⟩
        · rw [upd_ne hb] at e'
          obtain ⟨o', e2, lk⟩ := w.sub b o e'
          have hbp : b ≠ p := fun z => by rw [z, hS] at e'; cases e'
          exact ⟨o', keep b o' e2 hbp, lk⟩
      · by_cases ha : a = p
        · rw [ha, d.hp]; simp
        · cases q : H a with
          | none => exact absurd q (w.ex k a e)
          | some x => rw [keep a x q ha]; simp
      · obtain ⟨a, k1, k2, k3⟩ := w.nd k x e
        by_cases hk : k = nn
        · subst hk
          rw [hA] at e; cases e
          rw [hi] at k1; cases k1
          exact ⟨p, hi, by show upd g0.S g1 _ p = none; rw [upd_ne (Ne.symm ng1)]; exact hS, gs1, c, sd, m, g1, d.hp, upd_same, h0, h1⟩
        · have ha : a ≠ p := fun z => hk (w.inj k nn p (by rw [← z]; exact k1) hi)
          refine ⟨a, k1, ?_, k3.mono le ?_⟩
          · show upd g0.S g1 _ a = none
            rw [upd_ne (nnode k a k1 (by rw [e]; simp))]; exact k2
          · cases q : H a with
            | none => exact absurd q (w.ex k a k1)
            | some y => exact keep a y q ha
    refine po _ _ _ _ _ ⟨le, fun b o e nb => keep b o e (fun z => nb ⟨nn, _, hA, by rw [z]; exact hi⟩), fun b h => .inl h, fun b hb => ?_, fun b o hb _ hs _ => ?_, fun _ _ h => .inl h⟩ w' (.int r) (hq r a b)
    · by_cases z : b = p
      · rw [z, d.hp]; simp
      · cases q : H b with
        | none => exact absurd q hb
        | some x => rw [keep b x q z]; simp
    · show upd g0.S g1 _ b = none
      by_cases z : b = g1
      · rcases hg1 with y | y
        · rw [z, y, hg'] at hs; cases hs
        · rw [z, y] at hb; cases hb
      · rw [upd_ne z]; exact hs
  have ng : g = g ∨ H g = none := .inl rfl
  clear hg
  refine ⟨_, rfl, ⟨p, _, 3, .int m, rfl, rfl, by decide, hp, rfl, ⟨m, 1, rfl, rfl, ⟨p, _, 3, 3, rfl, rfl, hp, rfl, ?_⟩⟩⟩⟩
  have d1 := d0.put (c' := c) (n' := m + 1)
  show tSeq _ _ _ _ (upd H p (.lst [.ref g, .int c, .int sd, .int (m + 1)]))
  generalize upd H p (.lst [.ref g, .int c, .int sd, .int (m + 1)]) = H1 at d1
  clear d0 hp
  have tail : ∀ H1 g1 gs c, (g1 = g ∨ H g1 = none) → PD T H1 p g1 gs c sd (m + 1) → (tSeq (tIfS (tTest (tOp rGtA (tOp (rIx K) (tVar 0) (tC (.int 1))) (tC (.int 0)))) (tSeq (tAsg (tOp rModA (tCB rInt1 (tCons (tOp (rIx K) (tVar 0) (tC (.int 1))) tNil)) (tVar 1)) (gName 2))
    (tSeq (tAsg (tOp rDivA (tOp (rIx K) (tVar 0) (tC (.int 1))) (tVar 1)) (gSub (tVar 0) (tC (.int 1)) rSetL))
    (tRet (tVar 2)))) tNext)
    (tSeq (tAsg (tOp rModA (tCB rInt1 (tCons (tOp rAddA (tOp rMulA (tOp (rIx K) (tVar 0) (tC (.int 2))) (tC (.int 48271))) (tOp rMulA (tOp (rIx K) (tVar 0) (tC (.int 3))) (tC (.int 69621)))) tNil)) (tC (.int 2147483647))) (gName 3))
    (tSeq (tAsg (tOp rModA (tCB rInt1 (tCons (tOp rAddA (tOp rMulA (tVar 3) (tOp rAddA (tOp rDivA (tVar 3) (tC (.int 7))) (tC (.int 40692)))) (tOp rMulA (tOp (rIx K) (tVar 0) (tC (.int 3))) (tC (.int 16807)))) tNil)) (tC (.int 2147483399))) (gName 3))
    (tRet (tOp rModA (tOp rDivA (tVar 3) (tC (.int 5))) (tVar 1)))))) { nx := fun _ H' => Q .non H', rt := Q } [some (.ref p), some (.int n), none, none] H1 := by
    intro H1 g1 gs c ng d
    refine q_if (M := W0) (S := H1) (T := H1) (b := decide (0 < c)) (ev_test (K := K) (ev_gt (ev_at rfl d.hp rfl rfl is_int) ev_ic)) (Same.refl _) (Same.refl _) (fun S2 T2 H2 st w2 hb => ?_) (fun S2 T2 H2 st w2 hb => ?_)
    · have d2 := d.keep (st.tt.trans w2)
      refine q_set (M := W0) (S := H2) (T := H2) (P := Is K (c % n)) (ev_mod (ev_int (ev_at rfl d2.hp rfl rfl is_int)) (ev_iv rfl) hn) (Same.refl _) (Same.refl _) fun S3 T3 H3 v st3 w3 hv => ?_
      have d3 := d2.keep (st3.tt.trans w3)
      rw [hv.int]
      refine (ev_div (M := W0) (K := K) (S := H3) (a := c) (b := n) (ev_at rfl d3.hp rfl rfl is_int) (ev_iv rfl) ⟨hn, hl⟩) H3 H3 (Same.refl _) (Same.refl _) _ fun S4 T4 H4 v st4 w4 hv => ?_
      have d4 := d3.keep (st4.tt.trans w4)
      rw [hv.int]
      refine ⟨_, rfl, ⟨p, _, 1, 1, rfl, rfl, d4.hp, rfl, ?_⟩⟩
      have d5 := d4.put (c' := c / n) (n' := m + 1)
      exact ⟨_, rfl, fin _ _ _ _ _ _ ng d5 (mod_small hn).1 (mod_small hn).2⟩
    · have d2 := d.keep (st.tt.trans w2)
      refine q_set (M := W0) (S := H2) (T := H2) (ev_mod (K := K) (ev_int (ev_add (ev_mul (ev_at rfl d2.hp rfl rfl is_int) ev_ic (.inr ⟨by decide, by decide⟩)) (ev_mul (ev_at rfl d2.hp rfl rfl is_int) ev_ic (.inr ⟨by decide, by decide⟩)))) ev_ic (by decide)) (Same.refl _) (Same.refl _) fun S3 T3 H3 v st3 w3 hv => ?_
      have d3 := d2.keep (st3.tt.trans w3)
      have hv' := hv.int
      obtain ⟨b1, b2⟩ := mod_small (a := sd * 48271 + (m + 1) * 69621) (m := 2147483647) (by decide)
      generalize (sd * 48271 + (m + 1) * 69621) % 2147483647 = x at hv' b1 b2
      subst hv'
      refine q_set (M := W0) (S := H3) (T := H3) (ev_mod (K := K) (ev_int (ev_add (ev_mul (ev_iv rfl) (ev_add (ev_div (ev_iv rfl) ev_ic ⟨by decide, by decide⟩) ev_ic) (.inl ⟨by omega, by omega⟩)) (ev_mul (ev_at rfl d3.hp rfl rfl is_int) ev_ic (.inr ⟨by decide, by decide⟩)))) ev_ic (by decide)) (Same.refl _) (Same.refl _) fun S4 T4 H4 v st4 w4 hv => ?_
      have d4 := d3.keep (st4.tt.trans w4)
      have hv' := hv.int
      subst hv'
      refine q_ret (M := W0) (S := H4) (T := H4) (ev_mod (K := K) (ev_div (ev_iv rfl) ev_ic ⟨by decide, by decide⟩) (ev_iv rfl) hn) (Same.refl _) (Same.refl _) fun S5 T5 H5 v st5 w5 hv => ?_
      have d5 := d4.keep (st5.tt.trans w5)
      rw [hv.int]
      exact fin _ _ _ _ _ _ ng d5 (mod_small hn).1 (mod_small hn).2
  have e0 : Is K gs H1 (.ref g) := is_lst (.inl d1.hg) isAll_ints
  refine q_if (M := W0) (S := H1) (T := H1) (b := decide (c = 0) && !decide (gs = [])) (ev_and (ev_test (K := K) (ev_eq (ev_at rfl d1.hp rfl rfl is_int) ev_ic)) (fun _ => ev_test (K := K) (ev_ne (a := gs) (b := []) (ev_at rfl d1.hp rfl rfl e0) ev_l0))) (Same.refl _) (Same.refl _) (fun S2 T2 H2 st w2 hb => ?_) (fun S2 T2 H2 st w2 hb => ?_)
  · have d2 := d1.keep (st.tt.trans w2)
    have hg : gs ≠ [] := fun z => by rw [z] at hb; simp at hb
    obtain ⟨g0', gr, rfl⟩ : ∃ g0' gr, gs = g0' :: gr := by
      cases gs with
      | nil => exact absurd rfl hg
      | cons a r => exact ⟨a, r, rfl⟩
    have e2 : Is K (g0' :: gr) H2 (.ref g) := is_lst (.inl d2.hg) isAll_ints
    refine (ev_ix (M := W0) (K := K) (S := H2) (xs := g0' :: gr) (i := 0) (a := g0') (ev_at rfl d2.hp rfl rfl e2) ev_ic rfl rfl) H2 H2 (Same.refl _) (Same.refl _) _ fun S3 T3 H3 v st3 w3 hv => ?_
    have d3 := d2.keep (st3.tt.trans w3)
    rw [hv.int]
    refine ⟨_, rfl, ⟨p, _, 1, 1, rfl, rfl, d3.hp, rfl, ?_⟩⟩
    have d4 : PD T (upd H3 p (HO.lst ([V.ref g, V.int c, V.int sd, V.int (m + 1)].set 1 (V.int g0')))) p g (g0' :: gr) g0' sd (m + 1) := d3.put (c' := g0') (n' := m + 1)
    dsimp only
    generalize upd H3 p (HO.lst ([V.ref g, V.int c, V.int sd, V.int (m + 1)].set 1 (V.int g0'))) = H4 at d4 ⊢
    have e4 : Is K (g0' :: gr) H4 (.ref g) := is_lst (.inl d4.hg) isAll_ints
    refine ⟨.ref p, rfl, .inl ⟨p, _, 0, .ref g, rfl, rfl, SqL.of d4.hp, rfl, 1, rfl, .inl ⟨g, (g0' :: gr).map V.int, rfl, SqL.of d4.hg, fun l nl => ?_⟩⟩⟩
    have hlp : p ≠ l := ne_of_none d4.hp nl
    refine ⟨_, rfl, ⟨p, _, 0, 0, rfl, rfl, by rw [upd_ne hlp]; exact d4.hp, rfl, ?_⟩⟩
    refine tail _ l gr g0' (.inr ?_) ⟨same_upd (d4.st.trans (same_new nl)) d4.tp, d4.tp, upd_same, ?_, d4.lo, d4.hi⟩
    · have := d4.st.free nl
      rw [eT] at this
      simpa [Ne.symm hlp] using this
    rw [upd_ne (Ne.symm hlp), upd_same]
    show some (HO.lst (cutV (V.int g0' :: gr.map V.int) (some 1) none)) = _
    have e : cutV (V.int g0' :: gr.map V.int) (some 1) none = gr.map V.int := by
      unfold cutV
      rw [show HT.sIx (V.int g0' :: gr.map V.int).length 0 (some 1) = min 1 (V.int g0' :: gr.map V.int).length from HT.sIx_nat _ 0 1, HT.sIx_none]
      rw [show min 1 (V.int g0' :: gr.map V.int).length = 1 by rw [List.length_cons]; omega]
      show List.take ((V.int g0' :: gr.map V.int).length - 1) (gr.map V.int) = gr.map V.int
      rw [List.length_cons, Nat.add_sub_cancel]
      exact List.take_length
    rw [e]
  · exact tail H2 g gs c ng (d1.keep (st.tt.trans w2))
end Lw
namespace Lw
open PySem PySem.Spec PyProof.Rows L2 Fm
open PySem.W (Datum Tup T3 T4)
open Am (spM fDraw fPool Wr Sg AH Stp put put_same put_ne Rep Reps Post Sub Lk)
theorem small1 {n:Nat} (h:n≤1000):n≤sizeLine := small_size h
section
variable {K:PySem.W.Frag}
theorem len_law_draw {vs:List V} {H:Hp} {Q:VK} {E:XK} (h:spM K fDraw vs H Q E):vs.length=2 := by
 obtain ⟨g0,A,ds,Qa,Ea,w,rv,⟨nn,n,e0,_⟩,po,_⟩ := h
 rw [rv.len,e0]; rfl
theorem len_law_pool {vs:List V} {H:Hp} {Q:VK} {E:XK} (h:spM K fPool vs H Q E):vs.length=1 := by
 obtain ⟨g0,A,ds,Qa,Ea,w,rv,⟨nn,e0,_⟩,po,_⟩ := h
 rw [rv.len,e0]; rfl
theorem pool_laid {g0 : Sg} {A : AH} {H H' : Hp} {Qa : Am.QE} {Q : VK} {p g : Addr} {gs : List Int} {c sd n : Int} (w : Wr K g0 A H) (s : Same H H') (np : H p = none) (ng : H g = none) (hp : H' p = some (.lst [.ref g, .int c, .int sd, .int n])) (hg : H' g = some (.lst (gs.map V.int))) (h0 : 0 ≤ sd) (h1 : sd < 2147483648)
    (hq : ∀ n, A n = none → Qa (.ref n) (put A n .pool)) (po : Post K g0 A H Qa Q) : Q (.ref p) H' := by
  have hne : g ≠ p := fun e => by
    rw [e, hp] at hg
    cases gs with
    | nil => cases hg
    | cons a r => cases hg
  obtain ⟨N, hN⟩ := w.fin
  have hi : g0.i N = none := hN N (Nat.le_refl _)
  have hA : A N = none := by
    cases e : A N with
    | none => rfl
    | some x => obtain ⟨a, h, _⟩ := w.nd N x e; rw [hi] at h; cases h
  have nS : g0.S g = none := w.sub.free ng
  have le : g0.le ⟨upd g0.S g (.lst (gs.map V.int)), fun m => if m = N then some p else g0.i m⟩ := ⟨same_new nS, fun m a h => by
    have : m ≠ N := fun e => by rw [e, hi] at h; cases h
    show (if m = N then some p else g0.i m) = some a
    rw [if_neg this]; exact h⟩
  have old : ∀ m a, (if m = N then some p else g0.i m) = some a → (m = N ∧ a = p) ∨ (m ≠ N ∧ g0.i m = some a ∧ a ≠ p) := fun m a h => by
    by_cases e : m = N
    · rw [if_pos e] at h; exact .inl ⟨e, (Option.some.inj h).symm⟩
    · rw [if_neg e] at h; exact .inr ⟨e, h, fun z => w.ex m a h (by rw [z]; exact np)⟩
  have kp : ∀ a o, H a = some o → H' a = some o := s
  refine po ⟨upd g0.S g (.lst (gs.map V.int)), fun m => if m = N then some p else g0.i m⟩ (put A N .pool) H' (.ref p) (.ref N) ⟨le, fun a o h _ => kp a o h, fun a h => ?_, fun a h => ?_, fun a o h _ hs _ => ?_, fun m a h => ?_⟩ ⟨fun b o e => ?_, fun m k a h1 h2 => ?_, fun m a h => ?_, ⟨N + 1, fun m h => ?_⟩, fun m y h => ?_⟩ (.ref (if_pos rfl)) (hq N hA)
  · obtain ⟨m, y, h1, h2⟩ := h
    rcases old m a h2 with ⟨e1, e2⟩ | ⟨e1, e2, e3⟩
    · exact .inr (by rw [e2]; exact np)
    · rw [put_ne e1] at h1; exact .inl ⟨m, y, h1, e2⟩
  · cases q : H a with
    | none => exact absurd q h
    | some o => rw [kp a o q]; simp
  · show upd g0.S g _ a = none
    rw [upd_ne (ne_of_none h ng)]; exact hs
  · rcases old m a h with ⟨e1, e2⟩ | ⟨e1, e2, e3⟩
    · exact .inr (by rw [e2]; exact np)
    · exact .inl e2
  · have e' : upd g0.S g (.lst (gs.map V.int)) b = some o := e
    by_cases hb : b = g
    · subst hb; rw [upd_same] at e'; cases e'; exact ⟨_, hg, .inl rfl⟩
    · rw [upd_ne hb] at e'
      obtain ⟨o', e2, lk⟩ := w.sub b o e'
      exact ⟨o', kp _ _ e2, lk⟩
  · rcases old m a h1 with ⟨e1, e2⟩ | ⟨e1, e2, e3⟩ <;> rcases old k a h2 with ⟨f1, f2⟩ | ⟨f1, f2, f3⟩
    · rw [e1, f1]
    · exact absurd e2 f3
    · exact absurd f2 e3
    · exact w.inj m k a e2 f2
  · rcases old m a h with ⟨e1, e2⟩ | ⟨e1, e2, e3⟩
    · rw [e2, hp]; simp
    · cases q : H a with
      | none => exact absurd q (w.ex m a e2)
      | some o => rw [kp a o q]; simp
  · show (if m = N then some p else g0.i m) = none
    rw [if_neg (by omega)]; exact hN m (by omega)
  · by_cases e : m = N
    · subst e
      rw [put_same] at h; cases h
      exact ⟨p, if_pos rfl, by show upd g0.S g _ p = none; rw [upd_ne (Ne.symm hne)]; exact w.sub.free np, gs, c, sd, n, g, hp, upd_same, h0, h1⟩
    · rw [put_ne e] at h
      obtain ⟨a, k1, k2, k3⟩ := w.nd m y h
      have hag : a ≠ g := fun z => w.ex m a k1 (by rw [z]; exact ng)
      refine ⟨a, by show (if m = N then some p else g0.i m) = some a; rw [if_neg e]; exact k1, by show upd g0.S g _ a = none; rw [upd_ne hag]; exact k2, k3.mono le ?_⟩
      cases q : H a with
      | none => exact absurd q (w.ex m a k1)
      | some o => exact kp a o q
theorem pure_law_pool (K:PySem.W.Frag) (H:Hp) (vs:List V) (Q:VK) (E:XK) (h:spM K fPool vs H Q E):t_law_pool K { nx := fun _ H'=>Q .non H',rt := Q } (start N_law_pool vs) H := by
 obtain ⟨g0,A,ds,Qa,Ea,w0,rv,⟨ns,e0,hl,hq⟩,po,_⟩ := h
 subst e0
 obtain ⟨a,rfl,hr⟩:∃ a,vs=[.ref a]∧SqL K H a (ns.map V.int) := by
  cases rv with
  | cons r1 rv =>
   cases rv
   cases r1 with
   | scr z=>exact ⟨_,rfl,w0.sub.sql z⟩
 have hcut:∀ {σ:L2.St} {S:Hp},Same H S→σ[0]? = some (some (.ref a))→EvI W0 (iSeq K (tSl (Fm.rSlA K) (tVar 0) tNoPart (tPart (tC (.int 63))))) σ S (cutL ns none (some 63)).length (Itm K (cutL ns none (some 63))) := fun e h0=>evi_list (ev_cutQ h0 (Same.sql e hr) isAll_ints evo_none (evo_some (K := K) ev_ic))
 have hcl:(cutL ns none (some 63)).length≤1000 := by
  rw [show (63:Int)=((63:Nat):Int) from rfl,cutL_to]
  have := List.length_take_le 63 ns
  omega
 have hg:Ev W0 (tLc (iSeq K (tSl (Fm.rSlA K) (tVar 0) tNoPart (tPart (tC (.int 63))))) (gName 3) (tTest (tOp rGeA (tVar 3) (tOp rPowA (tC (.int 10)) (tC (.int 18))))) (tCB rInt1 (tCons (tVar 3) tNil)) [3]) (start N_law_pool [.ref a]) H (fun S' v=>∃ (g:Addr) (gs:List Int),v = .ref g∧H g=none∧S' g=some (.lst (gs.map V.int))) := by
  generalize hxs:cutL ns none (some 63)=xs at *
  refine (ev_lcN (p := fun i=>decide (10 ^ 18≤xs.getD i 0)) (E := fun i=>Is K (xs.getD i 0)) (hcut (Same.refl _) rfl) itm_mono (fun i=>is_mono) (small1 hcl) fun i S1 v hi e ⟨x,h1,h2⟩=>?_).imp fun S' v e ⟨g,ws,h1,h2,h3,h4⟩=>?_
  ·have ex:xs.getD i 0=x := by rw [List.getD_eq_getElem?_getD,h1]; rfl
   rw [ex]
   exact ⟨_,fun H s Q q=>q,wipe1,ev_test (K := K) (ev_ge (ev_var rfl h2) (ev_pow (a := 10) (b := 18) ev_ic ev_ic ⟨by decide,by decide,by decide⟩)),fun _=>ev_int (ev_var rfl h2)⟩
  ·have := paired_is (K := K) (xs := ([]:List Int)) h4
   have e2 := this.ints
   exact ⟨g,_,h1,h2,by rw [h3,e2]⟩
 refine q_set (M := W0) (S := H) (T := H) hg (Same.refl _) (Same.refl _) fun S1 T1 H1 v1 st1 w1 p1=>?_
 obtain ⟨g,gs,rfl,ng,hg1⟩ := p1
 dsimp only
 refine q_set (M := W0) (S := S1) (T := T1) (P := Is K (7:Int)) ev_ic w1 st1.st fun S2 T2 H2 v2 st2 w2 p2=>?_
 rw [p2.int]
 have e2 := st1.ss.trans st2.ss
 refine for_ev (M := W0) (S := S2) (T := T2) (hcut e2 rfl) itm_mono w2 st2.st (fun i σ S T=>∃ sd x,σ=[some (.ref a),some (.ref g),some (.int sd),x]∧0≤sd∧sd < 2147483648) (fun _ _ _=>⟨7,none,rfl,by decide,by decide⟩) (fun i v σ2 S3 T3 H3 hi st3 w3 hJ ⟨x,hx,hv⟩=>?_) (fun σ2 S3 T3 H3 st3 w3 hJ=>?_)
 ·obtain ⟨sd,x0,rfl,h0,h1⟩ := hJ
  refine q_set (M := W0) (S := S3) (T := T3) (ev_mod (K := K) (ev_int (ev_add (ev_add (ev_mul (ev_iv (z := sd) rfl) ev_ic (.inr ⟨by decide,by decide⟩)) (ev_mod (ev_int (ev_var rfl hv)) ev_ic (by decide))) ev_ic)) ev_ic (by decide)) w3 st3.st fun S4 T4 H4 v4 st4 w4 p4=>?_
  refine ⟨S4,T4,st3.trans st4,w4,st4.ss,_,some v,by rw [p4.int]; rfl,(mod_small (by decide)).1, ?_⟩
  have := (mod_small (a := sd * 31 + x % 1000003 + 1) (m := 2147483629) (by decide)).2
  omega
 ·obtain ⟨sd,x0,rfl,h0,h1⟩ := hJ
  refine ⟨.ref g,rfl, .int sd,rfl,small_size (by simp),fun p np=>?_⟩
  have sH:Same H H3 := (st1.tt.trans (st2.tt.trans st3.tt)).trans w3
  have hg3:H3 g=some (.lst (gs.map V.int)) := w3 _ _ (st3.st _ _ (st3.ss _ _ (st2.ss _ _ hg1)))
  have hpg:g≠p := ne_of_none hg3 np
  exact pool_laid w0 (sH.trans (same_new np)) (sH.free np) ng upd_same (by rw [upd_ne hpg]; exact hg3) h0 h1 hq po
end
end Lw
namespace Lw
open PySem PySem.Spec PyProof.Rows L2 Am
open PySem.W (Datum Tup T3 T4)
open TL (tl tl_append tl_join joinL join_eq)
abbrev lawE:AEnds := { nx := fun _ _=>False,rt := fun d _=>d = .bl true,bk := fun _ _=>False,ct := fun _ _=>False,ex := fun _ _ _=>False }
def abc:Str := "abcdefghijklmnopqrstuvwxyz"
def isW (z:Str):Bool := (decide ((1:Int)≤z.length) && decide ((z.length:Int)≤8)) && z.cps.toList.all fun c=>decide (c∈abc.cps.toList)
theorem word_len {z:Str} (h:isW z=true):z.length≤8∧1≤z.length := by
 unfold isW at h
 simp only [Bool.and_eq_true,decide_eq_true_eq] at h
 omega
section
variable {s:Sl} {A:AH} {m ma mb mc:ME} {n:Nat} {x:D} {us ws:List Str} {Q:QE} {E:QX}
theorem isW_of {z:Str} (h1:1≤(tl z).length) (h2:(tl z).length≤8) (h:∀ c∈tl z,c∈abc.cps.toList):isW z=true := by
 have e:(z.length:Int)=(tl z).length := by
  show ((z.cps.size:Nat):Int)=((z.cps.toList.length:Nat):Int)
  simp
 unfold isW
 rw [e]
 simp only [Bool.and_eq_true,decide_eq_true_eq,List.all_eq_true]
 exact ⟨⟨by omega,by omega⟩,h⟩
theorem tl_len (z:Str):(tl z).length=z.length := by
 show z.cps.toList.length=z.cps.size
 simp
theorem word_all {z:Str} (h:isW z=true):∀ c∈tl z,c∈abc.cps.toList := by
 unfold isW at h
 simp only [Bool.and_eq_true,List.all_eq_true] at h
 intro c hc
 have := h.2 c hc
 simpa using this
def Sign (y:Str):Prop := ∃ c,y=⟨#[c]⟩∧c∈abc.cps.toList
theorem join_ok:∀ {ys:List Str},(∀ y∈ys,Sign y)→(joinL [] (ys.map tl)).length=ys.length∧∀ c∈joinL [] (ys.map tl),c∈abc.cps.toList
 | [],_=>⟨rfl,fun c h=>nomatch h⟩
 | [y],h=>by
  obtain ⟨c,rfl,hc⟩ := h y (List.mem_singleton.mpr rfl)
  refine ⟨rfl,fun d hd=>?_⟩
  have:d∈[c] := hd
  rw [List.mem_singleton.mp this]
  exact hc
 | y :: z :: r,h=>by
  obtain ⟨c,rfl,hc⟩ := h y (List.mem_cons_self ..)
  obtain ⟨q1,q2⟩ := join_ok (ys := z :: r) fun w hw=>h w (List.mem_cons_of_mem _ hw)
  have e:joinL [] ((⟨#[c]⟩ :: z :: r:List Str).map tl)=c :: joinL [] ((z :: r).map tl) := rfl
  rw [e]
  refine ⟨by rw [List.length_cons,q1]; rfl,fun d hd=>?_⟩
  rcases List.mem_cons.mp hd with e | hd
  ·rw [e]; exact hc
  ·exact q2 d hd
theorem sum_ok:∀ {ys:List Str},(∀ y∈ys,Sign y)→(ys.map (·.length)).sum=ys.length
 | [],_=>rfl
 | y :: r,h=>by
  obtain ⟨c,rfl,hc⟩ := h y (List.mem_cons_self ..)
  rw [List.map_cons,List.sum_cons,sum_ok fun w hw=>h w (List.mem_cons_of_mem _ hw),List.length_cons]
  show 1 + r.length=r.length + 1
  omega
theorem join_word {ys:List Str} (h:∀ y∈ys,Sign y) (h1:1≤ys.length) (h2:ys.length≤8):isW (Txt.join "" ys)=true := by
 have e:tl (Txt.join "" ys)=joinL [] (ys.map tl) := by rw [join_eq,tl_join]; rfl
 obtain ⟨q1,q2⟩ := join_ok h
 exact isW_of (by rw [e,q1]; exact h1) (by rw [e,q1]; exact h2) (by rw [e]; exact q2)
theorem cut7 (z:Str):tl (cutS z none (some 7))=(tl z).take 7 := by
 show ((z.cps.toList.drop 0).take (HT.sIx z.length z.length (some ((7:Nat):Int)) - 0)).toArray.toList=_
 rw [HT.sIx_nat]
 show List.take (min 7 z.length) (tl z)=_
 rw [← tl_len]
 by_cases h:7≤(tl z).length
 ·rw [Nat.min_eq_left h]
 ·rw [Nat.min_eq_right (by omega),List.take_length,List.take_of_length_le (by omega)]
def cand (z:Str) (c:Nat):Str := cutS z none (some 7) ++ ⟨#[c]⟩
theorem tl_cand (z:Str) (c:Nat):tl (cand z c)=(tl z).take 7 ++ [c] := by
 unfold cand
 rw [tl_append,cut7]
theorem cand_inj {z:Str} {c d:Nat} (h:cand z c=cand z d):c=d := by
 have := congrArg tl h
 rw [tl_cand,tl_cand] at this
 simpa using this
theorem cand_word {z:Str} {c:Nat} (hz:isW z=true) (hc:c∈abc.cps.toList):isW (cand z c)=true := by
 refine isW_of (by rw [tl_cand,List.length_append]; show 1≤_ + 1; omega) (by rw [tl_cand,List.length_append]; have := List.length_take_le 7 (tl z); show _ + 1≤8; omega) fun d hd=>?_
 rw [tl_cand] at hd
 rcases List.mem_append.mp hd with h | h
 ·exact word_all hz d (List.mem_of_mem_take h)
 ·rw [List.mem_singleton.mp h]; exact hc
theorem cand_some {z:Str} {us:List Str} (h:us.length < 26):∃ c r,abc.cps.toList.filter (fun c=>!decide (cand z c∈us))=c :: r := by
 cases e:abc.cps.toList.filter (fun c=>!decide (cand z c∈us)) with
 | cons c r=>exact ⟨c,r,rfl⟩
 | nil =>
  rw [List.filter_eq_nil_iff] at e
  have hn:(abc.cps.toList.map (cand z)).Nodup := by
   unfold List.Nodup
   rw [List.pairwise_map]
   have:abc.cps.toList.Nodup := by decide +kernel
   exact this.imp fun hab e=>hab (cand_inj e)
  have := Fm.nodup_le hn (ys := us) fun x hx=>by
   obtain ⟨c,hc,rfl⟩ := List.mem_map.mp hx
   simpa using e c hc
  rw [List.length_map,show abc.cps.toList.length=26 by decide +kernel] at this
  omega
theorem abc_at {r:Int} (h0:0≤r) (h1:r < 26):∃ c,abc.cps.toList[r.toNat]? = some c∧c∈abc.cps.toList := by
 have h:r.toNat < abc.cps.toList.length := by rw [show abc.cps.toList.length=26 by decide +kernel]; omega
 exact ⟨_,List.getElem?_eq_getElem h,List.getElem_mem h⟩
theorem signs:∀ {is:List Nat} {ys:List D},Paired (fun _ d=>∃ z,d=D.str z∧Sign z) is ys→∃ zs:List Str,ys=zs.map en∧zs.length=is.length∧∀ z∈zs,Sign z
 | _,_, .nil=>⟨[],rfl,rfl,fun _ h=>nomatch h⟩
 | _,_, .cons ⟨z,e,hz⟩ r=>by
  obtain ⟨zs,h1,h2,h3⟩ := signs r
  subst e h1
  exact ⟨z :: zs,rfl,by simp [h2],fun w hw=>by
   rcases List.mem_cons.mp hw with e | h
   ·rw [e]; exact hz
   ·exact h3 w h⟩
theorem f_word (hp:A n=some .pool) (hx:LsD A x us) (hl:us.length < 26):Fx m_law_word [.ref n,x] A fun d=>∃ z,d = .str z∧isW z=true∧z ∉ us := fun Q E q=>by
 refine ⟨rfl, ?_⟩
 refine s_set (d := .str abc) pv_c ?_
 refine s_setX (px_addD (px_draw (k := 8) hp (pv_var rfl) pv_c)) fun d ⟨r,e,h0,h1⟩=>?_
 subst e
 have hj:Px (mJoin (mC (.str "")) (mLc (mRng1 (mCons (mVar 3) mNil)) (gN 5) mYes (mOp fIx (mVar 2) (mCall m_law_draw (mCons (mVar 0) (mCons (mC (.int 26)) mNil)))) [5])) [some (.ref n),some x,some (.str abc),some (.int r),none,none,none] A fun d=>∃ z,d = .str z∧isW z=true := fun Q E q=>by
  refine ⟨"",rfl,(px_lcR (j := r) (E0 := fun _ d=>∃ z,d=D.str z∧Sign z) (pv_var rfl) (by omega) (by omega) fun i hi R k=>k _ ?_) _ _ fun d ⟨ys,e,hy⟩=>?_⟩
  ·refine px_op (Pv.px (pv_var rfl)) (px_draw (k := 26) hp (pv_var rfl) pv_c) fun u v eu ⟨r2,ev,g0,g1⟩ Q q=>?_
   subst eu ev
   obtain ⟨c,hc,hm⟩ := abc_at g0 g1
   exact w_ixS (i := r2.toNat) (by omega) (by decide) hc (q _ ⟨⟨#[c]⟩,rfl,c,rfl,hm⟩)
  ·obtain ⟨zs,e1,e2,e3⟩ := signs hy
   rw [List.length_range] at e2
   subst e e1
   exact ⟨_,zs,rfl,strsOf_map zs,by rw [sum_ok e3]; show _ + _ * 0≤_; omega,q _ ⟨_,rfl,join_word e3 (by omega) (by omega)⟩⟩
 refine s_setX hj fun d ⟨z,e,hz⟩=>?_
 subst e
 have hzl := (word_len hz).1
 refine s_if (a := decide (z∈us)) ((pt_b (pv_inS (pv_var rfl) (pv_var rfl) hx.sq)).is (by simp)) (fun hb=>?_) (fun hb=>?_)
 ·obtain ⟨c,cr,hcr⟩ := cand_some (z := z) hl
  have hcs:(cutS z none (some 7)).length≤8 := Nat.le_trans (cutS_length z none (some 7)) hzl
  have hadd:∀ {d:Nat} {Z:Sl},Z[4]? = some (some (.str z))→Z[6]? = some (some (.str ⟨#[d]⟩))→Pv (mOp fAdd (mSl (mVar 4) mNoPart (mPart (mC (.int 7)))) (mVar 6)) Z A (.str (cand z d)) := fun h4 h6=>pv_addS (pv_slS (pv_var h4) po_no (po_so pv_c) (sz (by omega))) (pv_var h6) (sz (by show _ + 1≤1000; omega))
  refine s_set (d := .str (cand z c)) (pv_ix (α := Str) (xs := (c :: cr).map (cand z)) (i := 0) ((pv_lcS (z := abc) (p := fun c=>!decide (cand z c∈us)) (f := fun c=>.str (cand z c)) (pv_var rfl) (by decide) fun d hd R k=>k _ ((pt_b (pv_inS (hadd rfl rfl) (pv_var rfl) hx.sq)).is (by simp)) fun _=>hadd rfl rfl).is rfl) pv_c ?_ rfl rfl) ?_
  ·rw [hcr]
   show some _=some _
   rw [List.map_map]
   rfl
  ·have hc:c∈abc.cps.toList.filter (fun c=>!decide (cand z c∈us)) := by rw [hcr]; exact List.mem_cons_self ..
   rw [List.mem_filter] at hc
   exact s_ret (pv_var rfl) (fg (q _ ⟨_,rfl,cand_word hz hc.1,by simpa using hc.2⟩))
 ·exact s_ret (pv_var rfl) (fg (q _ ⟨z,rfl,hz,by simpa using hb⟩))
end
end Lw
namespace Lw
open PySem PySem.Spec PyProof.Rows L2 Am
open PySem.W (Datum Tup T3 T4)
section
variable {α β:Type} {xs ys:List α} {d a:α} {i:Int}
theorem ixG_at (h:0≤i∧i < (xs.length:Int)):xs[i.toNat]? = some (ixG d xs i) := by
 have:i.toNat < xs.length := by omega
 unfold ixG
 rw [List.getElem?_eq_getElem this]
 rfl
theorem ixG_mem (h:0≤i∧i < (xs.length:Int)):ixG d xs i∈xs := List.mem_of_getElem? (ixG_at h)
theorem cutL_to {n:Int} (h:0≤n):cutL xs none (some n)=xs.take n.toNat := by
 obtain ⟨k,rfl⟩:∃ k:Nat,n=k := ⟨n.toNat,by omega⟩
 unfold cutL
 rw [HT.sIx_none,HT.sIx_nat,List.drop_zero,Nat.sub_zero,Int.toNat_natCast]
 by_cases h:k≤xs.length
 ·rw [Nat.min_eq_left h]
 ·rw [Nat.min_eq_right (by omega),List.take_of_length_le (Nat.le_refl _),List.take_of_length_le (by omega)]
theorem cutL_from {n:Int} (h:0≤n):cutL xs (some n) none=xs.drop n.toNat := by
 obtain ⟨k,rfl⟩:∃ k:Nat,n=k := ⟨n.toNat,by omega⟩
 unfold cutL
 rw [HT.sIx_none,HT.sIx_nat,Int.toNat_natCast]
 by_cases h:k≤xs.length
 ·rw [Nat.min_eq_left h,List.take_of_length_le (by rw [List.length_drop]; exact Nat.le_refl _)]
 ·rw [Nat.min_eq_right (by omega),List.drop_of_length_le (Nat.le_refl _),List.drop_of_length_le (by omega)]; simp
end
end Lw
namespace Lw
open PySem PySem.Spec PyProof.Rows L2 Am
open PySem.W (Datum Tup T3 T4)
section
variable {A:AH} {s:Sl} {ma mb m te:ME} {Q:QE} {E:QX} {D0:AEnds} {ns ms zs w1 w2 l r du:List Str} {z a w:Str} {ι:Type} {tg:MG} {vs:List Nat}
theorem for_xsT {xs:List ι} {e:ι→D} {ck:AH→Prop} {tg:MG} {tb:MS} (J:Nat→Sl→AH→Prop) (h0:J 0 s A) (hck:∀ i s A,J i s A→ck A)
  (step:∀ i x s A (N:Sl→AH→Prop),xs[i]? = some x→J i s A→(∀ s' A',J (i + 1) s' A'→N s' A')→tg (e x) s A fun s1 A1=>tb { D0 with nx := N,ct := N,bk := D0.nx } s1 A1)
  (fin:∀ s A,J xs.length s A→D0.nx s A):forL ck tg tb (xs.map e) D0 s A := by
 refine for_inv (xs.map e) J h0 hck (fun i d s A N hd hJ hN=>?_) (fun s A h=>fin s A (by rw [List.length_map] at h; exact h))
 rw [List.getElem?_map] at hd
 cases hx:xs[i]? with
 | none=>rw [hx] at hd; cases hd
 | some x =>
  rw [hx] at hd
  cases hd
  exact step i x s A N hx hJ hN
theorem eqB_rfl {α:Type} [DecidableEq α] [Datum α] {a:α}:eqB a a=true := eqB_iff.mpr rfl
abbrev wNames:List Str := ["kept","let","clear","full","again","order","eager"]
def nmW (ns:List Str):List Str := wNames.filter fun z=>eqB z ("kept":Str) || inB z ns
abbrev wiN (l:List Str):D := .ins "Wishes" [("names", .tup (l.map en))]
theorem nmW_len:(nmW ns).length≤7 := List.length_filter_le ..
theorem nmW_cg (h:∀ z∈wNames,z ≠ "kept" → (z∈ns↔z∈ms)):nmW ns=nmW ms := by
 refine List.filter_congr fun z hz=>?_
 by_cases e:z = "kept"
 ·rw [eqB_iff.mpr e]; rfl
 ·rw [eqB_no.mpr e,Bool.false_or,Bool.false_or,Bool.eq_iff_iff,inB_iff,inB_iff]
  exact h z hz e
theorem mem_nmW:z∈nmW ns↔z∈wNames∧(z = "kept" ∨ z∈ns) := by
 unfold nmW
 rw [List.mem_filter,Bool.or_eq_true,eqB_iff,inB_iff]
theorem nmW_inj (h:nmW ns=nmW ms):∀ z∈wNames,z ≠ "kept" → (z∈ns↔z∈ms) := fun z hz e=>by
 have h1 := mem_nmW (z := z) (ns := ns)
 have h2 := mem_nmW (z := z) (ns := ms)
 rw [h] at h1
 exact ⟨fun q=>((h2.mp (h1.mpr ⟨hz, .inr q⟩)).2).resolve_left e,fun q=>((h1.mp (h2.mpr ⟨hz, .inr q⟩)).2).resolve_left e⟩
theorem u_mkW (h:Pv ma s A (.lst (ns.map en))) (hl:ns.length≤100) (q:∀ A2,Les A A2→Q (wiN (nmW ns)) A2):mMakeD "Wishes" m_Wishes_init (mCons ma mNil) s A Q E := by
 refine w_makeD (pa_1 h) fun m hm=>?_
 have hc:Cells A [[(m,(Nd.ins "Wishes" ([]:List (Str × D))))]] (put A m (.ins "Wishes" [])) := Cells.nil_.new _ hm
 generalize put A m (.ins "Wishes" [])=A1 at hc ⊢
 refine fn_in (s := [some (D.ref m),some (.lst (ns.map en)),none]) ?_ rfl rfl
 have lc:Pv (mLc (mSeq (mC (.ktup [(.str "kept"),(.str "let"),(.str "clear"),(.str "full"),(.str "again"),(.str "order"),(.str "eager")]))) (gN 2) (mOr (mB (mOp (fEq false) (mVar 2) (mC (.str "kept")))) (mB (mOp (fIn false) (mVar 2) (mVar 1)))) (mVar 2) [2]) [some (D.ref m),some (.lst (ns.map en)),none] A1 (.lst ((nmW ns).map en)) :=
  v_lcF (xs := wNames) (e := en) (p := fun z=>eqB z ("kept":Str) || inB z ns) (mi := mSeq (mC (.ktup [(.str "kept"),(.str "let"),(.str "clear"),(.str "full"),(.str "again"),(.str "order"),(.str "eager")]))) (tg := gN 2) (t := mOr (mB (mOp (fEq false) (mVar 2) (mC (.str "kept")))) (mB (mOp (fIn false) (mVar 2) (mVar 1)))) (te := mVar 2) (vs := [2]) (A := A1) (s := [some (D.ref m),some (.lst (ns.map en)),none]) (mi_seq pv_c rfl) rfl (Sz.of (by show 7≤_; decide)) fun z hz=>lcb (tg_n rfl) (pt_or (pt_b (pv_op2 (pv_var rfl) pv_c (q2_eq (a := z) (b := ("kept":Str)) (ue_r rfl) (ue_r rfl) (by decide)))) fun _=>pt_b (pv_op2 (pv_var rfl) (pv_var rfl) (q2_in (a := z) (xs := ns) (ue_r rfl) (ItS.sq it_l) (by decide)))) fun _=>pv_var rfl
 refine u_sfldS ?_
 refine Pv.wp ?_ (pv_cbB (pa_1 lc) (pb_tupI il_l))
 refine Pv.wp ?_ (pv_var rfl)
 refine u_sfld1 (fs' := ([(("names":Str), .tup ((nmW ns).map en))]:List (Str × D))) (hc.at 0 rfl) (by simp) (Nat.le_of_ble_eq_true rfl) rfl ?_
 replace hc := hc.put 0 rfl (Nd.ins "Wishes" ([(("names":Str), .tup ((nmW ns).map en))]:List (Str × D)))
 generalize put A1 m (Nd.ins "Wishes" ([(("names":Str), .tup ((nmW ns).map en))]:List (Str × D)))=A2 at hc ⊢
 replace hc:Cells A [[(m,(Nd.ins "Wishes" ([(("names":Str), .tup ((nmW ns).map en))]:List (Str × D))))]] A2 := hc
 refine u_nxi ?_
 refine frz_ins (hc.at 0 rfl) ?_
 replace hc := hc.cut 0 rfl
 generalize rem A2 m=A3 at hc ⊢
 refine frzL_cons ?_
 refine frz_tre (fun n e=>by cases e) ?_
 refine frzL_nil ?_
 exact q _ hc.le
theorem of_lst {s:Sl} {A:AH} (hr:r.length≤6) (h0:s[0]? = some (some (.str a))) (h1:s[1]? = some (some (.tup (r.map en)))):Pv (mLst (mCons (mVar 0) (mStar (mVar 1) mNil))) s A (.lst ((a :: r).map en)) := pv_lst (pa_consI (z := a) (e := en) (pv_var h0) (pa_starN (xs := r) (e := en) (pv_var h1) it_t)) (by rw [List.length_map,List.length_cons]; exact sz (by omega))
theorem fv_of (h:∀ z∈a :: r,inB z wNames=true) (hr:r.length≤6):Fv m_Wishes_of (.str a :: r.map en) A (wiN (nmW (a :: r))) := fun Q E q=>by
 refine ⟨by simp,by simp; exact sz (by omega), ?_⟩
 show mFn (1 + 1) 3 b_Wishes_of [.str a, .tup (r.map en)] A Q E
 refine fn_in (s := [some (.str a),some (.tup (r.map en)),none]) ?_ rfl rfl
 refine s_sq (u_for (xs := a :: r) (e := en) (mi_seq (of_lst hr rfl rfl) it_l) (Wb := True) fun ck hck hP=>?_)
 refine for_xsT (xs := a :: r) (fun i s A'=>∃ (j2:Option D),s=[some (.str a),some (.tup (r.map en)),j2]∧A' = A) ⟨_,rfl,rfl⟩ (fun _ _ A' ⟨_,_,e⟩=>by rw [e]; exact hck) ?_ ?_
 ·rintro i z s A' N hz ⟨j2,rfl,rfl⟩ hN
  refine u_gN (s' := [some (.str a),some (.tup (r.map en)),some (.str z)]) rfl ?_
  exact s_ifF (Pt.is (pt_b (pv_op2 (pv_var rfl) pv_c (q2_nin (a := z) (xs := wNames) (ue_r rfl) rfl (by decide)))) (by rw [h z (List.mem_of_getElem? hz)]; rfl)) (hN _ _ ⟨_,rfl,rfl⟩)
 rintro s A' ⟨j2,rfl,rfl⟩
 exact nx_sq (u_retE (u_mkW (of_lst hr rfl rfl) (by rw [List.length_cons]; omega) fun A2 hle=>⟨_,hle,q⟩))
theorem w_ofN (e:a :: r=w1 ++ z :: w2) (hr:r.length≤6) (hf:∀ y∈w1,inB y wNames=true) (hz:inB z wNames=false) (q:E (encX (.unknown z)) A):m_Wishes_of (.str a :: r.map en) A Q E := by
 have at1:(a :: r)[w1.length]? = some z := by rw [e,List.getElem?_append_right (Nat.le_refl _),Nat.sub_self]; rfl
 have el:(a :: r).length=w1.length + (w2.length + 1) := by rw [e]; simp
 refine ⟨by simp,by simp; exact sz (by omega), ?_⟩
 show mFn (1 + 1) 3 b_Wishes_of [.str a, .tup (r.map en)] A Q E
 refine fn_in (s := [some (.str a),some (.tup (r.map en)),none]) ?_ rfl rfl
 refine s_sq (u_for (xs := a :: r) (e := en) (mi_seq (of_lst hr rfl rfl) it_l) (Wb := True) fun ck hck hP=>?_)
 refine for_xsT (xs := a :: r) (fun i s A'=>∃ (j2:Option D),s=[some (.str a),some (.tup (r.map en)),j2]∧i≤w1.length∧A' = A) ⟨_,rfl,Nat.zero_le _,rfl⟩ (fun _ _ A' ⟨_,_,_,e⟩=>by rw [e]; exact hck) ?_ ?_
 ·rintro i y s A' N hx ⟨j2,rfl,hi,rfl⟩ hN
  refine u_gN (s' := [some (.str a),some (.tup (r.map en)),some (.str y)]) rfl ?_
  refine s_if (a := !inB y wNames) (pt_b (pv_op2 (pv_var rfl) pv_c (q2_nin (a := y) (xs := wNames) (ue_r rfl) rfl (by decide)))) (fun h=>?_) (fun h=>?_)
  ·have hy:y=z := by
    by_cases h2:i < w1.length
    ·rw [e,List.getElem?_append_left h2] at hx
     rw [hf y (List.mem_of_getElem? hx)] at h
     cases h
    ·have:i=w1.length := by omega
     subst this
     rw [at1] at hx
     exact (Option.some.inj hx).symm
   subst hy
   exact u_rz1 (pv_var rfl) ⟨_,Les.refl,q⟩
  ·refine hN _ _ ⟨_,rfl, ?_,rfl⟩
   by_cases h2:i < w1.length
   ·exact h2
   ·have:i=w1.length := by omega
    subst this
    rw [at1] at hx
    cases hx
    rw [hz] at h
    cases h
 ·rintro s A2 ⟨j,rfl,hi,rfl⟩
  omega
theorem w_fld {s:Sl} {i:Nat} (h:s[i]? = some (some (wiN l))):Pv (mFld ["Wishes"] "names" (mVar i)) s A (.tup (l.map en)) := pv_fld (c := ("Wishes":Str)) (fs := [("names", .tup (l.map en))]) (pv_var h) rfl (by simp) rfl
theorem fv_wcont:Fv m_Wishes_contains [wiN l, .str z] A (.bl (inB z l)) := fv_in (s := [some (wiN l),some (.str z)]) (fun Q E q=>u_ret (pv_op2 (pv_var rfl) (w_fld rfl) (q2_in (a := z) (xs := l) (ue_r rfl) (ItS.sq it_t) (by decide))) ⟨_,Les.refl,q⟩) rfl rfl
theorem fv_wlen:Fv m_Wishes_len [wiN l] A (.int l.length) := fv_in (s := [some (wiN l)]) (fun Q E q=>u_ret (pv_cbB (pa_1 (w_fld rfl)) (pb_lenI it_t)) ⟨_,Les.refl,q⟩) rfl rfl
theorem fv_weq:Fv m_Wishes_eq [wiN l,wiN r] A (.bl (eqB (⟨l⟩:Tup Str) (⟨r⟩:Tup Str))) := fv_in (s := [some (wiN l),some (wiN r)]) (fun Q E q=>u_ret ((pv_andV (a := true) (b := eqB (⟨l⟩:Tup Str) (⟨r⟩:Tup Str)) (pv_isi (t := .c "Wishes") (pv_var rfl) rfl rfl) fun _=>pv_op2 (w_fld rfl) (w_fld rfl) (q2_eq (a := (⟨l⟩:Tup Str)) (b := (⟨r⟩:Tup Str)) ue_t ue_t (by decide))).is rfl) ⟨_,Les.refl,q⟩) rfl rfl
theorem fv_weqT {d:List D}:Fv m_Wishes_eq [wiN l, .tup d] A (.bl false) := fv_in (s := [some (wiN l),some (.tup d)]) (fun Q E q=>u_ret ((pv_andV (a := false) (b := false) (pv_isi (t := .b "tuple") (pv_var rfl) rfl rfl) fun h=>by cases h).is rfl) ⟨_,Les.refl,q⟩) rfl rfl
theorem fv_wor (h1:l.length≤7) (h2:r.length≤7):Fv m_Wishes_or [wiN l,wiN r] A (wiN (nmW (l ++ r))) := fv_in (s := [some (wiN l),some (wiN r)]) (fun Q E q=>u_retE (u_mkW (pv_lst (pa_starI (xs := l) (ys := r) (e := en) (w_fld rfl) it_t (pa_starN (w_fld rfl) it_t)) (by rw [List.length_map,List.length_append]; exact sz (by omega))) (by rw [List.length_append]; omega) fun A2 hle=>⟨_,hle,q⟩)) rfl rfl
theorem fv_wand (h1:l.length≤7):Fv m_Wishes_and [wiN l,wiN r] A (wiN (nmW (l.filter fun z=>inB z r))) := fv_in (s := [some (wiN l),some (wiN r),none]) (fun Q E q=>u_retE (u_mkW (v_lcF (xs := l) (e := en) (p := fun z=>inB z r) (mi_seq (w_fld rfl) it_t) rfl (Sz.of (by omega)) fun z hz=>lcb (s' := [some (wiN l),some (wiN r),some (.str z)]) (tg_n rfl) (pt_b (pv_op2 (pv_var rfl) (w_fld rfl) (q2_in (a := z) (xs := r) (ue_r rfl) (ItS.sq it_t) (by decide)))) fun _=>pv_var rfl) (Nat.le_trans (List.length_filter_le ..) (by omega)) fun A2 hle=>⟨_,hle,q⟩)) rfl rfl
theorem fv_wsub (h1:l.length≤7):Fv m_Wishes_sub [wiN l,wiN r] A (wiN (nmW (l.filter fun z=>!inB z r))) := fv_in (s := [some (wiN l),some (wiN r),none]) (fun Q E q=>u_retE (u_mkW (v_lcF (xs := l) (e := en) (p := fun z=>!inB z r) (mi_seq (w_fld rfl) it_t) rfl (Sz.of (by omega)) fun z hz=>lcb (s' := [some (wiN l),some (wiN r),some (.str z)]) (tg_n rfl) (pt_b (pv_op2 (pv_var rfl) (w_fld rfl) (q2_nin (a := z) (xs := r) (ue_r rfl) (ItS.sq it_t) (by decide)))) fun _=>pv_var rfl) (Nat.le_trans (List.length_filter_le ..) (by omega)) fun A2 hle=>⟨_,hle,q⟩)) rfl rfl
theorem pv_names:Pv (mLst (mCons (mC (.str "kept")) (mCons (mC (.str "let")) (mCons (mC (.str "clear")) (mCons (mC (.str "full")) (mCons (mC (.str "again")) (mCons (mC (.str "order")) (mCons (mC (.str "eager")) mNil)))))))) s A (.lst (wNames.map en)) := pv_lst (ds := [.str "kept", .str "let", .str "clear", .str "full", .str "again", .str "order", .str "eager"]) (pa_cons' pv_c (pa_cons' pv_c (pa_cons' pv_c (pa_cons' pv_c (pa_3 pv_c pv_c pv_c)))))
theorem fv_is (hw:w ∉ nmW du):Fv m_law_is [wiN (nmW du), .lst (du.map en), .str w] A (.bl true) := by
 refine fv_in (s := [some (wiN (nmW du)),some (.lst (du.map en)),some (.str w),none,none]) (fun Q E q=>?_) rfl rfl
 have nl := nmW_len (ns := du)
 refine s_sq (u_set (s' := [some (wiN (nmW du)),some (.lst (du.map en)),some (.str w),some (.lst (wNames.map en)),none]) pv_names rfl (nx_sq (s_sq ?_)))
 have e1:(wNames.filter fun z=>inB z du || eqB z ("kept":Str))=nmW du := List.filter_congr fun z _=>Bool.or_comm ..
 refine s_ifF (Pt.is (pt_or (a := false) (b := false) (Pt.is (pt_b (pv_op2 (w_fld rfl) (pv_cbB (pa_1 (v_lcF (xs := wNames) (e := en) (p := fun z=>inB z du || eqB z ("kept":Str)) (mi_seq (pv_var rfl) it_l) rfl (Sz.of (by show 7≤_; decide)) fun z hz=>lcb (s' := [some (wiN (nmW du)),some (.lst (du.map en)),some (.str w),some (.lst (wNames.map en)),some (.str z)]) (tg_n rfl) (pt_or (pt_b (pv_op2 (pv_var rfl) (pv_var rfl) (q2_in (a := z) (xs := du) (ue_r rfl) (ItS.sq it_l) (by decide)))) fun _=>pt_b (pv_op2 (pv_var rfl) pv_c (q2_eq (a := z) (b := ("kept":Str)) (ue_r rfl) (ue_r rfl) (by decide)))) fun _=>pv_var rfl)) (pb_tupI il_l)) (q2_ne (a := (⟨nmW du⟩:Tup Str)) (b := (⟨wNames.filter fun z=>inB z du || eqB z ("kept":Str)⟩:Tup Str)) ue_t ue_t (by decide)))) (by rw [e1,eqB_rfl]; rfl)) fun _=>Pt.is (pt_b (pv_op2 (pv_ownLen (pv_var rfl) rfl fv_wlen (by omega) (by omega)) (pv_cbB (pa_1 (w_fld rfl)) (pb_lenI it_t)) (q2_ne (a := ((nmW du).length:Int)) (b := ((nmW du).length:Int)) (ue_r rfl) (ue_r rfl) (by decide)))) (by rw [eqB_rfl]; rfl)) rfl) (nx_sq (s_sq ?_))
 refine s_ifF (Pt.is (pt_or (a := false) (b := false) (Pt.is (pt_not (pt_b (pv_isi (t := .b "tuple") (b := true) (w_fld rfl) rfl rfl))) rfl) fun _=>Pt.is (pt_or (a := false) (b := false) (Pt.is (pt_b (pv_ownIn (neg := false) (pv_var rfl) (pv_var rfl) rfl fv_wcont)) (by cases e:inB w (nmW du) with | false=>rfl | true=>exact absurd (inB_iff.mp e) hw)) fun _=>pt_b (pv_ownEq (t := .b "tuple") (pv_var rfl) (w_fld rfl) rfl rfl (by decide) fv_weqT)) rfl) rfl) (nx_sq ?_)
 have e2:(wNames.filter fun z=>inB z (nmW du))=nmW du := List.filter_congr fun z hz=>by rw [Bool.eq_iff_iff,inB_iff,mem_nmW,Bool.or_eq_true,eqB_iff,inB_iff]; exact ⟨fun h=>h.2,fun h=>⟨hz,h⟩⟩
 refine u_ret ((pv_op2 (v_lcF (xs := wNames) (e := en) (p := fun z=>inB z (nmW du)) (mi_seq (pv_var rfl) it_l) rfl (Sz.of (by show 7≤_; decide)) fun z hz=>lcb (s' := [some (wiN (nmW du)),some (.lst (du.map en)),some (.str w),some (.lst (wNames.map en)),some (.str z)]) (tg_n rfl) (pt_b (pv_ownIn (neg := false) (pv_var rfl) (pv_var rfl) rfl fv_wcont)) fun _=>pv_var rfl) (pv_cbB (pa_1 (w_fld rfl)) (pb_listI (xs := nmW du) (e := en) it_t)) (q2_eqL (xs := wNames.filter fun z=>inB z (nmW du)) (ys := nmW du) il_l il_l (by decide))).is (by rw [e2,eqB_rfl])) ⟨_,Les.refl,q⟩
theorem nmW_or:nmW (nmW ns ++ nmW ms)=nmW (ns ++ ms) := nmW_cg fun z hz e=>by
 rw [List.mem_append,List.mem_append,mem_nmW,mem_nmW]
 exact ⟨fun h=>h.elim (fun h=>.inl (h.2.resolve_left e)) fun h=>.inr (h.2.resolve_left e),fun h=>h.elim (fun h=>.inl ⟨hz, .inr h⟩) fun h=>.inr ⟨hz, .inr h⟩⟩
theorem ixn {i:Nat} {s:Sl} (h0:s[0]? = some (some (.lst (zs.map en)))) (h:zs[i]? = some z):Pv (mOp fIx (mVar 0) (mC (.int (i:Int)))) s A (.str z) := (pv_op2 (pv_var h0) pv_c (p2_ixG (d0 := ("":Str)) (xs := zs) (e := en) (j := (i:Int)) it_l ⟨by omega,by have := (List.getElem?_eq_some_iff.mp h).1; omega⟩)).is (by unfold ixG; rw [Int.toNat_natCast,h]; rfl)
theorem lenIs {s:Sl} {k:Int} {b:Bool} (h0:s[0]? = some (some (.lst (zs.map en)))) (h:b=decide ((zs.length:Int)=k)):Pt (mB (mOp (fEq false) (mCB fLen (mCons (mVar 0) mNil)) (mC (.int k)))) s A b := Pt.is (pt_b (pv_op2 (pv_cbB (pa_1 (pv_var h0)) (pb_lenI (ItL.toS il_l))) pv_c (q2_eq (a := (zs.length:Int)) (b := k) (ue_r rfl) (ue_r rfl) (by decide)))) h.symm
theorem w_of4 (h0:zs≠[]) (h4:zs.length≤4) {k:Nat} (h:m_Wishes_of (zs.map en) A (fun d A2=>∃ A0,Les A0 A2∧Q d A0) fun x A2=>∃ A0,Les A0 A2∧E x A0):m_law_of (k + 1) [.lst (zs.map en)] A Q E := by
 show mFn 1 1 (b_law_of (m_law_of k)) [.lst (zs.map en)] A Q E
 refine fn_in (s := [some (.lst (zs.map en))]) ?_ rfl rfl
 match zs,h0,h4,h with
 | [a],_,_,h=>exact s_sq (s_if (a := true) (lenIs rfl rfl) (fun _=>u_retE (w_callW h (pa_1 (ixn (i := 0) rfl rfl)))) fun h=>by cases h)
 | [a,b],_,_,h=>exact s_sq (s_ifF (lenIs rfl rfl) (nx_sq (s_sq (s_if (a := true) (lenIs rfl rfl) (fun _=>u_retE (w_callW h (pa_2 (ixn (i := 0) rfl rfl) (ixn (i := 1) rfl rfl)))) fun h=>by cases h))))
 | [a,b,c],_,_,h=>exact s_sq (s_ifF (lenIs rfl rfl) (nx_sq (s_sq (s_ifF (lenIs rfl rfl) (nx_sq (s_sq (s_if (a := true) (lenIs rfl rfl) (fun _=>u_retE (w_callW h (pa_3 (ixn (i := 0) rfl rfl) (ixn (i := 1) rfl rfl) (ixn (i := 2) rfl rfl)))) fun h=>by cases h)))))))
 | [a,b,c,d],_,_,h=>exact s_sq (s_ifF (lenIs rfl rfl) (nx_sq (s_sq (s_ifF (lenIs rfl rfl) (nx_sq (s_sq (s_ifF (lenIs rfl rfl) (nx_sq (s_sq (s_if (a := true) (lenIs rfl rfl) (fun _=>u_retE (w_callW h (pa_cons' (ixn (i := 0) rfl rfl) (pa_3 (ixn (i := 1) rfl rfl) (ixn (i := 2) rfl rfl) (ixn (i := 3) rfl rfl))))) fun h=>by cases h))))))))))
theorem fv_lof:∀ {k:Nat} {zs:List Str},zs≠[]→zs.length≤4 * (k + 1)→(∀ z∈zs,inB z wNames=true)→Fv (m_law_of (k + 1)) [.lst (zs.map en)] A (wiN (nmW zs))
 | k,zs,h0,hl,hw=>fun Q E q=>by
  by_cases h4:zs.length≤4
  ·refine w_of4 h0 h4 ?_
   obtain ⟨a,r,e⟩ := List.exists_cons_of_ne_nil h0
   subst e
   exact fv_of hw (by rw [List.length_cons] at h4; omega) _ _ ⟨_,Les.refl,q⟩
  ·match k,hl with
   | 0,hl=>omega
   | k + 1,hl =>
    have i1 := fv_lof (k := k) (zs := zs.take 4) (fun e=>by have := congrArg List.length e; rw [List.length_take,List.length_nil] at this; omega) (by rw [List.length_take]; omega) fun z hz=>hw z (List.mem_of_mem_take hz)
    have i2 := fv_lof (k := k) (zs := zs.drop 4) (fun e=>by have := congrArg List.length e; rw [List.length_drop,List.length_nil] at this; omega) (by rw [List.length_drop]; omega) fun z hz=>hw z (List.mem_of_mem_drop hz)
    show mFn 1 1 (b_law_of (m_law_of (k + 1))) [.lst (zs.map en)] A Q E
    refine fn_in (s := [some (.lst (zs.map en))]) ?_ rfl rfl
    have no:∀ {j:Nat},j≤4→false=decide ((zs.length:Int)=((j:Nat):Int)) := fun {j} h=>(decide_eq_false (by omega)).symm
    refine s_sq (s_ifF (lenIs (k := ((1:Nat):Int)) rfl (no (by decide))) (nx_sq (s_sq (s_ifF (lenIs (k := ((2:Nat):Int)) rfl (no (by decide))) (nx_sq (s_sq (s_ifF (lenIs (k := ((3:Nat):Int)) rfl (no (by decide))) (nx_sq (s_sq (s_ifF (lenIs (k := ((4:Nat):Int)) rfl (no (by decide))) (nx_sq ?_)))))))))))
    refine u_ret (pv_own (pv_call (pa_1 ((pv_slG (xs := zs) (e := en) (pv_var rfl) po_no (po_so pv_c) il_l).is (by rw [cutL_to (by decide)]; rfl))) i1) (pv_call (pa_1 ((pv_slG (xs := zs) (e := en) (pv_var rfl) (po_so pv_c) po_no il_l).is (by rw [cutL_from (by decide)]; rfl))) i2) rfl rfl (fv_wor nmW_len nmW_len)) ⟨A,Les.refl, ?_⟩
    rw [nmW_or,List.take_append_drop]
    exact q
theorem fv_refused (e:zs=w1 ++ z :: w2) (hl:zs.length≤4) (hf:∀ y∈w1,inB y wNames=true) (hz:inB z wNames=false):Fv m_law_refused [.lst (zs.map en)] A (.str z) := by
 refine fv_in (s := [some (.lst (zs.map en)),none,none]) (fun Q E q=>?_) rfl rfl
 refine s_sq (u_set (s' := [some (.lst (zs.map en)),some .non,none]) pv_c rfl (nx_sq (s_sq ?_)))
 unfold mTryK
 refine u_dropE (w_callW (w_of4 (by rw [e]; simp) hl ?_) (pa_1 (pv_var rfl)))
 have h0:zs≠[] := by rw [e]; simp
 obtain ⟨a,r,e1⟩ := List.exists_cons_of_ne_nil h0
 subst e1
 refine w_ofN e (by rw [List.length_cons] at hl; omega) hf hz ⟨_,Les.refl, ?_⟩
 refine ⟨true,(show tc_FoundError.lookup ("Unknown":Str)=some true by decide +kernel),fun _ ea cls dd=>u_set (s' := [some (.lst ((a :: r).map en)),some (.exn ea cls dd "Unknown" [("name", .str z)]),some (.exn ea cls dd "Unknown" [("name", .str z)])]) (pv_var rfl) rfl ⟨"Unknown",[("name", .str z)],rfl, ?_⟩,fun h=>by cases h⟩
 refine at_n (s' := [some (.lst ((a :: r).map en)),some (.exk "Unknown" [("name", .str z)]),none]) rfl (nx_sq (s_sq ?_))
 refine s_ifF (Pt.is (pt_or (a := false) (b := false) (Pt.is (pt_not (pt_b (pv_isK (b := true) rfl (by decide +kernel)))) rfl) fun _=>Pt.is (pt_or (a := false) (b := false) (pt_b (pv_isK rfl (by decide +kernel))) fun _=>Pt.is (pt_not (pt_b (pv_isK (b := true) rfl (by decide +kernel)))) rfl) rfl) rfl) (nx_sq ?_)
 exact u_ret (pv_xk rfl (by simp) rfl) ⟨A,Les.refl,q⟩
end
end Lw
namespace Lw
open PySem PySem.Spec PyProof.Rows L2 Am
open PySem.W (Datum Tup T3 T4)
section
variable {A:AH} {s:Sl} {ma mb m te:ME} {Q:QE} {E:QX} {D0:AEnds} {ra rb zs:List Str} {z w:Str} {d y:D} {tg:MG} {vs:List Nat}
theorem p2_neK {xs:List D} (h:P2 (fEq true) (.tup xs) y A d):P2 (fEq true) (.ktup xs) y A d := fun Q q=>by
 obtain ⟨p,q',h1,r⟩ := h Q q
 exact ⟨p,q',by rw [← h1]; simp [toPA,toP],r⟩
theorem pv_setEq {x y:D} {xs ys:List Str} (h1:Pv ma s A x) (h2:Pv mb s A y) (e1:itL A x=some (xs.map D.str)) (e2:itL A y=some (ys.map D.str)) (l1:xs.length≤100) (l2:ys.length≤100) {b:Bool} (hb:b=true↔∀ z,z∈xs↔z∈ys):Pv (mSetEq ma mb) s A (.bl b) := fun Q E q=>by
 refine w_setEq h1 h2 e1 e2 l1 l2 (fun h=>?_) fun h=>?_
 ·have e := hb.mpr h
  subst e
  exact q
 ·cases b with
  | false=>exact q
  | true=>exact absurd (hb.mp rfl) h
theorem paired_all {ι:Type} {E0:D→Prop} {is:List ι} {ys:List D} (h:Paired (fun _ d=>E0 d) is ys):∀ y∈ys,E0 y := by
 induction h with
 | nil=>exact fun _ h=>nomatch h
 | cons h1 _ ih =>
  intro y hy
  rcases List.mem_cons.mp hy with e | hy
  ·rw [e]; exact h1
  ·exact ih y hy
theorem px_lcRX {N : Nat} {E0 : D → Prop} (hx : Px m s A fun d => ∃ r, d = .int r ∧ 1 ≤ r ∧ r < (N : Int) + 1) (hN : N ≤ 1000)
    (hb : ∀ i : Nat, ∀ (R : Sl → AH → Prop), (∀ s1, Px te s1 A E0 → R s1 A) → tg (.int i) (wipeD s vs) A R) : Px (mLc (mRng1 (mCons m mNil)) tg mYes te vs) s A fun d => ∃ ys, d = .lst ys ∧ (1 ≤ ys.length ∧ ys.length ≤ N) ∧ ∀ y ∈ ys, E0 y := fun Q E q =>
  hx (fun d A1 => ∃ k : Int, [d] = [.int k] ∧ -(2 ^ 62) ≤ k ∧ k < 2 ^ 62 ∧ (intsD 0 k.toNat).length ≤ sizeLine ∧ lcL ckT tg mYes te (wipeD s vs) (intsD 0 k.toNat) A1 fun ys A2 => Q (.lst ys) A2) _ fun d ⟨j, e, h1, h2⟩ => ⟨j, by rw [e], by omega, by omega, by rw [len_intsD]; exact sz (by omega), by
    have e : intsD 0 j.toNat = (List.range j.toNat).map fun i : Nat => D.int i := by unfold intsD; simp
    rw [e]
    refine lc_each (ck := ckT) (E := fun _ d => E0 d) True.intro (fun i hi R R' k => hb i _ fun s1 h => (show (if true = true then te s1 A R NX else R' A) from iteT (B := R' A) (h _ _ k))) fun ys hys => q _ ⟨ys, rfl, ?_, ?_⟩
    · have := hys.length
      rw [List.length_range] at this
      omega
    · exact paired_all hys⟩
theorem strs_ex:∀ {ys:List D},(∀ y∈ys,∃ z,y=D.str z∧z∈wNames)→∃ zs:List Str,ys=zs.map D.str∧∀ z∈zs,z∈wNames
 | [],_=>⟨[],rfl,fun _ h=>nomatch h⟩
 | y :: ys,h=>by
  obtain ⟨z,e,hz⟩ := h y (List.mem_cons_self ..)
  obtain ⟨zs,e2,h2⟩ := strs_ex (ys := ys) fun x hx=>h x (List.mem_cons_of_mem _ hx)
  refine ⟨z :: zs,by rw [e,e2]; rfl,fun x hx=>?_⟩
  rcases List.mem_cons.mp hx with e | hx
  ·rw [e]; exact hz
  ·exact h2 x hx
theorem y_no (x:Str):x ++ "y" ∉ wNames := fun hm=>by
 have h:∀ z∈wNames,(TL.tl z).getLast?≠some 121 := by decide +kernel
 refine h _ hm ?_
 rw [TL.tl_append,show TL.tl ("y":Str)=[121] by decide +kernel,List.getLast?_concat]
theorem z_no:∀ x∈wNames,x ++ "z" ∉ wNames := by decide +kernel
theorem nmW_and:nmW ((nmW ra).filter fun z=>inB z (nmW rb))=nmW (ra.filter fun z=>inB z rb) := nmW_cg fun z hz e=>by
 rw [List.mem_filter,List.mem_filter,inB_iff,inB_iff,mem_nmW,mem_nmW]
 exact ⟨fun h=>⟨h.1.2.resolve_left e,h.2.2.resolve_left e⟩,fun h=>⟨⟨hz, .inr h.1⟩,hz, .inr h.2⟩⟩
theorem nmW_sub:nmW ((nmW ra).filter fun z=>!inB z (nmW rb))=nmW (ra.filter fun z=>!inB z rb) := nmW_cg fun z hz e=>by
 have h1:inB z (nmW rb)=inB z rb := by
  rw [Bool.eq_iff_iff,inB_iff,inB_iff,mem_nmW]
  exact ⟨fun h=>h.2.resolve_left e,fun h=>⟨hz, .inr h⟩⟩
 rw [List.mem_filter,List.mem_filter,mem_nmW,h1]
 exact ⟨fun h=>⟨h.1.2.resolve_left e,h.2⟩,fun h=>⟨⟨hz, .inr h.1⟩,h.2⟩⟩
theorem nmW_set (ha:∀ z∈ra,z∈wNames) (hb:∀ z∈rb,z∈wNames):eqB (⟨nmW ra⟩:Tup Str) (⟨nmW rb⟩:Tup Str)=true↔∀ z,z∈ra ++ [("kept":Str)]↔z∈rb ++ [("kept":Str)] := by
 rw [eqB_iff,Tup.mk.injEq]
 refine ⟨fun h z=>?_,fun h=>nmW_cg fun z hz e=>?_⟩
 ·have k := nmW_inj h
  rw [List.mem_append,List.mem_append,List.mem_singleton]
  by_cases e:z = "kept"
  ·exact ⟨fun _=>.inr e,fun _=>.inr e⟩
  ·exact ⟨fun h=>.inl ((k z (ha z (h.resolve_right e)) e).mp (h.resolve_right e)),fun h=>.inl ((k z (hb z (h.resolve_right e)) e).mpr (h.resolve_right e))⟩
 ·have := h z
  rw [List.mem_append,List.mem_append,List.mem_singleton] at this
  exact ⟨fun q=>(this.mp (.inl q)).resolve_right e,fun q=>(this.mpr (.inl q)).resolve_right e⟩
end
theorem law_body {ns:List Int} (hns:ns.length≤63):b_law lawE ([some (.scr ns)] ++ List.replicate (13 - 1) none) (fun _=>none) := by
 refine at_s (s' := [some (.scr ns),none,none,none,none,none,none,none,none,none,none,none,none]) rfl ?_
 refine s_sq (u_setE (w_poolA hns (pa_1 (pv_var rfl)) fun n0 hn=>?_))
 have hp:put (fun _=>none) n0 .pool n0=some .pool := put_same
 generalize put (fun _=>none) n0 .pool=A at hp ⊢
 refine at_n (s' := [some (.scr ns),some (.ref n0),none,none,none,none,none,none,none,none,none,none,none]) rfl (nx_sq (s_sq ?_))
 refine u_set (s' := [some (.scr ns),some (.ref n0),some (.lst (wNames.map en)),none,none,none,none,none,none,none,none,none,none]) pv_names rfl (nx_sq (s_sq ?_))
 refine s_ifF (Pt.is (pt_b (pv_op2 pv_c (pv_cbB (pa_1 (pv_var rfl)) (pb_tupI (il_l (xs := wNames) (e := en)))) (p2_neK (q2_ne (a := (⟨wNames⟩:Tup Str)) (b := (⟨wNames⟩:Tup Str)) (ue_r rfl) ue_t (by decide))))) (by rw [eqB_rfl]; rfl)) (nx_sq (s_sq ?_))
 refine u_setE (w_callW ((f_word hp (us := []) (il_r rfl) (by decide)) _ _ ?_) (pa_2 (pv_var rfl) (pv_lst pa_nil')))
 rintro d ⟨w0,rfl,hw0,_⟩
 have wl0 := (word_len hw0).1
 refine at_n (s' := [some (.scr ns),some (.ref n0),some (.lst (wNames.map en)),some (.str w0),none,none,none,none,none,none,none,none,none]) rfl (nx_sq (s_sq ?_))
 have lz:("z":Str).length=1∧("y":Str).length=1 := by decide +kernel
 refine u_set (s' := [some (.scr ns),some (.ref n0),some (.lst (wNames.map en)),some (.str (if inB w0 wNames=true then w0 ++ "z" else w0)),none,none,none,none,none,none,none,none,none]) (pv_ifS (a := inB w0 wNames) (x := w0 ++ "z") (y := w0) (pt_b (pv_op2 (pv_var rfl) (pv_var rfl) (q2_in (a := w0) (xs := wNames) (ue_r rfl) (ItS.sq it_l) (by decide)))) (fun _=>pv_op2 (pv_var rfl) pv_c (p2_addS (Nat.le_trans (show _≤100 by omega) (by decide)))) fun _=>pv_var rfl) rfl (nx_sq (s_sq ?_))
 have hw:inB (if inB w0 wNames=true then w0 ++ "z" else w0) wNames=false := by
  split
  ·rename_i h
   cases e:inB (w0 ++ "z") wNames with
   | false=>rfl
   | true=>exact absurd (inB_iff.mp e) (z_no w0 (inB_iff.mp h))
  ·rename_i h
   cases e:inB w0 wNames with
   | false=>rfl
   | true=>exact absurd e h
 have wl:(if inB w0 wNames=true then w0 ++ "z" else w0).length≤9 := by
  split
  ·rw [Str.length_append]; omega
  ·omega
 generalize (if inB w0 wNames=true then w0 ++ "z" else w0)=w at hw wl ⊢
 have hwn:∀ {du:List Str},w ∉ nmW du := fun {du} h=>by rw [inB_iff.mpr (mem_nmW.mp h).1] at hw; cases hw
 have one:∀ {s:Sl},s[1]? = some (some (.ref n0))→s[2]? = some (some (.lst (wNames.map en)))→Px (mOp fIx (mVar 2) (mCall m_law_draw (mCons (mVar 1) (mCons (mC (.int 7)) mNil)))) s A fun d=>∃ z,d=D.str z∧z∈wNames := fun {s} h1 h2=>by
  refine px_op (Pv.px (pv_var h2)) (px_draw (k := 7) hp (pv_var h1) pv_c) fun u v eu ⟨r2,ev,g0,g1⟩ Q q=>?_
  subst eu ev
  exact P2.wp (q _ ⟨_,rfl,ixG_mem (d := ("":Str)) (xs := wNames) (i := r2) ⟨g0,g1⟩⟩) (p2_ixG (d0 := ("":Str)) (xs := wNames) (e := en) (j := r2) it_l ⟨g0,g1⟩)
 refine s_setX (px_lcR (j := 2) (E0 := fun _ d=>∃ zs:List Str,d = .lst (zs.map en)∧(1≤zs.length∧zs.length≤7)∧∀ z∈zs,z∈wNames) pv_c (by decide) (by decide) fun i hi R k=>k _ ?_) ?_
 ·intro Q E q
  refine px_lcRX (N := 7) (E0 := fun d=>∃ z,d=D.str z∧z∈wNames) (fun Q E q=>(px_addD (j := 1) (px_draw (k := 7) hp (pv_var rfl) pv_c)) Q E fun d ⟨r,e,h1,h2⟩=>q d ⟨r,e,h1,by omega⟩) (by decide) (fun i R k=>k _ (one rfl rfl)) Q E fun d ⟨ys,e,hl,hy⟩=>?_
  obtain ⟨zs,e2,hz⟩ := strs_ex hy
  subst e e2
  rw [List.length_map] at hl
  exact q _ ⟨zs,rfl,hl,hz⟩
 rintro d ⟨ys,rfl,hys⟩
 obtain ⟨ra,rb,rfl,⟨la1,la2⟩,ha,⟨lb1,lb2⟩,hb⟩:∃ ra rb:List Str,ys=[.lst (ra.map en), .lst (rb.map en)]∧(1≤ra.length∧ra.length≤7)∧(∀ z∈ra,z∈wNames)∧(1≤rb.length∧rb.length≤7)∧∀ z∈rb,z∈wNames := by
  have hys:Paired _ [0,1] ys := hys
  cases hys with
  | cons h1 h2=>cases h2 with
   | cons h3 h4=>cases h4 with
    | nil =>
     obtain ⟨ra,rfl,h5,h6⟩ := h1
     obtain ⟨rb,rfl,h7,h8⟩ := h3
     exact ⟨ra,rb,rfl,h5,h6,h7,h8⟩
 refine at_n (s' := [some (.scr ns),some (.ref n0),some (.lst (wNames.map en)),some (.str w),some (.lst [.lst (ra.map en), .lst (rb.map en)]),none,none,none,none,none,none,none,none]) rfl (nx_sq (s_sq ?_))
 have nea:ra≠[] := fun e=>by rw [e] at la1; simp at la1
 have neb:rb≠[] := fun e=>by rw [e] at lb1; simp at lb1
 have ia:∀ z∈ra,inB z wNames=true := fun z hz=>inB_iff.mpr (ha z hz)
 have ib:∀ z∈rb,inB z wNames=true := fun z hz=>inB_iff.mpr (hb z hz)
 have r0:∀ {s:Sl} {A:AH},s[4]? = some (some (.lst [.lst (ra.map en), .lst (rb.map en)]))→Pv (mOp fIx (mVar 4) (mC (.int 0))) s A (.lst (ra.map en)) := fun h=>pv_ixd (pv_var h) pv_c rfl
 have r1:∀ {s:Sl} {A:AH},s[4]? = some (some (.lst [.lst (ra.map en), .lst (rb.map en)]))→Pv (mOp fIx (mVar 4) (mC (.int 1))) s A (.lst (rb.map en)) := fun h=>pv_ixd (pv_var h) pv_c rfl
 refine t_par (s1 := [some (.scr ns),some (.ref n0),some (.lst (wNames.map en)),some (.str w),some (.lst [.lst (ra.map en), .lst (rb.map en)]),some (wiN (nmW ra)),none,none,none,none,none,none,none]) (s' := [some (.scr ns),some (.ref n0),some (.lst (wNames.map en)),some (.str w),some (.lst [.lst (ra.map en), .lst (rb.map en)]),some (wiN (nmW ra)),some (wiN (nmW rb)),none,none,none,none,none,none]) (nx_sq (s_sq ?_)) (pa_2 (pv_call (pa_1 (r0 rfl)) (fv_lof (k := 4) nea (by omega) ia)) (pv_call (pa_1 (r1 rfl)) (fv_lof (k := 4) neb (by omega) ib))) rfl rfl
 have yes:∀ {du:List Str} {m1 m2:ME} {s:Sl} {A:AH},Pv m1 s A (wiN (nmW du))→Pv m2 s A (.lst (du.map en))→s[3]? = some (some (.str w))→Pv (mCall m_law_is (mCons m1 (mCons m2 (mCons (mVar 3) mNil)))) s A (.bl true) := fun h1 h2 h3=>pv_call (pa_3 h1 h2 (pv_var h3)) (fv_is hwn)
 refine u_for (xs := rng 2) (e := en) (mi_rng (pv_c) (by decide)) (Wb := True) fun ck hck hP=>?_
 refine for_xsT (xs := rng 2) (fun i s A'=>∃ (j7:Option D),s=[some (.scr ns),some (.ref n0),some (.lst (wNames.map en)),some (.str w),some (.lst [.lst (ra.map en), .lst (rb.map en)]),some (wiN (nmW ra)),some (wiN (nmW rb)),j7,none,none,none,none,none]∧A' = A) ⟨_,rfl,rfl⟩ (fun _ _ A' _=>hP A' True.intro) ?_ ?_
 ·rintro i t s A' N ht ⟨j7,rfl,rfl⟩ hN
  refine u_gN (s' := [some (.scr ns),some (.ref n0),some (.lst (wNames.map en)),some (.str w),some (.lst [.lst (ra.map en), .lst (rb.map en)]),some (wiN (nmW ra)),some (wiN (nmW rb)),some (.int t),none,none,none,none,none]) rfl ?_
  refine s_sq (s_ifF (Pt.is (pt_or (a := false) (b := false) (Pt.is (pt_not (pt_b (yes (pv_var rfl) (r0 rfl) rfl))) rfl) fun _=>Pt.is (pt_not (pt_b (yes (pv_var rfl) (r1 rfl) rfl))) rfl) rfl) (nx_sq (s_sq ?_)))
  refine s_ifF (Pt.is (pt_not (pt_b (yes (du := ra ++ rb) ((pv_own (pv_var rfl) (pv_var rfl) rfl rfl (fv_wor nmW_len nmW_len)).is (by rw [nmW_or])) (pv_op2 (r0 rfl) (r1 rfl) (p2_addLI il_l il_l (Sz.of (by omega)))) rfl))) rfl) (nx_sq (s_sq ?_))
  refine s_ifF (Pt.is (pt_not (pt_b (yes (du := ra.filter fun z=>inB z rb) ((pv_own (pv_var rfl) (pv_var rfl) rfl rfl (fv_wand nmW_len)).is (by rw [nmW_and])) (v_lcF (xs := ra) (e := en) (p := fun z=>inB z rb) (mi_seq (r0 rfl) it_l) rfl (Sz.of (by omega)) fun z hz=>lcb (tg_n rfl) (pt_b (pv_op2 (pv_var rfl) (r1 rfl) (q2_in (a := z) (xs := rb) (ue_r rfl) (ItS.sq it_l) (by decide)))) fun _=>pv_var rfl) rfl))) rfl) (nx_sq (s_sq ?_))
  refine s_ifF (Pt.is (pt_not (pt_b (yes (du := ra.filter fun z=>!inB z rb) ((pv_own (pv_var rfl) (pv_var rfl) rfl rfl (fv_wsub nmW_len)).is (by rw [nmW_sub])) (v_lcF (xs := ra) (e := en) (p := fun z=>!inB z rb) (mi_seq (r0 rfl) it_l) rfl (Sz.of (by omega)) fun z hz=>lcb (tg_n rfl) (pt_b (pv_op2 (pv_var rfl) (r1 rfl) (q2_nin (a := z) (xs := rb) (ue_r rfl) (ItS.sq it_l) (by decide)))) fun _=>pv_var rfl) rfl))) rfl) (nx_sq ?_)
  exact s_ifF (Pt.is (pt_b (pv_op2 (pv_ownEq (t := .c "Wishes") (pv_var rfl) (pv_var rfl) rfl rfl (by decide) fv_weq) (pv_setEq (xs := ra ++ [("kept":Str)]) (ys := rb ++ [("kept":Str)]) (pv_op2 (r0 rfl) (pv_lst (pa_1 pv_c)) (p2_addLI (xs := ra) (ys := [("kept":Str)]) (e := en) il_l (il_r rfl) (Sz.of (by show _ + 1≤_; omega)))) (pv_op2 (r1 rfl) (pv_lst (pa_1 pv_c)) (p2_addLI (xs := rb) (ys := [("kept":Str)]) (e := en) il_l (il_r rfl) (Sz.of (by show _ + 1≤_; omega)))) rfl rfl (by rw [List.length_append]; show _ + 1≤_; omega) (by rw [List.length_append]; show _ + 1≤_; omega) (nmW_set ha hb)) (q2_ne (a := eqB (⟨nmW ra⟩:Tup Str) (⟨nmW rb⟩:Tup Str)) (b := eqB (⟨nmW ra⟩:Tup Str) (⟨nmW rb⟩:Tup Str)) (ue_r rfl) (ue_r rfl) (by decide)))) (by rw [eqB_rfl]; rfl)) (hN _ _ ⟨_,rfl,rfl⟩)
 rintro s A' ⟨j7,rfl,rfl⟩
 refine nx_sq (s_sq ?_)
 have e7:nmW (ra.reverse ++ ra)=nmW ra := nmW_cg fun z _ _=>by rw [List.mem_append,List.mem_reverse]; exact or_self_iff
 refine s_ifF (Pt.is (pt_or (a := false) (b := false) (Pt.is (pt_not (pt_b (pv_ownEq (t := .c "Wishes") (pv_call (pa_1 (pv_op2 (pv_revI (r0 rfl) il_l) (r0 rfl) (p2_addLI il_l il_l (Sz.of (by rw [List.length_reverse]; omega))))) (fv_lof (k := 4) (by simp [nea]) (by rw [List.length_append,List.length_reverse]; omega) fun z hz=>ia z (by rcases List.mem_append.mp hz with h | h; exact List.mem_reverse.mp h; exact h))) (pv_var rfl) rfl rfl (by decide) fv_weq))) (by rw [e7,eqB_rfl]; rfl)) fun _=>Pt.is (pt_not (pt_b (yes (pv_call (pa_1 (pv_var rfl)) (fv_lof (k := 4) (by simp) (by decide) fun z hz=>inB_iff.mpr hz)) (pv_var rfl) rfl))) rfl) rfl) (nx_sq (s_sq ?_))
 refine u_set (s' := [some (.scr ns),some (.ref n0),some (.lst (wNames.map en)),some (.str w),some (.lst [.lst (ra.map en), .lst (rb.map en)]),some (wiN (nmW ra)),some (wiN (nmW rb)),j7,some (.lst ((rb.take 3).map en)),none,none,none,none]) ((pv_slG (xs := rb) (e := en) (r1 rfl) po_no (po_so pv_c) il_l).is (by rw [cutL_to (by decide)]; rfl)) rfl (nx_sq (s_sq ?_))
 have hg:∀ z∈rb.take 3,inB z wNames=true := fun z hz=>ib z (List.mem_of_mem_take hz)
 have lg:(rb.take 3).length≤3 := by rw [List.length_take]; omega
 have lg1:1≤(rb.take 3).length := by rw [List.length_take]; omega
 refine u_setE (w_drawA (k := ((rb.take 3).length:Int) + 1) (pa_2 (pv_var rfl) (pv_op2 (pv_cbB (pa_1 (pv_var rfl)) (pb_lenI (ItL.toS (il_l (xs := rb.take 3) (e := en))))) pv_c p2_addI)) hp (by omega) (dr_small ⟨by omega,by omega⟩) fun r r0' r1'=>?_)
 obtain ⟨n,rfl⟩ := Int.eq_ofNat_of_zero_le r0'
 generalize rb.take 3=gd at hg lg lg1 r1' ⊢
 refine at_n (s' := [some (.scr ns),some (.ref n0),some (.lst (wNames.map en)),some (.str w),some (.lst [.lst (ra.map en), .lst (rb.map en)]),some (wiN (nmW ra)),some (wiN (nmW rb)),j7,some (.lst (gd.map en)),some (.int n),none,none,none]) rfl (nx_sq (s_sq ?_))
 have ny:inB (w ++ "y") wNames=false := by
  cases e:inB (w ++ "y") wNames with
  | false=>rfl
  | true=>exact absurd (inB_iff.mp e) (y_no w)
 have py:∀ {s:Sl} {A:AH},s[3]? = some (some (.str w))→Pv (mOp fAdd (mVar 3) (mC (.str "y"))) s A (.str (w ++ "y")) := fun h=>pv_op2 (pv_var h) pv_c (p2_addS (Nat.le_trans (show _≤100 by omega) (by decide)))
 have zl:(gd.take n ++ [w] ++ gd.drop n).length≤4 := by rw [List.length_append,List.length_append,List.length_take,List.length_drop]; show _ + 1 + _≤_; omega
 have p1:Pv (mOp fAdd (mOp fAdd (mSl (mVar 8) mNoPart (mPart (mVar 9))) (mLst (mCons (mVar 3) mNil))) (mSl (mVar 8) (mPart (mVar 9)) mNoPart)) ([some (.scr ns),some (.ref n0),some (.lst (wNames.map en)),some (.str w),some (.lst [.lst (ra.map en), .lst (rb.map en)]),some (wiN (nmW ra)),some (wiN (nmW rb)),j7,some (.lst (gd.map en)),some (.int n),none,none,none]:Sl) A' (.lst ((gd.take n ++ [w] ++ gd.drop n).map en)) :=
  (pv_op2 (pv_op2 (pv_slG (xs := gd) (e := en) (pv_var rfl) po_no (po_so (pv_var rfl)) il_l) (pv_lst (pa_1 (pv_var rfl))) (p2_addLI (xs := gd.take n) (ys := [w]) (e := en) (il_r (by rw [cutL_to (by omega)]; rfl)) (il_r rfl) (Sz.of (by rw [List.length_take]; show _ + 1≤_; omega)))) (pv_slG (xs := gd) (e := en) (pv_var rfl) (po_so (pv_var rfl)) po_no il_l) (p2_addLI (xs := gd.take n ++ [w]) (ys := gd.drop n) (e := en) il_l (il_r (by rw [cutL_from (by omega)]; rfl)) (Sz.of (by rw [List.length_append,List.length_take,List.length_drop]; show _ + 1 + _≤_; omega))))
 refine s_ifF (Pt.is (pt_or (a := false) (b := false) (Pt.is (pt_b (pv_op2 (pv_call (pa_1 p1) (fv_refused (z := w) (w1 := gd.take n) (w2 := gd.drop n) (by simp) zl (fun y hy=>hg y (List.mem_of_mem_take hy)) hw)) (pv_var rfl) (q2_ne (a := w) (b := w) (ue_r rfl) (ue_r rfl) (by decide)))) (by rw [eqB_rfl]; rfl)) fun _=>Pt.is (pt_b (pv_op2 (pv_call (pa_1 ((pv_lst (pa_2 (pv_var rfl) (py rfl))).is (y := .lst ([w,w ++ "y"].map en)) rfl)) (fv_refused (z := w) (w1 := []) (w2 := [w ++ "y"]) rfl (by show 2≤4; decide) (fun _ h=>nomatch h) hw)) (pv_var rfl) (q2_ne (a := w) (b := w) (ue_r rfl) (ue_r rfl) (by decide)))) (by rw [eqB_rfl]; rfl)) rfl) (nx_sq ?_)
 refine u_ret ((pv_andV (a := true) (b := true) ((pv_op2 (pv_call (pa_1 ((pv_lst (pa_3 (py rfl) (pv_var rfl) (pv_op2 (pv_var rfl) pv_c (p2_ixG (d0 := ("":Str)) (xs := gd) (e := en) (j := 0) it_l ⟨by decide,by omega⟩)))).is (y := .lst ([w ++ "y",w,ixG ("":Str) gd 0].map en)) rfl)) (fv_refused (z := w ++ "y") (w1 := []) (w2 := [w,ixG ("":Str) gd 0]) rfl (by show 3≤4; decide) (fun _ h=>nomatch h) ny)) (py rfl) (q2_eq (a := w ++ "y") (b := w ++ "y") (ue_r rfl) (ue_r rfl) (by decide))).is (by rw [eqB_rfl])) fun _=>yes (pv_call (pa_1 (pv_var rfl)) (fv_lof (k := 4) (fun e=>by rw [e] at lg1; simp at lg1) (by omega) hg)) (pv_var rfl) rfl).is rfl) rfl
end Lw
namespace Lw
open PySem PySem.Spec PyProof.Rows L2 Am
def sp_law (K:PySem.W.Frag):Sp := fun vs H Q _=>∃ (a:Addr) (ns:List Int),vs=[.ref a]∧SqL K H a (ns.map V.int)∧ns.length≤63∧∀ H',Q (.bl true) H'
theorem pure_law {K:PySem.W.Frag} (H:Hp) (vs:List V) (Q:VK) (E:XK) (h:sp_law K vs H Q E):cS K WF b_law { nx := fun _ H'=>Q .non H',rt := Q } (start N_law vs) H := by
 obtain ⟨a,ns,rfl,hS,hl,q⟩ := h
 exact law_start hS (law_body hl) q
end Lw
namespace Lw
open PySem PySem.Spec PyProof.Rows L2 Fm Am
open PySem.W (Datum Tup T3 T4)
section
variable {P:Program} {w:World} {K:PySem.W.Frag} {mg:Str→Option Value} {base:Heap}
theorem sc_E_Unknown:SuScope ["self","name"] (defScope s_Unknown_init) := ⟨rfl,rfl,rfl,by decide +kernel,by decide +kernel,by decide +kernel,by decide +kernel,rfl,rfl⟩
theorem we_E_Unknown (cda cc:Addr) (A:Around) (outer:List Env) (s:Shared) (H:Hp):PSs (cxS P w K mg base ["self","name"] "Unknown.__init__" (defScope s_Unknown_init) (He.ma K (He.ga K "Unknown") "__init__") cda cc A outer s H) ((defBody s_Unknown_init).drop 1) (tOst K "name" (tVar 0) (tVar 1)) := (pss_one (ps_ost (pv 0) (pv 1)))
theorem ok_E_Unknown (hfile : ((P.main.file : Str) == PySem.Challenge.pw_foundormade_k36_wishes_as_sets.main.file) = true) (htop : (P.main.scope.names.lookup ("super" : Str)).isSome = false) (T : Txt K mg) : FnR P w K mg base CX0 1 (He.ma K (He.ga K "Unknown") "__init__") (spE1 (He.ga K "Unknown") "name") :=
 (err_fn (P := P) (w := w) (base := base) T.e_Unknown sc_E_Unknown hfile htop T.z_super rfl rfl rfl (fun _ _ _ _ _ _ _ _ us hl=>match us,hl with | [_,_],_=>rfl) (fun _ _ _=>⟨_,rfl⟩) (fun _ _ _=>rfl) (fun cda cc A outer s H=>we_E_Unknown cda cc A outer s H)).imp fun vs H Q E h=>by
  obtain ⟨a,v,rfl,h1,h2⟩ := h
  exact ⟨a,[v],rfl,rfl,h1,v,rfl, .ref a,rfl,a,_,rfl,T.e_Unknown.oex,T.xf_Unknown_name, .inl ⟨h1,h2⟩⟩
theorem ok_Wishes_init (T:Txt K mg):GX P w K mg base 1 (He.ma K (He.ga K "Wishes") "__init__") m_Wishes_init :=
 okX T.d_Wishes_init sc_Wishes_init (wk_Wishes_init T)
theorem ok_Wishes_contains (T:Txt K mg):GX P w K mg base 1 (He.ma K (He.ga K "Wishes") "__contains__") m_Wishes_contains :=
 okX T.d_Wishes_contains sc_Wishes_contains (wk_Wishes_contains T)
theorem ok_Wishes_len (T:Txt K mg):GX P w K mg base 1 (He.ma K (He.ga K "Wishes") "__len__") m_Wishes_len :=
 okX T.d_Wishes_len sc_Wishes_len (wk_Wishes_len T)
theorem ok_Wishes_eq (T:Txt K mg):GX P w K mg base 1 (He.ma K (He.ga K "Wishes") "__eq__") m_Wishes_eq :=
 okX T.d_Wishes_eq sc_Wishes_eq (wk_Wishes_eq T)
theorem ok_law_pool (T:Txt K mg):GX P w K mg base 1 (He.ga K "_law_pool") m_law_pool := by
 refine Am.FnR.up (fnR_def T.d_law_pool sc_law_pool (fun vs H Q E h=>len_law_pool h) (fun _ _ _ _ _ _ us hl=>match us,hl with | [_],_=>rfl) (t_law_pool K) (fun cdv A outer s H E hr=>wk_law_pool T cdv A outer s H E hr) (fun H vs Q E h=>pure_law_pool K H vs Q E h))
theorem ok_law_draw (T:Txt K mg):GX P w K mg base 1 (He.ga K "_law_draw") m_law_draw := by
 refine Am.FnR.up (fnR_def T.d_law_draw sc_law_draw (fun vs H Q E h=>len_law_draw h) (fun _ _ _ _ _ _ us hl=>match us,hl with | [_,_],_=>rfl) (t_law_draw K) (fun cdv A outer s H E hr=>wk_law_draw T cdv A outer s H E hr) (fun H vs Q E h=>pure_law_draw K H vs Q E h))
theorem ok_law_word (T:Txt K mg):GX P w K mg base 2 (He.ga K "_law_word") m_law_word :=
 okX T.d_law_word sc_law_word (wk_law_word T (ok_law_draw T))
theorem ok_Wishes_of (hfile : ((P.main.file : Str) == PySem.Challenge.pw_foundormade_k36_wishes_as_sets.main.file) = true) (htop : (P.main.scope.names.lookup ("super" : Str)).isSome = false) (T : Txt K mg) : GX P w K mg base 3 (He5.wf K (He.ga K "Wishes") "staticmethod" "of") m_Wishes_of :=
 fnR_star (ps := ["first"]) (pv := "rest") T.d_Wishes_of sc_Wishes_of (fun kV doc pm an cdv ct us rest hl=>(StX.bind_star1 (B := fun vs=>bindArgs (PySem.W.fnOf _ _ (defArgs s_Wishes_of) (defBody s_Wishes_of) (defScope s_Wishes_of) .none kV doc pm an cdv ct) ⟨vs,[]⟩) (fun _=>rfl) (fun _ r rs=>rfl)) us rest hl) rfl (fun cdv A outer s H E hr=>wk_Wishes_of T (ok_Wishes_init T) (ok_E_Unknown hfile htop T) cdv A outer s H E hr)
theorem ok_Wishes_or (T:Txt K mg):GX P w K mg base 3 (He.ma K (He.ga K "Wishes") "__or__") m_Wishes_or :=
 okX T.d_Wishes_or sc_Wishes_or (wk_Wishes_or T (ok_Wishes_init T))
theorem ok_Wishes_and (T:Txt K mg):GX P w K mg base 3 (He.ma K (He.ga K "Wishes") "__and__") m_Wishes_and :=
 okX T.d_Wishes_and sc_Wishes_and (wk_Wishes_and T (ok_Wishes_init T))
theorem ok_Wishes_sub (T:Txt K mg):GX P w K mg base 3 (He.ma K (He.ga K "Wishes") "__sub__") m_Wishes_sub :=
 okX T.d_Wishes_sub sc_Wishes_sub (wk_Wishes_sub T (ok_Wishes_init T))
theorem ok_law_is (T:Txt K mg):GX P w K mg base 3 (He.ga K "_law_is") m_law_is :=
 okX T.d_law_is sc_law_is (wk_law_is T (ok_Wishes_contains T) (ok_Wishes_eq T) (ok_Wishes_len T))
theorem ok_law_of_rec (hfile : ((P.main.file : Str) == PySem.Challenge.pw_foundormade_k36_wishes_as_sets.main.file) = true) (htop : (P.main.scope.names.lookup ("super" : Str)).isSome = false) (T : Txt K mg) : ∀ d : Nat,FnR P w K mg base (L2.CX P w) (3 + d) (He.ga K "_law_of") (spM K (m_law_of d))
 | 0=>fnR_never
 | d + 1=>fnR_defX T.d_law_of sc_law_of (fun vs H Q E h=>fn_len h) (fun _ _ _ _ _ _ us hl=>match us,hl with | [_],_=>rfl) (fun E=>cS K (WD E) (b_law_of (m_law_of d))) (fun cdv A outer s H E hr=>wk_law_of T (ok_Wishes_of hfile htop T) (ok_Wishes_or T) (Nat.le_add_right _ _) (ok_law_of_rec hfile htop T d) cdv A outer s H E hr) (fun H vs Q E h=>fn_ok h)
theorem ok_law_of (hfile : ((P.main.file : Str) == PySem.Challenge.pw_foundormade_k36_wishes_as_sets.main.file) = true) (htop : (P.main.scope.names.lookup ("super" : Str)).isSome = false) (T : Txt K mg) : GX P w K mg base 8 (He.ga K "_law_of") (m_law_of 5) := ok_law_of_rec hfile htop T 5
theorem ok_law_refused (hfile : ((P.main.file : Str) == PySem.Challenge.pw_foundormade_k36_wishes_as_sets.main.file) = true) (htop : (P.main.scope.names.lookup ("super" : Str)).isSome = false) (T : Txt K mg) : GX P w K mg base 9 (He.ga K "_law_refused") m_law_refused :=
 okX T.d_law_refused sc_law_refused (wk_law_refused T (ok_law_of hfile htop T))
end
theorem law_ok {P : Program} {w : World} {K : PySem.W.Frag} {h : Heap} {mg : Str → Option Value} {f : Addr} (hfile : ((P.main.file : Str) == PySem.Challenge.pw_foundormade_k36_wishes_as_sets.main.file) = true) (htop : (P.main.scope.names.lookup ("super" : Str)).isSome = false) (X : K.In h) (G : h.Ns mainGlobals mg) (hfa : mg ("law" : Str) = some (.ref f)) (c : obsE fa fn fe K = valE fn fe) :
  ∃ fd:FuncData,(∀ (s:Shared) (v:Value),BindsTo s fd ⟨[v],[]⟩ [("_law_script",v)])∧∀ base:Heap,K.In base→base.Ns mainGlobals mg→FnOk P w K mg base CX0 10 f fd ["_law_script"] (sp_law K) := by
 have T := txt_of X G c
 obtain ⟨fd,F⟩ := T.d_law
 have e := hfa.symm.trans T.g_law
 cases e
 refine ⟨fd,fun s v=>fun_bindsTo (ps := ["_law_script"]) F (fun _ _ _ _ _ _ us hl=>match us,hl with | [_],_=>rfl) s [v] rfl,fun base _ _=>F.ok sc_law (fun vs H Q E h=>?_) fun cdv A outer s H vs Q E hr h=>⟨cS K WF b_law,wk_law T (ok_Wishes_and T) (ok_Wishes_eq T) (ok_Wishes_or T) (ok_Wishes_sub T) (ok_law_draw T) (ok_law_is T) (ok_law_of hfile htop T) (ok_law_pool T) (ok_law_refused hfile htop T) (ok_law_word T) cdv A outer s H E hr,pure_law H vs Q E h⟩⟩
 obtain ⟨_,_,rfl,_⟩ := h
 rfl
end Lw
open PySem PySem.W PySem.Calls PyProof.Rows
theorem PySem.Challenge.cw_foundormade_k36_wishes_as_sets_holds : PySem.Challenge.rw_foundormade_k36_wishes_as_sets.Holds := by
 refine PySem.W.holds_law Lw.topL fun _=>Lw.topH ?hc
 case hc =>
  refine L2.walk_ofE (l := PySem.Challenge.rw_foundormade_k36_wishes_as_sets) (n := 63) (k := 10) (x := "_law_script") (CX := L2.CX0) rfl (by decide) Lw.topDf ⟨rfl,by decide,by decide⟩ ?F (fun _ _ _ _ z => z)
  intro w mg fa h Y G hmg0
  obtain ⟨K,KX,c⟩ := Y
  have hmg:mg ("law":PySem.Str)=some (.ref fa) := by
   rw [← Lw.topNm]
   exact hmg0
  obtain ⟨fd,hb,hF⟩ := Lw.law_ok (P := (PySem.Challenge.rw_foundormade_k36_wishes_as_sets).prog) (w := w) (by decide +kernel) (by decide +kernel) KX G hmg c
  exact ⟨K,fd,Lw.sp_law K,KX,hb,fun H a ns hl _ hS=>⟨a,ns,rfl,hS,hl,fun _=>rfl⟩,hF⟩
