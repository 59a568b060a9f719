import PyProof.Rows.All
import Wide.All
import OpenK.AllK
import Wide.FinOn
import PyProof.EqAt
import PyProof.EqKinds
import PyProof.TupleCall
import KE.Datum
import KE.DatumMore
import KE.DatumIndex
import HandS.Base
import HandS.Call
import HandS.List
import HandS.Comp
import HandS.Ends
import HandS.Dict
import HandS.Iter
import HandS.Text
import HandS.Words
import HandS.WordsList
import HandS.WordsDict
import HandS.Deep
import HandS.Style
import HandS.Wide
import HandS.IsInst
import HandS.Flow
import HandS.More
import HandS.Star
import HandS.ClsMeth
import HandS.DictComp
import HandS.HeadHook1
import HandS.HeadHook2
import HandS.HeadNt
import KE.KStateDown
import Lean
import HandS.Head0
import HandS.Head1
import HandS.Head2
import HandS.HeadEnd
import PyProof.InstNe
import HandS.Exc
import HandS.ExcInit
import HandS.ExcField
import HandS.CallSlots
import HandS.WordsExc
import KE.KExcSuper
import HandS.ExcOwn
import HandS.ExcIs
import HandS.TryOnly
import KE.KExcIs
import KE.GoesMore
import PyProof.EnumMake
import HandS.Small
import HandS.OwnEq
import HandS.IterVal
import KE.KOwnIter
import HandS.Strs
import PyProof.DictMoreH
import HandS.DictTup
import HandS.Zip
import HandS.Conv
import HandS.MakeKwOnly
import PyProof.Rows.ListMulArg
import HandS.Property
import HandS.SortRule
import PyProof.Rows.SortKeyStr
import KE.DataEq
import HandS.Defaults
import HandS.TupAny
import PyProof.Rows.SortShellAny
import PyProof.ReprRoads
import PyProof.ReprLen
import HandS.OwnIter
import HandS.Set
import HandS.HeadHook3
import HandS.FStr
import KE.GoesEnumKw
import PySem.Challenge.RW_foundormade_k31_schemas_written
set_option Elab.async false
set_option linter.all false
set_option maxRecDepth 100000
set_option maxHeartbeats 4000000
namespace Fm
open PySem PySem.Spec PyProof.Rows L2
open PySem.W (Datum Tup)
theorem same_new {H:Hp} {p:Addr} {o:HO} (h:H p=none):Same H (upd H p o) := fun b x e=>by
 rw [upd_ne (ne_of_none e h)]
 exact e
theorem same_upd {S H:Hp} {p:Addr} {o:HO} (e:Same S H) (h:S p=none):Same S (upd H p o) := fun b x q=>by
 rw [upd_ne (ne_of_none q h)]
 exact e b x q
theorem same_both {S H:Hp} {p:Addr} {o:HO} (e:Same S H):Same (upd S p o) (upd H p o) := fun b x q=>by
 by_cases hb:b=p
 ·subst hb; rw [upd_same] at q ⊢; exact q
 ·rw [upd_ne hb] at q ⊢; exact e b x q
structure Step (S T S' T':Hp):Prop where
 ss:Same S S'
 st:Same S' T'
 tt:Same T T'
 nw:∀ a,T a≠none→S a=none→S' a=none
section
variable {S T S' T' S0 T0 S1 T1 S2 T2 H H':Hp} {p:Addr} {o:HO}
theorem Step.refl (h:Same S T):Step S T S T := ⟨Same.refl _,h,Same.refl _,fun _ _ h=>h⟩
theorem Step.trans (a:Step S T S1 T1) (b:Step S1 T1 S2 T2):Step S T S2 T2 :=
 ⟨a.ss.trans b.ss,b.st,a.tt.trans b.tt,fun x hx hs=>b.nw x (fun z=>hx (a.tt.free z)) (a.nw x hx hs)⟩
theorem Step.new (h:Same S T) (n:T p=none):Step S T (upd S p o) (upd T p o) := by
 refine ⟨same_new (h.free n),same_both h,same_new n,fun a ha hs=>?_⟩
 have hne:a≠p := fun z=>ha (by rw [z]; exact n)
 rw [upd_ne hne]; exact hs
theorem Step.tmp (h:Same S T) (n:T p=none):Step S T S (upd T p o) :=
 ⟨Same.refl _,h.trans (same_new n),same_new n,fun _ _ h=>h⟩
theorem Step.freeze (s:Step S0 T0 S T) (n:T0 p=none) (h:T p=some o):Step S0 T0 (upd S p o) T := by
 refine ⟨fun b x q=>?_,fun b x q=>?_,s.tt,fun a ha hs=>?_⟩
 ·have q' := s.ss b x q
  by_cases hb:b=p
  ·subst hb
   have z := s.st b x q'
   rw [h] at z; rw [upd_same]; exact z
  ·rw [upd_ne hb]; exact q'
 ·by_cases hb:b=p
  ·subst hb; rw [upd_same] at q; rw [← q]; exact h
  ·rw [upd_ne hb] at q; exact s.st b x q
 ·have hne:a≠p := fun z=>ha (by rw [z]; exact n)
  rw [upd_ne hne]; exact s.nw a ha hs
theorem Step.set (s:Step S0 T0 S T) (n0:T0 p=none) (ns:S p=none):Step S0 T0 S (upd T p o) :=
 ⟨s.ss,same_upd s.st ns,same_upd s.tt n0,s.nw⟩
def join (A B:Hp):Hp := fun a=>match A a with | some o=>some o | none=>B a
theorem join_l {A B:Hp}:Same A (join A B) := fun b x q=>by unfold join; rw [q]
theorem Step.widen (s:Step S T S' T') (e:Same S S1) (h1:Same S1 T):Step S1 T (join S1 S') T'∧Same S' (join S1 S') := by
 refine ⟨⟨join_l,fun b x q=>?_,s.tt,fun a ha hs=>?_⟩,fun b x q=>?_⟩
 ·unfold join at q
  cases z:S1 b with
  | some y=>rw [z] at q; cases q; exact s.tt b _ (h1 b _ z)
  | none=>rw [z] at q; exact s.st b x q
 ·unfold join; rw [hs]; exact s.nw a ha (e.free hs)
 ·unfold join
  cases z:S1 b with
  | some y =>
   have h2 := s.tt b _ (h1 b _ z)
   rw [s.st b x q] at h2; exact h2.symm
  | none=>exact q
structure Wld where
 W:Hp→Hp→Prop
 sub:∀ {T H},W T H→Same T H
 new:∀ {T H a o},W T H→H a=none→W (upd T a o) (upd H a o)
 tmp:∀ {T H a o},W T H→H a=none→W T (upd H a o)
 set:∀ {T H a o o'},W T H→T a=some o→W (upd T a o') (upd H a o')
 lift:∀ {S S' T H H'},W T H→Same S T→Step S H S' H'→∃ T',Step S T S' T'∧W T' H'
def liftT (T H S':Hp):Hp := fun a=>match H a with | some _=>T a | none=>S' a
theorem liftT_step (h:Same T H) (e:Same S T) (s:Step S H S' H'):Step S T S' (liftT T H S')∧Same (liftT T H S') H' := by
 refine ⟨⟨s.ss,fun b x q=>?_,fun b x q=>?_,fun a ha hs=>s.nw a (fun z=>ha (h.free z)) hs⟩,fun b x q=>?_⟩
 ·unfold liftT
  cases z:H b with
  | none=>exact q
  | some y =>
   cases w:S b with
   | none=>rw [s.nw b (by rw [z]; simp) w] at q; cases q
   | some u=>rw [s.ss b u w] at q; cases q; exact e b _ w
 ·unfold liftT; rw [h b x q]; exact q
 ·unfold liftT at q
  cases z:H b with
  | none=>rw [z] at q; exact s.st b x q
  | some y=>rw [z] at q; exact s.tt b x (h b x q)
def W0:Wld where
 W := Same
 sub := fun h=>h
 new := fun h n=>same_both h
 tmp := fun h n=>h.trans (same_new n)
 set := fun h _=>same_both h
 lift := fun h e s=>⟨_,(liftT_step h e s).1,(liftT_step h e s).2⟩
end
mutual
inductive Dq (K:PySem.W.Frag) (H:Hp):V→PyData→Prop
 | non:Dq K H .non .none
 | bl (b:Bool):Dq K H (.bl b) (.bool b)
 | int (i:Int):Dq K H (.int i) (.int i)
 | str (x:Str):Dq K H (.str x) (.str x)
 | lst {a:Addr} {xs:List V} {ds:List PyData}:Rd H a (.lst xs)→DqAll K H xs ds→Dq K H (.ref a) (.list ds)
 | tup {a:Addr} {xs:List V} {ds:List PyData}:SqT K H a xs→DqAll K H xs ds→Dq K H (.ref a) (.tuple ds)
inductive DqAll (K:PySem.W.Frag) (H:Hp):List V→List PyData→Prop
 | nil:DqAll K H [] []
 | cons {v:V} {vs:List V} {d:PyData} {ds:List PyData}:Dq K H v d→DqAll K H vs ds→DqAll K H (v :: vs) (d :: ds)
end
theorem Same.rd {S S':Hp} {a:Addr} {u:HO} (e:Same S S') (h:Rd S a u):Rd S' a u := by
 rcases h with h | ⟨o,h⟩
 ·exact .inl (e _ _ h)
 ·exact .inr ⟨o,e _ _ h⟩
mutual
theorem Dq.dp {K:PySem.W.Frag} {S:Hp}:∀ {v:V} {d:PyData},Dq K S v d→Dp K S v d
 | _,_, .non=>.non
 | _,_, .bl b=>.bl b
 | _,_, .int i=>.int i
 | _,_, .str x=>.str x
 | _,_, .lst h r=>.lst (.inl h) (DqAll.dp r)
 | _,_, .tup h r=>.tup h (DqAll.dp r)
theorem DqAll.dp {K:PySem.W.Frag} {S:Hp}:∀ {vs:List V} {ds:List PyData},DqAll K S vs ds→DpAll K S vs ds
 | _,_, .nil=>.nil
 | _,_, .cons h r=>.cons (Dq.dp h) (DqAll.dp r)
end
section
variable {K:PySem.W.Frag} {S S':Hp} {v:V} {vs:List V}
mutual
theorem Dq.mono (e:Same S S'):∀ {v:V} {d:PyData},Dq K S v d→Dq K S' v d
 | _,_, .non=>.non
 | _,_, .bl b=>.bl b
 | _,_, .int i=>.int i
 | _,_, .str x=>.str x
 | _,_, .lst h r=>.lst (Same.rd e h) (DqAll.mono e r)
 | _,_, .tup h r=>.tup (by
  rcases h with (h | ⟨o,h⟩) | h
  ·exact .inl (.inl (e _ _ h))
  ·exact .inl (.inr ⟨o,e _ _ h⟩)
  ·exact .inr h) (DqAll.mono e r)
theorem DqAll.mono (e:Same S S'):∀ {vs:List V} {ds:List PyData},DqAll K S vs ds→DqAll K S' vs ds
 | _,_, .nil=>.nil
 | _,_, .cons h r=>.cons (Dq.mono e h) (DqAll.mono e r)
end
theorem Same.tup {a:Addr} {xs:List V} (e:Same S S') (h:SqT K S a xs):SqT K S' a xs := by
 rcases h with (h | ⟨o,h⟩) | h
 ·exact .inl (.inl (e _ _ h))
 ·exact .inl (.inr ⟨o,e _ _ h⟩)
 ·exact .inr h
theorem DqAll.len:∀ {vs:List V} {ds:List PyData},DqAll K S vs ds→vs.length=ds.length
 | _,_, .nil=>rfl
 | _,_, .cons _ r=>by rw [List.length_cons,List.length_cons,DqAll.len r]
theorem DqAll.at_:∀ {vs:List V} {ds:List PyData} {i:Nat} {d:PyData},DqAll K S vs ds→ds[i]? = some d→∃ v,vs[i]? = some v∧Dq K S v d
 | _,_,_,_, .nil,e=>by simp at e
 | _,_,0,_, .cons h _,e=>by simp at e; subst e; exact ⟨_,rfl,h⟩
 | _,_,i + 1,d, .cons _ r,e=>by
  obtain ⟨v,h1,h2⟩ := DqAll.at_ (i := i) (d := d) r (by simpa using e)
  exact ⟨v,by simpa using h1,h2⟩
theorem DqAll.of:∀ {vs:List V} {ds:List PyData} {i:Nat} {v:V},DqAll K S vs ds→vs[i]? = some v→∃ d,ds[i]? = some d∧Dq K S v d
 | _,_,_,_, .nil,e=>by simp at e
 | _,_,0,_, .cons h _,e=>by simp at e; subst e; exact ⟨_,rfl,h⟩
 | _,_,i + 1,v, .cons _ r,e=>by
  obtain ⟨d,h1,h2⟩ := DqAll.of (i := i) (v := v) r (by simpa using e)
  exact ⟨d,by simpa using h1,h2⟩
theorem DqAll.app:∀ {vs ws:List V} {ds es:List PyData},DqAll K S vs ds→DqAll K S ws es→DqAll K S (vs ++ ws) (ds ++ es)
 | _,_,_,_, .nil,h=>h
 | _,_,_,_, .cons h r,q=>.cons h (DqAll.app r q)
theorem DqAll.drop_:∀ {vs:List V} {ds:List PyData} (n:Nat),DqAll K S vs ds→DqAll K S (vs.drop n) (ds.drop n)
 | _,_,0,h=>h
 | _,_,_ + 1, .nil=>.nil
 | _,_,n + 1, .cons _ r=>DqAll.drop_ n r
theorem DqAll.take_:∀ {vs:List V} {ds:List PyData} (n:Nat),DqAll K S vs ds→DqAll K S (vs.take n) (ds.take n)
 | _,_,0,h=>.nil
 | _,_,_ + 1, .nil=>.nil
 | _,_,n + 1, .cons h r=>.cons h (DqAll.take_ n r)
end
section
variable {K:PySem.W.Frag} {S S':Hp} {v:V} {vs:List V} {α β:Type} [DecidableEq α] [Datum α] [DecidableEq β] [Datum β]
def Is (K:PySem.W.Frag) (x:α) (S:Hp) (v:V):Prop := Dq K S v (Datum.toD x)
def IsAll (K:PySem.W.Frag) (xs:List α) (S:Hp) (vs:List V):Prop := DqAll K S vs (xs.map Datum.toD)
theorem Is.mono {x:α} (h:Is K x S v) (e:Same S S'):Is K x S' v := Dq.mono e h
theorem IsAll.mono {xs:List α} (h:IsAll K xs S vs) (e:Same S S'):IsAll K xs S' vs := DqAll.mono e h
theorem is_int {i:Int}:Is K i S (.int i) := .int i
theorem is_bl {b:Bool}:Is K b S (.bl b) := .bl b
theorem is_str {x:Str}:Is K x S (.str x) := .str x
theorem Is.int {i:Int} (h:Is K i S v):v = .int i := by cases h; rfl
theorem Is.bl {b:Bool} (h:Is K b S v):v = .bl b := by cases h; rfl
theorem Is.str {x:Str} (h:Is K x S v):v = .str x := by cases h; rfl
theorem is_lst {a:Addr} {xs:List α} (h:Rd S a (.lst vs)) (r:IsAll K xs S vs):Is K xs S (.ref a) := .lst h r
theorem Is.lst {xs:List α} (h:Is K xs S v):∃ a vs,v = .ref a∧Rd S a (.lst vs)∧IsAll K xs S vs := by
 cases h with
 | lst h r=>exact ⟨_,_,rfl,h,r⟩
theorem Is.tup {t:Tup α} (h:Is K t S v):∃ a vs,v = .ref a∧SqT K S a vs∧IsAll K t.items S vs := by
 cases h with
 | tup h r=>exact ⟨_,_,rfl,h,r⟩
theorem IsAll.len {xs:List α} (h:IsAll K xs S vs):vs.length=xs.length := by rw [DqAll.len h,List.length_map]
theorem IsAll.at_ {xs:List α} {i:Nat} {x:α} (h:IsAll K xs S vs) (e:xs[i]? = some x):∃ v,vs[i]? = some v∧Is K x S v :=
 DqAll.at_ h (by rw [List.getElem?_map,e]; rfl)
theorem IsAll.of {xs:List α} {i:Nat} (h:IsAll K xs S vs) (e:vs[i]? = some v):∃ x,xs[i]? = some x∧Is K x S v := by
 obtain ⟨d,h1,h2⟩ := DqAll.of h e
 rw [List.getElem?_map] at h1
 cases z:xs[i]? with
 | none=>rw [z] at h1; cases h1
 | some x=>rw [z] at h1; cases h1; exact ⟨x,rfl,h2⟩
theorem IsAll.nil:IsAll K ([]:List α) S [] := DqAll.nil
theorem IsAll.cons {x:α} {xs:List α} (h:Is K x S v) (r:IsAll K xs S vs):IsAll K (x :: xs) S (v :: vs) := DqAll.cons h r
theorem IsAll.app {xs ys:List α} {ws:List V} (h:IsAll K xs S vs) (r:IsAll K ys S ws):IsAll K (xs ++ ys) S (vs ++ ws) := by
 unfold IsAll; rw [List.map_append]; exact DqAll.app h r
theorem IsAll.one {x:α} (h:Is K x S v):IsAll K [x] S [v] := DqAll.cons h DqAll.nil
theorem IsAll.drop_ {xs:List α} (n:Nat) (h:IsAll K xs S vs):IsAll K (xs.drop n) S (vs.drop n) := by
 unfold IsAll; rw [List.map_drop]; exact DqAll.drop_ n h
theorem IsAll.take_ {xs:List α} (n:Nat) (h:IsAll K xs S vs):IsAll K (xs.take n) S (vs.take n) := by
 unfold IsAll; rw [List.map_take]; exact DqAll.take_ n h
theorem isAll_ints:∀ {ns:List Int},IsAll K ns S (ns.map V.int)
 | []=>DqAll.nil
 | n :: r=>DqAll.cons (Dq.int n) isAll_ints
theorem IsAll.ints:∀ {ns:List Int} {vs:List V},IsAll K ns S vs→vs=ns.map V.int
 | [],_,h=>by cases h; rfl
 | n :: r,_,h=>by
  cases h with
  | cons h t=>rw [Is.int h,IsAll.ints t]; rfl
end
end Fm
namespace Fm
open PySem PySem.Spec PyProof.Rows L2
open PySem.W (Datum Tup)
section
variable {X:Cx}
def rEqP (K:PySem.W.Frag):R2 := fun x y H Q=>∃ d e,Dp K H x d∧Dp K H y e∧d.plain=true∧e.plain=true∧min d.depth e.depth≤60∧Q (.bl (PyData.eqv d e)) H
def rNeP (K:PySem.W.Frag):R2 := fun x y H Q=>∃ d e,Dp K H x d∧Dp K H y e∧d.plain=true∧e.plain=true∧min d.depth e.depth≤60∧Q (.bl (!PyData.eqv d e)) H
theorem op_eqP (hu:X.A.units + 64 < cLine):OpR X (compareOp .Eq) (rEqP X.K) := by
 intro pins s σ H x y v u Q I rx ry h
 obtain ⟨d,e,hd,he,sd,se,hm,q⟩ := h
 obtain ⟨as,r1⟩ := Dp.reads I d x v hd rx
 obtain ⟨bs,r2⟩ := Dp.reads I e y u he ry
 exact SeqAt.eq_plain r1 r2 sd se (by omega) ⟨.bl _,H,I,rfl,q⟩
theorem op_neP (hu:X.A.units + 64 < cLine):OpR X (compareOp .NotEq) (rNeP X.K) := by
 intro pins s σ H x y v u Q I rx ry h
 obtain ⟨d,e,hd,he,sd,se,hm,q⟩ := h
 obtain ⟨as,r1⟩ := Dp.reads I d x v hd rx
 obtain ⟨bs,r2⟩ := Dp.reads I e y u he ry
 exact SeqAt.ne_plain r1 r2 sd se (by omega) ⟨.bl _,H,I,rfl,q⟩
def rInP (K:PySem.W.Frag) (neg:Bool):R2 := fun x y H Q=>(∃ d ds,Dp K H x d∧(Dp K H y (.list ds)∨Dp K H y (.tuple ds))∧d.plain=true∧PyData.plainAll ds=true∧d.depth≤60∧Q (.bl (if neg then !ds.any (fun z=>PyData.eqv z d) else ds.any (fun z=>PyData.eqv z d))) H)
 ∨ ∃ (c:Nat) (z:Str),x = .str ⟨#[c]⟩∧y = .str z∧Q (.bl (if neg then !decide (c∈z.cps.toList) else decide (c∈z.cps.toList))) H
theorem op_inP (hu:X.A.units + 65 < cLine):OpR X (compareOp .In) (rInP X.K false) := by
 intro pins s σ H x y v u Q I rx ry h
 rcases h with ⟨d,ds,hd,he,sd,se,hm,q⟩ | ⟨c,z,hx,hy,q⟩
 ·obtain ⟨as,r1⟩ := Dp.reads I d x v hd rx
  have hr:X.A.units + 1 + min (PyData.depthAll ds) d.depth < cLine := by
   have := Nat.min_le_right (PyData.depthAll ds) d.depth
   omega
  rcases he with he | he
  ·obtain ⟨bs,r2⟩ := Dp.reads I (.list ds) y u he ry
   exact SeqAt.in_list_data r2 r1 se sd hr ⟨.bl _,H,I,rfl,q⟩
  ·obtain ⟨bs,r2⟩ := Dp.reads I (.tuple ds) y u he ry
   exact SeqAt.in_tuple_data r2 r1 se sd hr ⟨.bl _,H,I,rfl,q⟩
 ·exact op_in_sign pins s σ H x y v u Q I rx ry ⟨c,z,hx,hy,q⟩
theorem op_notInP (hu:X.A.units + 65 < cLine):OpR X (compareOp .NotIn) (rInP X.K true) := by
 intro pins s σ H x y v u Q I rx ry h
 rcases h with ⟨d,ds,hd,he,sd,se,hm,q⟩ | ⟨c,z,hx,hy,q⟩
 ·obtain ⟨as,r1⟩ := Dp.reads I d x v hd rx
  have hr:X.A.units + 1 + min (PyData.depthAll ds) d.depth < cLine := by
   have := Nat.min_le_right (PyData.depthAll ds) d.depth
   omega
  rcases he with he | he
  ·obtain ⟨bs,r2⟩ := Dp.reads I (.list ds) y u he ry
   exact SeqAt.notIn_list_data r2 r1 se sd hr ⟨.bl _,H,I,rfl,q⟩
  ·obtain ⟨bs,r2⟩ := Dp.reads I (.tuple ds) y u he ry
   exact SeqAt.notIn_tuple_data r2 r1 se sd hr ⟨.bl _,H,I,rfl,q⟩
 ·exact op_notIn_sign pins s σ H x y v u Q I rx ry ⟨c,z,hx,hy,q⟩
def rCatR:R2 := fun x y H Q=>∃ l b xs zs,x = .ref l∧y = .ref b∧Rd H l (.lst xs)∧Rd H b (.lst zs)∧xs.length + zs.length≤sizeLine∧∀ p,H p=none→Q (.ref p) (upd H p (.lst (xs ++ zs)))
theorem op_catR:OpR X (binaryOp .Add) rCatR := by
 intro pins s σ H x y v u Q I rx ry h
 obtain ⟨l,b,xs,zs,rfl,rfl,hH,hB,hz,q⟩ := h
 cases rx
 cases ry
 obtain ⟨z,its,n,r,e⟩ := hH.ok I.hok
 obtain ⟨z2,its2,n2,r2,e2⟩ := hB.ok I.hok
 have hl := r.length
 have hl2 := r2.length
 refine PySem.P.add_list e e2 ?_ (by rw [List.size_toArray,List.size_toArray]; omega)
 have ea:its.toArray ++ its2.toArray=(its ++ its2).toArray := by simp
 rw [ea]
 exact ⟨.ref _,_,I.lnew (t' := s.toks) (r.append r2) (by rw [List.length_append]; omega),rfl,q _ I.fresh⟩
def rAddA:R2 := fun x y H Q=>(∃ i j,x = .int i∧y = .int j∧Q (.int (i + j)) H)∨(∃ i j,x = .str i∧y = .str j∧i.length + j.length≤sizeLine∧Q (.str (i ++ j)) H)∨rCatR x y H Q
theorem OpR.or {f:Value→Value→Sem Value} {r r':R2} (h:OpR X f r) (h':OpR X f r'):OpR X f (fun x y H Q=>r x y H Q∨r' x y H Q) := by
 intro pins s σ H x y v u Q I rx ry q
 rcases q with q | q
 ·exact h pins s σ H x y v u Q I rx ry q
 ·exact h' pins s σ H x y v u Q I rx ry q
theorem op_addA:OpR X (binaryOp .Add) rAddA := OpR.or op_add (OpR.or op_add_str op_catR)
def iSeq (K:PySem.W.Frag) (tl:TE):TI := fun σ H R=>tl σ H fun x H1=>(∃ a,x = .ref a∧(∃ xs,SqL K H1 a xs)∧R (Itl K a) H1)∨(∃ a,x = .ref a∧(∃ xs,SqT K H1 a xs)∧R (Itt K a) H1)∨∃ z,x = .str z∧R (Its z) H1
theorem pi_seq {tg l:Expr} {tl:TE} (hl:PE X l tl):PI X tg l (iSeq X.K tl) := by
 refine ⟨fun pins s σ H R I h=>?_⟩
 refine thn (hl.run pins s σ H _ I h) fun v s1 ⟨x,H1,I1,r1,q1⟩=>?_
 rcases q1 with ⟨a,e,⟨xs,hq⟩,q⟩ | ⟨a,e,⟨xs,hq⟩,q⟩ | ⟨z,e,q⟩
 ·subst e
  cases r1
  obtain ⟨its,rv,p,hz⟩ := I1.list hq
  refine wpAny_pyIter_list p.isList ?_
  refine ⟨s1.heap.objs.size,[s1.heap.objs.size],_,_,H1,rfl,I1.kept (t' := s1.toks) fun b o e=>Heap.get?_push_of_some _ e,turn_list a _,⟨_,Heap.get?_push_size _ rfl,rfl,rfl⟩,fun b hb=>?_,q⟩
  have e:b=s1.heap.objs.size := by simpa using hb
  subst e
  exact I1.fpOk (Nat.le_refl _) (I1.hok.fresh (Nat.le_refl _))
 ·subst e
  cases r1
  obtain ⟨its,rv,p,hz⟩ := I1.tuple hq
  refine wpAny_pyIter_tuple (show s1.heap.IsTuple a its.toArray from p) ?_
  refine ⟨s1.heap.objs.size,[s1.heap.objs.size],_,_,H1,rfl,I1.kept (t' := s1.toks) fun b o e=>Heap.get?_push_of_some _ e,turn_tuple a _,⟨_,Heap.get?_push_size _ rfl,rfl,rfl⟩,fun b hb=>?_,q⟩
  have e:b=s1.heap.objs.size := by simpa using hb
  subst e
  exact I1.fpOk (Nat.le_refl _) (I1.hok.fresh (Nat.le_refl _))
 ·subst e
  obtain ⟨t,rfl⟩ := r1
  cases ha:z.cps.all (· < 128)
  ·exact wpAny_pyIter_wide ha (pi_one (tk := s1.toks) I1 _ (turn_str _ z t "str_iterator" (.inr rfl)) ⟨_,Heap.get?_push_size _ rfl,rfl,rfl⟩ q)
  ·exact wpAny_pyIter_ascii ha (pi_one (tk := s1.toks) I1 _ (turn_str _ z t "str_ascii_iterator" (.inl rfl)) ⟨_,Heap.get?_push_size _ rfl,rfl,rfl⟩ q)
def rSlA (K:PySem.W.Frag):V→Option Int→Option Int→Hp→VK→Prop := fun x lo hi H Q=>(∃ a xs,x = .ref a∧SqL K H a xs∧∀ p,H p=none→Q (.ref p) (upd H p (.lst (cutV xs lo hi))))∨∃ z,x = .str z∧z.length≤sizeLine∧Q (.str (cutS z lo hi)) H
theorem sl_any:SlR X (rSlA X.K) := by
 intro pins s σ H x v vl vu lo hi sl Q I rx hs pl pu h
 rcases h with h | h
 ·exact sl_list pins s σ H x v vl vu lo hi sl Q I rx hs pl pu h
 ·exact sl_str pins s σ H x v vl vu lo hi sl Q I rx hs pl pu h
def rGetL:V→V→Hp→VK→Prop := fun x y H Q=>∃ p xs i v,x = .ref p∧y = .int i∧0≤i∧H p=some (.lst xs)∧xs[i.toNat]? = some v∧Q v H
theorem get_list {X:Cx}:PGet X rGetL := by
 intro pins s σ H o i ov iv Q I ro ri h
 obtain ⟨p,xs,i,z,rfl,rfl,h0,hq,he,q⟩ := h
 cases ro
 obtain ⟨t,rfl⟩ := ri
 obtain ⟨its,r,pl,hz⟩ := I.list (SqL.of hq)
 obtain ⟨w,ew,rw'⟩ := r.get he
 have hl := r.length
 have hn := line63
 have hi:i.toNat < its.length := (List.getElem?_eq_some_iff.mp ew).1
 exact wpAny_getItem_list pl.isList h0 (by omega) (by simpa using ew) ⟨z,H,I,rw',q⟩
end
end Fm
namespace Fm
open PySem PySem.Spec PyProof.Rows L2
open PySem.W (Datum Tup T3 T4)
def Ev (M:Wld) (t:TE) (σ:L2.St) (S:Hp) (P:Hp→V→Prop):Prop :=
 ∀ T H,M.W T H→Same S T→∀ Q:VK,(∀ S' T' H' v,Step S T S' T'→M.W T' H'→P S' v→Q v H')→t σ H Q
def EvT (M:Wld) (t:TT) (σ:L2.St) (S:Hp) (b:Bool):Prop :=
 ∀ T H,M.W T H→Same S T→∀ Q:Bool→Hp→Prop,(∀ S' T' H',Step S T S' T'→M.W T' H'→Q b H')→t σ H Q
def EvA (M:Wld) (t:TA) (σ:L2.St) (S:Hp) (P:Hp→List V→Prop):Prop :=
 ∀ T H,M.W T H→Same S T→∀ Q:List V→Hp→Prop,(∀ S' T' H' vs,Step S T S' T'→M.W T' H'→P S' vs→Q vs H')→t σ H Q
def Rv (M:Wld) (r:Hp→VK→Prop) (S:Hp) (P:Hp→V→Prop):Prop :=
 ∀ T H,M.W T H→Same S T→∀ Q:VK,(∀ S' T' H' v,Step S T S' T'→M.W T' H'→P S' v→Q v H')→r H Q
def Mono (P:Hp→V→Prop):Prop := ∀ S S' v,Same S S'→P S v→P S' v
def MonoA (P:Hp→List V→Prop):Prop := ∀ S S' v,Same S S'→P S v→P S' v
section
variable {M:Wld} {K:PySem.W.Frag} {σ:L2.St} {S S1:Hp} {P P1 P2:Hp→V→Prop} {ta tb te tc:TE} {t u:TT} {v x y:V}
theorem Ev.mono (hP:Mono P) (h:Ev M te σ S P) (e:Same S S1):Ev M te σ S1 P := fun T H w s Q q =>
 h T H w (e.trans s) Q fun S' T' H' v st w' p=>by
  obtain ⟨a,b⟩ := st.widen e s
  exact q _ T' H' v a w' (hP _ _ _ b p)
theorem EvT.mono {b:Bool} (h:EvT M t σ S b) (e:Same S S1):EvT M t σ S1 b := fun T H w s Q q =>
 h T H w (e.trans s) Q fun S' T' H' st w'=>q _ T' H' (st.widen e s).1 w'
theorem EvA.mono {ta:TA} {P:Hp→List V→Prop} (hP:MonoA P) (h:EvA M ta σ S P) (e:Same S S1):EvA M ta σ S1 P := fun T H w s Q q =>
 h T H w (e.trans s) Q fun S' T' H' v st w' p=>by
  obtain ⟨a,b⟩ := st.widen e s
  exact q _ T' H' v a w' (hP _ _ _ b p)
theorem Ev.imp (h:Ev M te σ S P) (hp:∀ S' v,Same S S'→P S' v→P1 S' v):Ev M te σ S P1 := fun T H w s Q q =>
 h T H w s Q fun S' T' H' v st w' p=>q S' T' H' v st w' (hp S' v st.ss p)
theorem EvT.is {a b:Bool} (h:EvT M t σ S a) (e:a=b):EvT M t σ S b := e ▸ h
theorem ev_var {i:Nat} (h:σ[i]? = some (some v)) (p:P S v):Ev M (tVar i) σ S P := fun T H w s Q q=>⟨v,h,q S T H v (Step.refl s) w p⟩
theorem ev_c (p:P S v):Ev M (tC v) σ S P := fun T H w s Q q=>q S T H v (Step.refl s) w p
theorem rv_now {r:Hp→VK→Prop} (h:∀ H,Same S H→∀ Q:VK,Q v H→r H Q) (p:P S v):Rv M r S P := fun T H w s Q q =>
 h H (s.trans (M.sub w)) Q (q S T H v (Step.refl s) w p)
theorem ev_op {r:R2} (hP:Mono P1) (ha:Ev M ta σ S P1) (hb:∀ S1,Same S S1→Ev M tb σ S1 P2) (hr:∀ S2 x y,Same S S2→P1 S2 x→P2 S2 y→Rv M (r x y) S2 P):Ev M (tOp r ta tb) σ S P := fun T H w s Q q =>
 ha T H w s _ fun S1 T1 H1 x st1 w1 p1=>hb S1 st1.ss T1 H1 w1 st1.st _ fun S2 T2 H2 y st2 w2 p2 =>
  hr S2 x y (st1.ss.trans st2.ss) (hP _ _ _ st2.ss p1) p2 T2 H2 w2 st2.st Q fun S3 T3 H3 v st3 w3 p=>q S3 T3 H3 v ((st1.trans st2).trans st3) w3 p
theorem ev_test {b:Bool} (h:Ev M te σ S (Is K b)):EvT M (tTest te) σ S b := fun T H w s Q q=>h T H w s _ fun S' T' H' v st w' p=>⟨b,p.bl,q S' T' H' st w'⟩
theorem ev_and {a b:Bool} (h1:EvT M t σ S a) (h2:a=true→EvT M u σ S b):EvT M (tAnd t u) σ S (a && b) := fun T H w s Q q=>h1 T H w s _ fun S1 T1 H1 st w1=>by
 cases a with
 | true=>exact iteT ((h2 rfl).mono st.ss T1 H1 w1 st.st Q fun S2 T2 H2 st2 w2=>q S2 T2 H2 (st.trans st2) w2)
 | false=>exact iteF (q S1 T1 H1 st w1)
theorem is_mono {α:Type} [DecidableEq α] [Datum α] {a:α}:Mono (Is K a) := fun _ _ _ e h=>h.mono e
end
section
variable {M:Wld} {K:PySem.W.Frag} {σ:L2.St} {S S1:Hp} {P P1 P2 P3 P4:Hp→V→Prop} {PA:Hp→List V→Prop} {ta tb te tc td:TE} {tr:TA} {v x y:V}
theorem ev_nil (p:PA S []):EvA M tNil σ S PA := fun T H w s Q q=>q S T H [] (Step.refl s) w p
theorem ev_cons {PR:Hp→List V→Prop} (hP:Mono P1) (ha:Ev M ta σ S P1) (hr:∀ S1,Same S S1→EvA M tr σ S1 PR) (hq:∀ S2 x xs,Same S S2→P1 S2 x→PR S2 xs→PA S2 (x :: xs)):EvA M (tCons ta tr) σ S PA := fun T H w s Q q =>
 ha T H w s _ fun S1 T1 H1 x st1 w1 p1=>hr S1 st1.ss T1 H1 w1 st1.st _ fun S2 T2 H2 xs st2 w2 p2=>q S2 T2 H2 (x :: xs) (st1.trans st2) w2 (hq S2 x xs (st1.ss.trans st2.ss) (hP _ _ _ st2.ss p1) p2)
def All1 (P1:Hp→V→Prop):Hp→List V→Prop := fun S vs=>∃ a,vs=[a]∧P1 S a
theorem eva_1 (h1:Mono P1) (ha:Ev M ta σ S P1):EvA M (tCons ta tNil) σ S (All1 P1) := ev_cons (PR := fun _ vs=>vs=[]) h1 ha (fun S1 _=>ev_nil rfl) fun S2 x xs _ p e=>⟨x,by rw [e],p⟩
end
end Fm
namespace Fm
open PySem PySem.Spec PyProof.Rows L2
open PySem.W (Datum Tup T3 T4)
section
variable {X:Cx}
def rLenA (K:PySem.W.Frag):List V→Hp→VK→Prop := fun xs H Q=>∃ x n,xs=[x]∧LenV K x H n∧Q (.int n) H
theorem call_lenA:CallR X (.builtin "len") (rLenA X.K) := call_len
def rInt1:List V→Hp→VK→Prop := fun xs H Q=>(∃ i,xs=[.int i]∧Q (.int i) H)∨∃ k,xs=[.bl k]∧Q (.int (if k then 1 else 0)) H
theorem call_intA:CallR X (.type "int") rInt1 := call_int1
def rListOf (K:PySem.W.Frag):List V→Hp→VK→Prop := fun xs H Q=>∃ p ys,xs=[.ref p]∧(SqL K H p ys∨SqT K H p ys)∧∀ l,H l=none→Q (.ref l) (upd H l (.lst ys))
theorem call_listA:CallR X (.type "list") (rListOf X.K) := call_list_of
def rTupOf (K:PySem.W.Frag):List V→Hp→VK→Prop := fun xs H Q=>∃ p ys,xs=[.ref p]∧((SqL K H p ys∧∀ l,H l=none→Q (.ref l) (upd H l (.tup ys)))∨(SqT K H p ys∧Q (.ref p) H))
theorem call_tupA:CallR X (.type "tuple") (rTupOf X.K) := call_tuple_of
def rAllA (K:PySem.W.Frag):List V→Hp→VK→Prop := rAll K
def rJoinA (K:PySem.W.Frag):V→List V→Hp→VK→Prop := fun x xs H Q=>∃ a p,∃ ys:List Str,x = .str a∧xs=[.ref p]∧(SqL K H p (ys.map V.str)∨SqT K H p (ys.map V.str))∧(ys.map (·.length)).sum + ys.length * a.length≤16777216∧Q (.str (Txt.join a ys)) H
theorem pe_joinA {o e:Expr} {to te:TE} {apos pos:Pos} (ho:PE X o to) (he:PE X e te) (hs:starEach [e] X.env=[(false,eval e X.env)] := by rfl) (hbase:attributeBase o "join" X.env (eval o X.env)=eval o X.env := by rfl) (hline:(apos.endLine == pos.line)=true := by rfl) :
 PE X (.Call (.Attribute o "join" apos) [e] [] pos) (tM1 (rJoinA X.K) to te) := pe_join ho he hs hbase hline
def rLeA:R2 := rI0 fun i j=>.bl (decide (i≤j))
def rGtA:R2 := rI0 fun i j=>.bl (decide (j < i))
def rGeA:R2 := rI0 fun i j=>.bl (decide (j≤i))
theorem op_leA:OpR X (compareOp .LtE) rLeA := op_le
theorem op_gtA:OpR X (compareOp .Gt) rGtA := op_gt
theorem op_geA:OpR X (compareOp .GtE) rGeA := op_ge
def rSubI:R2 := rI0 fun i j=>.int (i - j)
theorem op_subI:OpR X (binaryOp .Sub) rSubI := op_sub
def rMulA:R2 := rI CMul fun i j=>.int (i * j)
theorem op_mulA:OpR X (binaryOp .Mult) rMulA := op_mul
def rDivA:R2 := rI CDivW fun i j=>.int (i / j)
theorem op_divA:OpR X (binaryOp .FloorDiv) rDivA := op_fdivW
def rIsNA:R2 := fun x y H Q=>y = .non∧Q (.bl (decide (x = .non))) H
theorem op_isNA:OpR X (compareOp .Is) rIsNA := op_isN
end
section
variable {M:Wld} {K:PySem.W.Frag} {σ:L2.St} {S:Hp} {P:Hp→V→Prop} {ta tb te tc td:TE} {v x y:V} {α β γ δ:Type} [DecidableEq α] [Datum α] [DecidableEq β] [Datum β] [DecidableEq γ] [Datum γ] [DecidableEq δ] [Datum δ]
theorem isb {b b':Bool} (e:b=b'):Is K b' S (.bl b) := by subst e; exact is_bl
theorem rv_eq {a b:α} (hd:Datum.depth α≤60) (hx:Is K a S x) (hy:Is K b S y):Rv M (rEqP K x y) S (Is K (decide (a=b))) :=
 rv_now (v := .bl (PyData.eqv (Datum.toD a) (Datum.toD b))) (fun H s Q q=>⟨_,_,(hx.mono s).dp,(hy.mono s).dp,Datum.plain a,Datum.plain b,Nat.le_trans (Nat.min_le_left _ _) (Nat.le_trans (Datum.depth_le a) hd),q⟩) (isb (Datum.eqv a b))
theorem rv_ne {a b:α} (hd:Datum.depth α≤60) (hx:Is K a S x) (hy:Is K b S y):Rv M (rNeP K x y) S (Is K (!decide (a=b))) :=
 rv_now (v := .bl (!PyData.eqv (Datum.toD a) (Datum.toD b))) (fun H s Q q=>⟨_,_,(hx.mono s).dp,(hy.mono s).dp,Datum.plain a,Datum.plain b,Nat.le_trans (Nat.min_le_left _ _) (Nat.le_trans (Datum.depth_le a) hd),q⟩) (isb (by rw [Datum.eqv a b]))
theorem ev_eq {a b:α} (ha:Ev M ta σ S (Is K a)) (hb:Ev M tb σ S (Is K b)) (hd:Datum.depth α≤60 := by decide):Ev M (tOp (rEqP K) ta tb) σ S (Is K (decide (a=b))) :=
 ev_op is_mono ha (fun S1 e=>hb.mono is_mono e) fun S2 x y _ hx hy=>rv_eq hd hx hy
theorem ev_ne {a b:α} (ha:Ev M ta σ S (Is K a)) (hb:Ev M tb σ S (Is K b)) (hd:Datum.depth α≤60 := by decide):Ev M (tOp (rNeP K) ta tb) σ S (Is K (!decide (a=b))) :=
 ev_op is_mono ha (fun S1 e=>hb.mono is_mono e) fun S2 x y _ hx hy=>rv_ne hd hx hy
theorem ev_I0 {g:Int→Int→V} {i j:Int} (ha:Ev M ta σ S (Is K i)) (hb:Ev M tb σ S (Is K j)) (p:∀ S',P S' (g i j)):Ev M (tOp (rI0 g) ta tb) σ S P :=
 ev_op is_mono ha (fun S1 e=>hb.mono is_mono e) fun S2 x y _ hx hy=>rv_now (fun H s Q q=>⟨i,j,hx.int,hy.int,q⟩) (p _)
theorem ev_I {C:Int→Int→Prop} {g:Int→Int→V} {i j:Int} (ha:Ev M ta σ S (Is K i)) (hb:Ev M tb σ S (Is K j)) (hc:C i j) (p:∀ S',P S' (g i j)):Ev M (tOp (rI C g) ta tb) σ S P :=
 ev_op is_mono ha (fun S1 e=>hb.mono is_mono e) fun S2 x y _ hx hy=>rv_now (fun H s Q q=>⟨i,j,hx.int,hy.int,hc,q⟩) (p _)
theorem ev_gt {i j:Int} (ha:Ev M ta σ S (Is K i)) (hb:Ev M tb σ S (Is K j)):Ev M (tOp rGtA ta tb) σ S (Is K (decide (j < i))) := ev_I0 ha hb fun _=>is_bl
theorem ev_ge {i j:Int} (ha:Ev M ta σ S (Is K i)) (hb:Ev M tb σ S (Is K j)):Ev M (tOp rGeA ta tb) σ S (Is K (decide (j≤i))) := ev_I0 ha hb fun _=>is_bl
theorem ev_add {i j:Int} (ha:Ev M ta σ S (Is K i)) (hb:Ev M tb σ S (Is K j)):Ev M (tOp rAddA ta tb) σ S (Is K (i + j)) :=
 ev_op is_mono ha (fun S1 e=>hb.mono is_mono e) fun S2 x y _ hx hy=>rv_now (fun H s Q q=>.inl ⟨i,j,hx.int,hy.int,q⟩) is_int
theorem ev_cb {r:List V→Hp→VK→Prop} {t:TA} {PA:Hp→List V→Prop} (ha:EvA M t σ S PA) (hr:∀ S2 vs,Same S S2→PA S2 vs→Rv M (r vs) S2 P):Ev M (tCB r t) σ S P := fun T H w s Q q =>
 ha T H w s _ fun S1 T1 H1 vs st1 w1 p1=>hr S1 vs st1.ss p1 T1 H1 w1 st1.st Q fun S3 T3 H3 v st3 w3 p=>q S3 T3 H3 v (st1.trans st3) w3 p
theorem ev_int {i:Int} (ha:Ev M ta σ S (Is K i)):Ev M (tCB rInt1 (tCons ta tNil)) σ S (Is K i) :=
 ev_cb (eva_1 is_mono ha) fun S2 vs _ ⟨a,e,h⟩=>by
  subst e
  rw [h.int]
  exact rv_now (fun H s Q q=>.inl ⟨i,rfl,q⟩) is_int
theorem ev_disp {t:TA} {PA:Hp→List V→Prop} (ha:EvA M t σ S PA) (hz:∀ S vs,PA S vs→vs.length≤sizeLine) (hp:∀ S2 vs p,PA S2 vs→S2 p=none→P (upd S2 p (.lst vs)) (.ref p)):Ev M (tLst t) σ S P := fun T H w s Q q =>
 ha T H w s _ fun S1 T1 H1 vs st1 w1 p1=>⟨hz _ _ p1,fun p np=>by
  have nt := (M.sub w1).free np
  exact q _ _ _ _ (st1.trans (Step.new st1.st nt)) (M.new w1 np) (hp S1 vs p p1 (st1.st.free nt))⟩
theorem small_size {n:Nat} (h:n≤1000):n≤sizeLine := Nat.le_trans h (by decide)
theorem ev_l0:Ev M (tLst tNil) σ S (Is K ([]:List α)) :=
 ev_disp (PA := fun _ vs=>vs=[]) (ev_nil rfl) (fun _ vs e=>by subst e; exact small_size (by simp)) fun S2 vs p e np=>by
  subst e
  exact is_lst (.inl upd_same) .nil
theorem ev_ix {xs:List α} {i:Nat} {a:α} {j:Int} (ha:Ev M ta σ S (Is K xs)) (hb:Ev M tb σ S (Is K j)) (hj:j=(i:Int)) (h:xs[i]? = some a):Ev M (tOp (rIx K) ta tb) σ S (Is K a) :=
 ev_op is_mono ha (fun S1 e=>hb.mono is_mono e) fun S2 x y _ hx hy=>by
  obtain ⟨p,vs,rfl,h1,h2⟩ := hx.lst
  obtain ⟨v,h3,h4⟩ := h2.at_ h
  exact rv_now (fun H s Q q=>.inl ⟨p,vs,j,v,rfl,hy.int, .inl (Same.rd s h1),by rw [hj]; exact atI_nat h3,q⟩) h4
theorem IsAll.cut {xs:List α} {vs:List V} {lo hi:Option Int} (h:IsAll K xs S vs):IsAll K ((xs.drop (HT.sIx xs.length 0 lo)).take (HT.sIx xs.length xs.length hi - HT.sIx xs.length 0 lo)) S (cutV vs lo hi) := by
 unfold cutV
 rw [h.len]
 exact (h.drop_ _).take_ _
def cutL (xs:List α) (lo hi:Option Int):List α := (xs.drop (HT.sIx xs.length 0 lo)).take (HT.sIx xs.length xs.length hi - HT.sIx xs.length 0 lo)
theorem cutL_to (xs:List α) (n:Nat):cutL xs none (some (n:Int))=xs.take n := by
 unfold cutL
 rw [HT.sIx_none,HT.sIx_nat]
 show ((xs.drop 0).take _)=_
 rw [List.drop_zero,Nat.sub_zero]
 by_cases h:n≤xs.length
 ·rw [Nat.min_eq_left h]
 ·rw [Nat.min_eq_right (by omega),List.take_of_length_le (Nat.le_refl _),List.take_of_length_le (by omega)]
theorem cutL_from (xs:List α) (n:Nat):cutL xs (some (n:Int)) none=xs.drop n := by
 unfold cutL
 rw [HT.sIx_none,HT.sIx_nat]
 by_cases h:n≤xs.length
 ·rw [Nat.min_eq_left h,List.take_of_length_le (by rw [List.length_drop]; exact Nat.le_refl _)]
 ·rw [Nat.min_eq_right (by omega),List.drop_of_length_le (Nat.le_refl _),List.drop_of_length_le (by omega)]; simp
def EvO (M:Wld) (t:TO) (σ:L2.St) (S:Hp) (o:Option Int):Prop := ∀ T H,M.W T H→Same S T→∀ Q:Option Int→Hp→Prop,(∀ S' T' H',Step S T S' T'→M.W T' H'→Q o H')→t σ H Q
theorem evo_none:EvO M tNoPart σ S none := fun T H w s Q q=>q S T H (Step.refl s) w
theorem evo_some {i:Int} (h:Ev M te σ S (Is K i)):EvO M (tPart te) σ S (some i) := fun T H w s Q q=>h T H w s _ fun S1 T1 H1 v st w1 p=>⟨i,p.int,q S1 T1 H1 st w1⟩
theorem EvO.mono {t:TO} {o:Option Int} {S1:Hp} (h:EvO M t σ S o) (e:Same S S1):EvO M t σ S1 o := fun T H w s Q q =>
 h T H w (e.trans s) Q fun S' T' H' st w'=>q _ T' H' (st.widen e s).1 w'
end
end Fm
namespace Fm
open PySem PySem.Spec PyProof.Rows L2
open PySem.W (Datum Tup T3 T4)
structure Walks (J:It) (S:Hp) (n:Nat) (I:Nat→V→Prop):Prop where
 go:∀ i H,Same S H→i < n→J.go i H
 yl:∀ i H x H',Same S H→i < n→J.yld i H x H'→H' = H∧I i x
 st:∀ i H,Same S H→n≤i→J.stop i H
section
variable {K:PySem.W.Frag} {S:Hp} {a:Addr} {vs:List V}
theorem walks_list (h:Rd S a (.lst vs)):Walks (Itl K a) S vs.length (fun i x=>vs[i]? = some x) where
 go := fun i H s hi=>⟨vs,vs[i], .inl (Same.rd s h),List.getElem?_eq_getElem hi⟩
 yl := fun i H x H' s hi y=>⟨y.1,y.2 vs (.inl (Same.rd s h))⟩
 st := fun i H s hi=>⟨vs, .inl (Same.rd s h),hi⟩
theorem Walks.imp {J:It} {n:Nat} {I I':Nat→V→Prop} (w:Walks J S n I) (h:∀ i x,i < n→I i x→I' i x):Walks J S n I' where
 go := w.go
 yl := fun i H x H' s hi y=>⟨(w.yl i H x H' s hi y).1,h i x hi (w.yl i H x H' s hi y).2⟩
 st := w.st
end
def EvI (M:Wld) (wi:TI) (σ:L2.St) (S:Hp) (n:Nat) (I:Hp→Nat→V→Prop):Prop :=
 ∀ T H,M.W T H→Same S T→∀ R:It→Hp→Prop,(∀ S' T' H' J,Step S T S' T'→M.W T' H'→Walks J S' n (I S')→R J H')→wi σ H R
section
variable {M:Wld} {K:PySem.W.Frag} {σ:L2.St} {S:Hp} {tl:TE} {α β γ δ:Type} [DecidableEq α] [Datum α] [DecidableEq β] [Datum β] [DecidableEq γ] [Datum γ] [DecidableEq δ] [Datum δ]
def Itm (K:PySem.W.Frag) (xs:List α):Hp→Nat→V→Prop := fun S i v=>∃ x,xs[i]? = some x∧Is K x S v
theorem evi_list {xs:List α} (h:Ev M tl σ S (Is K xs)):EvI M (iSeq K tl) σ S xs.length (Itm K xs) := fun T H w s R q=>h T H w s _ fun S1 T1 H1 v st w1 p=>by
 obtain ⟨a,vs,rfl,h1,h2⟩ := p.lst
 have e:xs.length=vs.length := h2.len.symm
 refine .inl ⟨a,rfl,⟨vs, .inl (Same.rd (st.st.trans (M.sub w1)) h1)⟩,q S1 T1 H1 _ st w1 ?_⟩
 rw [e]
 exact (walks_list h1).imp fun i x _ hx=>h2.of hx
def MonoI (I:Hp→Nat→V→Prop):Prop := ∀ S S' i v,Same S S'→I S i v→I S' i v
theorem itm_mono {xs:List α}:MonoI (Itm K xs) := fun S S' i v e ⟨x,h1,h2⟩=>⟨x,h1,h2.mono e⟩
theorem Paired.snoc {α β:Type} {F:α→β→Prop}:∀ {l:List α} {r:List β} {a:α} {b:β},Paired F l r→F a b→Paired F (l ++ [a]) (r ++ [b])
 | _,_,_,_, .nil,h=>.cons h .nil
 | _,_,_,_, .cons x t,h=>.cons x (Paired.snoc t h)
def LstOf {ι:Type} (E:ι→Hp→V→Prop) (xs:List ι):Hp→V→Prop := fun S v=>∃ a ws,v = .ref a∧Rd S a (.lst ws)∧Paired (fun i w=>E i S w) xs ws
theorem LstOf.mono {ι:Type} {E:ι→Hp→V→Prop} {xs:List ι} (hE:∀ i,Mono (E i)):Mono (LstOf E xs) := fun S S' v e ⟨a,ws,h1,h2,h3⟩=>⟨a,ws,h1,Same.rd e h2,Paired.mapP h3 fun i w h=>hE i _ _ _ e h⟩
theorem paired_is {xs:List α}:∀ {ι:Type} {is:List ι} {f:ι→α} {ws:List V} {S:Hp},Paired (fun i w=>Is K (f i) S w) is ws→IsAll K (is.map f) S ws
 | _,_,_,_,_, .nil=>DqAll.nil
 | _,_,_,_,_, .cons h t=>DqAll.cons h (paired_is (xs := xs) t)
theorem ev_lcN {wi:TI} {g:TG} {tt:TT} {te:TE} {vs:List Nat} {n:Nat} {I:Hp→Nat→V→Prop} {p:Nat→Bool} {E:Nat→Hp→V→Prop} (hi:EvI M wi σ S n I) (hI:MonoI I) (hE:∀ i,Mono (E i)) (hz:n≤sizeLine)
  (hb:∀ i S1 v,i < n→Same S S1→I S1 i v→∃ σ',(∀ H,Same S1 H→∀ Q:L2.St→Hp→Prop,Q σ' H→g v (wipe σ vs) H Q)∧wipe σ' vs=wipe σ vs∧EvT M tt σ' S1 (p i)∧(p i=true→Ev M te σ' S1 (E i))) :
  Ev M (tLc wi g tt te vs) σ S (fun S' v=>∃ a ws,v = .ref a∧S a=none∧S' a=some (.lst ws)∧Paired (fun i w=>E i S' w) ((List.range n).filter p) ws) := fun T H w s Q q=>hi T H w s _ fun S1 T1 H1 J st1 w1 wk D nD=>by
 have nT:T1 D=none := (M.sub w1).free nD
 have nS:S1 D=none := st1.st.free nT
 refine ⟨fun i m H=>m=n - i∧i≤n∧∃ S2 T2 ws,Step S1 T1 S2 T2∧M.W T2 H∧T2 D=some (.lst ws)∧S2 D=none∧Paired (fun i w=>E i S2 w) ((List.range i).filter p) ws,⟨n,by omega,by omega,S1,_,[],Step.tmp st1.st nT,M.new w1 nD,upd_same,nS,by simpa using Paired.nil⟩, ?_⟩
 rintro i m H2 ⟨rfl,hin,S2,T2,ws,st2,w2,hD,hS,hp⟩
 have sH:Same S1 H2 := (st2.ss.trans st2.st).trans (M.sub w2)
 by_cases hlt:i < n
 ·refine .inr ⟨wk.go i H2 sH hlt,fun H'=>∃ S2 T2 ws,Step S1 T1 S2 T2∧M.W T2 H'∧T2 D=some (.lst ws)∧S2 D=none∧Paired (fun i w=>E i S2 w) ((List.range (i + 1)).filter p) ws,fun H' h=>⟨n - (i + 1),by omega,rfl,hlt,h⟩,fun x H' y=>?_⟩
  obtain ⟨e,hx⟩ := wk.yl i H2 x H' sH hlt y
  subst e
  obtain ⟨σ',hg,hw,ht,he⟩ := hb i S2 x hlt (st1.ss.trans st2.ss) (hI _ _ _ _ st2.ss hx)
  refine hg _ (st2.st.trans (M.sub w2)) _ ⟨hw,ht T2 _ w2 st2.st _ fun S3 T3 H3 st3 w3=>?_⟩
  have er:List.range (i + 1)=List.range i ++ [i] := List.range_succ
  cases hpi:p i with
  | false =>
   refine iteF ⟨S3,T3,ws,st2.trans st3,w3,st3.tt _ _ hD,st3.nw D (by rw [hD]; simp) hS, ?_⟩
   rw [er,List.filter_append]
   have:List.filter p [i]=[] := by simp [hpi]
   rw [this,List.append_nil]
   exact Paired.mapP hp fun i w h=>hE i _ _ _ st3.ss h
  | true =>
   refine iteT (((he hpi).mono (hE i) st3.ss) T3 H3 w3 st3.st _ fun S4 T4 H4 y st4 w4 pe=>?_)
   have h34 := st3.trans st4
   have hD4:T4 D=some (.lst ws) := h34.tt _ _ hD
   have hS4:S4 D=none := h34.nw D (by rw [hD]; simp) hS
   have hl:ws.length≤i := by
    rw [← Paired.length hp]
    exact Nat.le_trans (List.length_filter_le _ _) (by simp)
   refine ⟨ws,(M.sub w4) _ _ hD4,by omega,S4,_,ws ++ [y],(st2.trans h34).set nT hS4,M.set w4 hD4,upd_same,hS4, ?_⟩
   rw [er,List.filter_append]
   have:List.filter p [i]=[i] := by simp [hpi]
   rw [this]
   exact Paired.snoc (Paired.mapP hp fun i w h=>hE i _ _ _ h34.ss h) pe
 ·have e:i=n := by omega
  subst e
  refine .inl ⟨wk.st i H2 sH (Nat.le_refl _),q _ T2 H2 (.ref D) (st1.trans (st2.freeze nT hD)) w2 ⟨D,ws,rfl,st1.ss.free nS,upd_same,Paired.mapP hp fun i w h=>hE i _ _ _ (same_new hS) h⟩⟩
theorem wipe1 {i:Nat} {v:V}:wipe ((wipe σ [i]).set i (some v)) [i]=wipe σ [i] := by
 show (((σ.set i none).set i (some v)).set i none)=σ.set i none
 rw [List.set_set,List.set_set]
end
section
variable {M:Wld} {σ:L2.St} {S T H:Hp}
theorem for_ev {wi:TI} {g:TG} {tb:TS} {D:Ends} {n:Nat} {I:Hp→Nat→V→Prop} (hi:EvI M wi σ S n I) (hI:MonoI I) (w:M.W T H) (s:Same S T) (J:Nat→L2.St→Hp→Hp→Prop)
  (h0:∀ S1 T1,Step S T S1 T1→J 0 σ S1 T1)
  (hs:∀ i v σ2 S2 T2 H2,i < n→Step S T S2 T2→M.W T2 H2→J i σ2 S2 T2→I S2 i v →
   g v σ2 H2 fun σ3 H3=>tb { D with nx := fun σ' H'=>∃ S' T',Step S T S' T'∧M.W T' H'∧Same S2 S'∧J (i + 1) σ' S' T',ct := fun σ' H'=>∃ S' T',Step S T S' T'∧M.W T' H'∧Same S2 S'∧J (i + 1) σ' S' T',bk := D.nx } σ3 H3)
  (hd:∀ σ2 S2 T2 H2,Step S T S2 T2→M.W T2 H2→J n σ2 S2 T2→D.nx σ2 H2):tFor wi g tb D σ H := hi T H w s _ fun S1 T1 H1 J1 st1 w1 wk=>by
 refine ⟨fun i m σ H=>m=n - i∧i≤n∧∃ S2 T2,Step S T S2 T2∧Same S1 S2∧M.W T2 H∧J i σ S2 T2,⟨n,by omega,by omega,S1,T1,st1,Same.refl _,w1,h0 S1 T1 st1⟩, ?_⟩
 rintro i m σ2 H2 ⟨rfl,hin,S2,T2,st2,e2,w2,hJ⟩
 have sH:Same S1 H2 := (e2.trans st2.st).trans (M.sub w2)
 by_cases hlt:i < n
 ·refine .inr ⟨wk.go i H2 sH hlt,fun σ' H'=>∃ S' T',Step S T S' T'∧M.W T' H'∧Same S2 S'∧J (i + 1) σ' S' T',fun σ' H' ⟨S',T',a,b,c,d⟩=>⟨n - (i + 1),by omega,rfl,hlt,S',T',a,e2.trans c,b,d⟩,fun x H' y=>?_⟩
  obtain ⟨e,hx⟩ := wk.yl i H2 x H' sH hlt y
  subst e
  exact hs i x σ2 S2 T2 _ hlt st2 w2 hJ (hI _ _ _ _ e2 hx)
 ·have e:i=n := by omega
  subst e
  exact .inl ⟨wk.st i H2 sH (Nat.le_refl _),hd σ2 S2 T2 H2 st2 w2 hJ⟩
end
end Fm
namespace Fm
open PySem PySem.Spec PyProof.Rows L2
open PySem.W (Datum Tup T3 T4)
section
variable {P:Program} {w:World} {K:PySem.W.Frag} {mg:Str→Option Value} {base:Heap} {CX:CXT} {k:Nat} {f:Addr} {sp:Sp}
theorem fnR_of {fd:FuncData} {ps:List Str} (F:FnOk P w K mg base CX k f fd ps sp) (hb:Binds K fd ps []):FnR P w K mg base CX k f sp :=
 (F.raw hb .nil).imp fun vs H Q E h=>by rw [List.append_nil]; exact h
end
section
variable {X:Cx} {CX:CXT} {k:Nat} {C f:Addr} {sp:Sp} {E:XK} {x m:Str} {e o:Expr} {es:List Expr} {te ta:TE} {t:TA} {p pos apos:Pos}
theorem inst_at {pins:List (Addr × Obj)} {σ:L2.St} {H:Hp} {s:Shared} {a dx:Addr} {fs:List (Str × V)} (I:Inv X pins σ H s) (h:H a=some (.ins C dx fs)):∃ ox od,PySem.W.InstAt s.heap a ox C od := by
 obtain ⟨mA,O,_⟩ := ins_get I.hok h
 obtain ⟨od,J,_⟩ := O.look
 exact ⟨_,_,J⟩
structure Own (K:PySem.W.Frag) (C:Addr) (m:Str) (f:Addr):Prop where
 at_:PySem.W.findIn K (.ref C) m=some (some (.ref f))
 fn:PySem.W.isFn K (.ref f)=true
theorem rel_not {v:V} {u:Value} (r:RelV v u):u≠.notImplemented := by
 cases v <;> first | (obtain ⟨t,e⟩ := r; rw [e]; intro z; cases z) | (intro z; rw [z] at r; cases r)
theorem cmpBack {Q:Value→Shared→Prop} {u:Value} {s:Shared} (h:u≠.notImplemented) (q:Q u s):PySem.W.CmpBack Q u s := by
 unfold PySem.W.CmpBack
 cases u <;> first | exact absurd rfl h | exact q
theorem vals2 {x y:V} {u v:Value} (r:RelV x u) (r':RelV y v):Vals [x,y] [u,v] := .cons r (.cons r' .nil)
end
section
variable {X:Cx} {CX:CXT} {k:Nat} {C f:Addr} {sp:Sp} {E:XK} {x m:Str} {e o:Expr} {es:List Expr} {te ta:TE} {t:TA} {p pos apos:Pos}
def TyE (K:PySem.W.Frag) (H:Hp) (y:V) (t:Value):Prop := TyX K H y t∨∃ b D dy gs,y = .ref b∧H b=some (.ins D dy gs)∧t = .ref D
theorem ty_looks {pins:List (Addr × Obj)} {σ:L2.St} {H:Hp} {s:Shared} {y:V} {u t:Value} (I:Inv X pins σ H s) (ry:RelV y u) (h:TyE X.K H y t):PySem.W.Looks (model X.prog X.w) s.heap (typeOf u) t := by
 rcases h with h | ⟨b,D,dy,gs,rfl,hb,rfl⟩
 ·obtain ⟨P,kx,hP,_⟩ := kit_of I ry h
  exact kx.ty _ _ I.kIn hP
 ·obtain rfl:u=Value.ref b := ry
  obtain ⟨ox,od,J⟩ := inst_at I hb
  exact J.type
def rOwnEq (K:PySem.W.Frag) (C:Addr) (sp:Sp) (E:XK):R2 := fun x y H Q=>∃ a dx fs t,x = .ref a∧H a=some (.ins C dx fs)∧TyE K H y t∧PySem.W.notFirst K C t=true∧sp [x,y] H Q E
theorem op_eqO (hs:Own X.K C "__eq__" f) (F:FnR X.prog X.w X.K X.mg X.base CX k f sp) (hr:Room k X.A) (hx:Passes CX X E):OpR X (compareOp .Eq) (rOwnEq X.K C sp E) := by
 intro pins s σ H x y v u Q I rx ry h
 obtain ⟨a,dx,fs,t,rfl,ha,hy,hn,q⟩ := h
 obtain rfl:v=Value.ref a := rx
 obtain ⟨ox,od,J⟩ := inst_at I ha
 obtain ⟨m,Fr⟩ := I.fr
 refine PySem.W.cmp_K (op := .Eq) hr.units0 Fr I.mod.kin J (ty_looks I ry hy) hn hs.at_ hs.fn ?_
 refine thn (wpAny_call (run_fnR F hr hx I (vals2 (x := V.ref a) rfl ry) q)) fun r s1 hq=>?_
 obtain ⟨z,H',I',rz,qz⟩ := hq
 exact cmpBack (rel_not rz) ⟨z,H',I',rz,qz⟩
theorem sw_trueD {kx vx:Expr} {gs:List Comprehension} {scope:Scope} {pos py:Pos} {y:Str} {l:Nat} {env:Env} (hk:env.scope.kind = .function) (hy:env.scope.names.lookup y=some .local) (hl:(py.line == pos.line)=true)
  (ha:(scope.names.any fun (n,k)=>n == y && (k == .local || k == .cell))=false):swapsWith (.DictComp kx vx gs scope pos) (some (.Name y py)) l env=pure true := by
 have ky:env.kindOf y=some .local := hy
 have hb:env.blockKind = .function := by unfold Env.blockKind; rw [hk]; rfl
 unfold swapsWith
 simp only [hb,ky,ha,Expr.pos,hl]
 rfl
end
end Fm
namespace Fm
open PySem PySem.Spec PyProof.Rows L2
open PySem.W (Datum Tup T3 T4)
theorem units65 {k:Nat} {A:Around} (hr:Room k A):A.units + 65 < cLine := by have := hr.un; omega
section
variable {X:Cx}
theorem call_allA (hc:X.calm=true):CallR X (.builtin "all") (rAllA X.K) := cr_all hc
def rModA:R2 := rI (fun _ j=>0 < j) fun i j=>.int (i % j)
theorem op_modA:OpR X (binaryOp .Mod) rModA := op_mod
def rPowA:R2 := rI CPow fun i j=>.int (i ^ j.toNat)
theorem op_powA:OpR X (binaryOp .Pow) rPowA := op_pow
def rNegA:V→Hp→VK→Prop := rU fun i=>.int (-i)
theorem un_negA:UnR X (unaryOp .USub) rNegA := un_neg
theorem pe_const_str {x z:Str} {pos:Pos} (h:∃ t,X.mg x=some (.str z t)) (hg:Gl X x) (hd:(x == ("__debug__":Str))=false := by decide):PE X (.Name x pos) (tC (.str z)) := by
 obtain ⟨t,e⟩ := h
 exact pe_glob hg e ⟨t,rfl⟩ hd
theorem ps_setDc {i:Nat} {y:Str} {py:Pos} {kx vx tg iter:Expr} {ifs:List Expr} {scope:Scope} {own:List (Str × Nat)} {pos spos:Pos} {wi:TI} {g:TG} {tt:TT} {tk tv:TE} (hc:X.calm=true) (hN:X.N.Nodup) (hy:X.N[i]? = some y) (hyl:X.env.scope.names.lookup y=some .local)
  (hsw:swapsWith (.DictComp kx vx [⟨tg,iter,ifs,0⟩] scope pos) (some (.Name y py)) spos.line X.env=pure true) (hi:PI X tg iter wi) (ok:BlkOk X.N X.env.scope scope own)
  (hg:∀ (s:Shared) (H:Hp) (C:Addr) (cl:List (Str × Addr)) (fp:List Addr),PG (X.blk s H scope (compEnvC scope cl C X.env) fp) tg g) (ht:∀ (s:Shared) (H:Hp) (C:Addr) (cl:List (Str × Addr)) (fp:List Addr),PTs (X.blk s H scope (compEnvC scope cl C X.env) fp) ifs tt)
  (hk:∀ (s:Shared) (H:Hp) (C:Addr) (cl:List (Str × Addr)) (fp:List Addr),PE (X.blk s H scope (compEnvC scope cl C X.env) fp) kx tk)
  (he:∀ (s:Shared) (H:Hp) (C:Addr) (cl:List (Str × Addr)) (fp:List Addr),PE (X.blk s H scope (compEnvC scope cl C X.env) fp) vx tv) (hs:∀ x,foldedSetIterable iter X.env x=pure x := by intro _; rfl) :
  PS X (.Assign [.Name y py] (.DictComp kx vx [⟨tg,iter,ifs,0⟩] scope pos) spos) (tAsg (tDc wi g tt tk tv (own.map (·.2))) (gName i)) := by
 refine ⟨fun pins s σ H D I h=>?_⟩
 rw [exec_Assign_Name_used _ _ _ _ hsw]
 refine wpAny_bind (wpAny_standAt (wpAny_bind ?_))
 show wpAny _ X.A (do let _ ← comprehension (.DictComp kx vx [⟨tg,iter,ifs,0⟩] scope pos) scope X.env (firstIterPos [⟨tg,iter,ifs,0⟩] pos) newDict false (eval iter X.env) (some (assign (.Name y py) X.env))) _ _ s
 have h:tDc wi g tt tk tv (own.map (·.2)) σ H (fun x H1=>gName i x σ H1 D.nx) := h
 refine wpAny_bind (thn (dc_core (Qf := fun _ s'=>SP X pins D .next s') hc hN I hi ok hg ht hk he hs h fun L C s' m H' I' q hn f=>?_) fun _ s' hq=>wpAny_pure (wpAny_pure hq))
 show wpAny _ _ (assign (.Name y py) X.env (.ref L)) _ _ _
 refine wpAny_assign_Name (store_ok2 (v := V.ref L) I' hN hy (.inl hyl) rfl (fun s2 I2 ⟨a,sb,ha⟩=>?_) (.inr hyl))
 obtain ⟨f0,f1,f2,f3,f4,f5⟩ := f
 have haC:C≠a := by
  rcases ha with z | z
  ·rw [z]; exact f1
  ·exact fun e=>f4 y a z e.symm
 refine ⟨m,hn.sameBut sb haC,fun h3 sb3=>?_⟩
 exact ⟨_,H',I2.turned (t' := s2.toks) (fun b o hb e=>(sb3.2 b hb).trans e) f0 f1 f3 f4 f5,q⟩
end
def obsB (fa:List (PySem.W.Frag→Bool)) (fn:List He5.DefA) (K:PySem.W.Frag):He.AlD := ((fa.all fun f=>f K) && fn.all fun d=>d.ok K,fn.map fun d=>He5.fnA K (d.at_ K))
section
variable {fa:List (PySem.W.Frag→Bool)} {fn:List He5.DefA} {K:PySem.W.Frag}
theorem factB (c:obsB fa fn K=He5.valA fn) (i:Nat) {f:PySem.W.Frag→Bool} (h:fa[i]? = some f := by rfl):f K=true := by
 have c1 := (He.ba (show ((fa.all fun f=>f K) && fn.all fun d=>d.ok K)=true from congrArg (fun z:He.AlD=>z.1) c)).1
 exact List.all_eq_true.mp c1 f (List.mem_of_getElem? h)
theorem defB (c:obsB fa fn K=He5.valA fn) (i:Nat) {d:He5.DefA} (h:fn[i]? = some d := by rfl):∃ fd,L2.FunD K d.name d.qual d.params d.body d.scope (d.dvs K) (d.kws K) (d.at_ K) fd := by
 have c2 := (He.ba (show ((fa.all fun f=>f K) && fn.all fun d=>d.ok K)=true from congrArg (fun z:He.AlD=>z.1) c)).2
 have e:fn.map (fun d=>He5.fnA K (d.at_ K))=fn.map He5.DefA.val := congrArg (fun z:He.AlD=>z.2) c
 have e2:(fn.map fun d=>He5.fnA K (d.at_ K))[i]? = (fn.map He5.DefA.val)[i]? := by rw [e]
 rw [List.getElem?_map,List.getElem?_map,h] at e2
 exact He5.DefA.funD (Option.some.inj e2) (List.all_eq_true.mp c2 d (List.mem_of_getElem? h))
end
section
variable {fa:List (PySem.W.Frag→Bool)} {fn:List He5.DefA} {K:PySem.W.Frag} {x qual:Str} {st:Stmt}
theorem defF (at_:PySem.W.Frag→Addr) (c:obsB fa fn K=He5.valA fn) (i:Nat) (h:fn[i]? = some ⟨at_,x,qual,defArgs st,defBody st,defScope st,[],[]⟩ := by rfl):∃ fd,Fun K x qual st (at_ K) fd := by
 obtain ⟨fd,F⟩ := defB c i h
 exact ⟨fd,He5.fun_of F⟩
theorem defK (at_:PySem.W.Frag→Addr) (st:Stmt) (x qual:Str) (c:obsB fa fn K=He5.valA fn) (i:Nat) (h:fn[i]? = some ⟨at_,x,qual,defArgs st,defBody st,defScope st,[],[]⟩ := by rfl):PySem.W.keepIn K (.ref (at_ K))=true := by
 obtain ⟨fd,F⟩ := defB c i h
 exact F.kp
end
structure ClsX (K:PySem.W.Frag) (C:Addr):Prop where
 ha:PySem.W.findIn K (.ref C) "__class__" = some (some (.builtin "object.__class__"))
 hn:PySem.W.specialIn K (.builtin "object.__class__") "__get__" = some (some (.builtin "getset_descriptor.__get__"))
 ht:PySem.W.takesIn K (.builtin "object.__class__")=some true
 hm:PySem.W.mroIn K C (.type "object")=some true
def clsXB (K:PySem.W.Frag) (C:Addr):Bool := He.eqO (PySem.W.findIn K (.ref C) "__class__") (some (some (.builtin "object.__class__"))) && (He.eqO (PySem.W.specialIn K (.builtin "object.__class__") "__get__") (some (some (.builtin "getset_descriptor.__get__"))) && (decide (PySem.W.takesIn K (.builtin "object.__class__")=some true) && decide (PySem.W.mroIn K C (.type "object")=some true)))
theorem clsXB_ok {K:PySem.W.Frag} {C:Addr} (h:clsXB K C=true):ClsX K C := by
 obtain ⟨h1,h⟩ := He.ba h
 obtain ⟨h2,h⟩ := He.ba h
 obtain ⟨h3,h4⟩ := He.ba h
 exact ⟨He.eqO_ok h1,He.eqO_ok h2,of_decide_eq_true h3,of_decide_eq_true h4⟩
theorem own_of {K:PySem.W.Frag} {C f:Addr} {m:Str} (h:Meth K C m f):Own K C m f := ⟨h.at_,h.fn⟩
section
variable {P:Program} {w:World} {K:PySem.W.Frag} {mg:Str→Option Value} {base:Heap} {k:Nat} {f:Addr} {sp:Sp} {x qual:Str} {st:Stmt} {N ps:List Str}
theorem fnR_def (F:∃ fd,Fun K x qual st f fd) (S:FnScope N ps (defScope st)) (len:∀ vs H Q E,sp vs H Q E→vs.length=ps.length)
  (hb:∀ (kV doc pm:Value) (an:Option Addr) (cdv ct:Value) (us:List Value),us.length=ps.length→bindArgs (PySem.W.fnOf x qual (defArgs st) (defBody st) (defScope st) .none kV doc pm an cdv ct) ⟨us,[]⟩=pure (ps.zip us))
  (t:TS) (hw:∀ (cdv:Value) (A:Around) (outer:List Env) (s:Shared) (H:Hp) (E:XK),Room k (A.deeper (envOfC qual (defScope st) s.heap.objs.size f cdv))→PSs (cxOf CX0 P w K mg base N qual (defScope st) f cdv A outer s H E).nox (defBody st) t)
  (hq:∀ H vs Q E,sp vs H Q E→t { nx := fun _ H'=>Q .non H',rt := Q } (start N vs) H):FnR P w K mg base CX0 (k + 1) f sp := by
 obtain ⟨fd,F⟩ := F
 exact fnR_of (F.ok S len fun cdv A outer s H vs Q E hr h=>⟨t,hw cdv A outer s H E hr,hq H vs Q E h⟩) (F.binds hb)
end
end Fm
namespace Fm
open PySem PySem.Spec PyProof.Rows L2
open PySem.W (Datum Tup T3 T4)
def PoolAt (H:Hp) (p g:Addr):Prop := ∃ (gs:List Int) (c sd n:Int),H p=some (.lst [.ref g, .int c, .int sd, .int n])∧H g=some (.lst (gs.map V.int))∧0≤sd∧sd < 2147483648
theorem PoolAt.ne {H:Hp} {p g:Addr} (h:PoolAt H p g):p≠g := by
 obtain ⟨gs,c,sd,n,h1,h2,_⟩ := h
 intro e
 rw [e,h2] at h1
 cases gs with
 | nil=>cases h1
 | cons a r=>cases h1
theorem PoolAt.keep {H H':Hp} {p g:Addr} (h:PoolAt H p g) (e1:H' p=H p) (e2:H' g=H g):PoolAt H' p g := by
 obtain ⟨gs,c,sd,n,h1,h2,h3⟩ := h
 exact ⟨gs,c,sd,n,e1.trans h1,e2.trans h2,h3⟩
theorem PoolAt.some {H:Hp} {p g:Addr} (h:PoolAt H p g):H p≠none∧H g≠none := by
 obtain ⟨gs,c,sd,n,h1,h2,h3⟩ := h
 rw [h1,h2]
 exact ⟨by simp,by simp⟩
def PWd (p:Addr) (T H:Hp):Prop := Same T H∧∃ g,T p=none∧T g=none∧PoolAt H p g
def PW (p:Addr):Wld where
 W := PWd p
 sub := fun h=>h.1
 new := fun {T H a o} ⟨s,g,h1,h2,h3⟩ na=>by
  have e1:p≠a := fun e=>h3.some.1 (by rw [e]; exact na)
  have e2:g≠a := fun e=>h3.some.2 (by rw [e]; exact na)
  exact ⟨same_both s,g,by rw [upd_ne e1]; exact h1,by rw [upd_ne e2]; exact h2,h3.keep (upd_ne e1) (upd_ne e2)⟩
 tmp := fun {T H a o} ⟨s,g,h1,h2,h3⟩ na=>by
  have e1:p≠a := fun e=>h3.some.1 (by rw [e]; exact na)
  have e2:g≠a := fun e=>h3.some.2 (by rw [e]; exact na)
  exact ⟨s.trans (same_new na),g,h1,h2,h3.keep (upd_ne e1) (upd_ne e2)⟩
 set := fun {T H a o o'} ⟨s,g,h1,h2,h3⟩ ha=>by
  have e1:p≠a := fun e=>by rw [e,ha] at h1; cases h1
  have e2:g≠a := fun e=>by rw [e,ha] at h2; cases h2
  exact ⟨same_both s,g,by rw [upd_ne e1]; exact h1,by rw [upd_ne e2]; exact h2,h3.keep (upd_ne e1) (upd_ne e2)⟩
 lift := fun {S S' T H H'} ⟨s,g,h1,h2,h3⟩ e st=>by
  obtain ⟨a,b⟩ := liftT_step s e st
  have k:∀ x,H x≠none→liftT T H S' x=T x := fun x hx=>by
   unfold liftT
   cases z:H x with
   | none=>exact absurd z hx
   | some o=>rfl
  refine ⟨_,a,b,g,by rw [k p h3.some.1]; exact h1,by rw [k g h3.some.2]; exact h2, ?_⟩
  obtain ⟨gs,c,sd,n,q1,q2,q3⟩ := h3
  exact ⟨gs,c,sd,n,st.tt _ _ q1,st.tt _ _ q2,q3⟩
end Fm
namespace Fm
open PySem PySem.Spec PyProof.Rows L2
open PySem.W (Datum Tup T3 T4)
section
variable {M:Wld} {K:PySem.W.Frag} {σ:L2.St} {S T H:Hp} {P:Hp→V→Prop} {te ta tb:TE} {tt:TT} {D:Ends} {t u:TS} {i:Nat} {b:Bool}
theorem ev_at {p:Addr} {vs:List V} {j n:Nat} {z:Int} {v:V} (h0:σ[j]? = some (some (.ref p))) (h:S p=some (.lst vs)) (hz:z=(n:Int)) (hv:vs[n]? = some v) (hP:P S v):Ev M (tOp (rIx K) (tVar j) (tC (.int z))) σ S P := fun T H w s Q q =>
 ⟨.ref p,h0, .inl ⟨p,vs,z,v,rfl,rfl,SqL.of ((s.trans (M.sub w)) _ _ h),by rw [hz]; exact atI_nat hv,q S T H v (Step.refl s) w hP⟩⟩
theorem q_set (h:Ev M te σ S P) (w:M.W T H) (s:Same S T) (q:∀ S' T' H' v,Step S T S' T'→M.W T' H'→P S' v→D.nx (σ.set i (some v)) H'):tAsg te (gName i) D σ H := h T H w s _ q
theorem q_ret (h:Ev M te σ S P) (w:M.W T H) (s:Same S T) (q:∀ S' T' H' v,Step S T S' T'→M.W T' H'→P S' v→D.rt v H'):tRet te D σ H := h T H w s _ q
theorem q_if (h:EvT M tt σ S b) (w:M.W T H) (s:Same S T) (h1:∀ S' T' H',Step S T S' T'→M.W T' H'→b=true→t D σ H') (h2:∀ S' T' H',Step S T S' T'→M.W T' H'→b=false→u D σ H'):tIfS tt t u D σ H := h T H w s _ fun S' T' H' st w'=>by
 cases b with
 | true=>exact iteT (h1 S' T' H' st w' rfl)
 | false=>exact iteF (h2 S' T' H' st w' rfl)
theorem ev_mod {a b:Int} (ha:Ev M ta σ S (Is K a)) (hb:Ev M tb σ S (Is K b)) (h:0 < b):Ev M (tOp rModA ta tb) σ S (Is K (a % b)) := ev_I ha hb h fun _=>is_int
theorem ev_div {a b:Int} (ha:Ev M ta σ S (Is K a)) (hb:Ev M tb σ S (Is K b)) (h:CDivW a b):Ev M (tOp rDivA ta tb) σ S (Is K (a / b)) := ev_I ha hb h fun _=>is_int
theorem ev_mul {a b:Int} (ha:Ev M ta σ S (Is K a)) (hb:Ev M tb σ S (Is K b)) (h:CMul a b):Ev M (tOp rMulA ta tb) σ S (Is K (a * b)) := ev_I ha hb h fun _=>is_int
theorem ev_pow {a b:Int} (ha:Ev M ta σ S (Is K a)) (hb:Ev M tb σ S (Is K b)) (h:CPow a b):Ev M (tOp rPowA ta tb) σ S (Is K (a ^ b.toNat)) := ev_I ha hb h fun _=>is_int
theorem ev_iv {j:Nat} {z:Int} (h:σ[j]? = some (some (.int z))):Ev M (tVar j) σ S (Is K z) := ev_var h is_int
theorem ev_ic {z:Int}:Ev M (tC (.int z)) σ S (Is K z) := ev_c is_int
end
end Fm
namespace Fm
open PySem PySem.Spec PyProof.Rows L2
open PySem.W (Datum Tup T3 T4)
section
variable {M:Wld} {K:PySem.W.Frag} {σ:L2.St} {S:Hp} {P P1 P2:Hp→V→Prop} {ta tb te tc td tl:TE} {v x y:V} {α β γ δ:Type} [DecidableEq α] [Datum α] [DecidableEq β] [Datum β] [DecidableEq γ] [Datum γ] [DecidableEq δ] [Datum δ]
theorem ty_tup {H:Hp} {a:Addr} {xs:List V} (h:SqT K H a xs):TyX K H (.ref a) (.type "tuple") := by
 rcases h with (h | ⟨o,h⟩) | ⟨o,its,n,h,hc,_⟩
 ·exact .base (.tup h)
 ·exact .fTuple h
 ·exact .kTuple h hc
theorem ty_ins {H:Hp} {a C dx:Addr} {fs:List (Str × V)} (c:Cls K C) (x:ClsX K C) (h:H a=some (.ins C dx fs)):TyX K H (.ref a) (.ref C) := .base (.ins h c x.ha x.hn x.ht x.hm)
end
end Fm
namespace Fm
open PySem PySem.Spec PyProof.Rows L2
open PySem.W (Datum Tup T3 T4)
inductive Orel {α β:Type} (F:α→β→Prop):Option α→Option β→Prop
 | no:Orel F none none
 | yes {a:α} {b:β}:F a b→Orel F (some a) (some b)
section
variable {ι:Type} {E:ι→Hp→V→Prop} {key:ι→Key} {xs:List ι} {x:ι} {S S':Hp} {kvs:List (Key × V)} {w:V} {k:Key}
def dlast (key:ι→Key) (xs:List ι) (k:Key):Option ι := xs.reverse.find? fun x=>decide (key x=k)
theorem dlast_snoc:dlast key (xs ++ [x]) k=if k=key x then some x else dlast key xs k := by
 unfold dlast
 rw [List.reverse_append]
 show List.find? _ (x :: xs.reverse)=_
 rw [List.find?_cons]
 by_cases h:k=key x
 ·simp [h]
 ·have h':¬ key x=k := fun e=>h e.symm
  simp [h,h']
def DAll (E:ι→Hp→V→Prop) (key:ι→Key) (xs:List ι) (S:Hp) (kvs:List (Key × V)):Prop := ∀ k,Orel (fun i w=>E i S w) (dlast key xs k) (valV kvs k)
theorem DAll.nil:DAll E key [] S [] := fun k=>.no
theorem DAll.put (h:DAll E key xs S kvs) (e:E x S w):DAll E key (xs ++ [x]) S (putK kvs (key x) w) := fun k=>by
 rw [dlast_snoc,valV_put]
 by_cases q:k=key x
 ·rw [if_pos q,if_pos q]; exact .yes e
 ·rw [if_neg q,if_neg q]; exact h k
theorem DAll.mono (hE:∀ i,Mono (E i)) (h:DAll E key xs S kvs) (e:Same S S'):DAll E key xs S' kvs := fun k=>by
 have := h k
 generalize dlast key xs k=a at this ⊢
 generalize valV kvs k=b at this ⊢
 cases this with
 | no=>exact .no
 | yes q=>exact .yes (hE _ _ _ _ e q)
def DctOf (E:ι→Hp→V→Prop) (key:ι→Key) (xs:List ι):Hp→V→Prop := fun S v=>∃ a kvs,v = .ref a∧Rd S a (.dK kvs)∧kvs.length≤xs.length∧DAll E key xs S kvs
theorem DctOf.mono (hE:∀ i,Mono (E i)):Mono (DctOf E key xs) := fun S S' v e ⟨a,kvs,h1,h2,h3,h4⟩=>⟨a,kvs,h1,Same.rd e h2,h3,h4.mono hE e⟩
end
section
variable {M:Wld} {K:PySem.W.Frag} {σ:L2.St} {S T H:Hp} {P P1 P2:Hp→V→Prop} {ta tb te tc td tk tv tl ty tx:TE} {v x y:V} {α β γ δ:Type} [DecidableEq α] [Datum α] [DecidableEq β] [Datum β] [DecidableEq γ] [Datum γ] [DecidableEq δ] [Datum δ]
theorem dlast_map {ι κ:Type} {key:κ→Key} {f:ι→κ} {xs:List ι} {k:Key}:dlast key (xs.map f) k=(dlast (fun i=>key (f i)) xs k).map f := by
 unfold dlast
 rw [← List.map_reverse,List.find?_map]
 rfl
theorem DctOf.of {ι κ:Type} {E:κ→Hp→V→Prop} {key:κ→Key} {f:ι→κ} {xs:List ι} (h:DctOf (fun i=>E (f i)) (fun i=>key (f i)) xs S v):DctOf E key (xs.map f) S v := by
 obtain ⟨a,kvs,h1,h2,h3,h4⟩ := h
 refine ⟨a,kvs,h1,h2,by rw [List.length_map]; exact h3,fun k=>?_⟩
 rw [dlast_map]
 have := h4 k
 cases e1:dlast (fun i=>key (f i)) xs k with
 | none =>
  rw [e1] at this
  generalize valV kvs k=o at this
  cases this
  exact .no
 | some j =>
  rw [e1] at this
  generalize valV kvs k=o at this
  cases this with
  | yes q=>exact .yes q
theorem Step.keep {S T S' T':Hp} (s:Same S T) (h:Step T T S' T'):Step S T S T' := ⟨Same.refl _,s.trans h.tt,h.tt,fun _ _ h=>h⟩
end
end Fm
namespace Fm
open PySem PySem.Spec PyProof.Rows L2
open PySem.W (Datum Tup T3 T4)
section
variable {M:Wld} {K:PySem.W.Frag} {σ:L2.St} {S T H S0 T0:Hp} {P P1 P2:Hp→V→Prop} {ta tb te tc td tk tv tl ty tx:TE} {v x y:V} {α β γ δ:Type} [DecidableEq α] [Datum α] [DecidableEq β] [Datum β] [DecidableEq γ] [Datum γ] [DecidableEq δ] [Datum δ]
theorem Paired.len {ι κ:Type} {R:ι→κ→Prop} {xs:List ι} {ys:List κ} (h:Paired R xs ys):ys.length=xs.length := (Paired.length h).symm
theorem Paired.all {ι κ:Type} {R:ι→κ→Prop} {F:κ→Prop} {xs:List ι} {ys:List κ} (h:Paired R xs ys) (hF:∀ i y,R i y→F y):∀ y∈ys,F y := by
 induction h with
 | nil=>intro y hy; exact nomatch hy
 | cons hh t ih =>
  intro y hy
  rcases List.mem_cons.mp hy with e | hy
  ·rw [e]; exact hF _ _ hh
  ·exact ih y hy
theorem nodup_le {α:Type} [DecidableEq α]:∀ {xs ys:List α},xs.Nodup→(∀ x∈xs,x∈ys)→xs.length≤ys.length
 | [],_,_,_=>Nat.zero_le _
 | x :: xs,ys,hn,h=>by
  have hx := h x (List.mem_cons_self ..)
  have hn' := List.nodup_cons.mp hn
  have := nodup_le (xs := xs) (ys := ys.erase x) hn'.2 fun z hz=>(List.mem_erase_of_ne (fun e=>hn'.1 (by rw [← e]; exact hz))).mpr (h z (List.mem_cons_of_mem _ hz))
  rw [List.length_erase_of_mem hx] at this
  have:0 < ys.length := List.length_pos_of_mem hx
  rw [List.length_cons]
  omega
theorem Same.sql {S S':Hp} {a:Addr} {vs:List V} (e:Same S S') (h:SqL K S a vs):SqL K S' a vs := by
 rcases h with h | h
 ·exact .inl (Same.rd e h)
 ·exact .inr h
theorem ev_cutQ {j:Nat} {a:Addr} {vs:List V} {tl th:TO} {lo hi:Option Int} {xs:List α} (hj:σ[j]? = some (some (.ref a))) (h1:SqL K S a vs) (h2:IsAll K xs S vs) (hl:EvO M tl σ S lo) (hh:EvO M th σ S hi):Ev M (tSl (rSlA K) (tVar j) tl th) σ S (Is K (cutL xs lo hi)) := fun T H w s Q q =>
 ⟨.ref a,hj,hl T H w s _ fun S2 T2 H2 st2 w2=>(hh.mono st2.ss) T2 H2 w2 st2.st _ fun S3 T3 H3 st3 w3=>by
  refine .inl ⟨a,vs,rfl,Same.sql ((st2.ss.trans st3.ss).trans (st3.st.trans (M.sub w3))) h1,fun l nl=>?_⟩
  have nt := (M.sub w3).free nl
  exact q _ _ _ _ ((st2.trans st3).trans (Step.new st3.st nt)) (M.new w3 nl) (is_lst (.inl upd_same) ((IsAll.cut (h2.mono (st2.ss.trans st3.ss))).mono (same_new (st3.st.free nt))))⟩
theorem fun_bindsTo {x qual:Str} {st:Stmt} {f:Addr} {fd:FuncData} {ps:List Str} (F:Fun K x qual st f fd)
  (h:∀ (kV doc pm:Value) (an:Option Addr) (cdv ct:Value) (us:List Value),us.length=ps.length→bindArgs (PySem.W.fnOf x qual (defArgs st) (defBody st) (defScope st) .none kV doc pm an cdv ct) ⟨us,[]⟩=pure (ps.zip us)) (s:Shared) (us:List Value) (hl:us.length=ps.length):BindsTo s fd ⟨us,[]⟩ (ps.zip us) := by
 obtain ⟨oc,od,kV,doc,pm,an,cdv,ct,osl,rfl,lk,hcd⟩ := F.ex
 exact .of_eq (h kV doc pm an cdv ct us hl)
end
end Fm
namespace Fm
open PySem PySem.Spec PyProof.Rows L2
open PySem.W (Datum Tup T3 T4)
end Fm
namespace Fm
open PySem PySem.Spec PyProof.Rows L2
open PySem.W (Datum Tup T3 T4)
def del (H:Hp) (l:Addr):Hp := fun a=>if a=l then none else H a
theorem del_same {H:Hp} {l:Addr}:del H l l=none := if_pos rfl
theorem del_ne {H:Hp} {l a:Addr} (h:a≠l):del H l a=H a := if_neg h
theorem upd_comm {H:Hp} {a b:Addr} {o u:HO} (h:a≠b):upd (upd H a o) b u=upd (upd H b u) a o := by
 funext c
 by_cases h1:c=a
 ·subst h1; rw [upd_ne h,upd_same,upd_same]
 ·by_cases h2:c=b
  ·subst h2; rw [upd_same,upd_ne h1,upd_same]
  ·rw [upd_ne h2,upd_ne h1,upd_ne h1,upd_ne h2]
theorem upd_upd {H:Hp} {a:Addr} {o u:HO}:upd (upd H a o) a u=upd H a u := by
 funext c
 by_cases h1:c=a
 ·subst h1; rw [upd_same,upd_same]
 ·rw [upd_ne h1,upd_ne h1,upd_ne h1]
theorem upd_del {H:Hp} {l:Addr} {o:HO} (h:H l=some o):upd (del H l) l o=H := by
 funext c
 by_cases h1:c=l
 ·subst h1; rw [upd_same,h]
 ·rw [upd_ne h1,del_ne h1]
theorem Step.hide {S T S' T':Hp} {l:Addr} {o:HO} (n:T l=none) (s:Same S T) (h:Step S (upd T l o) S' T'):Step S T S' (del T' l)∧T' l=some o := by
 have hl:T' l=some o := h.tt _ _ upd_same
 have hS:S' l=none := h.nw l (by rw [upd_same]; simp) (s.free n)
 refine ⟨⟨h.ss,fun b x q=>?_,fun b x q=>?_,fun a ha hs=>?_⟩,hl⟩
 ·have hb:b≠l := ne_of_none q hS
  rw [del_ne hb]; exact h.st b x q
 ·have hb:b≠l := ne_of_none q n
  rw [del_ne hb]; exact h.tt b x (by rw [upd_ne hb]; exact q)
 ·have hb:a≠l := fun e=>ha (by rw [e]; exact n)
  exact h.nw a (by rw [upd_ne hb]; exact ha) hs
def WL (M:Wld) (l:Addr) (o:HO):Wld where
 W := fun T H=>T l=none∧M.W (upd T l o) H
 sub := fun {T H} ⟨n,w⟩=>(same_new n).trans (M.sub w)
 new := fun {T H a u} ⟨n,w⟩ na=>by
  have hl:l≠a := ne_of_none ((M.sub w) _ _ upd_same) na
  exact ⟨by rw [upd_ne hl]; exact n,by rw [upd_comm (Ne.symm hl)]; exact M.new w na⟩
 tmp := fun {T H a u} ⟨n,w⟩ na=>⟨n,M.tmp w na⟩
 set := fun {T H a u u'} ⟨n,w⟩ ha=>by
  have hl:a≠l := ne_of_none ha n
  exact ⟨by rw [upd_ne (Ne.symm hl)]; exact n,by rw [upd_comm hl]; exact M.set w (by rw [upd_ne hl]; exact ha)⟩
 lift := fun {S S' T H H'} ⟨n,w⟩ e st=>by
  obtain ⟨T',st',w'⟩ := M.lift w (e.trans (same_new n)) st
  obtain ⟨a,b⟩ := st'.hide n e
  exact ⟨del T' l,a,del_same,by rw [upd_del b]; exact w'⟩
section
variable {M:Wld} {K:PySem.W.Frag} {σ:L2.St} {S T H S0 T0:Hp} {P P1 P2:Hp→V→Prop} {te ta tb:TE} {l p:Addr} {o o':HO} {vs:List V} {D:Ends} {i:Nat}
theorem WL.hp (w:(WL M l o).W T H):H l=some o := (M.sub w.2) _ _ upd_same
theorem WL.free (w:(WL M l o).W T H) (s:Same S T):S l=none := s.free w.1
theorem WL.put (w:(WL M l o).W T H):(WL M l o').W T (upd H l o') := ⟨w.1,by rw [← upd_upd (o := o)]; exact M.set w.2 upd_same⟩
theorem WL.back {S' T' H':Hp} (n:T l=none) (s:Same S T) (st:Step S (upd T l o) S' T') (w:M.W T' H'):∃ T2,Step S T S' T2∧(WL M l o).W T2 H' := by
 obtain ⟨a,b⟩ := st.hide n s
 exact ⟨del T' l,a,del_same,by rw [upd_del b]; exact w⟩
end
end Fm
namespace Fm
open PySem PySem.Spec PyProof.Rows L2
open PySem.W (Datum Tup T3 T4)
theorem lk_rev {x:Str} {v:Value}:∀ {ps:List Str} {us:List Value} {i:Nat},ps.Nodup→ps[i]? = some x→us[i]? = some v→(ps.zip us).reverse.lookup x=some v
 | [],_,_,_,h,_=>by simp at h
 | _ :: _,[],_,_,_,h=>by simp at h
 | p :: ps,w :: us,0,nd,h1,h2=>by
  have e1:p=x := by simpa using h1
  have e2:w=v := by simpa using h2
  subst e1; subst e2
  have hn:(ps.zip us).reverse.lookup p=none := by
   rw [List.lookup_eq_none_iff]
   intro q hq
   have hq':q∈ps.zip us := by simpa using hq
   obtain ⟨a,b⟩ := q
   have := (List.of_mem_zip hq').1
   have hne:p≠a := fun e=>(List.nodup_cons.mp nd).1 (e ▸ this)
   simpa using hne
  rw [List.zip_cons_cons,List.reverse_cons,List.lookup_append,hn]
  simp
 | p :: ps,w :: us,i + 1,nd,h1,h2=>by
  have := lk_rev (ps := ps) (us := us) (i := i) (List.nodup_cons.mp nd).2 (by simpa using h1) (by simpa using h2)
  rw [List.zip_cons_cons,List.reverse_cons,List.lookup_append,this]
  rfl
def cxS (P : Program) (w : World) (K : PySem.W.Frag) (mg : Str → Option Value) (base : Heap) (N : List Str) (qual : Str) (scope : Scope) (f cda cc : Addr) (A : Around) (outer : List Env) (s : Shared) (H : Hp) : Cx :=
  { cxOf CX0 P w K mg base N qual scope f (.ref cda) A outer s H E0 with
    env := PySem.W.ksEnv qual scope s.heap.objs.size f (.ref cda) cc
    A := A.deeper (PySem.W.ksEnv qual scope s.heap.objs.size f (.ref cda) cc)
    stack := PySem.W.ksEnv qual scope s.heap.objs.size f (.ref cda) cc :: outer
    fn := fun _ => false
    xe := fun _ _ => False }
structure SuScope (ps:List Str) (sc:Scope):Prop where
 kind:sc.kind = .function
 co:sc.isCoroutine=false
 gen:sc.isGenerator=false
 nd:ps.Nodup
 par:∀ x∈ps,sc.names.lookup x=some .local
 nocell:∀ y∈sc.names,y.2≠.cell
 free:∀ y∈sc.names,y.2 = .free→y.1 = "__class__"
 sup:sc.names.lookup ("super":Str)=some .globalImplicit
 cls:sc.names.lookup ("__class__":Str)=some .free
structure SuFn (K:PySem.W.Frag) (file:Str) (C f:Addr) (qual:Str) (params:Arguments) (body:List Stmt) (scope:Scope) (fd:FuncData) (cda cc:Addr):Prop where
 ex:∃ (name:Str) (oc:Value) (od:Option Addr) (kV doc pm:Value) (an:Option Addr) (ct:Value) (osl:Array (Option Value)),fd=PySem.W.ksFn name qual params body scope .none kV doc pm an (.ref cda) ct cc∧K.lookup f=some ⟨oc,od, .func fd,osl⟩
 code:PySem.W.codeIn K (.ref cda) qual=true
 file:∃ ccl cdd vs ccs tf,K.lookup cda=some ⟨ccl,cdd, .fields vs,ccs⟩∧vs[2]? = some (.str file tf)
 cell:∃ cl cld csl,K.lookup cc=some ⟨cl,cld, .cell (some (.ref C)),csl⟩
 sup:PySem.W.ks_superIn K C C "__init__" = some (some (.builtin "ValueError.__init__"))
 ve:PySem.W.subIn K (.ref C) (.type "ValueError")=some true
 self:PySem.W.mroIn K C (.ref C)=some true
 op:PySem.W.nsIn K cStatics "thirdparty.any" = some none
section
variable {P:Program} {w:World} {K:PySem.W.Frag} {mg:Str→Option Value} {base:Heap} {qual:Str} {scope:Scope} {f cda cc C a:Addr} {A:Around} {outer:List Env} {s s1:Shared} {H:Hp} {ps:List Str} {us:List Value} {vs:List V} {params:Arguments} {body:List Stmt} {fd:FuncData} {file:Str}
theorem inv_startS {h1:Heap} {tk:Nat} (S:SuScope ps scope) (hd:A.handled=none) (e0:Env0 P w K mg base A outer s H) (hl:vs.length=ps.length) (r:Vals vs us) (hc:∃ cl cld csl,K.lookup cc=some ⟨cl,cld, .cell (some (.ref C)),csl⟩)
  (hns:h1.Ns s.heap.objs.size (fun x=>(ps.zip us).reverse.lookup x)) (hk:∀ b o,s.heap.get? b=some o→h1.get? b=some o) :
  Inv (cxS P w K mg base ps qual scope f cda cc A outer s H) [] (start ps vs) H { s with heap := h1,toks := tk } := by
 obtain ⟨cl,cld,csl,hcl⟩ := hc
 have hb := e0.bs _ _ (e0.mod.kin _ _ hcl)
 have one:∀ y c,([(("__class__":Str),cc)]:List (Str × Addr)).lookup y=some c→y = "__class__" ∧ c=cc := fun y c h=>by
  by_cases e:y = "__class__"
  ·subst e
   have:cc=c := by simpa [List.lookup] using h
   exact ⟨rfl,this.symm⟩
  ·have e':(y == ("__class__":Str))=false := by simpa using e
   simp [List.lookup,e'] at h
 refine ⟨⟨e0.mod,S.kind,rfl,rfl,Nat.le_refl _,fun y z c h1 h2=>(one y c h1).1.trans (one z c h2).1.symm,fun y hy=>?_,(fun y c z _=>by cases z),fun _=>hd,Around.frames_deeper e0.frames, .inr ⟨rfl,rfl⟩,(fun b z=>nomatch z),e0.bs,e0.bsz,(fun b _ _ z=>nomatch z),(fun b z=>nomatch z),e0.funs,e0.frf⟩,
  rfl,e0.bare,Un.kept hk,⟨_,hns,fun i y v h1 h2 _=>?_⟩,fun y c h=>?_,e0.hok.fresh (Nat.le_refl _),fun y c h=>?_,(fun p hp=>nomatch hp),e0.hok.kept hk, ?_⟩
 ·have hy:scope.names.lookup y=some .cell∨scope.names.lookup y=some .free := hy
  rcases hy with hy | hy
  ·exact absurd rfl (S.nocell _ (PySem.mem_of_lookup hy))
  ·have e:y = "__class__" := S.free _ (PySem.mem_of_lookup hy) rfl
   subst e
   exact ⟨cc,by show ([(("__class__":Str),cc)]:List (Str × Addr)).lookup _=_; simp [List.lookup]⟩
 ·have hi:i < vs.length := by
   have := (List.getElem?_eq_some_iff.mp h1).1
   have:i < ps.length := this
   omega
  have hv:vs[i]? = some v := by
   unfold L2.start at h2
   rw [List.getElem?_append_left (by simpa using hi),List.getElem?_map] at h2
   cases e:vs[i]? with
   | none=>rw [e] at h2; cases h2
   | some b=>rw [e] at h2; cases h2; rfl
  obtain ⟨u,hu,rv⟩ := r.get hv
  exact ⟨u,rv, .inl ⟨S.par y (List.mem_of_getElem? h1),lk_rev S.nd h1 hu⟩⟩
 ·obtain ⟨rfl,rfl⟩ := one y c h
  exact ⟨_,_,hk _ _ hb.1,rfl⟩
 ·obtain ⟨rfl,rfl⟩ := one y c h
  exact hb.2
 ·unfold L2.start
  rw [List.length_append,List.length_map,List.length_replicate]
  show _=ps.length
  omega
theorem super_init {X:Cx} {bd:List Stmt} {p0 p1 p2 p3 pos:Pos} {j:Nat} {msg:Str} {σ:L2.St} {E:Value→Shared→Prop} {ar:Arg} {pl:Sem Bool}
  (hX:X=cxS P w K mg base ps qual scope f cda cc A outer s H) (S:SuScope ps scope) (F:SuFn K file C f qual params body scope fd cda cc) (T:OexC K C) (hfile:((P.main.file:Str) == file)=true) (htop:(P.main.scope.names.lookup ("super":Str)).isSome=false) (hmg:mg "super" = none)
  (hp:(params.posonlyargs ++ params.args).head? = some ar) (h0:ps[0]? = some ar.arg) (hs:σ[0]? = some (some (.ref a))) {H1:Hp} (I:Inv X [] σ H1 s1) (ha:H1 a=some (exo a C none))
  (hev:eval (.Call (.Attribute (.Call (.Name "super" p0) [] [] p1) "__init__" p2) [.Constant (.str msg) j p3] [] pos) X.env=(do
   let ov ← attributeBase (.Call (.Name "super" p0) [] [] p1) "__init__" X.env (eval (.Call (.Name "super" p0) [] [] p1) X.env)
   standAt p2.atName
   let (f,first) ← holding [ov] (getMethod ov "__init__" pl)
   callWith pos f first (backTo pos (starEach [.Constant (.str msg) j p3] X.env)) []) := by rfl)
  {Q:Value→Shared→Prop} (q:∀ u s',Inv X [] σ H1 s'→Q u s') :
  _root_.PySem.wpAt (model P w) X.A (.func bd X.env) (eval (.Call (.Attribute (.Call (.Name "super" p0) [] [] p1) "__init__" p2) [.Constant (.str msg) j p3] [] pos) X.env) Q E s1 := by
 subst hX
 obtain ⟨name,oc,od,kV,doc,pm,an,ct,osl,rfl,lkf⟩ := F.ex
 obtain ⟨ccl,cdd,vsF,ccs,tf,lkc,hvs⟩ := F.file
 obtain ⟨cl,cld,csl,lkcell⟩ := F.cell
 obtain ⟨nm,qn,NN,bs,bm,sn,sub,ab,col,dd,k0,k1,k2,k3,k5,hC,hbm⟩ := T.cls
 have hcl:∃ cd,PySem.W.clsIn K C=some cd := ⟨_,by unfold PySem.W.clsIn; rw [hC] <;> rfl⟩
 obtain ⟨cd,hcd⟩ := hcl
 refine ks_wpAt_MethodCall (pl := pl) ?_ hev
 have KX:K.In s1.heap := I.kIn
 have bk := I.bk
 obtain ⟨mb,hb1,hb2⟩ := I.ok.mod.blt
 obtain ⟨m,hns,hloc⟩ := id I.loc
 have hself:m ar.arg=some (.ref a) := by
  obtain ⟨u,ru,hu⟩ := hloc 0 ar.arg (.ref a) h0 hs (.inl (S.par _ (List.mem_of_getElem? h0)))
  have eu:u=Value.ref a := ru
  subst eu
  rcases hu with ⟨_,z⟩ | ⟨z,_⟩
  ·exact z
  ·have k:scope.names.lookup ar.arg=some .local := S.par _ (List.mem_of_getElem? h0)
   have z':scope.names.lookup ar.arg=some .cell∨scope.names.lookup ar.arg=some .free := z
   rw [k] at z'
   rcases z' with z' | z' <;> cases z'
 refine ks_wpAt_super_base (of := ⟨oc,od, .func _,osl⟩) (oc := ⟨ccl,cdd, .fields vsF,ccs⟩) S.sup S.cls (by decide) rfl (KX _ _ lkf) rfl hp rfl (KX _ _ lkc) rfl hvs hfile htop ?_
 refine PySem.W.ks_loadName_global S.kind S.sup (PySem.Calls.loadGlobal_builtin (mg := mg) (mb := mb) (I.ok.mod.glob.keeps bk) hmg (hb1.keeps bk) ((hb2 "super" (by decide)).trans (by decide +kernel:bootBuiltins "super" = some (.type "super"))) ⟨rfl, ?_⟩)
 refine wpAny_loadName_free S.kind S.cls (c := cc) (by show ([(("__class__":Str),cc)]:List (Str × Addr)).lookup _=_; simp [List.lookup]) ⟨_,KX _ _ lkcell,rfl⟩ ?_
 refine wpAny_loadName_local S.kind (S.par _ (List.mem_of_getElem? h0)) hns hself ?_
 have hCobj := KX _ _ hC
 refine ks_wpAny_isType_cls hCobj rfl ⟨rfl, ?_⟩
 obtain ⟨t1,hx⟩ := exo_at I.hok ha
 obtain ⟨hp1,g,d,t,os⟩ := s1
 refine ks_wpAny_call_super hCobj rfl hx rfl (fun c e=>by cases e) (PySem.W.looks_mroIn KX F.self) fun h2 e2 kp2=>?_
 have I2 := I.kept (t' := t) kp2
 have KX2:K.In h2 := KX.keeps kp2
 have hx2 := kp2 _ _ hx
 have IA:PySem.W.InstAt h2 a _ C none := ⟨hx2,rfl,rfl,trivial⟩
 have hsup := F.sup
 unfold PySem.W.ks_superIn at hsup
 rw [hcd,Option.bind_some] at hsup
 refine PySem.W.kxs_getMethod PySem.W.kxs_ValueError (l₀ := cd.mro) e2 (PySem.W.looks_opaque KX2 F.op) (fun A Q E s k q=>wpAny_bind ((PySem.W.looks_clsIn KX2 hcd) A _ E s k (wpAny_pure q))) rfl KX2 hsup (IA.type.andThen (PySem.W.looks_subIn KX2 F.ve)) (PySem.W.ks_ne KX2 IA hcd) (by decide) ?_
 have kp3:∀ b o,h2.get? b=some o→(h2.push (PySem.W.kxs_mw "ValueError.__init__" a)).get? b=some o := fun b o e=>Heap.get?_push_of_some _ e
 have I3 := I2.kept (t' := t + 1) kp3
 have hmw:(h2.push (PySem.W.kxs_mw "ValueError.__init__" a)).get? h2.objs.size=some (PySem.W.kxs_mw "ValueError.__init__" a) := Heap.get?_push_at rfl rfl
 have I4 := I3.pins_of (pins' := [(h2.objs.size,PySem.W.kxs_mw "ValueError.__init__" a)]) (fun p hp=>by
  rw [List.mem_singleton.mp hp]
  refine ⟨hmw,I2.hok.fresh (Nat.le_refl _),fun z=>?_,I2.nofs (Nat.le_refl _),fun v z=>by cases z⟩
  have := I2.lt
  have z':h2.objs.size=(cxS P w K mg base ps qual scope f cda cc A outer s H).env.locals := z
  rw [← z'] at this
  exact absurd this (Nat.lt_irrefl _))
 refine PySem.W.kxs_callWith (i := "ValueError.__init__") (x := a) rfl ?_
 have hpa:PA (cxS P w K mg base ps qual scope f cda cc A outer s H) [.Constant (.str msg) j p3] (tCons (tC (.str msg)) tNil) := pa_cons pe_str pa_nil
 refine PySem.Calls.evalArgs_plain (thn (hpa.run pos _ _ σ H1 (fun vs H2=>H2=H1∧vs.length≤1000) I4 ⟨rfl,by simp⟩) fun us2 s5 hh=>?_)
 obtain ⟨vs5,H5,I5,r5,e5,hl5⟩ := hh
 subst e5
 obtain ⟨hmw5,_⟩ := I5.pin _ (List.mem_append_right _ (List.mem_singleton.mpr rfl))
 refine ⟨hmw5, ?_⟩
 obtain ⟨t5,hx5⟩ := exo_at I5.hok ha
 have hC5 := I5.kIn _ _ hC
 obtain ⟨hp5,g5,d5,tk5,os5⟩ := s5
 refine wpAny_call (codeAny_of_tree ?_)
 show wpAny _ _ (callAny (.ref h2.objs.size) ⟨us2,[]⟩) _ _ _
 simp only [callAny]
 refine wpAny_bind (wpAny_load hmw5 ?_)
 refine PySem.W.KFB.if_so (by show (Value.type "method-wrapper" == Value.type "method" || Value.type "method-wrapper" == Value.type "builtin_function_or_method" || Value.type "method-wrapper" == Value.type "method-wrapper")=true; decide) ?_
 refine wpAny_bind (PySem.W.check_bound_init PySem.F.excBase_ValueError.toExcCallFacts hC5 hx5 rfl ?_)
 refine wpAny_bind (wpAny_pure (wpAny_pure ?_))
 refine ⟨plainId_quiet PySem.F.excBase_ValueError.init.plain _,codeAny_builtin PySem.F.excBase_ValueError.initEntry ?_⟩
 refine PySem.W.exc_init_tree (cls := .ref C) (t0 := t5) (dv := none) (c2 := .none) (c3 := .none) (b4 := .bool false) hx5 ?_ fun h6 kp6 hx6 _=>?_
 ·rw [← Paired.length r5,sizeLine_eq]
  omega
 have J := I5.write (t' := tk5) (x := a) (e := a) (o := exo a C none) (by rw [ha]; exact True.intro) (.inl rfl) kp6 ⟨_,hx6⟩ (exo_ok hx6)
 have eu:upd H5 a (exo a C none)=H5 := by
  funext b
  by_cases hb:b=a
  ·rw [hb,upd_same,ha]
  ·rw [upd_ne hb]
 rw [eu] at J
 exact q _ _ (J.pins_of (pins' := []) fun p hp=>nomatch hp)
end
end Fm
namespace Fm
open PySem PySem.Spec PyProof.Rows L2
open PySem.W (Datum Tup T3 T4)
section
variable {K:PySem.W.Frag} {C:Addr}
def rawEx (K:PySem.W.Frag) (C:Addr):Bool := match K.lookup C with
 | some ⟨.type "type",_, .cls cd,sl⟩=>(match cd.mro,sl.toList with
  | .ref C' :: bm,[_,_,_,_,some (.builtin n),_]=>C' == C && n == "ValueError.__new__" && !cd.hasDel && cd.hasDict && PySem.HandSPX.refsVE bm
  | _,_=>false)
 | _=>false
theorem rawEx_ok (q:rawEx K C=true):∃ nm qn N bs bm sn sub ab col dd k0 k1 k2 k3 k5,K.lookup C=some (excClassObj nm qn C N bs bm true sn sub ab col dd k0 k1 k2 k3 k5 "ValueError.__new__")∧PySem.HandSPX.refsVE bm=true := by
 unfold rawEx at q
 split at q
 ·rename_i dd cd sl ho
  split at q
  ·rename_i C' bm k0 k1 k2 k3 n k5 hm hs
   simp only [Bool.and_eq_true,beq_iff_eq,Bool.not_eq_true'] at q
   obtain ⟨⟨⟨⟨rfl,rfl⟩,hdel⟩,hdt⟩,ht⟩ := q
   obtain ⟨nm,bs,mro,ns,qn,hd,sn,sub,ab,col,del⟩ := cd
   dsimp only at hm hdel hdt
   subst hm hdel hdt
   have hsl:sl = #[k0,k1,k2,k3,some (.builtin "ValueError.__new__"),k5] := by
    obtain ⟨l⟩ := sl
    simp only at hs
    rw [hs]
   subst hsl
   exact ⟨nm,qn,ns,bs,bm,sn,sub,ab,col,dd,k0,k1,k2,k3,k5,ho,ht⟩
  ·cases q
 ·cases q
def oexB (K:PySem.W.Frag) (C:Addr):Bool := rawEx K C && (He.eqO (PySem.W.findIn K (.ref C) "__setattr__") (some (some (.builtin "object.__setattr__"))) && (decide (PySem.W.subIn K (.ref C) (.type "BaseException")=some true) && (decide (PySem.W.typeIn K (.ref C)=some (.type "type")) && PySem.W.keepIn K (.ref C))))
theorem oexB_ok (h:oexB K C=true):OexC K C := by
 obtain ⟨h1,h⟩ := He.ba h
 obtain ⟨h2,h⟩ := He.ba h
 obtain ⟨h3,h⟩ := He.ba h
 obtain ⟨h4,h5⟩ := He.ba h
 exact ⟨rawEx_ok h1,He.eqO_ok h2,of_decide_eq_true h3,of_decide_eq_true h4,h5⟩
def excB (K:PySem.W.Frag) (D:Addr):Bool := He.eqO (PySem.W.findIn K (.ref D) "__getattribute__") (some (some (.builtin "BaseException.__getattribute__"))) && (He.eqO (PySem.W.findIn K (.ref D) "__getattr__") (some none) && (decide (PySem.W.subIn K (.ref D) (.type "BaseException")=some true) && (PySem.W.hasDictIn K D &&
 (He.eqO (PySem.W.findIn K (.ref D) "__class__") (some (some (.builtin "object.__class__"))) && (He.eqO (PySem.W.specialIn K (.builtin "object.__class__") "__get__") (some (some (.builtin "getset_descriptor.__get__"))) && (decide (PySem.W.takesIn K (.builtin "object.__class__")=some true) && decide (PySem.W.mroIn K D (.type "object")=some true)))))))
theorem excB_ok (h:excB K C=true):ExcC K C := by
 obtain ⟨h1,h⟩ := He.ba h
 obtain ⟨h2,h⟩ := He.ba h
 obtain ⟨h3,h⟩ := He.ba h
 obtain ⟨h4,h⟩ := He.ba h
 obtain ⟨h5,h⟩ := He.ba h
 obtain ⟨h6,h⟩ := He.ba h
 obtain ⟨h7,h8⟩ := He.ba h
 exact ⟨He.eqO_ok h1,He.eqO_ok h2,of_decide_eq_true h3,h4,He.eqO_ok h5,He.eqO_ok h6,of_decide_eq_true h7,of_decide_eq_true h8⟩
structure DefE where
 cls:PySem.W.Frag→Addr
 qual:Str
 st:Stmt
 file:Str
def DefE.at_ (d:DefE) (K:PySem.W.Frag):Addr := He.ma K (d.cls K) "__init__"
def fnE (K:PySem.W.Frag) (a:Addr):He.FnW := match K.lookup a with
 | some ⟨_,_, .func fd,_⟩=>some (fd.name,fd.qualname,fd.params,fd.body,fd.scope,fd.globals,[],fd.builtins)
 | _=>none
def DefE.val (d:DefE):He.FnW := some ("__init__",d.qual,defArgs d.st, .stmts (defBody d.st),defScope d.st,mainGlobals,[],builtinsNs)
def isNone:Value→Bool
 | .none=>true
 | _=>false
theorem isNone_ok {v:Value} (h:isNone v=true):v = .none := by
 cases v <;> first | rfl | cases h
def fileB (K:PySem.W.Frag) (file:Str):Value→Bool
 | .ref c=>(match K.lookup c with
  | some ⟨_,_, .fields vs,_⟩=>(match vs.toList with
   | _ :: _ :: .str z _ :: _=>z == file
   | _=>false)
  | _=>false)
 | _=>false
theorem fileB_ok {file:Str} {v:Value} (h:fileB K file v=true):∃ c ccl cdd vs ccs tf,v = .ref c∧K.lookup c=some ⟨ccl,cdd, .fields vs,ccs⟩∧vs[2]? = some (.str file tf) := by
 unfold fileB at h
 split at h
 ·rename_i c
  split at h
  ·rename_i ccl cdd vs ccs e
   split at h
   ·rename_i v0 v1 z tf r e2
    have:z=file := by simpa using h
    subst this
    refine ⟨c,ccl,cdd,vs,ccs,tf,rfl,e, ?_⟩
    rw [← Array.getElem?_toList,e2]
    rfl
   ·cases h
  ·cases h
 ·cases h
def cellB (K:PySem.W.Frag) (C:Addr):List (Str × Addr)→Bool
 | [(n,cc)]=>n == ("__class__":Str) && (match K.lookup cc with
  | some ⟨_,_, .cell (some (.ref D)),_⟩=>D == C
  | _=>false)
 | _=>false
theorem cellB_ok {l:List (Str × Addr)} (h:cellB K C l=true):∃ cc,l=[(("__class__":Str),cc)]∧∃ cl cld csl,K.lookup cc=some ⟨cl,cld, .cell (some (.ref C)),csl⟩ := by
 unfold cellB at h
 split at h
 ·rename_i n cc
  obtain ⟨h1,h2⟩ := He.ba h
  split at h2
  ·rename_i cl cld D csl e
   have e1:n = "__class__" := by simpa using h1
   have e2:D=C := by simpa using h2
   subst e1 e2
   exact ⟨cc,rfl,cl,cld,csl,e⟩
  ·cases h2
 ·cases h
def DefE.ok (K:PySem.W.Frag) (d:DefE):Bool := (match K.lookup (d.at_ K) with
 | some ⟨_,_, .func fd,_⟩=>isNone fd.defaults && (PySem.W.codeIn K fd.code d.qual && (fileB K d.file fd.code && cellB K (d.cls K) fd.closure))
 | _=>false) && (oexB K (d.cls K) && (excB K (d.cls K) && (He.eqO (PySem.W.findIn K (.ref (d.cls K)) "__init__") (some (some (.ref (d.at_ K)))) && (decide (PySem.W.typeIn K (.ref (d.at_ K))=some (.type "function")) &&
 (He.eqO (PySem.W.ks_superIn K (d.cls K) (d.cls K) "__init__") (some (some (.builtin "ValueError.__init__"))) && (decide (PySem.W.subIn K (.ref (d.cls K)) (.type "ValueError")=some true) && (decide (PySem.W.mroIn K (d.cls K) (.ref (d.cls K))=some true) && He.eqO (PySem.W.nsIn K cStatics "thirdparty.any") (some none))))))))
structure Err (K:PySem.W.Frag) (file:Str) (C f:Addr) (qual:Str) (st:Stmt):Prop where
 oex:OexC K C
 exc:ExcC K C
 ini:PySem.W.findIn K (.ref C) "__init__" = some (some (.ref f))
 ty:PySem.W.typeIn K (.ref f)=some (.type "function")
 fn:∃ fd cda cc,SuFn K file C f qual (defArgs st) (defBody st) (defScope st) fd cda cc
theorem DefE.err {d:DefE} (e:fnE K (d.at_ K)=d.val) (c:d.ok K=true):Err K d.file (d.cls K) (d.at_ K) d.qual d.st := by
 obtain ⟨c1,h⟩ := He.ba c
 obtain ⟨h2,h⟩ := He.ba h
 obtain ⟨h3,h⟩ := He.ba h
 obtain ⟨h4,h⟩ := He.ba h
 obtain ⟨h5,h⟩ := He.ba h
 obtain ⟨h6,h⟩ := He.ba h
 obtain ⟨h7,h⟩ := He.ba h
 obtain ⟨h8,h9⟩ := He.ba h
 refine ⟨oexB_ok h2,excB_ok h3,He.eqO_ok h4,of_decide_eq_true h5, ?_⟩
 unfold fnE at e
 cases q:K.lookup (d.at_ K) with
 | none =>
  rw [q] at c1
  cases c1
 | some o =>
  obtain ⟨oc,od,dt,osl⟩ := o
  rw [q] at c1 e
  cases dt with
  | func fd =>
   obtain ⟨n1,n2,n3,n4,n5,n6,n7,n8,n9,n10,n11,n12,n13,n14,n15⟩ := fd
   have e2:(some (n1,n2,n3,n4,n5,n6,[],n15):He.FnW)=some (("__init__":Str),d.qual,defArgs d.st,FuncBody.stmts (defBody d.st),defScope d.st,mainGlobals,[],builtinsNs) := e
   simp only [Option.some.injEq,Prod.mk.injEq] at e2
   obtain ⟨k1,k2,k3,k4,k5,k6,_,k8⟩ := e2
   subst k1 k2 k3 k4 k5 k6 k8
   have c3:(isNone n8 && (PySem.W.codeIn K n13 d.qual && (fileB K d.file n13 && cellB K (d.cls K) n7)))=true := c1
   obtain ⟨m1,m⟩ := He.ba c3
   obtain ⟨m2,m⟩ := He.ba m
   obtain ⟨m3,m4⟩ := He.ba m
   have e8 := isNone_ok m1
   subst e8
   obtain ⟨cda,ccl,cdd,vs,ccs,tf,rfl,lkc,hv⟩ := fileB_ok m3
   obtain ⟨cc,rfl,hcell⟩ := cellB_ok m4
   exact ⟨_,cda,cc,⟨"__init__",oc,od,n9,n10,n11,n12,n14,osl,rfl,q⟩,m2,⟨ccl,cdd,vs,ccs,tf,lkc,hv⟩,hcell,He.eqO_ok h6,of_decide_eq_true h7,of_decide_eq_true h8,He.eqO_ok h9⟩
  | _=>cases c1
end
def cloO (o:Obj):List Addr := match o.data with
 | .func fd=>fd.closure.map (·.2)
 | _=>[]
def pushA:List Addr→Nat→List Addr→Nat × List Addr
 | [],m,l=>(m,l)
 | a :: r,m,l=>match Nat.beq (Nat.land (Nat.shiftRight m a) 1) 0 with
  | true=>pushA r (Nat.lor m (Nat.shiftLeft 1 a)) (a :: l)
  | false=>pushA r m l
def levelA (g:Addr→Option Obj):List Addr→Nat→List Addr→Nat × List Addr
 | [],m,l=>(m,l)
 | a :: r,m,l=>match g a with
  | some o=>(match pushA (He.refsD o ++ cloO o) m l with
   | (m',l')=>levelA g r m' l')
  | none=>levelA g r m l
def reachA (g:Addr→Option Obj):Nat→List Addr→Nat→List Addr
 | 0,l,_=>l
 | n + 1,l,m=>l ++ (match levelA g l m [] with
  | (m',l')=>reachA g n l' m')
def asE (g:Addr→Option Obj) (n:Nat):List Addr := match pushA [cStatics,mainGlobals] 0 [] with
 | (m,l)=>reachA g n l m
def obsE (fa:List (PySem.W.Frag→Bool)) (fn:List He5.DefA) (fe:List DefE) (K:PySem.W.Frag):He.AlD := (((fa.all fun f=>f K) && fn.all fun d=>d.ok K) && fe.all fun d=>d.ok K,(fn.map fun d=>He5.fnA K (d.at_ K)) ++ fe.map fun d=>fnE K (d.at_ K))
def valE (fn:List He5.DefA) (fe:List DefE):He.AlD := (true,fn.map He5.DefA.val ++ fe.map DefE.val)
section
variable {fa:List (PySem.W.Frag→Bool)} {fn:List He5.DefA} {fe:List DefE} {K:PySem.W.Frag}
theorem toB (c:obsE fa fn fe K=valE fn fe):obsB fa fn K=He5.valA fn := by
 have c1 := (He.ba (show (((fa.all fun f=>f K) && fn.all fun d=>d.ok K) && fe.all fun d=>d.ok K)=true from congrArg (fun z:He.AlD=>z.1) c)).1
 have e:(fn.map fun d=>He5.fnA K (d.at_ K)) ++ (fe.map fun d=>fnE K (d.at_ K))=fn.map He5.DefA.val ++ fe.map DefE.val := congrArg (fun z:He.AlD=>z.2) c
 have e1 := (List.append_inj e (by simp)).1
 show (_,_)=(_,_)
 rw [c1,e1]
theorem toE (c:obsE fa fn fe K=valE fn fe) (i:Nat) {d:DefE} (h:fe[i]? = some d := by rfl):Err K d.file (d.cls K) (d.at_ K) d.qual d.st := by
 have c2 := (He.ba (show (((fa.all fun f=>f K) && fn.all fun d=>d.ok K) && fe.all fun d=>d.ok K)=true from congrArg (fun z:He.AlD=>z.1) c)).2
 have e:(fn.map fun d=>He5.fnA K (d.at_ K)) ++ (fe.map fun d=>fnE K (d.at_ K))=fn.map He5.DefA.val ++ fe.map DefE.val := congrArg (fun z:He.AlD=>z.2) c
 have e1 := (List.append_inj e (by simp)).2
 have e2:(fe.map fun d=>fnE K (d.at_ K))[i]? = (fe.map DefE.val)[i]? := by rw [e1]
 rw [List.getElem?_map,List.getElem?_map,h] at e2
 exact DefE.err (Option.some.inj e2) (List.all_eq_true.mp c2 d (List.mem_of_getElem? h))
end
end Fm
namespace Fm
open PySem PySem.Spec PyProof.Rows L2
open PySem.W (Datum Tup T3 T4)
section
variable {P:Program} {w:World} {K:PySem.W.Frag} {mg:Str→Option Value} {base:Heap} {file qual:Str} {C f:Addr} {st:Stmt} {ps:List Str} {rest:List Stmt} {t:TS} {p0 p1 p2 p3 pos pe:Pos} {j:Nat} {msg:Str} {ar:Arg}
theorem err_fn (Er:Err K file C f qual st) (S:SuScope ps (defScope st)) (hfile:((P.main.file:Str) == file)=true) (htop:(P.main.scope.names.lookup ("super":Str)).isSome=false) (hmg:mg "super" = none)
  (hp:((defArgs st).posonlyargs ++ (defArgs st).args).head? = some ar) (h0:ps[0]? = some ar.arg)
  (hbd:defBody st = .Expr (.Call (.Attribute (.Call (.Name "super" p0) [] [] p1) "__init__" p2) [.Constant (.str msg) j p3] [] pos) pe :: rest)
  (hb:∀ (name:Str) (kV doc pm:Value) (an:Option Addr) (cdv ct:Value) (cc:Addr) (us:List Value),us.length=ps.length→bindArgs (PySem.W.ksFn name qual (defArgs st) (defBody st) (defScope st) .none kV doc pm an cdv ct cc) ⟨us,[]⟩=pure (ps.zip us))
  (hev:∀ cda cc L:Addr,∃ pl,eval (.Call (.Attribute (.Call (.Name "super" p0) [] [] p1) "__init__" p2) [.Constant (.str msg) j p3] [] pos) (PySem.W.ksEnv qual (defScope st) L f (.ref cda) cc)=(do
   let ov ← attributeBase (.Call (.Name "super" p0) [] [] p1) "__init__" (PySem.W.ksEnv qual (defScope st) L f (.ref cda) cc) (eval (.Call (.Name "super" p0) [] [] p1) (PySem.W.ksEnv qual (defScope st) L f (.ref cda) cc))
   standAt p2.atName
   let (f',first) ← holding [ov] (getMethod ov "__init__" pl)
   callWith pos f' first (backTo pos (starEach [.Constant (.str msg) j p3] (PySem.W.ksEnv qual (defScope st) L f (.ref cda) cc))) []))
  (hsw:∀ cda cc L:Addr,swapsWith (.Call (.Attribute (.Call (.Name "super" p0) [] [] p1) "__init__" p2) [.Constant (.str msg) j p3] [] pos) none pe.line (PySem.W.ksEnv qual (defScope st) L f (.ref cda) cc)=pure false)
  (hw:∀ (cda cc:Addr) (A:Around) (outer:List Env) (s:Shared) (H:Hp),PSs (cxS P w K mg base ps qual (defScope st) f cda cc A outer s H) rest t) :
  FnR P w K mg base CX0 1 f (fun vs H Q _=>∃ a ws,vs = .ref a :: ws∧vs.length=ps.length∧H a=some (exo a C none)∧t { nx := fun _ H'=>Q .non H',rt := Q } (start ps vs) H) := by
 intro A outer s H us vs Q E hr e0 r ⟨a,ws,ev,hl,ha,hq⟩
 obtain ⟨fd,cda,cc,F⟩ := Er.fn
 obtain ⟨name,oc,od,kV,doc,pm,an,ct,osl,rfl,lkf⟩ := id F.ex
 have KX:K.In s.heap := e0.mod.kin.keeps fun b o e=>(e0.bs b o e).1
 have lim:s.heap.NoLimit := e0.mod.nolimit.keeps fun b o e=>(e0.bs b o e).1
 have hlu:us.length=ps.length := by rw [← r.length]; exact hl
 have T := Er.oex
 refine ks_codeAny_call_defAt (body := defBody st) hr.depth (KX _ _ lkf) rfl lim (PySem.W.codeRec_of KX F.code) rfl (.of_eq (hb name kV doc pm an (.ref cda) ct cc us hlu)) S.nocell (fun x hx=>S.par x.1 (List.of_mem_zip hx).1) (fun h1 hns hk=>?_) S.co S.gen S.kind
 have I:Inv (cxS P w K mg base ps qual (defScope st) f cda cc A outer s H) [] (start ps vs) H { s with heap := h1,toks := s.toks + (ps.zip us).length } := inv_startS S hr.hd e0 hl r F.cell hns hk
 have hs0:(start ps vs)[0]? = some (some (.ref a)) := by rw [ev]; rfl
 show _root_.PySem.wpAt (model P w) (A.deeper (PySem.W.ksEnv qual (defScope st) s.heap.objs.size f (.ref cda) cc)) (.func (defBody st) (PySem.W.ksEnv qual (defScope st) s.heap.objs.size f (.ref cda) cc)) (execs (defBody st) (PySem.W.ksEnv qual (defScope st) s.heap.objs.size f (.ref cda) cc)) _ _ _
 have fin:∀ s',Inv (cxS P w K mg base ps qual (defScope st) f cda cc A outer s H) [] (start ps vs) H s'→wpAny (model P w) (A.deeper (PySem.W.ksEnv qual (defScope st) s.heap.objs.size f (.ref cda) cc)) (execs rest (PySem.W.ksEnv qual (defScope st) s.heap.objs.size f (.ref cda) cc))
   (fun fl s'=>CR CX0 outer P w H s Q E (.ok (.ret (match fl with | .ret v=>v | _=>.none))) s') (fun _ _=>False) s' := fun s' I'=>by
  refine wpAny_mono ((hw cda cc A outer s H).run [] s' (start ps vs) H _ I' hq) (fun fl s2 hs=>?_) fun _ _ z=>False.elim z
  cases fl with
  | ret u =>
   obtain ⟨v,σ',H',J,rv,q⟩ := hs
   exact ⟨v,H',J.os,J.bare,J.base,J.hok,rv,q⟩
  | next =>
   obtain ⟨σ',H',J,q⟩ := hs
   exact ⟨.non,H',J.os,J.bare,J.base,J.hok,rfl,q⟩
  | brk =>
   obtain ⟨_,_,_,q⟩ := hs
   exact False.elim q
  | cont =>
   obtain ⟨_,_,_,q⟩ := hs
   exact False.elim q
 have F':SuFn K file C f qual (defArgs st) (defBody st) (defScope st) (PySem.W.ksFn name qual (defArgs st) (defBody st) (defScope st) .none kV doc pm an (.ref cda) ct cc) cda cc := F
 generalize hB:defBody st=bd at F' hbd ⊢
 subst hbd
 have hin:interactive (PySem.W.ksEnv qual (defScope st) s.heap.objs.size f (.ref cda) cc)=false := by
  unfold interactive
  show ((defScope st).kind == _ && _)=false
  rw [S.kind]
  rfl
 obtain ⟨pl,hev⟩ := hev cda cc s.heap.objs.size
 refine ks_wpAt_execs_cons (ks_wpAt_Expr_any ?_ hin (hsw cda cc _))
 refine super_init (pl := pl) (hev := hev) (X := cxS P w K mg base ps qual (defScope st) f cda cc A outer s H) (H1 := H) rfl S F' T hfile htop hmg hp h0 hs0 I ha (q := fun u s' I'=>?_)
 refine wpAt_of_wpAny (wpAny_mono (fin s' I') (fun _ _ z=>z) fun _ _ z=>z.elim)
end
def spE1 (C:Addr) (f:Str):Sp := fun vs H Q _=>∃ a v,vs=[.ref a,v]∧H a=some (exo a C none)∧∀ dx,H dx=none→dx≠a→Q .non (upd (upd H dx (exd dx [(f,v)])) a (exo a C (some dx)))
section
variable {X:Cx} {o e:Expr} {es:List Expr} {to te:TE} {ta:TA} {f g x:Str} {p p' p1 p2 pos:Pos} {C fI:Addr} {k:Nat} {sp:Sp} {CX:CXT}
def tMkE (C:Addr) (sp:Sp) (ta:TA):L2.St→Hp→XK→Prop := fun σ H Q=>ta σ H fun vs H1=>vs.length≤1000∧∀ a,H1 a=none→sp (.ref a :: vs) (upd H1 a (exo a C none))
 (fun v H2=>v = .non∧∃ (d:Addr) (fs:List (Str × V)),H2 a=some (exo a C (some d))∧H2 d=some (exd d fs)∧H1 d=none∧Q (.ref C) (some d) (upd (L2.del H2 a) d (.xd fs))) (fun _ _ _=>False)
theorem pmk_oexR (T:OexC X.K C) (iC:PySem.W.findIn X.K (.ref C) "__init__" = some (some (.ref fI))) (tI:PySem.W.typeIn X.K (.ref fI)=some (.type "function"))
  (F1:FnR X.prog X.w X.K X.mg X.base CX0 k fI sp) (hr:Room (k + 1) X.A) (hg:Gl X x) (hm:X.mg x=some (.ref C)) (ha:PA X (e :: es) ta)
  (hdb:(x == ("__debug__":Str))=false := by decide) (he:starEach (e :: es) X.env=(false,eval e X.env) :: starEach es X.env := by rfl) (hpl:(backTo pos (starEach es X.env)).any (·.1)=false := by rfl) :
  PMk X (.Call (.Name x p) (e :: es) [] pos) (tMkE C sp ta) := by
 intro pins s σ H Q I h
 obtain ⟨nm,q,N,bs,bm,sn,sub,ab,col,dd,k0,k1,k2,k3,k5,hC,hbm⟩ := T.cls
 refine wpAny_Call_Name_kw (ld_glob I hg hm ?_ hdb)
 refine PySem.W.callWith_K (h₀ := X.base) I.ok.mod.kin T.kC (thn (ha.run pos pins s σ H _ I h) fun us s1 ⟨vs,H1,I1,r1,hz,q1⟩=>⟨I1.kIn, ?_⟩) he hpl
 show wpAny _ _ (call (.ref C) us) _ _ _
 obtain ⟨hp,g,dr,tk,os⟩ := s1
 have hsz:hp.objs.size≤hp.objs.size + 1 := Nat.le_succ _
 have hn:H1 (hp.objs.size + 1)=none := I1.hok.fresh hsz
 have hq := q1 (hp.objs.size + 1) hn
 have kk:∀ b o,hp.get? b=some o→((hp.push (PySem.W.kdv_tup us)).push (PySem.HandSPX.excO C hp.objs.size)).get? b=some o := fun b o e=>Heap.get?_push_of_some _ (Heap.get?_push_of_some _ e)
 have hget:((hp.push (PySem.W.kdv_tup us)).push (PySem.HandSPX.excO C hp.objs.size)).get? (hp.objs.size + 1)=some (PySem.HandSPX.excO C hp.objs.size) := by heap_get
 have I2:Inv X pins σ (upd H1 (hp.objs.size + 1) (exo (hp.objs.size + 1) C none)) ⟨(hp.push (PySem.W.kdv_tup us)).push (PySem.HandSPX.excO C hp.objs.size),g,dr,tk,os⟩ :=
  I1.laid (t' := tk) (a := hp.objs.size + 1) (o := exo (hp.objs.size + 1) C none) (h' := (hp.push (PySem.W.kdv_tup us)).push (PySem.HandSPX.excO C hp.objs.size)) kk hsz (exo_ok hget)
 have r2:Vals (V.ref (hp.objs.size + 1) :: vs) (Value.ref (hp.objs.size + 1) :: us) := .cons rfl r1
 have hus:us.length≤sizeLine := by
  rw [← Paired.length r1,sizeLine_eq]
  omega
 refine wpAny_call (PySem.HandSPX.call_own F.excBase_ValueError (fun Y=>PySem.HandSPX.refsVE_contains Y bm hbm) (I1.kIn _ _ hC) (PySem.W.looks_findIn I1.kIn iC) (fun self=>PySem.W.bind_fn I1.kIn self tI) hus
  (codeAny_mono (F1 _ X.stack _ _ (Value.ref (hp.objs.size + 1) :: us) _ _ (fun _ _ _=>False) (hr.make C us []) (I2.env0.make C us []) r2 hq) fun r s' hq'=>?_))
 cases r with
 | error er=>exact False.elim hq'
 | ok fl =>
  cases fl with
  | ret u =>
   obtain ⟨v,H2,os2,bare2,un2,hok2,rv,ev,d,fs,ea,ed,hd1,q2⟩ := hq'
   subst ev
   obtain ⟨h2,g2,d2,t2,os'⟩ := s'
   exact ⟨rv,mk_end (raises_own T.exC T.tyC) I1 hsz kk un2 hok2 os2 bare2 ea ed hd1 q2⟩
  | next=>exact False.elim hq'
  | brk=>exact False.elim hq'
  | cont=>exact False.elim hq'
def tRz (C:Addr) (sp:Sp) (ta:TA) (W:WX):TS := fun _ σ H=>tMkE C sp ta σ H fun cls d H'=>W cls d σ H'
theorem ps_rz {file qual:Str} {st:Stmt} {W:WX} {pos2:Pos} (hc:X.calm=true) (tk:Takes X W) (T:Err X.K file C fI qual st) (F1:FnR X.prog X.w X.K X.mg X.base CX0 k fI sp) (hr:Room (k + 1) X.A) (hg:Gl X x) (hm:X.mg x=some (.ref C)) (ha:PA X (e :: es) ta)
 (hdb:(x == ("__debug__":Str))=false := by decide) (he:starEach (e :: es) X.env=(false,eval e X.env) :: starEach es X.env := by rfl) (hpl:(backTo pos (starEach es X.env)).any (·.1)=false := by rfl) :
 PS X (.Raise (some (.Call (.Name x p) (e :: es) [] pos)) none pos2) (tRz C sp ta W) := ps_raise hc tk (pmk_oexR T.oex T.ini T.ty F1 hr hg hm ha hdb he hpl)
end
section
variable {M:Wld} {K:PySem.W.Frag} {σ:L2.St} {S T H:Hp} {P P1 P2:Hp→V→Prop} {te ta tb:TE} {C:Addr} {f g:Str} {W:WX} {D:Ends}
def Rz1 (C:Addr) (f:Str) (P:Hp→V→Prop):Hp→Value→Option Addr→Prop := fun S cls d=>cls = .ref C∧∃ dd v,d=some dd∧S dd=some (.xd [(f,v)])∧P S v
def Rz2 (C:Addr) (f g:Str) (P P':Hp→V→Prop):Hp→Value→Option Addr→Prop := fun S cls d=>cls = .ref C∧∃ dd v u,d=some dd∧S dd=some (.xd [(g,u),(f,v)])∧P S v∧P' S u
theorem Rz1.mono {S S':Hp} {cls:Value} {d:Option Addr} (hP:Mono P) (h:Rz1 C f P S cls d) (e:Same S S'):Rz1 C f P S' cls d := by
 obtain ⟨h1,dd,v,h2,h3,h4⟩ := h
 exact ⟨h1,dd,v,h2,e _ _ h3,hP _ _ _ e h4⟩
theorem Rz2.mono {P':Hp→V→Prop} {S S':Hp} {cls:Value} {d:Option Addr} (hP:Mono P) (hP':Mono P') (h:Rz2 C f g P P' S cls d) (e:Same S S'):Rz2 C f g P P' S' cls d := by
 obtain ⟨h1,dd,v,u,h2,h3,h4,h5⟩ := h
 exact ⟨h1,dd,v,u,h2,e _ _ h3,hP _ _ _ e h4,hP' _ _ _ e h5⟩
end
section
variable {X:Cx} {CX:CXT} {k:Nat} {C f:Addr} {sp:Sp} {E:L2.St→XK} {x m:Str} {a b e o:Expr} {es:List Expr} {te ta tb:TE} {t:TA} {p pos apos:Pos}
theorem run_fnRS {pins:List (Addr × Obj)} {σ:L2.St} {H:Hp} {s:Shared} {Q:VK} {E:XK} {us:List Value} {vs:List V} (F:FnR X.prog X.w X.K X.mg X.base CX k f sp) (hr:Room k X.A) (hx:PassesAt CX X σ E) (I:Inv X pins σ H s) (r:Vals vs us) (h:sp vs H Q E) :
  codeAny (model X.prog X.w) X.A (.call (.ref f) ⟨us,[]⟩) (fun r s'=>match r with | .ok (.ret v)=>EP X pins σ Q v s' | .ok _=>False | .error e=>X.xe e s') s := by
 refine codeAny_mono (F X.A X.stack s H us vs Q E hr I.env0 r h) fun r s' hq=>?_
 cases r with
 | error e=>exact hx pins H s e s' I hq
 | ok fl =>
  cases fl with
  | ret u=>exact I.after hq
  | next=>exact False.elim hq
  | brk=>exact False.elim hq
  | cont=>exact False.elim hq
def tClS (sp:Sp) (E:L2.St→XK) (t:TA):TE := fun σ H Q=>t σ H fun vs H1=>sp vs H1 Q (E σ)
theorem pe_clS (F:FnR X.prog X.w X.K X.mg X.base CX k f sp) (hr:Room k X.A) (hg:Gl X x) (hm:X.mg x=some (.ref f)) (hk:PySem.W.keepIn X.K (.ref f)=true) (hx:∀ σ,PassesAt CX X σ (E σ)) (ha:PA X (e :: es) t) (hdb:(x == ("__debug__":Str))=false := by decide)
  (he:starEach (e :: es) X.env=(false,eval e X.env) :: starEach es X.env := by rfl) (hpl:(backTo pos (starEach es X.env)).any (·.1)=false := by rfl):PE X (.Call (.Name x p) (e :: es) [] pos) (tClS sp E t) := by
 refine ⟨fun pins s σ H Q I h=>?_⟩
 refine wpAny_Call_Name_kw (ld_glob I hg hm ?_ hdb)
 refine PySem.W.callWith_K (h₀ := X.base) I.ok.mod.kin hk (thn (ha.run pos pins s σ H _ I h) fun us s1 ⟨vs,H1,I1,r,q⟩=>⟨I1.kIn, ?_⟩) he hpl
 exact wpAny_call (run_fnRS F hr (hx σ) I1 r q)
def tMtS (C:Addr) (m:Str) (sp:Sp) (E:L2.St→XK) (ta:TE) (t:TA):TE := fun σ H Q=>ta σ H fun x H1=>∃ a dx fs,x = .ref a∧H1 a=some (.ins C dx fs)∧fs.lookup m=none∧t σ H1 fun vs H2=>sp (x :: vs) H2 Q (E σ)
theorem pe_mtS {pl:Sem Bool} (he:PE X o ta) (c:Cls X.K C) (hm:Meth X.K C m f) (F:FnR X.prog X.w X.K X.mg X.base CX k f sp) (hr:Room k X.A) (hx:∀ σ,PassesAt CX X σ (E σ)) (ha:PA X (e :: es) t)
  (hst:starEach (e :: es) X.env=(false,eval e X.env) :: starEach es X.env := by rfl) (hpl:(backTo pos (starEach es X.env)).any (·.1)=false := by rfl)
  (ht:eval (.Call (.Attribute o m apos) (e :: es) [] pos) X.env=(do
   let ov ← eval o X.env
   standAt apos.atName
   let (f,first) ← holding [ov] (getMethod ov m pl)
   callWith pos f first (backTo pos (starEach (e :: es) X.env)) (backToKw pos (keywordEach [] X.env))) := by rfl) :
  PE X (.Call (.Attribute o m apos) (e :: es) [] pos) (tMtS C m sp E ta t) := by
 refine ⟨fun pins s σ H Q I h=>?_⟩
 refine PySem.W.methodCall_KW (pl := pl) (thn (he.run pins s σ H _ I h) fun u s1 ⟨x,H1,I1,rx,a,dx,fs,ex,ea,l,q⟩=>?_) ht
 subst ex
 obtain rfl:u=Value.ref a := rx
 refine getmeth_ok I1 ea c hm l ?_
 refine PySem.W.callWith_K (h₀ := X.base) (first := [.ref a]) I1.ok.mod.kin hm.kp (thn (ha.run pos pins s1 σ H1 _ I1 q) fun us s3 ⟨vs,H2,I3,r,q2⟩=>⟨I3.kIn, ?_⟩) hst hpl
 exact wpAny_call (run_fnRS (us := .ref a :: us) (vs := .ref a :: vs) F hr (hx σ) I3 (.cons rfl r) q2)
def tMakeS (C:Addr) (sp:Sp) (E:L2.St→XK) (t:TA):TE := fun σ H Q=>t σ H fun vs H1=>∀ x dx,H1 x=none→H1 dx=none→dx≠x →
 sp (V.ref x :: vs) (upd (upd H1 dx (.own x)) x (.ins C dx [])) (fun v H2=>v = .non∧Q (.ref x) H2) (E σ)
theorem pe_makeS (M:Mk X.K C f) (F:FnR X.prog X.w X.K X.mg X.base CX k f sp) (hr:Room (k + 1) X.A) (hg:Gl X x) (hm:X.mg x=some (.ref C)) (hx:∀ σ,PassesAt CX X σ (E σ)) (ha:PA X (e :: es) t) (hdb:(x == ("__debug__":Str))=false := by decide)
  (he:starEach (e :: es) X.env=(false,eval e X.env) :: starEach es X.env := by rfl) (hpl:(backTo pos (starEach es X.env)).any (·.1)=false := by rfl):PE X (.Call (.Name x p) (e :: es) [] pos) (tMakeS C sp E t) := by
 refine ⟨fun pins s0 σ H0 Q I0 h0=>?_⟩
 refine wpAny_Call_Name_kw (ld_glob I0 hg hm ?_ hdb)
 refine PySem.W.callWith_K (h₀ := X.base) I0.ok.mod.kin M.kp (thn (ha.run pos pins s0 σ H0 _ I0 h0) fun us s ⟨vs,H,I,r,h⟩=>⟨I.kIn, ?_⟩) he hpl
 have hq := h (s.heap.objs.size + 1) s.heap.objs.size (I.hok.fresh (Nat.le_succ _)) (I.hok.fresh (Nat.le_refl _)) (Nat.ne_of_lt (Nat.lt_succ_self _))
 have I2 := Inv.made (C := C) I
 have r2:Vals (V.ref (s.heap.objs.size + 1) :: vs) (Value.ref (s.heap.objs.size + 1) :: us) := .cons rfl r
 refine wpAny_call (make_map (f := f) I.kIn M.makes M.init (beq_iff_eq.mp M.fn) (codeAny_mono (F _ X.stack _ _ (Value.ref (s.heap.objs.size + 1) :: us) _ _ (E σ) (hr.make C us []) (I2.env0.make C us []) r2 hq) fun r s' hq'=>?_))
 cases r with
 | error e=>exact hx σ pins _ _ e s' I2 hq'
 | ok fl =>
  cases fl with
  | ret u =>
   obtain ⟨v,H',I3,rv,ev,q3⟩ := I2.after hq'
   subst ev
   exact ⟨rv,⟨V.ref (s.heap.objs.size + 1),H',I3,rfl,q3⟩⟩
  | next=>exact False.elim hq'
  | brk=>exact False.elim hq'
  | cont=>exact False.elim hq'
theorem PS.nox {st:Stmt} {t:TS} (h:PS X.nox st t):PS X st t := ⟨fun pins s σ H D I hw =>
 wpAny_mono (h.run pins s σ H D (I.wish _) hw) (fun _ _ q=>q.unwish) fun _ _ z=>False.elim z⟩
end
section
variable {M:Wld} {K:PySem.W.Frag} {σ:L2.St} {S T H S1:Hp} {P P1 P2 P3:Hp→V→Prop} {R R':Hp→Value→Option Addr→Prop} {te ta tb tc:TE} {C:Addr} {δ:Type}
def EvX (M:Wld) (t:(L2.St→XK)→TE) (σ:L2.St) (S:Hp) (P:Hp→V→Prop) (R:Hp→Value→Option Addr→Prop):Prop :=
 ∀ T H,M.W T H→Same S T→∀ (Q:VK) (E:L2.St→XK),(∀ S' T' H' v,Step S T S' T'→M.W T' H'→P S' v→Q v H')→(∀ S' T' H' cls d,Step S T S' T'→M.W T' H'→R S' cls d→E σ cls d H')→t E σ H Q
theorem EvX.imp {t:(L2.St→XK)→TE} (h:EvX M t σ S P R) (hp:∀ S' v,Same S S'→P S' v→P1 S' v) (hr:∀ S' cls d,Same S S'→R S' cls d→R' S' cls d):EvX M t σ S P1 R' := fun T H w s Q E q q' =>
 h T H w s Q E (fun S' T' H' v st w' p=>q S' T' H' v st w' (hp S' v st.ss p)) fun S' T' H' cls d st w' r=>q' S' T' H' cls d st w' (hr S' cls d st.ss r)
theorem EvA.imp {t:TA} {PA PB:Hp→List V→Prop} (h:EvA M t σ S PA) (k:∀ S' vs,Same S S'→PA S' vs→PB S' vs):EvA M t σ S PB := fun T H w s Q q =>
 h T H w s Q fun S' T' H' vs st w' p=>q S' T' H' vs st w' (k S' vs st.ss p)
end
theorem fnR_defX {P:Program} {w:World} {K:PySem.W.Frag} {mg:Str→Option Value} {base:Heap} {k:Nat} {f:Addr} {sp:Sp} {x qual:Str} {st:Stmt} {N ps:List Str} (F:∃ fd,Fun K x qual st f fd) (S:FnScope N ps (defScope st)) (len:∀ vs H Q E,sp vs H Q E→vs.length=ps.length)
  (hb:∀ (kV doc pm:Value) (an:Option Addr) (cdv ct:Value) (us:List Value),us.length=ps.length→bindArgs (PySem.W.fnOf x qual (defArgs st) (defBody st) (defScope st) .none kV doc pm an cdv ct) ⟨us,[]⟩=pure (ps.zip us))
  (t:XK→TS) (hw:∀ (cdv:Value) (A:Around) (outer:List Env) (s:Shared) (H:Hp) (E:XK),Room k (A.deeper (envOfC qual (defScope st) s.heap.objs.size f cdv))→PSs (cxOf (L2.CX P w) P w K mg base N qual (defScope st) f cdv A outer s H E) (defBody st) (t E))
  (hq:∀ H vs Q E,sp vs H Q E→t E { nx := fun _ H'=>Q .non H',rt := Q } (start N vs) H):FnR P w K mg base (L2.CX P w) (k + 1) f sp := by
 obtain ⟨fd,F⟩ := F
 exact fnR_of (F.okX S len fun cdv A outer s H vs Q E hr h=>⟨t E,hw cdv A outer s H E hr,hq H vs Q E h⟩) (F.binds hb)
end Fm
namespace Fm
open PySem PySem.Spec PyProof.Rows L2
open AutoSeq1 (wpAny_loadPart')
theorem enumT_new (tp:Addr) (vs:Array Value) (cc:Nat) (dct:Option Addr) (sl:Array (Option Value)):Meets (Builtin.«enumerate.__new__» ⟨[.type "enumerate", .ref tp],[]⟩) (fun _ R st=>st.heap.get? tp=some { cls := .type "tuple",dict := dct,data := .seq vs cc,slots := sl }∧R (.ok (.ret (.ref (st.heap.push { cls := .type "tuple_iterator",data := .fields #[.ref tp, .int 0 0] }).objs.size))) { st with heap := (st.heap.push { cls := .type "tuple_iterator",data := .fields #[.ref tp, .int 0 0] }).push { cls := .type "enumerate",data := .fields #[.none, .bool false, .ref st.heap.objs.size,rawInt 0, .none, .none] } }) := .of_wp fun prog w A R st h=>by
 obtain ⟨hp,g,d,tk,os⟩ := st; obtain ⟨hl,h⟩ := h
 have hsub := sub_enumerate
 have hT:Heap.IsTuple (Shared.heap ⟨hp,g,d,tk,os⟩) tp vs := ⟨_,hl,rfl,cc,rfl⟩
 wp_walk using wpAny_loadPart' hl
 refine wpAny_stack_any fun k=>wpAny_pure ?_
 split
 ·rename_i c _ _ _ _ _
  cases (c == Value.type "enumerate") <;> (wp_walk using wpAny_loadPart' hl,wpAny_pyIter_tuple hT) <;> exact ⟨_,rfl,h⟩
 ·wp_walk using wpAny_loadPart' hl,wpAny_pyIter_tuple hT
  exact ⟨_,rfl,h⟩
end Fm
namespace Fm
open PySem PySem.Spec PyProof.Rows L2
theorem enumT_call {prog:Program} {w:World} {A:Around} {E:Value→Shared→Prop} {s:Shared} {tp:Addr} {vs:Array Value} {Q:Value→Shared→Prop} (hT:s.heap.IsTuple tp vs)
  (h:∀ h',IsEnum h' (s.heap.objs.size + 1) s.heap.objs.size 0 .none→h'.IsTupleIter s.heap.objs.size tp 0→(∀ b o,s.heap.get? b=some o→h'.get? b=some o)→Q (.ref (s.heap.objs.size + 1)) { s with heap := h' }):wpAny (model prog w) A (call (.type "enumerate") [.ref tp]) Q E s := by
 obtain ⟨⟨c,dct,dt,sl⟩,hl,hc,k,hd⟩ := hT
 obtain rfl:c = .type "tuple" := hc
 obtain rfl:dt = .seq vs k := hd
 refine callType_new F.called_enumerate (by decide) (F.typeCall_enumerate_1 _) (F.newCall_enumerate_1 _) (fun ob=>F.args_object_init_2 ob _) F.entry_enumerate_new (enumT_new tp vs k dct sl) ⟨hl, ?_⟩
 have hz:(s.heap.push { cls := .type "tuple_iterator",data := .fields #[.ref tp, .int 0 0] }).objs.size=s.heap.objs.size + 1 := Heap.size_push ..
 show _∧_
 rw [hz]
 have he:IsEnum ((s.heap.push { cls := .type "tuple_iterator",data := .fields #[.ref tp, .int 0 0] }).push { cls := .type "enumerate",data := .fields #[.none, .bool false, .ref s.heap.objs.size,rawInt 0, .none, .none] }) (s.heap.objs.size + 1) s.heap.objs.size 0 .none := by
  have q := Heap.get?_push_size (s.heap.push { cls := .type "tuple_iterator",data := .fields #[.ref tp, .int 0 0] }) (o := { cls := .type "enumerate",data := .fields #[.none, .bool false, .ref s.heap.objs.size,rawInt 0, .none, .none] }) rfl
  rw [hz] at q; exact q
 exact ⟨⟨_,he,rfl⟩,h _ he ⟨_,Heap.get?_push_of_some _ (Heap.get?_push_size _ rfl),rfl,rfl⟩ fun b o x=>Heap.get?_push_of_some _ (Heap.get?_push_of_some _ x)⟩
def IteT (K:PySem.W.Frag) (a:Addr):It :=
 ⟨fun i H=>∃ (xs:List V) (x:V),SqT K H a xs∧xs[i]? = some x,fun i H v H'=>∃ T x,v = .ref T∧H T=none∧H' = upd H T (.tup [.int (i:Nat),x])∧∀ xs,SqT K H a xs→xs[i]? = some x,fun i H=>∃ xs:List V,SqT K H a xs∧xs.length≤i⟩
theorem enum_not_tup {h:Heap} {e it a:Addr} {i:Int} {old:Value} {vs:Array Value} (he:IsEnum h e it i old) (ht:h.IsTuple a vs):e≠a := fun z=>by
 obtain ⟨o,ho,hc,_⟩ := ht
 subst z
 unfold IsEnum at he
 rw [he] at ho
 cases ho
 exact absurd (Value.type.inj hc) (by decide)
theorem titer_not_tup {h:Heap} {it a t:Addr} {i:Nat} {vs:Array Value} (he:h.IsTupleIter it t i) (ht:h.IsTuple a vs):a≠it := fun z=>by
 obtain ⟨o,ho,hc,_⟩ := ht
 obtain ⟨o',ho',hc',_⟩ := he
 subst z
 rw [ho] at ho'
 cases ho'
 rw [hc] at hc'
 exact absurd (Value.type.inj hc') (by decide)
theorem turn_enumT {P : Program} {w : World} {K : PySem.W.Frag} {elts : List Expr} {kk : Nat} {tpos : Pos} (a e it : Addr) :
    Turn P w K (.Tuple elts kk tpos) (IteT K a) [e, it] e (fun i h => (∃ old, IsEnum h e it ((i : Nat) : Int) old) ∧ h.IsTupleIter it a i ∧ e ≠ it) where
  mem := by simp
  obj := fun i h st b hb => by
    obtain ⟨⟨old, he⟩, ⟨o, ho, hc, hd⟩, _⟩ := st
    rcases (by simpa using hb : b = e ∨ b = it) with z | z
    · subst z; exact ⟨_, he, fun v q => nomatch q⟩
    · subst z; exact ⟨o, ho, fun v q => by rw [hd] at q; cases q⟩
  keep := fun i h h' st k => by
    obtain ⟨⟨old, he⟩, hi, hne⟩ := st
    exact ⟨⟨old, k e (by simp) _ he⟩, hi.at fun o q => k it (by simp) o q, hne⟩
  item := by
    intro X hP hw hK hc i pins s σ H E I hf st hg
    subst hP hw hK
    obtain ⟨⟨old, he⟩, hit, hne⟩ := st
    obtain ⟨xs, x, hq, hx⟩ := hg
    obtain ⟨its, rv, p, hz⟩ := I.tuple hq
    have p' : s.heap.IsTuple a its.toArray := p
    obtain ⟨u, hu, ru⟩ := rv.get hx
    have hel : e < s.heap.objs.size := Heap.lt_size he
    have hil : it < s.heap.objs.size := by obtain ⟨_, q, _⟩ := hit; exact Heap.lt_size q
    have hilt : i < its.toArray.size := by
      have := (List.getElem?_eq_some_iff.mp hu).1
      simpa using this
    refine wpAny_pyNext_enum_itemD (Draws.tuple (A := X.A.in1) (show X.A.in1.handled = none from I.ok.hd hc) it a (titer_not_tup hit p') its.toArray) he ⟨hit, p'⟩ hilt hne (fun m => ?_) fun y h' tk hy ho hst hT hsz hk => ?_
    · rcases (by simpa using m : e = it ∨ e = a) with z | z
      · exact hne z
      · exact enum_not_tup he p' z
    obtain rfl : u = y := by
      have : its[i]? = some y := by simpa using hy
      rw [hu] at this
      exact Option.some.inj this
    refine ⟨_, rfl, wpAny_letOwnedTupleGo_enum (s := { s with heap := h', toks := tk + 1 }) ho fun h'' he' sb => ?_⟩
    have hT2 : h''.get? s.heap.objs.size = some { cls := .type "tuple", data := .seq #[.int i tk, u] } := (sb.2 _ (Nat.ne_of_gt hel)).trans hT
    have nw : ObjOk X.prog X.w (upd H s.heap.objs.size (.tup [.int (i : Nat), x])) h'' s.heap.objs.size (.tup [.int (i : Nat), x]) := ⟨by show 2 ≤ sizeLine; decide, [.int i tk, u], .cons ⟨_, rfl⟩ (.cons ru .nil), ⟨_, hT2, rfl, _, rfl⟩⟩
    have I1 : Inv X pins σ (upd H s.heap.objs.size (.tup [.int (i : Nat), x])) { s with heap := h'', toks := tk + 1 } := I.turnedNew (ch := [e, it]) (fun b ob hb q => (sb.2 b (fun z => hb (by simp [z]))).trans (hk b ob (fun z => hb (by simp [z])) (fun z => hb (by simp [z])) q)) hf (Nat.le_refl _) nw
    refine ⟨.ref s.heap.objs.size, _, I1, rfl, ⟨_, x, rfl, I.hok.fresh (Nat.le_refl _), rfl, fun ys hy => by rw [I.tuple_inj hy hq]; exact hx⟩, ⟨⟨u, ?_⟩, hst.1.at fun o q => (sb.2 it (Ne.symm hne)).trans q, hne⟩, fun b hb => ?_⟩
    · rw [show ((i + 1 : Nat) : Int) = (i : Int) + 1 by omega]; exact he'
    · have hb' : b < s.heap.objs.size := by
        rcases (by simpa using hb : b = e ∨ b = it) with z | z
        · rw [z]; exact hel
        · rw [z]; exact hil
      rw [upd_ne (Nat.ne_of_lt hb')]
      exact (hf b hb).1
  done := by
    intro X hP hw hK hc i pins s σ H E I hf st hg
    subst hP hw hK
    obtain ⟨⟨old, he⟩, hit, hne⟩ := st
    obtain ⟨xs, hq, hx⟩ := hg
    obtain ⟨its, rv, p, hz⟩ := I.tuple hq
    have p' : s.heap.IsTuple a its.toArray := p
    obtain ⟨f0, f1, f2, f3, f4, f5⟩ := hf it (by simp)
    have hl := rv.length
    have hTy : s.TypeIs (.ref e) "enumerate" := ⟨_, he, rfl⟩
    unfold pyNext
    refine wpAny_bind (wpAny_attempt (wpAny_callSpecial?_slot (name := Str.ofString "__next__") hTy F.slot_enumerate_next (wpAny_call_entry F.slot_enumerate_next hTy F.entry_enumerate_next (show wpAny _ _ (field (.ref e) 2 >>= _) _ _ _ from ?_) (F.args_enumerate_next_1 _))))
    refine wpAny_bind (wpAny_field he rfl (x := .ref it) rfl (wpAny_bind (wpAny_nextOf_tuple_end (show X.A.in1.handled = none from I.ok.hd hc) hit p' (by simp; omega) fun h' y eb hy => ?_)))
    obtain ⟨o, ho, hcl⟩ := hy
    exact wpAny_bind (wpAny_isInstance (T := "StopIteration") (b := true) ⟨o, ho, hcl⟩ isSubtype_stop (wpAny_pure ⟨rfl, I.turned (t' := s.toks) (fun b o hb q => eb b o hb q) f0 f1 f3 f4 f5⟩))
  self := fun A i s Q E st h => by
    obtain ⟨⟨_, he⟩, _⟩ := st
    exact wpAny_pyIter_enum he h
def iEnumT (K:PySem.W.Frag) (ta:TA):TI := fun σ H R=>ta σ H fun vs H1=>∃ a xs,vs=[.ref a]∧SqT K H1 a xs∧R (IteT K a) H1
theorem pi_enumT {X:Cx} {e:Expr} {ta:TA} {p pos tpos:Pos} {elts:List Expr} {kk:Nat} (hg:Gl X "enumerate") (hm:X.mg "enumerate" = none) (ha:PA X [e] ta) (hs:starEach [e] X.env=[(false,eval e X.env)] := by rfl):PI X (.Tuple elts kk tpos) (.Call (.Name "enumerate" p) [e] [] pos) (iEnumT X.K ta) := by
 refine ⟨fun pins s σ H R I h=>Call_ (ld_blt I hg hm boot_enumerate (PyProof.Rows.callWith_type1 (thn (ha.run pos pins s σ H _ I h) fun us s1 ⟨vs,H1,I1,r1,q1⟩=>?_) hs rfl))⟩
 obtain ⟨a,xs,ex,hq,q⟩ := q1
 subst ex
 cases r1 with
 | cons r rr =>
  cases rr
  cases r
  obtain ⟨its,rv,p',hz⟩ := I1.tuple hq
  refine enumT_call (show s1.heap.IsTuple a its.toArray from p') fun h' he hit hk=>wpAny_pyIter_enum he ?_
  have I2:Inv X pins σ H1 { s1 with heap := h' } := I1.kept (t' := s1.toks) hk
  refine ⟨s1.heap.objs.size + 1,[s1.heap.objs.size + 1,s1.heap.objs.size],_,_,H1,rfl,I2,turn_enumT a (s1.heap.objs.size + 1) s1.heap.objs.size,⟨⟨.none,he⟩,hit,Nat.succ_ne_self _⟩,fun b hb=>?_,q⟩
  have hle:s1.heap.objs.size≤b := by
   rcases (by simpa using hb:b=s1.heap.objs.size + 1∨b=s1.heap.objs.size) with z | z
   ·rw [z]; exact Nat.le_add_right _ _
   ·rw [z]; exact Nat.le_refl _
  exact I1.fpOk hle (I1.hok.fresh hle)
end Fm
namespace Fm
open PySem PySem.Spec PyProof.Rows L2
end Fm
namespace Fm
open PySem PySem.Spec PyProof.Rows L2
end Fm
namespace Fm
open PySem PySem.Spec PyProof.Rows L2
end Fm
namespace PySem.W
open Lean Elab Tactic Meta PySem PySem.Calls PyProof.Rows
end PySem.W
namespace Fm
open PySem PySem.Spec PyProof.Rows L2
end Fm
namespace Fm
open PySem PySem.Spec PyProof.Rows L2
end Fm
namespace Fm
open PySem PySem.Spec PyProof.Rows L2
end Fm
namespace Fm
open PySem PySem.Spec PyProof.Rows L2
open PySem.SeqAt
open AutoSeq1 (wpAny_loadPart')
open MeetsSeq MeetsSeq2 MeetsSeq3 SeqRoads2
end Fm
namespace Fm
open PySem PySem.Spec PyProof.Rows L2 ItX
end Fm
namespace Fm
open PySem PySem.Spec PyProof.Rows L2
end Fm
namespace Fm
open PySem PySem.Spec PyProof.Rows L2
def grow (acc:List Str) (z:Str):List Str := if z∈acc then acc else acc ++ [z]
def uniq (zs:List Str):List Str := zs.foldl grow []
section
variable {prog:Program} {w:World} {A:Around} {R:Result→Shared→Prop} {it T:Addr} {fp wr:List Addr} {G:Array GenState→Array GenState→Prop} {n:Nat} {P:Nat→Value→Prop} {St:Nat→Shared→Prop} {zs:List Str}
def Got (prog:Program) (w:World) (zs:List Str) (T:Addr) (i:Nat) (h:Heap):Prop := h.SetOf (PySem.strKind prog w) T (fun z=>decide (z∈zs.take i)) (uniq (zs.take i)).length
theorem Got.keep {i:Nat} {h h':Heap} (q:Got prog w zs T i h) (k:∀ o,h.get? T=some o→h'.get? T=some o):Got prog w zs T i h' := by
 obtain ⟨o,es,ep,tb,ho,r⟩ := q
 exact ⟨o,es,ep,tb,k o ho,r⟩
variable {l:Addr} {vs:Array Value} {s:Shared} {E:Value→Shared→Prop} {Q:Value→Shared→Prop}
end
end Fm
namespace Fm
open PySem PySem.Spec PyProof.Rows L2
end Fm
namespace Fm
open PySem PySem.Spec PyProof.Rows L2
open L2.DX (KT_drop)
end Fm
namespace Fm
open PySem PySem.Spec PyProof.Rows L2
end Fm
namespace Fm
open PySem PySem.Spec PyProof.Rows L2
end Fm
namespace Am
open PySem PySem.Spec PyProof.Rows L2
open Fm (same_new same_upd same_both Same.rd Same.tup Same.sql)
inductive D where
 | non | bl (b:Bool) | int (i:Int) | str (s:Str) | ty (n:String) | cls (n:Str)
 | tup (xs:List D) | ktup (xs:List D) | lst (xs:List D)
 | dK (kvs:List (Key × D)) | dT (kvs:List (List Key × D))
 | ins (c:Str) (fs:List (Str × D))
 | exn (a:Addr) (cls:Value) (d:Option Addr) (c:Str) (fs:List (Str × D))
 | scr (ns:List Int)
 | ref (n:Nat)
inductive Nd where
 | lst (xs:List D) | dK (kvs:List (Key × D)) | dT (kvs:List (List Key × D)) | ins (c:Str) (fs:List (Str × D)) | pool | lkK (o:Obj) (us:List (Key × V)) (kvs:List (Key × D)) | lkT (o:Obj) (us:List (List Key × V)) (kvs:List (List Key × D))
abbrev AH := Nat→Option Nd
def put (A:AH) (n:Nat) (x:Nd):AH := fun m=>if m=n then some x else A m
def rem (A:AH) (n:Nat):AH := fun m=>if m=n then none else A m
theorem put_same {A:AH} {n:Nat} {x:Nd}:put A n x n=some x := if_pos rfl
theorem put_ne {A:AH} {n m:Nat} {x:Nd} (h:m≠n):put A n x m=A m := if_neg h
theorem rem_same {A:AH} {n:Nat}:rem A n n=none := if_pos rfl
theorem rem_ne {A:AH} {n m:Nat} (h:m≠n):rem A n m=A m := if_neg h
structure Sg where
 S:Hp
 i:Nat→Option Addr
structure Sg.le (g g':Sg):Prop where
 s:Same g.S g'.S
 i:∀ n a,g.i n=some a→g'.i n=some a
theorem Sg.le.refl {g:Sg}:g.le g := ⟨Same.refl _,fun _ _ h=>h⟩
theorem Sg.le.trans {g g1 g2:Sg} (h:g.le g1) (h':g1.le g2):g.le g2 := ⟨h.s.trans h'.s,fun n a e=>h'.i n a (h.i n a e)⟩
section
variable (K:PySem.W.Frag)
mutual
inductive Rep (g:Sg):V→D→Prop
 | non:Rep g .non .non
 | bl (b:Bool):Rep g (.bl b) (.bl b)
 | int (i:Int):Rep g (.int i) (.int i)
 | str (x:Str):Rep g (.str x) (.str x)
 | ty (n:String):Rep g (.ty n) (.ty n)
 | cls (n:Str):Rep g (.ref (He.ga K n)) (.cls n)
 | tup {a:Addr} {vs:List V} {ds:List D}:g.S a=some (.tup vs)→Reps g vs ds→Rep g (.ref a) (.tup ds)
 | ktup {a:Addr} {vs:List V} {ds:List D}:SqT K g.S a vs→Reps g vs ds→Rep g (.ref a) (.ktup ds)
 | lst {a:Addr} {vs:List V} {ds:List D}:Rd g.S a (.lst vs)→Reps g vs ds→Rep g (.ref a) (.lst ds)
 | dK {a:Addr} {kvs:List (Key × V)} {ds:List (Key × D)}:Rd g.S a (.dK kvs)→kvs.map (·.1)=ds.map (·.1)→Reps g (kvs.map (·.2)) (ds.map (·.2))→Rep g (.ref a) (.dK ds)
 | dT {a:Addr} {kvs:List (List Key × V)} {ds:List (List Key × D)}:Rd g.S a (.dT kvs)→kvs.map (·.1)=ds.map (·.1)→Reps g (kvs.map (·.2)) (ds.map (·.2))→Rep g (.ref a) (.dT ds)
 | ins {a dx:Addr} {c:Str} {fvs:List (Str × V)} {fs:List (Str × D)}:g.S a=some (.ins (He.ga K c) dx fvs)→fvs.map (·.1)=fs.map (·.1)→Reps g (fvs.map (·.2)) (fs.map (·.2))→Rep g (.ref a) (.ins c fs)
 | exn {a dd:Addr} {c:Str} {fvs:List (Str × V)} {fs:List (Str × D)}:g.S dd=some (.xd fvs)→fvs.map (·.1)=fs.map (·.1)→Reps g (fvs.map (·.2)) (fs.map (·.2))→Rep g (.ref a) (.exn a (.ref (He.ga K c)) (some dd) c fs)
 | exn0 {a:Addr} {c:Str}:Rep g (.ref a) (.exn a (.ref (He.ga K c)) none c [])
 | scr {a:Addr} {ns:List Int}:SqL K g.S a (ns.map V.int)→Rep g (.ref a) (.scr ns)
 | ref {a:Addr} {n:Nat}:g.i n=some a→Rep g (.ref a) (.ref n)
inductive Reps (g:Sg):List V→List D→Prop
 | nil:Reps g [] []
 | cons {v:V} {vs:List V} {d:D} {ds:List D}:Rep g v d→Reps g vs ds→Reps g (v :: vs) (d :: ds)
end
end
section
variable {K:PySem.W.Frag} {g g':Sg}
mutual
theorem Rep.mono (e:g.le g'):∀ {v:V} {d:D},Rep K g v d→Rep K g' v d
 | _,_, .non=>.non
 | _,_, .bl b=>.bl b
 | _,_, .int i=>.int i
 | _,_, .str x=>.str x
 | _,_, .ty x=>.ty x
 | _,_, .cls x=>.cls x
 | _,_, .tup h r=>.tup (e.s _ _ h) (Reps.mono e r)
 | _,_, .ktup h r=>.ktup (Same.tup e.s h) (Reps.mono e r)
 | _,_, .lst h r=>.lst (Same.rd e.s h) (Reps.mono e r)
 | _,_, .dK h k r=>.dK (Same.rd e.s h) k (Reps.mono e r)
 | _,_, .dT h k r=>.dT (Same.rd e.s h) k (Reps.mono e r)
 | _,_, .ins h k r=>.ins (e.s _ _ h) k (Reps.mono e r)
 | _,_, .exn h k r=>.exn (e.s _ _ h) k (Reps.mono e r)
 | _,_, .exn0=>.exn0
 | _,_, .scr h=>.scr (Same.sql e.s h)
 | _,_, .ref h=>.ref (e.i _ _ h)
theorem Reps.mono (e:g.le g'):∀ {vs:List V} {ds:List D},Reps K g vs ds→Reps K g' vs ds
 | _,_, .nil=>.nil
 | _,_, .cons h r=>.cons (Rep.mono e h) (Reps.mono e r)
end
theorem Reps.len:∀ {vs:List V} {ds:List D},Reps K g vs ds→vs.length=ds.length
 | _,_, .nil=>rfl
 | _,_, .cons _ r=>by rw [List.length_cons,List.length_cons,Reps.len r]
theorem Reps.at_:∀ {vs:List V} {ds:List D} {i:Nat} {d:D},Reps K g vs ds→ds[i]? = some d→∃ v,vs[i]? = some v∧Rep K g v d
 | _,_,_,_, .nil,e=>by simp at e
 | _,_,0,_, .cons h _,e=>by simp at e; subst e; exact ⟨_,rfl,h⟩
 | _,_,i + 1,d, .cons _ r,e=>by
  obtain ⟨v,h1,h2⟩ := Reps.at_ (i := i) (d := d) r (by simpa using e)
  exact ⟨v,by simpa using h1,h2⟩
theorem Reps.of:∀ {vs:List V} {ds:List D} {i:Nat} {v:V},Reps K g vs ds→vs[i]? = some v→∃ d,ds[i]? = some d∧Rep K g v d
 | _,_,_,_, .nil,e=>by simp at e
 | _,_,0,_, .cons h _,e=>by simp at e; subst e; exact ⟨_,rfl,h⟩
 | _,_,i + 1,v, .cons _ r,e=>by
  obtain ⟨d,h1,h2⟩ := Reps.of (i := i) (v := v) r (by simpa using e)
  exact ⟨d,by simpa using h1,h2⟩
theorem Reps.app:∀ {vs ws:List V} {ds es:List D},Reps K g vs ds→Reps K g ws es→Reps K g (vs ++ ws) (ds ++ es)
 | _,_,_,_, .nil,h=>h
 | _,_,_,_, .cons h r,q=>.cons h (Reps.app r q)
theorem Reps.drop_:∀ {vs:List V} {ds:List D} (n:Nat),Reps K g vs ds→Reps K g (vs.drop n) (ds.drop n)
 | _,_,0,h=>h
 | _,_,_ + 1, .nil=>.nil
 | _,_,n + 1, .cons _ r=>Reps.drop_ n r
theorem Reps.take_:∀ {vs:List V} {ds:List D} (n:Nat),Reps K g vs ds→Reps K g (vs.take n) (ds.take n)
 | _,_,0,h=>.nil
 | _,_,_ + 1, .nil=>.nil
 | _,_,n + 1, .cons h r=>.cons h (Reps.take_ n r)
theorem Reps.set_:∀ {vs:List V} {ds:List D} {v:V} {d:D} (n:Nat),Reps K g vs ds→Rep K g v d→Reps K g (vs.set n v) (ds.set n d)
 | _,_,_,_,_, .nil,_=>.nil
 | _,_,_,_,0, .cons _ r,q=>.cons q r
 | _,_,_,_,n + 1, .cons h r,q=>.cons h (Reps.set_ n r q)
theorem Reps.erase:∀ {vs:List V} {ds:List D} (n:Nat),Reps K g vs ds→Reps K g (vs.eraseIdx n) (ds.eraseIdx n)
 | _,_,_, .nil=>.nil
 | _,_,0, .cons _ r=>r
 | _,_,n + 1, .cons h r=>.cons h (Reps.erase n r)
theorem Rep.int_ {v:V} {i:Int} (h:Rep K g v (.int i)):v = .int i := by cases h; rfl
theorem Rep.bl_ {v:V} {b:Bool} (h:Rep K g v (.bl b)):v = .bl b := by cases h; rfl
theorem Rep.str_ {v:V} {x:Str} (h:Rep K g v (.str x)):v = .str x := by cases h; rfl
theorem Rep.non_ {v:V} (h:Rep K g v .non):v = .non := by cases h; rfl
end
def Lk (o o':HO):Prop := o' = o∨(((∃ k,o = .dK k)∨∃ k,o = .dT k)∧∃ u,o' = .frz u o)
def Sub (S H:Hp):Prop := ∀ a o,S a=some o→∃ o',H a=some o'∧Lk o o'
section
variable {K:PySem.W.Frag} {S H:Hp} {a:Addr}
theorem Sub.free (h:Sub S H) (n:H a=none):S a=none := by
 cases e:S a with
 | none=>rfl
 | some o=>obtain ⟨o',h1,_⟩ := h a o e; rw [n] at h1; cases h1
theorem Sub.at_ {o:HO} (h:Sub S H) (e:S a=some o) (n:(∀ k,o≠.dK k)∧∀ k,o≠.dT k):H a=some o := by
 obtain ⟨o',h1,h2 | ⟨⟨k,h2⟩ | ⟨k,h2⟩,_⟩⟩ := h a o e
 ·rw [h1,h2]
 ·exact absurd h2 (n.1 k)
 ·exact absurd h2 (n.2 k)
theorem Sub.sql {vs:List V} (h:Sub S H) (e:SqL K S a vs):SqL K H a vs := by
 rcases e with (e | ⟨o,e⟩) | e
 ·exact .inl (.inl (h.at_ e (by constructor <;> intro _ z <;> cases z)))
 ·exact .inl (.inr ⟨o,h.at_ e (by constructor <;> intro _ z <;> cases z)⟩)
 ·exact .inr e
theorem Sub.sqt {vs:List V} (h:Sub S H) (e:SqT K S a vs):SqT K H a vs := by
 rcases e with (e | ⟨o,e⟩) | e
 ·exact .inl (.inl (h.at_ e (by constructor <;> intro _ z <;> cases z)))
 ·exact .inl (.inr ⟨o,h.at_ e (by constructor <;> intro _ z <;> cases z)⟩)
 ·exact .inr e
theorem Sub.ins {C dx:Addr} {fs:List (Str × V)} (h:Sub S H) (e:S a=some (.ins C dx fs)):H a=some (.ins C dx fs) := h.at_ e (by constructor <;> intro _ z <;> cases z)
theorem Sub.rd {o:HO} (h:Sub S H) (e:Rd S a o):Rd H a o := by
 rcases e with e | ⟨u,e⟩
 ·obtain ⟨o',h1,h2 | ⟨_,u,h2⟩⟩ := h a o e
  ·exact .inl (by rw [h1,h2])
  ·exact .inr ⟨u,by rw [h1,h2]⟩
 ·exact .inr ⟨u,h.at_ e (by constructor <;> intro _ z <;> cases z)⟩
theorem Sub.new {p:Addr} {o:HO} (h:Sub S H) (n:H p=none):Sub (upd S p o) (upd H p o) := fun b x e=>by
 by_cases hb:b=p
 ·subst hb; rw [upd_same] at e; cases e; exact ⟨_,upd_same, .inl rfl⟩
 ·rw [upd_ne hb] at e; rw [upd_ne hb]; exact h b x e
theorem Sub.set {p:Addr} {o:HO} (h:Sub S H) (n:S p=none):Sub S (upd H p o) := fun b x e=>by
 have hb:b≠p := ne_of_none e n
 rw [upd_ne hb]; exact h b x e
end
def NdAt (K:PySem.W.Frag) (g:Sg) (H:Hp) (a:Addr):Nd→Prop
 | .lst ds=>∃ vs,H a=some (.lst vs)∧Reps K g vs ds
 | .dK ds=>∃ kvs,H a=some (.dK kvs)∧kvs.map (·.1)=ds.map (·.1)∧Reps K g (kvs.map (·.2)) (ds.map (·.2))
 | .dT ds=>∃ kvs,H a=some (.dT kvs)∧kvs.map (·.1)=ds.map (·.1)∧Reps K g (kvs.map (·.2)) (ds.map (·.2))
 | .ins c fs=>∃ dx fvs,H a=some (.ins (He.ga K c) dx fvs)∧fvs.map (·.1)=fs.map (·.1)∧Reps K g (fvs.map (·.2)) (fs.map (·.2))
 | .pool=>∃ (gs:List Int) (c sd n:Int) (p:Addr),H a=some (.lst [.ref p, .int c, .int sd, .int n])∧g.S p=some (.lst (gs.map V.int))∧0≤sd∧sd < 2147483648
 | .lkK o us ds=>H a=some (.frz o (.dK us))∧us.map (·.1)=ds.map (·.1)∧Reps K g (us.map (·.2)) (ds.map (·.2))
 | .lkT o us ds=>H a=some (.frz o (.dT us))∧us.map (·.1)=ds.map (·.1)∧Reps K g (us.map (·.2)) (ds.map (·.2))
structure Wr (K:PySem.W.Frag) (g:Sg) (A:AH) (H:Hp):Prop where
 sub:Sub g.S H
 inj:∀ n m a,g.i n=some a→g.i m=some a→n=m
 ex:∀ n a,g.i n=some a→H a≠none
 fin:∃ N,∀ n,N≤n→g.i n=none
 nd:∀ n x,A n=some x→∃ a,g.i n=some a∧g.S a=none∧NdAt K g H a x
def Own (g:Sg) (A:AH) (a:Addr):Prop := ∃ n x,A n=some x∧g.i n=some a
structure Stp (g:Sg) (A:AH) (H:Hp) (g':Sg) (A':AH) (H':Hp):Prop where
 le:g.le g'
 kp:∀ a o,H a=some o→¬ Own g A a→H' a=some o
 nw:∀ a,Own g' A' a→Own g A a∨H a=none
 ex:∀ a,H a≠none→H' a≠none
 sn:∀ a o,H a=some o→(∀ vs,o≠.tup vs)→g.S a=none→¬ Own g A a→g'.S a=none
 inw:∀ n a,g'.i n=some a→g.i n=some a∨H a=none
section
variable {K:PySem.W.Frag} {g g' g1 g2:Sg} {A A' A1 A2:AH} {H H' H1 H2:Hp} {a p:Addr} {o:HO} {n:Nat} {x y:Nd}
theorem NdAt.mono (e:g.le g') (h:H' a=H a):NdAt K g H a x→NdAt K g' H' a x := by
 cases x with
 | lst ds=>rintro ⟨vs,h1,h2⟩; exact ⟨vs,h.trans h1,h2.mono e⟩
 | dK ds=>rintro ⟨vs,h1,h2,h3⟩; exact ⟨vs,h.trans h1,h2,h3.mono e⟩
 | dT ds=>rintro ⟨vs,h1,h2,h3⟩; exact ⟨vs,h.trans h1,h2,h3.mono e⟩
 | ins c fs=>rintro ⟨dx,vs,h1,h2,h3⟩; exact ⟨dx,vs,h.trans h1,h2,h3.mono e⟩
 | pool=>rintro ⟨gs,c,sd,n,p,h1,h2,h3⟩; exact ⟨gs,c,sd,n,p,h.trans h1,e.s _ _ h2,h3⟩
 | lkK o us ds=>rintro ⟨h1,h2,h3⟩; exact ⟨h.trans h1,h2,h3.mono e⟩
 | lkT o us ds=>rintro ⟨h1,h2,h3⟩; exact ⟨h.trans h1,h2,h3.mono e⟩
theorem NdAt.some (h:NdAt K g H a x):H a≠none := by
 cases x with
 | lst ds=>obtain ⟨vs,h1,_⟩ := h; rw [h1]; simp
 | dK ds=>obtain ⟨vs,h1,_⟩ := h; rw [h1]; simp
 | dT ds=>obtain ⟨vs,h1,_⟩ := h; rw [h1]; simp
 | ins c fs=>obtain ⟨dx,vs,h1,_⟩ := h; rw [h1]; simp
 | pool=>obtain ⟨gs,c,sd,n,p,h1,_⟩ := h; rw [h1]; simp
 | lkK o us ds=>rw [h.1]; simp
 | lkT o us ds=>rw [h.1]; simp
theorem Stp.refl:Stp g A H g A H := ⟨.refl,fun _ _ h _=>h,fun _ h=>.inl h,fun _ h=>h,fun _ _ _ _ h _=>h,fun _ _ h=>.inl h⟩
theorem Stp.trans (s:Stp g A H g1 A1 H1) (t:Stp g1 A1 H1 g2 A2 H2):Stp g A H g2 A2 H2 := by
 have k:∀ a o,H a=some o→¬ Own g A a→¬ Own g1 A1 a := fun a o h n z=>by
  rcases s.nw a z with z | z
  ·exact n z
  ·rw [h] at z; cases z
 refine ⟨s.le.trans t.le,fun a o h n=>t.kp a o (s.kp a o h n) (k a o h n),fun a h=>?_,fun a h=>t.ex a (s.ex a h),fun a o e n h2 h3=>?_,fun n a h=>?_⟩
 rotate_left
 ·exact t.sn a o (s.kp a o e h3) n (s.sn a o e n h2 h3) (k a o e h3)
 ·rcases t.inw n a h with h | h
  ·exact s.inw n a h
  ·exact .inr (Classical.byContradiction fun z=>s.ex a z h)
 rcases t.nw a h with h | h
 ·exact s.nw a h
 ·cases e:H a with
  | none=>exact .inr rfl
  | some o =>
   refine .inl (Classical.byContradiction fun n=>?_)
   rw [s.kp a o e n] at h; cases h
theorem ex_upd (h:H a≠none):upd H p o a≠none := by
 by_cases e:a=p
 ·subst e; rw [upd_same]; simp
 ·rw [upd_ne e]; exact h
theorem Wr.new (w:Wr K g A H) (np:H p=none):Wr K ⟨upd g.S p o,g.i⟩ A (upd H p o)∧Stp g A H ⟨upd g.S p o,g.i⟩ A (upd H p o) := by
 have le:g.le ⟨upd g.S p o,g.i⟩ := ⟨same_new (w.sub.free np),fun _ _ h=>h⟩
 refine ⟨⟨w.sub.new np,w.inj,fun n a h=>?_,w.fin,fun n x h=>?_⟩,⟨le,fun a u h _=>?_,fun a h=>.inl h,fun a h=>ex_upd h,fun a u h1 _ h2 _=>?_,fun _ _ h=>.inl h⟩⟩
 ·have hn:a≠p := fun e=>w.ex n a h (by rw [e]; exact np)
  rw [upd_ne hn]; exact w.ex n a h
 ·obtain ⟨a,h1,h2,h3⟩ := w.nd n x h
  have hn:a≠p := fun e=>w.ex n a h1 (by rw [e]; exact np)
  exact ⟨a,h1,by show upd g.S p o a=none; rw [upd_ne hn]; exact h2,h3.mono le (upd_ne hn)⟩
 ·rw [upd_ne (ne_of_none h np)]; exact h
 ·show upd g.S p o a=none
  rw [upd_ne (ne_of_none h1 np)]; exact h2
theorem Wr.node (w : Wr K g A H) (np : H p = none) (hx : ∀ g', g.le g' → NdAt K g' (upd H p o) p x) : ∃ n, A n = none ∧ g.i n = none ∧ Wr K ⟨g.S, fun m => if m = n then some p else g.i m⟩ (put A n x) (upd H p o) ∧ Stp g A H ⟨g.S, fun m => if m = n then some p else g.i m⟩ (put A n x) (upd H p o) := by
  obtain ⟨N, hN⟩ := w.fin
  have hi : g.i N = none := hN N (Nat.le_refl _)
  have hA : A N = none := by
    cases e : A N with
    | none => rfl
    | some x => obtain ⟨a, h, _⟩ := w.nd N x e; rw [hi] at h; cases h
  have le : g.le ⟨g.S, fun m => if m = N then some p else g.i m⟩ := ⟨Same.refl _, fun m a h => by
    have : m ≠ N := fun e => by rw [e, hi] at h; cases h
    show (if m = N then some p else g.i m) = some a
    rw [if_neg this]; exact h⟩
  have old : ∀ m a, (if m = N then some p else g.i m) = some a → (m = N ∧ a = p) ∨ (m ≠ N ∧ g.i m = some a ∧ a ≠ p) := fun m a h => by
    by_cases e : m = N
    · rw [if_pos e] at h; exact .inl ⟨e, (Option.some.inj h).symm⟩
    · rw [if_neg e] at h; exact .inr ⟨e, h, fun z => w.ex m a h (by rw [z]; exact np)⟩
  refine ⟨N, hA, hi, ⟨w.sub.set (w.sub.free np), fun n m a h1 h2 => ?_, fun n a h => ?_, ⟨N + 1, fun n h => ?_⟩, fun n y h => ?_⟩, ⟨le, fun a u h _ => ?_, fun a h => ?_, fun a h => ex_upd h, fun _ _ _ _ h _ => h, fun n a h => ?_⟩⟩
  · rcases old n a h1 with ⟨e1, e2⟩ | ⟨e1, e2, e3⟩ <;> rcases old m a h2 with ⟨f1, f2⟩ | ⟨f1, f2, f3⟩
    · rw [e1, f1]
    · exact absurd e2 f3
    · exact absurd f2 e3
    · exact w.inj n m a e2 f2
  · rcases old n a h with ⟨e1, e2⟩ | ⟨e1, e2, e3⟩
    · rw [e2, upd_same]; simp
    · rw [upd_ne e3]; exact w.ex n a e2
  · show (if n = N then some p else g.i n) = none
    rw [if_neg (by omega)]; exact hN n (by omega)
  · by_cases e : n = N
    · subst e
      rw [put_same] at h; cases h
      exact ⟨p, if_pos rfl, w.sub.free np, hx _ le⟩
    · rw [put_ne e] at h
      obtain ⟨a, h1, h2, h3⟩ := w.nd n y h
      have hn : a ≠ p := fun z => w.ex n a h1 (by rw [z]; exact np)
      exact ⟨a, by show (if n = N then some p else g.i n) = some a; rw [if_neg e]; exact h1, h2, h3.mono le (upd_ne hn)⟩
  · rw [upd_ne (ne_of_none h np)]; exact h
  · obtain ⟨m, y, h1, h2⟩ := h
    rcases old m a h2 with ⟨e1, e2⟩ | ⟨e1, e2, e3⟩
    · exact .inr (by rw [e2]; exact np)
    · rw [put_ne e1] at h1; exact .inl ⟨m, y, h1, e2⟩
  · rcases old n a h with ⟨e1, e2⟩ | ⟨e1, e2, e3⟩
    · exact .inr (by rw [e2]; exact np)
    · exact .inl e2
theorem Wr.set (w : Wr K g A H) (ha : g.i n = some a) (hA : A n = some x) (hx : NdAt K g (upd H a o) a y) : Wr K g (put A n y) (upd H a o) ∧ Stp g A H g (put A n y) (upd H a o) := by
  obtain ⟨a', h1, h2, h3⟩ := w.nd n x hA
  rw [ha] at h1; cases h1
  refine ⟨⟨w.sub.set h2, w.inj, fun m b h => ?_, w.fin, fun m z h => ?_⟩, ⟨.refl, fun b u h hn => ?_, fun b h => ?_, fun b h => ex_upd h, fun _ _ _ _ h _ => h, fun _ _ h => .inl h⟩⟩
  · by_cases e : b = a
    · rw [e, upd_same]; simp
    · rw [upd_ne e]; exact w.ex m b h
  · by_cases e : m = n
    · subst e; rw [put_same] at h; cases h; exact ⟨a, ha, h2, hx⟩
    · rw [put_ne e] at h
      obtain ⟨b, q1, q2, q3⟩ := w.nd m z h
      have hb : b ≠ a := fun z => e (w.inj m n a (by rw [← z]; exact q1) ha)
      exact ⟨b, q1, q2, q3.mono .refl (upd_ne hb)⟩
  · rw [upd_ne (fun e => hn ⟨n, x, hA, by rw [e]; exact ha⟩)]; exact h
  · obtain ⟨m, z, h1, h2⟩ := h
    by_cases e : m = n
    · subst e; exact .inl ⟨m, x, hA, h2⟩
    · rw [put_ne e] at h1; exact .inl ⟨m, z, h1, h2⟩
theorem Wr.freeze (w : Wr K g A H) (ha : g.i n = some a) (hA : A n = some x) (ho : H a = some o) : Wr K ⟨upd g.S a o, g.i⟩ (rem A n) H ∧ Stp g A H ⟨upd g.S a o, g.i⟩ (rem A n) H := by
  obtain ⟨a', h1, h2, h3⟩ := w.nd n x hA
  rw [ha] at h1; cases h1
  have le : g.le ⟨upd g.S a o, g.i⟩ := ⟨same_new h2, fun _ _ h => h⟩
  refine ⟨⟨fun b u e => ?_, w.inj, w.ex, w.fin, fun m z h => ?_⟩, ⟨le, fun b u h _ => h, fun b h => ?_, fun _ h => h, fun b u h1 _ h2 h3 => ?_, fun _ _ h => .inl h⟩⟩
  · by_cases hb : b = a
    · subst hb; have e' : upd g.S b o b = some u := e; rw [upd_same] at e'; cases e'; exact ⟨_, ho, .inl rfl⟩
    · have e' : upd g.S a o b = some u := e; rw [upd_ne hb] at e'; exact w.sub b u e'
  · by_cases e : m = n
    · subst e; rw [rem_same] at h; cases h
    · rw [rem_ne e] at h
      obtain ⟨b, q1, q2, q3⟩ := w.nd m z h
      have hb : b ≠ a := fun z => e (w.inj m n a (by rw [← z]; exact q1) ha)
      exact ⟨b, q1, by show upd g.S a o b = none; rw [upd_ne hb]; exact q2, q3.mono le rfl⟩
  · obtain ⟨m, z, h1, h2⟩ := h
    by_cases e : m = n
    · subst e; rw [rem_same] at h1; cases h1
    · rw [rem_ne e] at h1; exact .inl ⟨m, z, h1, h2⟩
  · show upd g.S a o b = none
    rw [upd_ne (fun z => h3 ⟨n, x, hA, by rw [z]; exact ha⟩)]; exact h2
def Les (A' A:AH):Prop := ∀ n x,A' n=some x→A n=some x
theorem Les.refl:Les A A := fun _ _ h=>h
theorem Wr.forget (w:Wr K g A H) (h:Les A' A):Wr K g A' H := ⟨w.sub,w.inj,w.ex,w.fin,fun n x e=>w.nd n x (h n x e)⟩
theorem Stp.forget (s:Stp g A H g1 A1 H1) (h:Les A2 A1):Stp g A H g1 A2 H1 := ⟨s.le,s.kp,fun a ⟨n,x,h1,h2⟩=>s.nw a ⟨n,x,h n x h1,h2⟩,s.ex,s.sn,s.inw⟩
theorem Wr.tmp (w:Wr K g A H) (np:H p=none):Wr K g A (upd H p o)∧Stp g A H g A (upd H p o) := by
 refine ⟨⟨w.sub.set (w.sub.free np),w.inj,fun n a h=>?_,w.fin,fun n x h=>?_⟩,⟨.refl,fun a u h _=>?_,fun a h=>.inl h,fun a h=>ex_upd h,fun _ _ _ _ h _=>h,fun _ _ h=>.inl h⟩⟩
 ·have hn:a≠p := fun e=>w.ex n a h (by rw [e]; exact np)
  rw [upd_ne hn]; exact w.ex n a h
 ·obtain ⟨a,h1,h2,h3⟩ := w.nd n x h
  have hn:a≠p := fun e=>w.ex n a h1 (by rw [e]; exact np)
  exact ⟨a,h1,h2,h3.mono .refl (upd_ne hn)⟩
 ·rw [upd_ne (ne_of_none h np)]; exact h
theorem Wr.own (w:Wr K g A H) (hS:g.S p=none) (hi:∀ n,g.i n≠some p):Wr K g A (upd H p o) := by
 refine ⟨w.sub.set hS,w.inj,fun n a h=>ex_upd (w.ex n a h),w.fin,fun n x h=>?_⟩
 obtain ⟨a,h1,h2,h3⟩ := w.nd n x h
 exact ⟨a,h1,h2,h3.mono .refl (upd_ne fun z=>hi n (by rw [← z]; exact h1))⟩
theorem Stp.put (s:Stp g A H g' A' H') (np:H p=none):Stp g A H g' A' (upd H' p o) :=
 ⟨s.le,fun a u h n=>by rw [upd_ne (ne_of_none h np)]; exact s.kp a u h n,s.nw,fun a h=>ex_upd (s.ex a h),s.sn,s.inw⟩
theorem Stp.beside (s:Stp g A H g' A' H') (hp:H p=some o) (hS:g.S p=none) (hi:∀ n,g.i n≠some p) (ho:∀ vs,o≠.tup vs := by intro _ z; cases z):H' p=some o∧g'.S p=none∧∀ n,g'.i n≠some p := by
 have hn:¬ Own g A p := fun ⟨n,_,_,h⟩=>hi n h
 refine ⟨s.kp p o hp hn,s.sn p o hp ho hS hn,fun n e=>?_⟩
 rcases s.inw n p e with h | h
 ·exact hi n h
 ·rw [hp] at h; cases h
end
end Am
namespace Am
open PySem PySem.Spec PyProof.Rows L2
open Fm (same_new rEqP rNeP rInP rCatR rAddA rSlA rIsNA rListOf rTupOf rAllA rLenA rInt1)
structure Xc where
 c:Str
 fs:List (Str × D)
abbrev Sl := List (Option D)
abbrev QE := D→AH→Prop
abbrev QX := Xc→AH→Prop
abbrev ME := Sl→AH→QE→QX→Prop
abbrev MT := Sl→AH→(Bool→AH→Prop)→QX→Prop
abbrev MA := Sl→AH→(List D→AH→Prop)→QX→Prop
def RepX (K:PySem.W.Frag) (g:Sg) (cls:Value) (dd:Option Addr) (x:Xc):Prop := cls = .ref (He.ga K x.c)∧((∃ a fvs,dd=some a∧g.S a=some (.xd fvs)∧fvs.map (·.1)=x.fs.map (·.1)∧Reps K g (fvs.map (·.2)) (x.fs.map (·.2)))∨(dd=none∧x.fs=[]))
structure RepS (K:PySem.W.Frag) (g:Sg) (σ:L2.St) (s:Sl):Prop where
 len:σ.length=s.length
 at_:∀ (i:Nat) (d:D),s[i]? = some (some d)→∃ v,σ[i]? = some (some v)∧Rep K g v d
theorem RepS.mono {K:PySem.W.Frag} {g g':Sg} {σ:L2.St} {s:Sl} (e:g.le g') (h:RepS K g σ s):RepS K g' σ s := ⟨h.len,fun i d q=>by
 obtain ⟨v,h1,h2⟩ := h.at_ i d q
 exact ⟨v,h1,h2.mono e⟩⟩
theorem RepS.set {K:PySem.W.Frag} {g:Sg} {σ:L2.St} {s:Sl} {i:Nat} {v:V} {d:D} (h:RepS K g σ s) (r:Rep K g v d):RepS K g (σ.set i (some v)) (s.set i (some d)) := by
 refine ⟨by rw [List.length_set,List.length_set]; exact h.len,fun j e q=>?_⟩
 rw [List.getElem?_set] at q ⊢
 by_cases hj:i=j
 ·subst hj
  rw [if_pos rfl] at q ⊢
  by_cases hl:i < s.length
  ·rw [if_pos hl] at q
   cases q
   rw [if_pos (by rw [h.len]; exact hl)]
   exact ⟨v,rfl,r⟩
  ·rw [if_neg hl] at q; cases q
 ·rw [if_neg hj] at q ⊢
  exact h.at_ j e q
theorem RepS.unset {K:PySem.W.Frag} {g:Sg} {σ:L2.St} {s:Sl} {i:Nat} {v:Option V} (h:RepS K g σ s):RepS K g (σ.set i v) (s.set i none) := by
 refine ⟨by rw [List.length_set,List.length_set]; exact h.len,fun j e q=>?_⟩
 rw [List.getElem?_set] at q ⊢
 by_cases hj:i=j
 ·subst hj
  rw [if_pos rfl] at q
  by_cases hl:i < s.length
  ·rw [if_pos hl] at q; cases q
  ·rw [if_neg hl] at q; cases q
 ·rw [if_neg hj] at q ⊢
  exact h.at_ j e q
def Post (K:PySem.W.Frag) (g:Sg) (A:AH) (H:Hp) (Qa:QE) (Q:VK):Prop := ∀ g' A' H' v d,Stp g A H g' A' H'→Wr K g' A' H'→Rep K g' v d→Qa d A'→Q v H'
def PostX (K:PySem.W.Frag) (g:Sg) (A:AH) (H:Hp) (Ea:QX) (W:Value→Option Addr→Hp→Prop):Prop := ∀ g' A' H' x cls dd,Stp g A H g' A' H'→Wr K g' A' H'→RepX K g' cls dd x→Ea x A'→W cls dd H'
section
variable {K:PySem.W.Frag} {g g1:Sg} {A A1:AH} {H H1:Hp} {Qa:QE} {Q:VK} {Ea:QX} {W:Value→Option Addr→Hp→Prop} {v:V} {d:D}
theorem Post.now (q:Post K g A H Qa Q) (w:Wr K g A H) (r:Rep K g v d) (h:Qa d A):Q v H := q g A H v d .refl w r h
theorem Post.step (q:Post K g A H Qa Q) (s:Stp g A H g1 A1 H1):Post K g1 A1 H1 Qa Q := fun g' A' H' v d s' w r h=>q g' A' H' v d (s.trans s') w r h
theorem PostX.step (q:PostX K g A H Ea W) (s:Stp g A H g1 A1 H1):PostX K g1 A1 H1 Ea W := fun g' A' H' x c d s' w r h=>q g' A' H' x c d (s.trans s') w r h
end
def cE (K:PySem.W.Frag) (W:WX) (m:ME):TE := fun σ H Q=>∃ g s A Qa Ea,Wr K g A H∧RepS K g σ s∧m s A Qa Ea∧Post K g A H Qa Q∧PostX K g A H Ea (fun c d H'=>W c d σ H')
def cT (K:PySem.W.Frag) (W:WX) (m:MT):TT := fun σ H Q=>∃ g s A Qa Ea,Wr K g A H∧RepS K g σ s∧m s A Qa Ea∧(∀ g' A' H' b,Stp g A H g' A' H'→Wr K g' A' H'→Qa b A'→Q b H')∧PostX K g A H Ea (fun c d H'=>W c d σ H')
def cA (K:PySem.W.Frag) (W:WX) (m:MA):TA := fun σ H Q=>∃ g s A Qa Ea,Wr K g A H∧RepS K g σ s∧m s A Qa Ea∧(∀ g' A' H' vs ds,Stp g A H g' A' H'→Wr K g' A' H'→Reps K g' vs ds→Qa ds A'→Q vs H')∧PostX K g A H Ea (fun c d H'=>W c d σ H')
abbrev WF:WX := fun _ _ _ _=>False
section
variable {X:Cx} {e a b c:Expr} {W:WX} {m ma mb mc:ME} {t t':TE} {pos:Pos}
theorem PE.weak (h:PE X e t) (k:∀ σ H Q,t' σ H Q→t σ H Q):PE X e t' := ⟨fun pins s σ H Q I q=>h.run pins s σ H Q I (k σ H Q q)⟩
theorem PT.weak {t t':TT} (h:PT X e t) (k:∀ σ H Q,t' σ H Q→t σ H Q):PT X e t' := ⟨fun pins s σ H Q I q=>h.run pins s σ H Q I (k σ H Q q)⟩
theorem PA.weak {es:List Expr} {t t':TA} (h:PA X es t) (k:∀ σ H Q,t' σ H Q→t σ H Q):PA X es t' := ⟨fun pos pins s σ H Q I q=>h.run pos pins s σ H Q I (k σ H Q q)⟩
def mVar (i:Nat):ME := fun s A Q _=>∃ d,s[i]? = some (some d)∧Q d A
def mC (d:D):ME := fun _ A Q _=>Q d A
theorem ae_var {i:Nat} (h:PE X e (tVar i)):PE X e (cE X.K W (mVar i)) := PE.weak h fun σ H Q ⟨g,s,A,Qa,Ea,w,r,⟨d,h1,h2⟩,q,_⟩=>by
 obtain ⟨v,h3,h4⟩ := r.at_ i d h1
 exact ⟨v,h3,q.now w h4 h2⟩
theorem ae_c {v:V} {d:D} (hd:∀ g,Rep X.K g v d) (h:PE X e (tC v)):PE X e (cE X.K W (mC d)) := PE.weak h fun σ H Q ⟨g,s,A,Qa,Ea,w,r,h1,q,_⟩=>q.now w (hd g) h1
abbrev F2 := D→D→AH→QE→Prop
abbrev F1 := D→AH→QE→Prop
def OpS (K:PySem.W.Frag) (r:R2) (f:F2):Prop := ∀ g A H x y dx dy Qa Q,Wr K g A H→Rep K g x dx→Rep K g y dy→f dx dy A Qa→Post K g A H Qa Q→r x y H Q
def UnS (K:PySem.W.Frag) (r:V→Hp→VK→Prop) (f:F1):Prop := ∀ g A H x dx Qa Q,Wr K g A H→Rep K g x dx→f dx A Qa→Post K g A H Qa Q→r x H Q
def CallS (K:PySem.W.Frag) (r:List V→Hp→VK→Prop) (f:List D→AH→QE→Prop):Prop := ∀ g A H xs ds Qa Q,Wr K g A H→Reps K g xs ds→f ds A Qa→Post K g A H Qa Q→r xs H Q
def mOp (f:F2) (ma mb:ME):ME := fun s A Q E=>ma s A (fun x A1=>mb s A1 (fun y A2=>f x y A2 Q) E) E
def mUn (f:F1) (ma:ME):ME := fun s A Q E=>ma s A (fun x A1=>f x A1 Q) E
theorem c_op {K:PySem.W.Frag} {r:R2} {f:F2} (os:OpS K r f):∀ σ H Q,cE K W (mOp f ma mb) σ H Q→tOp r (cE K W ma) (cE K W mb) σ H Q := fun σ H Q ⟨g,s,A,Qa,Ea,w,r,h,q,qx⟩ =>
 ⟨g,s,A,_,Ea,w,r,h,fun g1 A1 H1 x dx st1 w1 rx h1=>⟨g1,s,A1,_,Ea,w1,r.mono st1.le,h1,fun g2 A2 H2 y dy st2 w2 ry h2=>os g2 A2 H2 x y dx dy Qa Q w2 (rx.mono st2.le) ry h2 (q.step (st1.trans st2)),qx.step st1⟩,qx⟩
theorem c_un {K:PySem.W.Frag} {r:V→Hp→VK→Prop} {f:F1} (os:UnS K r f):∀ σ H Q,cE K W (mUn f ma) σ H Q→tUn r (cE K W ma) σ H Q := fun σ H Q ⟨g,s,A,Qa,Ea,w,r,h,q,qx⟩ =>
 ⟨g,s,A,_,Ea,w,r,h,fun g1 A1 H1 x dx st1 w1 rx h1=>os g1 A1 H1 x dx Qa Q w1 rx h1 (q.step st1),qx⟩
theorem ae_op {op:Operator} {r:R2} {f:F2} (ho:OpR X (binaryOp op) r) (os:OpS X.K r f) (ha:PE X a (cE X.K W ma)) (hb:PE X b (cE X.K W mb)):PE X (.BinOp a op b pos) (cE X.K W (mOp f ma mb)) := PE.weak (pe_op ho ha hb) (c_op os)
theorem ae_un {op:UnaryOp} {r:V→Hp→VK→Prop} {f:F1} (ho:UnR X (unaryOp op) r) (os:UnS X.K r f) (ha:PE X a (cE X.K W ma)):PE X (.UnaryOp op a pos) (cE X.K W (mUn f ma)) := PE.weak (pe_un ho ha) (c_un os)
theorem ae_cmp {op:CmpOp} {r:R2} {f:F2} (ho:OpR X (compareOp op) r) (os:OpS X.K r f) (ha:PE X a (cE X.K W ma)) (hb:PE X b (cE X.K W mb)) (hm:behindInMarks op b=false):PE X (.Compare a [op] [b] pos) (cE X.K W (mOp f ma mb)) := PE.weak (pe_cmpR ho ha hb hm) (c_op os)
def mB (m:ME):MT := fun s A Q E=>m s A (fun d A1=>∃ b,d = .bl b∧Q b A1) E
theorem c_tB {K:PySem.W.Frag}:∀ σ H Q,cT K W (mB m) σ H Q→tB (cE K W m) σ H Q := fun σ H Q ⟨g,s,A,Qa,Ea,w,r,h,q,qx⟩ =>
 ⟨g,s,A,_,Ea,w,r,h,fun g1 A1 H1 x dx st1 w1 rx ⟨b,e,h1⟩=>⟨b,by rw [e] at rx; exact rx.bl_,q g1 A1 H1 b st1 w1 h1⟩,qx⟩
theorem c_tTest {K:PySem.W.Frag}:∀ σ H Q,cT K W (mB m) σ H Q→tTest (cE K W m) σ H Q := fun σ H Q ⟨g,s,A,Qa,Ea,w,r,h,q,qx⟩ =>
 ⟨g,s,A,_,Ea,w,r,h,fun g1 A1 H1 x dx st1 w1 rx ⟨b,e,h1⟩=>⟨b,by rw [e] at rx; exact rx.bl_,q g1 A1 H1 b st1 w1 h1⟩,qx⟩
theorem at_val (h:PE X e (cE X.K W m)) (he:∀ whole,isTrue e X.env whole=(do let v ← whole; standAt e.pos; holding [v] (truthy v)) := by intro _; rfl):PT X e (cT X.K W (mB m)) := PT.weak (pt_val h he) c_tB
theorem tTest_mono {t t':TE} (k:∀ σ H Q,t' σ H Q→t σ H Q):∀ σ H Q,tTest t' σ H Q→tTest t σ H Q := fun σ H Q h=>k σ H _ h
theorem at_cmp {op:CmpOp} {r:R2} {f:F2} (ho:OpR X (compareOp op) r) (os:OpS X.K r f) (ha:PE X a (cE X.K W ma)) (hb:PE X b (cE X.K W mb)) (hm:behindInMarks op b=false):PT X (.Compare a [op] [b] pos) (cT X.K W (mB (mOp f ma mb))) :=
 PT.weak (pt_cmpR ho ha hb hm) fun σ H Q h=>tTest_mono (c_op os) σ H Q (c_tTest σ H Q h)
def mChain (f f':F2) (ma mb mc:ME):ME := fun s A Q E=>ma s A (fun x A1=>mb s A1 (fun y A2=>f x y A2 fun z A3=>∃ k,z = .bl k∧(if k=true then mc s A3 (fun w A4=>f' y w A4 Q) E else Q (.bl false) A3)) E) E
theorem c_chain {K:PySem.W.Frag} {r r':R2} {f f':F2} (os:OpS K r f) (os':OpS K r' f'):∀ σ H Q,cE K W (mChain f f' ma mb mc) σ H Q→tChain r r' (cE K W ma) (cE K W mb) (cE K W mc) σ H Q := fun σ H Q ⟨g,s,A,Qa,Ea,w,r,h,q,qx⟩ =>
 ⟨g,s,A,_,Ea,w,r,h,fun g1 A1 H1 x dx st1 w1 rx h1=>⟨g1,s,A1,_,Ea,w1,r.mono st1.le,h1,fun g2 A2 H2 y dy st2 w2 ry h2=>os g2 A2 H2 x y dx dy _ _ w2 (rx.mono st2.le) ry h2 fun g3 A3 H3 z dz st3 w3 rz ⟨k,ek,h3⟩=>⟨k,by rw [ek] at rz; exact rz.bl_,by
  have st := (st1.trans st2).trans st3
  cases k with
  | true=>exact iteT ⟨g3,s,A3,_,Ea,w3,r.mono st.le,h3,fun g4 A4 H4 u du st4 w4 ru h4=>os' g4 A4 H4 y u dy du Qa Q w4 (ry.mono (st3.trans st4).le) ru h4 (q.step (st.trans st4)),qx.step st⟩
  | false=>exact iteF (q _ _ _ _ _ st w3 (.bl false) h3)⟩,qx.step st1⟩,qx⟩
theorem ae_chain {op op':CmpOp} {r r':R2} {f f':F2} (ho:OpR X (compareOp op) r) (ho':OpR X (compareOp op') r') (os:OpS X.K r f) (os':OpS X.K r' f') (ha:PE X a (cE X.K W ma)) (hb:PE X b (cE X.K W mb)) (hc:PE X c (cE X.K W mc)) (hm:lastMarks [op,op'] [b,c]=false := by with_unfolding_all rfl):PE X (.Compare a [op,op'] [b,c] pos) (cE X.K W (mChain f f' ma mb mc)) := PE.weak (pe_chain ho ho' ha hb hc hm) (c_chain os os')
theorem at_chain {op op':CmpOp} {r r':R2} {f f':F2} (ho:OpR X (compareOp op) r) (ho':OpR X (compareOp op') r') (os:OpS X.K r f) (os':OpS X.K r' f') (ha:PE X a (cE X.K W ma)) (hb:PE X b (cE X.K W mb)) (hc:PE X c (cE X.K W mc)) (hm:lastMarks [op,op'] [b,c]=false := by with_unfolding_all rfl):PT X (.Compare a [op,op'] [b,c] pos) (cT X.K W (mB (mChain f f' ma mb mc))) :=
 PT.weak (pt_chain ho ho' ha hb hc hm) fun σ H Q h=>tTest_mono (c_chain os os') σ H Q (c_tTest σ H Q h)
def mAnd (t u:MT):MT := fun s A Q E=>t s A (fun b A1=>if b=true then u s A1 Q E else Q false A1) E
def mOr (t u:MT):MT := fun s A Q E=>t s A (fun b A1=>if b=true then Q true A1 else u s A1 Q E) E
def mNot (t:MT):MT := fun s A Q E=>t s A (fun b A1=>Q (!b) A1) E
section
variable {K:PySem.W.Frag} {t u:MT}
theorem c_and:∀ σ H Q,cT K W (mAnd t u) σ H Q→tAnd (cT K W t) (cT K W u) σ H Q := fun σ H Q ⟨g,s,A,Qa,Ea,w,r,h,q,qx⟩ =>
 ⟨g,s,A,_,Ea,w,r,h,fun g1 A1 H1 b st1 w1 h1=>by
  cases b with
  | true=>exact iteT ⟨g1,s,A1,Qa,Ea,w1,r.mono st1.le,h1,fun g2 A2 H2 b st2 w2 h2=>q g2 A2 H2 b (st1.trans st2) w2 h2,qx.step st1⟩
  | false=>exact iteF (q g1 A1 H1 false st1 w1 h1),qx⟩
theorem c_or:∀ σ H Q,cT K W (mOr t u) σ H Q→tOr (cT K W t) (cT K W u) σ H Q := fun σ H Q ⟨g,s,A,Qa,Ea,w,r,h,q,qx⟩ =>
 ⟨g,s,A,_,Ea,w,r,h,fun g1 A1 H1 b st1 w1 h1=>by
  cases b with
  | true=>exact iteT (q g1 A1 H1 true st1 w1 h1)
  | false=>exact iteF ⟨g1,s,A1,Qa,Ea,w1,r.mono st1.le,h1,fun g2 A2 H2 b st2 w2 h2=>q g2 A2 H2 b (st1.trans st2) w2 h2,qx.step st1⟩,qx⟩
theorem c_not:∀ σ H Q,cT K W (mNot t) σ H Q→tNot (cT K W t) σ H Q := fun σ H Q ⟨g,s,A,Qa,Ea,w,r,h,q,qx⟩ =>
 ⟨g,s,A,_,Ea,w,r,h,fun g1 A1 H1 b st1 w1 h1=>q g1 A1 H1 (!b) st1 w1 h1,qx⟩
end
theorem PW.weak {t t':TT} (h:PW X e t) (k:∀ σ H Q,t' σ H Q→t σ H Q):PW X e t' := ⟨fun wh pins s σ H Q I q=>h.run wh pins s σ H Q I (k σ H Q q)⟩
section
variable {t u:MT} {rest:List Expr}
theorem aw_and (ha:PT X a (cT X.K W t)) (hb:PW X (.BoolOp .And (b :: rest) pos) (cT X.K W u)):PW X (.BoolOp .And (a :: b :: rest) pos) (cT X.K W (mAnd t u)) := PW.weak (pw_and ha hb) c_and
theorem aw_or (ha:PT X a (cT X.K W t)) (hb:PW X (.BoolOp .Or (b :: rest) pos) (cT X.K W u)):PW X (.BoolOp .Or (a :: b :: rest) pos) (cT X.K W (mOr t u)) := PW.weak (pw_or ha hb) c_or
theorem at_not (ha:PT X a (cT X.K W t)):PT X (.UnaryOp .Not a pos) (cT X.K W (mNot t)) := PT.weak (pt_not ha) c_not
end
def mAndV (ma mb:ME):ME := fun s A Q E=>ma s A (fun x A1=>∃ c,x = .bl c∧if c=true then mb s A1 Q E else Q (.bl false) A1) E
def mIf (t:MT) (ma mb:ME):ME := fun s A Q E=>t s A (fun b A1=>if b=true then ma s A1 Q E else mb s A1 Q E) E
section
variable {rest:List Expr} {t:MT}
theorem ae_and (ha:PE X a (cE X.K W ma)) (hb:PE X (.BoolOp .And (b :: rest) pos) (cE X.K W mb)):PE X (.BoolOp .And (a :: b :: rest) pos) (cE X.K W (mAndV ma mb)) := PE.weak (pe_and ha hb) fun σ H Q ⟨g,s,A,Qa,Ea,w,r,h,q,qx⟩ =>
 ⟨g,s,A,_,Ea,w,r,h,fun g1 A1 H1 x dx st1 w1 rx ⟨k,ek,h1⟩=>⟨k,by rw [ek] at rx; exact rx.bl_,by
  cases k with
  | true=>exact iteT ⟨g1,s,A1,Qa,Ea,w1,r.mono st1.le,h1,q.step st1,qx.step st1⟩
  | false=>exact iteF (q _ _ _ _ _ st1 w1 (.bl false) h1)⟩,qx⟩
theorem ae_ifExp (hc:PT X c (cT X.K W t)) (ha:PE X a (cE X.K W ma)) (hb:PE X b (cE X.K W mb)):PE X (.IfExp c a b pos) (cE X.K W (mIf t ma mb)) := PE.weak (pe_ifExp hc ha hb) fun σ H Q ⟨g,s,A,Qa,Ea,w,r,h,q,qx⟩ =>
 ⟨g,s,A,_,Ea,w,r,h,fun g1 A1 H1 k st1 w1 h1=>by
  cases k with
  | true=>exact iteT ⟨g1,s,A1,Qa,Ea,w1,r.mono st1.le,h1,q.step st1,qx.step st1⟩
  | false=>exact iteF ⟨g1,s,A1,Qa,Ea,w1,r.mono st1.le,h1,q.step st1,qx.step st1⟩,qx⟩
end
def mNil:MA := fun _ A Q _=>Q [] A
def mCons (m:ME) (r:MA):MA := fun s A Q E=>m s A (fun x A1=>r s A1 (fun xs A2=>Q (x :: xs) A2) E) E
theorem aa_nil:PA X [] (cA X.K W mNil) := PA.weak pa_nil fun σ H Q ⟨g,s,A,Qa,Ea,w,r,h,q,qx⟩=>q g A H [] [] .refl w .nil h
theorem aa_cons {es:List Expr} {mr:MA} (he:PE X e (cE X.K W m)) (hs:PA X es (cA X.K W mr)) (h1:starEach (e :: es) X.env=(false,eval e X.env) :: starEach es X.env := by rfl):PA X (e :: es) (cA X.K W (mCons m mr)) := PA.weak (pa_cons he hs h1) fun σ H Q ⟨g,s,A,Qa,Ea,w,r,h,q,qx⟩ =>
 ⟨g,s,A,_,Ea,w,r,h,fun g1 A1 H1 x dx st1 w1 rx h1=>⟨g1,s,A1,_,Ea,w1,r.mono st1.le,h1,fun g2 A2 H2 xs ds st2 w2 rs h2=>q g2 A2 H2 _ _ (st1.trans st2) w2 (.cons (rx.mono st2.le) rs) h2,qx.step st1⟩,qx⟩
def itL (A:AH):D→Option (List D)
 | .lst xs=>some xs
 | .ref n=>match A n with
  | some (.lst xs)=>some xs
  | _=>none
 | _=>none
def itS (A:AH):D→Option (List D)
 | .tup xs=>some xs
 | .ktup xs=>some xs
 | d=>itL A d
theorem Wr.getL {K:PySem.W.Frag} {g:Sg} {A:AH} {H:Hp} {v:V} {d:D} {xs:List D} (w:Wr K g A H) (r:Rep K g v d) (h:itL A d=some xs):∃ a vs,v = .ref a∧Rd H a (.lst vs)∧Reps K g vs xs := by
 cases r with
 | lst h1 h2=>cases h; exact ⟨_,_,rfl,w.sub.rd h1,h2⟩
 | ref h1 =>
  rename_i a n
  unfold itL at h
  simp only at h
  split at h
  ·rename_i ys e
   cases h
   obtain ⟨b,q1,q2,vs,q3,q4⟩ := w.nd n _ e
   rw [h1] at q1; cases q1
   exact ⟨a,vs,rfl, .inl q3,q4⟩
  ·cases h
 | _=>cases h
theorem Wr.getS {K:PySem.W.Frag} {g:Sg} {A:AH} {H:Hp} {v:V} {d:D} {xs:List D} (w:Wr K g A H) (r:Rep K g v d) (h:itS A d=some xs):∃ a vs,v = .ref a∧(SqL K H a vs∨SqT K H a vs)∧Reps K g vs xs := by
 cases r with
 | tup h1 h2=>cases h; exact ⟨_,_,rfl, .inr (w.sub.sqt (.inl (.inl h1))),h2⟩
 | ktup h1 h2=>cases h; exact ⟨_,_,rfl, .inr (w.sub.sqt h1),h2⟩
 | lst h1 h2=>obtain ⟨a,vs,h3,h4,h5⟩ := w.getL (.lst h1 h2) h; exact ⟨a,vs,h3, .inl (.inl h4),h5⟩
 | ref h1=>obtain ⟨a,vs,h3,h4,h5⟩ := w.getL (.ref h1) h; exact ⟨a,vs,h3, .inl (.inl h4),h5⟩
 | _=>cases h
def mTup (r:MA):ME := fun s A Q E=>r s A (fun ds A1=>ds.length≤sizeLine∧Q (.tup ds) A1) E
def mLst (r:MA):ME := fun s A Q E=>r s A (fun ds A1=>ds.length≤sizeLine∧Q (.lst ds) A1) E
def newL (ds:List D) (A:AH) (Q:QE):Prop := ∀ n,A n=none→Q (.ref n) (put A n (.lst ds))
def mLstM (r:MA):ME := fun s A Q E=>r s A (fun ds A1=>ds.length≤sizeLine∧newL ds A1 Q) E
section
variable {es:List Expr} {mr:MA}
theorem ae_tup {k:Nat} (h:PA X es (cA X.K W mr)):PE X (.Tuple es k pos) (cE X.K W (mTup mr)) := PE.weak (pe_tup h) fun σ H Q ⟨g,s,A,Qa,Ea,w,r,h,q,qx⟩ =>
 ⟨g,s,A,_,Ea,w,r,h,fun g1 A1 H1 xs ds st1 w1 rs ⟨hl,h1⟩=>⟨by rw [rs.len]; exact hl,fun p np=>by
  obtain ⟨w2,st2⟩ := w1.new (o := .tup xs) np
  exact q _ _ _ _ _ (st1.trans st2) w2 (.tup upd_same (rs.mono st2.le)) h1⟩,qx⟩
theorem ae_lst (h:PA X es (cA X.K W mr)):PE X (.List es pos) (cE X.K W (mLst mr)) := PE.weak (pe_lst h) fun σ H Q ⟨g,s,A,Qa,Ea,w,r,h,q,qx⟩ =>
 ⟨g,s,A,_,Ea,w,r,h,fun g1 A1 H1 xs ds st1 w1 rs ⟨hl,h1⟩=>⟨by rw [rs.len]; exact hl,fun p np=>by
  obtain ⟨w2,st2⟩ := w1.new (o := .lst xs) np
  exact q _ _ _ _ _ (st1.trans st2) w2 (.lst (.inl upd_same) (rs.mono st2.le)) h1⟩,qx⟩
end
theorem newL_ok {K:PySem.W.Frag} {g:Sg} {A:AH} {H:Hp} {p:Addr} {vs:List V} {ds:List D} {Qa:QE} {Q:VK} (w:Wr K g A H) (np:H p=none) (r:Reps K g vs ds) (h:newL ds A Qa) (q:Post K g A H Qa Q):Q (.ref p) (upd H p (.lst vs)) := by
 obtain ⟨n,h1,h2,w2,st2⟩ := w.node (o := .lst vs) (x := .lst ds) np fun g' e=>⟨vs,upd_same,r.mono e⟩
 exact q _ _ _ _ _ st2 w2 (.ref (if_pos rfl)) (h n h1)
theorem ae_lstM {es:List Expr} {mr:MA} (h:PA X es (cA X.K W mr)):PE X (.List es pos) (cE X.K W (mLstM mr)) := PE.weak (pe_lst h) fun σ H Q ⟨g,s,A,Qa,Ea,w,r,h,q,qx⟩ =>
 ⟨g,s,A,_,Ea,w,r,h,fun g1 A1 H1 xs ds st1 w1 rs ⟨hl,h1⟩=>⟨by rw [rs.len]; exact hl,fun p np=>newL_ok w1 np rs h1 (q.step st1)⟩,qx⟩
end
end Am
namespace Am
open PySem PySem.Spec PyProof.Rows L2
open Fm (same_new rEqP rNeP rInP rCatR rAddA rSlA rIsNA rListOf rTupOf rAllA rLenA rInt1 rSubI rMulA rDivA rModA rPowA rLeA rGtA rGeA rNegA rJoinA)
section
variable {K:PySem.W.Frag} {g:Sg} {A:AH} {H:Hp} {v:V} {d:D}
def fI (C:Int→Int→Prop) (h:Int→Int→D):F2 := fun x y A Q=>∃ i j,x = .int i∧y = .int j∧C i j∧Q (h i j) A
def fI0 (h:Int→Int→D):F2 := fun x y A Q=>∃ i j,x = .int i∧y = .int j∧Q (h i j) A
theorem os_I0 {hV:Int→Int→V} {h:Int→Int→D} (r:∀ g i j,Rep K g (hV i j) (h i j)):OpS K (rI0 hV) (fI0 h) := fun g A H x y dx dy Qa Q w rx ry ⟨i,j,e1,e2,q⟩ p=>by
 subst e1; subst e2
 exact ⟨i,j,rx.int_,ry.int_,p.now w (r g i j) q⟩
def fSub:F2 := fI0 fun i j=>.int (i - j)
def fLe:F2 := fI0 fun i j=>.bl (decide (i≤j))
def fGt:F2 := fI0 fun i j=>.bl (decide (j < i))
theorem os_sub:OpS K rSubI fSub := os_I0 fun _ _ _=>.int _
theorem os_le:OpS K rLeA fLe := os_I0 fun _ _ _=>.bl _
theorem os_gt:OpS K rGtA fGt := os_I0 fun _ _ _=>.bl _
def fNeg:F1 := fun x A Q=>∃ i,x = .int i∧Q (.int (-i)) A
theorem us_neg:UnS K rNegA fNeg := fun g A H x dx Qa Q w rx ⟨i,e,q⟩ p=>by
 subst e
 exact ⟨i,rx.int_,p.now w (.int _) q⟩
def fAddG (cat:List D→AH→QE→Prop):F2 := fun x y A Q=>match x with
 | .int i=>∃ j,y = .int j∧Q (.int (i + j)) A
 | .str a=>∃ b,y = .str b∧a.length + b.length≤sizeLine∧Q (.str (a ++ b)) A
 | x=>∃ xs ys,itL A x=some xs∧itL A y=some ys∧xs.length + ys.length≤sizeLine∧cat (xs ++ ys) A Q
def oldL (ds:List D) (A:AH) (Q:QE):Prop := Q (.lst ds) A
def MkL (K:PySem.W.Frag) (f:List D→AH→QE→Prop):Prop := ∀ g A H p vs ds Qa Q,Wr K g A H→H p=none→Reps K g vs ds→f ds A Qa→Post K g A H Qa Q→Q (.ref p) (upd H p (.lst vs))
theorem mk_old:MkL K oldL := fun g A H p vs ds Qa Q w np r h q=>by
 obtain ⟨w2,st2⟩ := w.new (o := .lst vs) np
 exact q _ _ _ _ _ st2 w2 (.lst (.inl upd_same) (r.mono st2.le)) h
theorem mk_new:MkL K newL := fun g A H p vs ds Qa Q w np r h q=>newL_ok w np r h q
def fAdd:F2 := fAddG oldL
theorem os_addG {cat:List D→AH→QE→Prop} (mk:MkL K cat):OpS K (rAddA) (fAddG cat) := fun g A H x y dx dy Qa Q w rx ry h p=>by
 have fin:(∃ xs ys,itL A dx=some xs∧itL A dy=some ys∧xs.length + ys.length≤sizeLine∧cat (xs ++ ys) A Qa)→rAddA x y H Q := fun ⟨xs,ys,e1,e2,hl,q⟩=>by
  obtain ⟨a,vs,rfl,h1,h2⟩ := w.getL rx e1
  obtain ⟨b,us,rfl,h3,h4⟩ := w.getL ry e2
  exact .inr (.inr ⟨a,b,vs,us,rfl,rfl,h1,h3,by rw [h2.len,h4.len]; exact hl,fun q' nq=>mk g A H q' _ _ Qa Q w nq (h2.app h4) q p⟩)
 cases dx with
 | int i=>obtain ⟨j,e,q⟩ := h; subst e; exact .inl ⟨i,j,rx.int_,ry.int_,p.now w (.int _) q⟩
 | str i=>obtain ⟨j,e,hl,q⟩ := h; subst e; exact .inr (.inl ⟨i,j,rx.str_,ry.str_,hl,p.now w (.str _) q⟩)
 | _=>exact fin h
theorem os_add:OpS K (rAddA) fAdd := os_addG mk_old
mutual
def toP:D→Option PyData
 | .non=>some .none
 | .bl b=>some (.bool b)
 | .int i=>some (.int i)
 | .str x=>some (.str x)
 | .tup xs=>(toPs xs).map .tuple
 | .ktup xs=>(toPs xs).map .tuple
 | .lst xs=>(toPs xs).map .list
 | _=>none
def toPs:List D→Option (List PyData)
 | []=>some []
 | x :: xs=>(toP x).bind fun p=>(toPs xs).map fun ps=>p :: ps
end
def toPA (A:AH):D→Option PyData
 | .ref n=>match A n with
  | some (.lst xs)=>(toPs xs).map .list
  | _=>none
 | d=>toP d
mutual
theorem Rep.dp (s:Sub g.S H):∀ {v:V} {d:D} {p:PyData},Rep K g v d→toP d=some p→Dp K H v p
 | _,_,_, .non,e=>by cases e; exact .non
 | _,_,_, .bl b,e=>by cases e; exact .bl b
 | _,_,_, .int b,e=>by cases e; exact .int b
 | _,_,_, .str b,e=>by cases e; exact .str b
 | _,_,_, .ty b,e=>by cases e
 | _,_,_, .cls b,e=>by cases e
 | _,_,_, .tup (ds := ds) h r,e=>by
  unfold toP at e
  cases q:toPs ds with
  | none=>rw [q] at e; cases e
  | some ps=>rw [q] at e; cases e; exact .tup (s.sqt (.inl (.inl h))) (Reps.dp s r q)
 | _,_,_, .ktup (ds := ds) h r,e=>by
  unfold toP at e
  cases q:toPs ds with
  | none=>rw [q] at e; cases e
  | some ps=>rw [q] at e; cases e; exact .tup (s.sqt h) (Reps.dp s r q)
 | _,_,_, .lst (ds := ds) h r,e=>by
  unfold toP at e
  cases q:toPs ds with
  | none=>rw [q] at e; cases e
  | some ps=>rw [q] at e; cases e; exact .lst (.inl (s.rd h)) (Reps.dp s r q)
 | _,_,_, .dK _ _ _,e=>by cases e
 | _,_,_, .dT _ _ _,e=>by cases e
 | _,_,_, .ins _ _ _,e=>by cases e
 | _,_,_, .exn _ _ _,e=>by cases e
 | _,_,_, .scr _,e=>by cases e
 | _,_,_, .ref _,e=>by cases e
theorem Reps.dp (s:Sub g.S H):∀ {vs:List V} {ds:List D} {ps:List PyData},Reps K g vs ds→toPs ds=some ps→DpAll K H vs ps
 | _,_,_, .nil,e=>by cases e; exact .nil
 | _,_,_, .cons (d := d) (ds := ds) h r,e=>by
  unfold toPs at e
  cases q:toP d with
  | none=>rw [q] at e; cases e
  | some p =>
   rw [q] at e
   cases q2:toPs ds with
   | none=>rw [q2] at e; cases e
   | some ps=>rw [q2] at e; cases e; exact .cons (Rep.dp s h q) (Reps.dp s r q2)
end
theorem Wr.dp {p:PyData} (w:Wr K g A H) (r:Rep K g v d) (h:toPA A d=some p):Dp K H v p := by
 cases d with
 | ref n =>
  unfold toPA at h
  simp only at h
  split at h
  ·rename_i xs e
   obtain ⟨a,vs,rfl,h1,h2⟩ := w.getL (xs := xs) r (by unfold itL; simp only [e])
   cases q:toPs xs with
   | none=>rw [q] at h; cases h
   | some ps=>rw [q] at h; cases h; exact .lst (.inl h1) (Reps.dp w.sub h2 q)
  ·cases h
 | _=>exact Rep.dp w.sub r h
def fEq (neg:Bool):F2 := fun x y A Q=>∃ p q,toPA A x=some p∧toPA A y=some q∧p.plain=true∧q.plain=true∧min p.depth q.depth≤60∧Q (.bl (PyData.eqv p q != neg)) A
theorem os_eq:OpS K (rEqP K) (fEq false) := fun g A H x y dx dy Qa Q w rx ry ⟨p,q,h1,h2,h3,h4,h5,h6⟩ po=>⟨p,q,w.dp rx h1,w.dp ry h2,h3,h4,h5,po.now w (.bl _) (by simpa using h6)⟩
theorem os_ne:OpS K (rNeP K) (fEq true) := fun g A H x y dx dy Qa Q w rx ry ⟨p,q,h1,h2,h3,h4,h5,h6⟩ po=>⟨p,q,w.dp rx h1,w.dp ry h2,h3,h4,h5,po.now w (.bl _) (by simpa using h6)⟩
def fIn (neg:Bool):F2 := fun x y A Q=>match y with
 | .str z=>∃ c,x = .str ⟨#[c]⟩∧Q (.bl (decide (c∈z.cps.toList) != neg)) A
 | y=>∃ ys p ps,itS A y=some ys∧toPA A x=some p∧toPs ys=some ps∧p.plain=true∧PyData.plainAll ps=true∧p.depth≤60∧Q (.bl (ps.any (fun z=>PyData.eqv z p) != neg)) A
theorem os_in {neg:Bool}:OpS K (rInP K neg) (fIn neg) := fun g A H x y dx dy Qa Q w rx ry h po=>by
 have fin:(∃ ys p ps,itS A dy=some ys∧toPA A dx=some p∧toPs ys=some ps∧p.plain=true∧PyData.plainAll ps=true∧p.depth≤60∧Qa (.bl (ps.any (fun z=>PyData.eqv z p) != neg)) A)→rInP K neg x y H Q := fun ⟨ys,p,ps,h1,h2,h3,h4,h5,h6,h7⟩=>by
  obtain ⟨a,vs,rfl,hs,hr⟩ := w.getS ry h1
  refine .inl ⟨p,ps,w.dp rx h2, ?_,h4,h5,h6,po.now w (.bl _) (by cases neg <;> simpa using h7)⟩
  rcases hs with hs | hs
  ·exact .inl (.lst hs (Reps.dp w.sub hr h3))
  ·exact .inr (.tup hs (Reps.dp w.sub hr h3))
 cases dy with
 | str z =>
  obtain ⟨c,e,q⟩ := h
  subst e
  exact .inr ⟨c,z,rx.str_,ry.str_,po.now w (.bl _) (by cases neg <;> simpa using q)⟩
 | _=>exact fin h
def isNon:D→Bool
 | .non=>true
 | _=>false
theorem isNon_ok (r:Rep K g v d):decide (v = .non)=isNon d := by cases r <;> rfl
def fIsN:F2 := fun x y A Q=>y = .non∧Q (.bl (isNon x)) A
theorem os_isN:OpS K rIsNA fIsN := fun g A H x y dx dy Qa Q w rx ry ⟨e,q⟩ po=>by subst e; exact ⟨ry.non_,po.now w (.bl _) (by rw [isNon_ok rx]; exact q)⟩
theorem Reps.atI {vs:List V} {ds:List D} {i:Int} {d:D} (h:Reps K g vs ds) (e:L2.atI ds i=some d):∃ v,L2.atI vs i=some v∧Rep K g v d := by
 unfold L2.atI at e ⊢
 rw [h.len]
 cases q:ixN ds.length i with
 | none=>rw [q] at e; cases e
 | some j=>rw [q] at e; exact h.at_ e
def fIx:F2 := fun x y A Q=>match x with
 | .str z=>∃ i c,y = .int i∧z.length≤sizeLine∧L2.atI z.cps.toList i=some c∧Q (.str ⟨#[c]⟩) A
 | x=>∃ xs i d,itS A x=some xs∧y = .int i∧L2.atI xs i=some d∧Q d A
theorem os_ix:OpS K (rIx K) fIx := fun g A H x y dx dy Qa Q w rx ry h po=>by
 have fin:(∃ xs i d,itS A dx=some xs∧dy = .int i∧L2.atI xs i=some d∧Qa d A)→rIx K x y H Q := fun ⟨xs,i,d,h1,h2,h3,h4⟩=>by
  subst h2
  obtain ⟨a,vs,rfl,hs,hr⟩ := w.getS rx h1
  obtain ⟨v,e1,e2⟩ := hr.atI h3
  rcases hs with hs | hs
  ·exact .inl ⟨a,vs,i,v,rfl,ry.int_,hs,e1,po.now w e2 h4⟩
  ·exact .inr (.inl ⟨a,vs,i,v,rfl,ry.int_,hs,e1,po.now w e2 h4⟩)
 cases dx with
 | str z =>
  obtain ⟨i,c,e,hz,h1,q⟩ := h
  subst e
  exact .inr (.inr ⟨z,i,c,rx.str_,ry.int_,hz,h1,po.now w (.str _) q⟩)
 | _=>exact fin h
def fLen:List D→AH→QE→Prop := fun ds A Q=>∃ x,ds=[x]∧match x with
 | .str z=>z.length≤sizeLine∧Q (.int z.length) A
 | x=>∃ xs,itS A x=some xs∧Q (.int xs.length) A
theorem Reps.one {vs:List V} (h:Reps K g vs [d]):∃ v,vs=[v]∧Rep K g v d := by
 cases h with
 | cons h r=>cases r; exact ⟨_,rfl,h⟩
theorem cs_len:CallS K (rLenA K) fLen := fun g A H xs ds Qa Q w rs ⟨x,e,h⟩ po=>by
 subst e
 obtain ⟨v,rfl,r⟩ := rs.one
 have fin:(∃ xs,itS A x=some xs∧Qa (.int xs.length) A)→rLenA K [v] H Q := fun ⟨xs,h1,h2⟩=>by
  obtain ⟨a,vs,rfl,hs,hr⟩ := w.getS r h1
  refine ⟨_,xs.length,rfl, ?_,po.now w (.int _) h2⟩
  rcases hs with hs | hs
  ·exact .inl ⟨vs,hs,hr.len.symm⟩
  ·exact .inr ⟨vs,hs,hr.len.symm⟩
 cases x with
 | str z=>rw [r.str_]; exact ⟨_,z.length,rfl,⟨h.1,rfl⟩,po.now w (.int _) h.2⟩
 | _=>exact fin h
def fListG (mk:List D→AH→QE→Prop):List D→AH→QE→Prop := fun ds A Q=>∃ x xs,ds=[x]∧itS A x=some xs∧mk xs A Q
def fList := fListG oldL
def fListM := fListG newL
theorem cs_listG {mk:List D→AH→QE→Prop} (m:MkL K mk):CallS K (rListOf K) (fListG mk) := fun g A H xs ds Qa Q w rs ⟨x,ys,e,h1,h2⟩ po=>by
 subst e
 obtain ⟨v,rfl,r⟩ := rs.one
 obtain ⟨a,vs,rfl,hs,hr⟩ := w.getS r h1
 exact ⟨a,vs,rfl,hs,fun l nl=>m g A H l vs ys Qa Q w nl hr h2 po⟩
theorem cs_list:CallS K (rListOf K) fList := cs_listG mk_old
theorem cs_listM:CallS K (rListOf K) fListM := cs_listG mk_new
def fTupOf:List D→AH→QE→Prop := fun ds A Q=>∃ x,ds=[x]∧match x with
 | .tup xs=>Q (.tup xs) A
 | x=>∃ xs,itL A x=some xs∧Q (.tup xs) A
theorem cs_tup:CallS K (rTupOf K) fTupOf := fun g A H xs ds Qa Q w rs ⟨x,e,h⟩ po=>by
 subst e
 obtain ⟨v,rfl,r⟩ := rs.one
 have fin:(∃ xs,itL A x=some xs∧Qa (.tup xs) A)→rTupOf K [v] H Q := fun ⟨xs,h1,h2⟩=>by
  obtain ⟨a,vs,rfl,hs,hr⟩ := w.getL r h1
  refine ⟨a,vs,rfl, .inl ⟨.inl hs,fun l nl=>?_⟩⟩
  obtain ⟨w2,st2⟩ := w.new (o := .tup vs) nl
  exact po _ _ _ _ _ st2 w2 (.tup upd_same (hr.mono st2.le)) h2
 cases x with
 | tup ys =>
  cases r with
  | tup h1 h2=>exact ⟨_,_,rfl, .inr ⟨w.sub.sqt (.inl (.inl h1)),po.now w (.tup h1 h2) h⟩⟩
 | _=>exact fin h
def allBD:List D→Option Bool
 | []=>some true
 | .bl b :: r=>(allBD r).map fun c=>b && c
 | _=>none
theorem allBD_ok:∀ {vs:List V} {ds:List D} {b:Bool},Reps K g vs ds→allBD ds=some b→∃ bs:List Bool,vs=bs.map V.bl∧bs.all id=b
 | _,_,_, .nil,e=>by cases e; exact ⟨[],rfl,rfl⟩
 | _,_,_, .cons (d := d) (ds := ds) h r,e=>by
  cases d with
  | bl c =>
   unfold allBD at e
   cases q:allBD ds with
   | none=>rw [q] at e; cases e
   | some b' =>
    rw [q] at e; cases e
    obtain ⟨bs,e1,e2⟩ := allBD_ok r q
    exact ⟨c :: bs,by rw [h.bl_,e1]; rfl,by rw [List.all_cons,e2]; rfl⟩
  | _=>cases e
def fAll:List D→AH→QE→Prop := fun ds A Q=>∃ x xs b,ds=[x]∧itL A x=some xs∧allBD xs=some b∧Q (.bl b) A
theorem cs_all:CallS K (rAllA K) fAll := fun g A H xs ds Qa Q w rs ⟨x,ys,b,e,h1,h2,h3⟩ po=>by
 subst e
 obtain ⟨v,rfl,r⟩ := rs.one
 obtain ⟨a,vs,rfl,hs,hr⟩ := w.getL r h1
 obtain ⟨bs,rfl,rfl⟩ := allBD_ok hr h2
 exact ⟨a,bs,rfl, .inl hs,po.now w (.bl _) h3⟩
end
section
variable {X:Cx} {e:Expr} {es:List Expr} {W:WX} {p pos:Pos} {x:Str} {mr:MA}
def mCB (f:List D→AH→QE→Prop) (r:MA):ME := fun s A Q E=>r s A (fun ds A1=>f ds A1 Q) E
theorem c_cb {K:PySem.W.Frag} {r:List V→Hp→VK→Prop} {f:List D→AH→QE→Prop} (cs:CallS K r f):∀ σ H Q,cE K W (mCB f mr) σ H Q→tCB r (cA K W mr) σ H Q := fun σ H Q ⟨g,s,A,Qa,Ea,w,rs,h,q,qx⟩ =>
 ⟨g,s,A,_,Ea,w,rs,h,fun g1 A1 H1 vs ds st1 w1 r1 h1=>cs g1 A1 H1 vs ds Qa Q w1 r1 h1 (q.step st1),qx⟩
end
end Am
namespace Am
open PySem PySem.Spec PyProof.Rows L2
open Fm (same_new rSlA rJoinA)
section
variable {K:PySem.W.Frag} {g g':Sg} {A:AH} {H:Hp} {v:V} {d:D} {W:WX} {m ma mb mc:ME} {κ:Type} [DecidableEq κ]
def KReps (K:PySem.W.Frag) (g:Sg) (kvs:List (κ × V)) (ds:List (κ × D)):Prop := kvs.map (·.1)=ds.map (·.1)∧Reps K g (kvs.map (·.2)) (ds.map (·.2))
theorem KReps.nil:KReps K g ([]:List (κ × V)) [] := ⟨rfl, .nil⟩
theorem KReps.ind:∀ {kvs:List (κ × V)} {ds:List (κ × D)},KReps K g kvs ds→(kvs=[]∧ds=[])∨∃ k v d kr dr,kvs=(k,v) :: kr∧ds=(k,d) :: dr∧Rep K g v d∧KReps K g kr dr
 | [],[],_=>.inl ⟨rfl,rfl⟩
 | [],_ :: _,h=>by cases h.1
 | _ :: _,[],h=>by cases h.1
 | (k,v) :: kr,(k',d) :: dr,⟨h1,h2⟩=>by
  simp only [List.map_cons,List.cons.injEq] at h1
  obtain ⟨e,h1⟩ := h1
  subst e
  cases h2 with
  | cons h r=>exact .inr ⟨k,v,d,kr,dr,rfl,rfl,h,h1,r⟩
theorem KReps.cons {k:κ} {kvs:List (κ × V)} {ds:List (κ × D)} (r:Rep K g v d) (h:KReps K g kvs ds):KReps K g ((k,v) :: kvs) ((k,d) :: ds) := ⟨by simp [h.1], .cons r h.2⟩
theorem KReps.mono {kvs:List (κ × V)} {ds:List (κ × D)} (e:g.le g') (h:KReps K g kvs ds):KReps K g' kvs ds := ⟨h.1,h.2.mono e⟩
theorem KReps.len {kvs:List (κ × V)} {ds:List (κ × D)} (h:KReps K g kvs ds):kvs.length=ds.length := by
 have := congrArg List.length h.1
 simpa using this
theorem KReps.look {f:Str} {d:D}:∀ {kvs:List (Str × V)} {ds:List (Str × D)},KReps K g kvs ds→ds.lookup f=some d→∃ v,kvs.lookup f=some v∧Rep K g v d
 | kvs,ds,h,e=>by
  rcases h.ind with ⟨e1,e2⟩ | ⟨k,v,d',kr,dr,e1,e2,hr,ht⟩
  ·subst e2; cases e
  ·subst e1; subst e2
   rw [List.lookup_cons] at e ⊢
   cases q:(f == k) with
   | true=>rw [q] at e; cases e; exact ⟨v,rfl,hr⟩
   | false=>rw [q] at e; simp only at e ⊢; exact KReps.look ht e
 termination_by kvs=>kvs.length
 decreasing_by subst e1; simp
theorem KReps.lookN {f:Str}:∀ {kvs:List (Str × V)} {ds:List (Str × D)},KReps K g kvs ds→ds.lookup f=none→kvs.lookup f=none
 | kvs,ds,h,e=>by
  rcases h.ind with ⟨e1,e2⟩ | ⟨k,v,d',kr,dr,e1,e2,hr,ht⟩
  ·subst e1; rfl
  ·subst e1; subst e2
   rw [List.lookup_cons] at e ⊢
   cases q:(f == k) with
   | true=>rw [q] at e; cases e
   | false=>rw [q] at e; simp only at e ⊢; exact KReps.lookN ht e
 termination_by kvs=>kvs.length
 decreasing_by subst e1; simp
def valD (kvs:List (κ × D)) (k:κ):Option D := (kvs.find? fun kv=>decide (kv.1=k)).map (·.2)
def putD (kvs:List (κ × D)) (k:κ) (v:D):List (κ × D) :=
 if (kvs.any fun kv=>decide (kv.1=k))=true then kvs.map (fun kv=>if kv.1=k then (kv.1,v) else kv) else kvs ++ [(k,v)]
def dropD (kvs:List (κ × D)) (k:κ):List (κ × D) := kvs.filter fun kv=>decide (kv.1≠k)
theorem KReps.val {k:κ}:∀ {kvs:List (κ × V)} {ds:List (κ × D)},KReps K g kvs ds→Fm.Orel (fun d v=>Rep K g v d) (valD ds k) (valV kvs k)
 | kvs,ds,h=>by
  rcases h.ind with ⟨e1,e2⟩ | ⟨k',v,d',kr,dr,e1,e2,hr,ht⟩
  ·subst e1; subst e2; exact .no
  ·subst e1; subst e2
   unfold valD valV
   rw [List.find?_cons,List.find?_cons]
   by_cases q:k' = k
   ·simp only [q,decide_true,Option.map_some]; exact .yes hr
   ·simp only [q,decide_false]; exact KReps.val ht
 termination_by kvs=>kvs.length
 decreasing_by subst e1; simp
theorem KReps.any {k:κ}:∀ {kvs:List (κ × V)} {ds:List (κ × D)},KReps K g kvs ds→(kvs.any fun kv=>decide (kv.1=k))=(ds.any fun kv=>decide (kv.1=k))
 | kvs,ds,h=>by
  rcases h.ind with ⟨e1,e2⟩ | ⟨k',v,d',kr,dr,e1,e2,hr,ht⟩
  ·subst e1; subst e2; rfl
  ·subst e1; subst e2
   rw [List.any_cons,List.any_cons,KReps.any ht]
 termination_by kvs=>kvs.length
 decreasing_by subst e1; simp
theorem KReps.app:∀ {kvs kvs':List (κ × V)} {ds ds':List (κ × D)},KReps K g kvs ds→KReps K g kvs' ds'→KReps K g (kvs ++ kvs') (ds ++ ds') := fun h h'=>⟨by rw [List.map_append,List.map_append,h.1,h'.1],by rw [List.map_append,List.map_append]; exact h.2.app h'.2⟩
theorem KReps.put {k:κ} {kvs:List (κ × V)} {ds:List (κ × D)} (h:KReps K g kvs ds) (r:Rep K g v d):KReps K g (putK kvs k v) (putD ds k d) := by
 have mp:∀ {kvs:List (κ × V)} {ds:List (κ × D)},KReps K g kvs ds→KReps K g (kvs.map fun kv=>if kv.1=k then (kv.1,v) else kv) (ds.map fun kv=>if kv.1=k then (kv.1,d) else kv) := by
  intro kvs
  induction kvs with
  | nil =>
   intro ds h
   rcases h.ind with ⟨e1,e2⟩ | ⟨k',v',d',kr,dr,e1,e2,hr,ht⟩
   ·subst e2; exact .nil
   ·cases e1
  | cons p t ih =>
   intro ds h
   rcases h.ind with ⟨e1,e2⟩ | ⟨k',v',d',kr,dr,e1,e2,hr,ht⟩
   ·cases e1
   ·cases e1; subst e2
    rw [List.map_cons,List.map_cons]
    by_cases q:k' = k
    ·simp only [q,if_true]; exact (ih ht).cons r
    ·simp only [q,if_false]; exact (ih ht).cons hr
 unfold putK putD
 rw [h.any]
 split
 ·exact mp h
 ·exact h.app (KReps.nil.cons r)
theorem KReps.drop {k:κ} {kvs:List (κ × V)} {ds:List (κ × D)} (h:KReps K g kvs ds):KReps K g (dropK kvs k) (dropD ds k) := by
 unfold dropK dropD
 induction kvs generalizing ds with
 | nil =>
  rcases h.ind with ⟨e1,e2⟩ | ⟨k',v',d',kr,dr,e1,e2,hr,ht⟩
  ·subst e2; exact .nil
  ·cases e1
 | cons p t ih =>
  rcases h.ind with ⟨e1,e2⟩ | ⟨k',v',d',kr,dr,e1,e2,hr,ht⟩
  ·cases e1
  ·cases e1; subst e2
   rw [List.filter_cons,List.filter_cons]
   by_cases q:k' = k
   ·simp only [q,ne_eq,not_true_eq_false,decide_false,Bool.false_eq_true,if_false]; exact ih ht
   ·simp only [q,ne_eq,not_false_eq_true,decide_true,if_true]; exact (ih ht).cons hr
def insOf (A:AH):D→Option (Str × List (Str × D))
 | .ins c fs=>some (c,fs)
 | .ref n=>match A n with
  | some (.ins c fs)=>some (c,fs)
  | _=>none
 | _=>none
theorem Wr.ins {c:Str} {fs:List (Str × D)} (w:Wr K g A H) (r:Rep K g v d) (h:insOf A d=some (c,fs)):∃ a dx fvs,v = .ref a∧H a=some (.ins (He.ga K c) dx fvs)∧KReps K g fvs fs := by
 cases r with
 | ins h1 h2 h3=>cases h; exact ⟨_,_,_,rfl,w.sub.ins h1,h2,h3⟩
 | ref h1 =>
  rename_i a n
  unfold insOf at h
  simp only at h
  split at h
  ·rename_i c fs e
   cases h
   obtain ⟨b,q1,q2,dx,fvs,q3,q4,q5⟩ := w.nd n _ e
   rw [h1] at q1; cases q1
   exact ⟨a,dx,fvs,rfl,q3,q4,q5⟩
  ·cases h
 | _=>cases h
def mFld (cs:List Str) (f:Str) (m:ME):ME := fun s A Q E=>m s A (fun d A1=>∃ c fs v,insOf A1 d=some (c,fs)∧c∈cs∧fs.lookup f=some v∧Q v A1) E
theorem c_fld {cs:List Str} {f:Str} (hc:∀ c∈cs,Cls K (He.ga K c)∧NoAttr K (He.ga K c) f):∀ σ H Q,cE K W (mFld cs f m) σ H Q→tFld K (cE K W m) f σ H Q := fun σ H Q ⟨g,s,A,Qa,Ea,w,rs,h,q,qx⟩ =>
 ⟨g,s,A,_,Ea,w,rs,h,fun g1 A1 H1 x dx st1 w1 r1 ⟨c,fs,u,h1,h2,h3,h4⟩=>by
  obtain ⟨a,dd,fvs,rfl,q1,q2⟩ := w1.ins r1 h1
  obtain ⟨v,q3,q4⟩ := q2.look h3
  exact ⟨a,_,dd,fvs,v,rfl,q1,(hc c h2).1,(hc c h2).2,q3,q _ _ _ _ _ st1 w1 q4 h4⟩,qx⟩
abbrev MO := Sl→AH→(Option Int→AH→Prop)→QX→Prop
def cO (K:PySem.W.Frag) (W:WX) (m:MO):TO := fun σ H Q=>∃ g s A Qa Ea,Wr K g A H∧RepS K g σ s∧m s A Qa Ea∧(∀ g' A' H' o,Stp g A H g' A' H'→Wr K g' A' H'→Qa o A'→Q o H')∧PostX K g A H Ea (fun c d H'=>W c d σ H')
def mNoPart:MO := fun _ A Q _=>Q none A
def mPart (m:ME):MO := fun s A Q E=>m s A (fun d A1=>∃ i,d = .int i∧Q (some i) A1) E
theorem c_noPart:∀ σ H Q,cO K W mNoPart σ H Q→tNoPart σ H Q := fun σ H Q ⟨g,s,A,Qa,Ea,w,rs,h,q,qx⟩=>q g A H none .refl w h
theorem c_part:∀ σ H Q,cO K W (mPart m) σ H Q→tPart (cE K W m) σ H Q := fun σ H Q ⟨g,s,A,Qa,Ea,w,rs,h,q,qx⟩ =>
 ⟨g,s,A,_,Ea,w,rs,h,fun g1 A1 H1 x dx st1 w1 r1 ⟨i,e,h1⟩=>⟨i,by subst e; exact r1.int_,q g1 A1 H1 _ st1 w1 h1⟩,qx⟩
theorem PO.weak {X:Cx} {e:Option Expr} {t t':TO} (h:PO X e t) (k:∀ σ H Q,t' σ H Q→t σ H Q):PO X e t' := ⟨fun pins s σ H Q I q=>h.run pins s σ H Q I (k σ H Q q)⟩
def cutD (xs:List D) (lo hi:Option Int):List D := (xs.drop (HT.sIx xs.length 0 lo)).take (HT.sIx xs.length xs.length hi - HT.sIx xs.length 0 lo)
theorem Reps.cut {vs:List V} {ds:List D} {lo hi:Option Int} (h:Reps K g vs ds):Reps K g (cutV vs lo hi) (cutD ds lo hi) := by
 unfold cutV cutD
 rw [h.len]
 exact (h.drop_ _).take_ _
def fSlG (mk:List D→AH→QE→Prop) (x:D) (lo hi:Option Int) (A:AH) (Q:QE):Prop := match x with
 | .str z=>z.length≤sizeLine∧Q (.str (cutS z lo hi)) A
 | x=>∃ xs,itL A x=some xs∧mk (cutD xs lo hi) A Q
def mSlG (mk:List D→AH→QE→Prop) (m:ME) (lo hi:MO):ME := fun s A Q E=>m s A (fun x A1=>lo s A1 (fun l A2=>hi s A2 (fun h A3=>fSlG mk x l h A3 Q) E) E) E
def mSl := mSlG oldL
theorem c_slG {mk:List D→AH→QE→Prop} {lo hi:MO} (k:MkL K mk):∀ σ H Q,cE K W (mSlG mk m lo hi) σ H Q→tSl (Fm.rSlA K) (cE K W m) (cO K W lo) (cO K W hi) σ H Q := fun σ H Q ⟨g,s,A,Qa,Ea,w,rs,h,q,qx⟩ =>
 ⟨g,s,A,_,Ea,w,rs,h,fun g1 A1 H1 x dx st1 w1 r1 h1=>⟨g1,s,A1,_,Ea,w1,rs.mono st1.le,h1,fun g2 A2 H2 l st2 w2 h2=>⟨g2,s,A2,_,Ea,w2,rs.mono (st1.trans st2).le,h2,fun g3 A3 H3 hh st3 w3 h3=>by
  have r3 := r1.mono (st2.trans st3).le
  have st := (st1.trans st2).trans st3
  have fin:(∃ xs,itL A3 dx=some xs∧mk (cutD xs l hh) A3 Qa)→Fm.rSlA K x l hh H3 Q := fun ⟨xs,e1,e2⟩=>by
   obtain ⟨a,vs,rfl,q1,q2⟩ := w3.getL r3 e1
   exact .inl ⟨a,vs,rfl, .inl q1,fun p np=>k g3 A3 H3 p _ _ Qa Q w3 np q2.cut e2 (q.step st)⟩
  cases dx with
  | str z=>exact .inr ⟨z,r3.str_,h3.1,q _ _ _ _ _ st w3 (.str _) h3.2⟩
  | _=>exact fin h3,qx.step (st1.trans st2)⟩,qx.step st1⟩,qx⟩
theorem c_sl {lo hi:MO}:∀ σ H Q,cE K W (mSl m lo hi) σ H Q→tSl (Fm.rSlA K) (cE K W m) (cO K W lo) (cO K W hi) σ H Q := c_slG mk_old
abbrev FM := D→List D→AH→QE→Prop
def MtS (K:PySem.W.Frag) (r:V→List V→Hp→VK→Prop) (f:FM):Prop := ∀ g A H x xs dx ds Qa Q,Wr K g A H→Rep K g x dx→Reps K g xs ds→f dx ds A Qa→Post K g A H Qa Q→r x xs H Q
def mBM (f:FM) (m:ME) (r:MA):ME := fun s A Q E=>m s A (fun x A1=>(∃ xs,itL A1 x=some xs)∧r s A1 (fun ds A2=>f x ds A2 Q) E) E
theorem c_bm {r:V→List V→Hp→VK→Prop} {f:FM} {mr:MA} (ms:MtS K r f):∀ σ H Q,cE K W (mBM f m mr) σ H Q→tBM K "list" r (cE K W m) (cA K W mr) σ H Q := fun σ H Q ⟨g,s,A,Qa,Ea,w,rs,h,q,qx⟩ =>
 ⟨g,s,A,_,Ea,w,rs,h,fun g1 A1 H1 x dx st1 w1 r1 ⟨⟨xs,e1⟩,h1⟩=>by
  obtain ⟨a,vs,rfl,q1,q2⟩ := w1.getL r1 e1
  exact ⟨.inl ⟨rfl,vs, .inl q1⟩,g1,s,A1,_,Ea,w1,rs.mono st1.le,h1,fun g2 A2 H2 ys ds st2 w2 rys h2=>ms g2 A2 H2 _ ys dx ds Qa Q w2 (r1.mono st2.le) rys h2 (q.step (st1.trans st2)),qx.step st1⟩,qx⟩
theorem Wr.nodeL {n:Nat} {xs:List D} (w:Wr K g A H) (r:Rep K g v (.ref n)) (h:A n=some (.lst xs)):∃ a vs,v = .ref a∧g.i n=some a∧H a=some (.lst vs)∧Reps K g vs xs := by
 cases r with
 | ref h1 =>
  obtain ⟨a,q1,q2,vs,q3,q4⟩ := w.nd n _ h
  rw [h1] at q1; cases q1
  exact ⟨_,vs,rfl,h1,q3,q4⟩
def fAppend:FM := fun x ys A Q=>∃ n xs y,x = .ref n∧ys=[y]∧A n=some (.lst xs)∧xs.length < sizeLine∧Q .non (put A n (.lst (xs ++ [y])))
theorem ms_append:MtS K rAppend fAppend := fun g A H x ys dx ds Qa Q w rx rs ⟨n,xs,y,e1,e2,e3,e4,h⟩ po=>by
 subst e1; subst e2
 obtain ⟨a,vs,rfl,q1,q2,q3⟩ := w.nodeL rx e3
 obtain ⟨u,rfl,ru⟩ := rs.one
 obtain ⟨w2,st2⟩ := w.set (o := .lst (vs ++ [u])) (y := .lst (xs ++ [y])) q1 e3 ⟨_,upd_same,q3.app (.cons ru .nil)⟩
 exact ⟨a,vs,u,rfl,rfl,q2,by rw [q3.len]; exact e4,po _ _ _ _ _ st2 w2 .non h⟩
def strsOf:List D→Option (List Str)
 | []=>some []
 | .str x :: r=>(strsOf r).map fun ys=>x :: ys
 | _=>none
theorem strsOf_ok:∀ {vs:List V} {ds:List D} {zs:List Str},Reps K g vs ds→strsOf ds=some zs→vs=zs.map V.str
 | _,_,_, .nil,e=>by cases e; rfl
 | _,_,_, .cons (d := d) (ds := ds) h r,e=>by
  cases d with
  | str x =>
   unfold strsOf at e
   cases q:strsOf ds with
   | none=>rw [q] at e; cases e
   | some ys=>rw [q] at e; cases e; rw [h.str_,strsOf_ok r q]; rfl
  | _=>cases e
def mJoin (ma mb:ME):ME := fun s A Q E=>ma s A (fun x A1=>∃ a,x = .str a∧mb s A1 (fun y A2=>∃ ys zs,itS A2 y=some ys∧strsOf ys=some zs∧(zs.map (·.length)).sum + zs.length * a.length≤16777216∧Q (.str (Txt.join a zs)) A2) E) E
theorem c_join:∀ σ H Q,cE K W (mJoin ma mb) σ H Q→tM1 (rJoinA K) (cE K W ma) (cE K W mb) σ H Q := fun σ H Q ⟨g,s,A,Qa,Ea,w,rs,h,q,qx⟩ =>
 ⟨g,s,A,_,Ea,w,rs,h,fun g1 A1 H1 x dx st1 w1 r1 ⟨a,e,h1⟩=>by
  subst e
  refine ⟨⟨a,r1.str_⟩,g1,s,A1,_,Ea,w1,rs.mono st1.le,h1,fun g2 A2 H2 y dy st2 w2 r2 ⟨ys,zs,e1,e2,e3,h2⟩=>?_,qx.step st1⟩
  obtain ⟨p,vs,rfl,q1,q2⟩ := w2.getS r2 e1
  have := strsOf_ok q2 e2
  subst this
  exact ⟨a,p,zs,r1.str_,rfl,q1,e3,q _ _ _ _ _ (st1.trans st2) w2 (.str _) h2⟩,qx⟩
def dcK (A:AH):D→Option (List (Key × D))
 | .dK kvs=>some kvs
 | .ref n=>match A n with
  | some (.dK kvs)=>some kvs
  | some (.lkK _ _ kvs)=>some kvs
  | _=>none
 | _=>none
def dcT (A:AH):D→Option (List (List Key × D))
 | .dT kvs=>some kvs
 | .ref n=>match A n with
  | some (.dT kvs)=>some kvs
  | some (.lkT _ _ kvs)=>some kvs
  | _=>none
 | _=>none
def kyK:D→Option Key
 | .int i=>some (.inl i)
 | .str x=>some (.inr x)
 | _=>none
def kysK:List D→Option (List Key)
 | []=>some []
 | d :: r=>(kyK d).bind fun k=>(kysK r).map fun ks=>k :: ks
def kyT:D→Option (List Key)
 | .tup ds=>kysK ds
 | _=>none
def dval (A:AH) (x y:D) (o:Option D):Prop := (∃ kvs k,dcK A x=some kvs∧kyK y=some k∧o=valD kvs k)∨∃ kvs k,dcT A x=some kvs∧kyT y=some k∧o=valD kvs k
theorem Wr.dcK {kvs:List (Key × D)} (w:Wr K g A H) (r:Rep K g v d) (h:dcK A d=some kvs):∃ a ks,v = .ref a∧Rd H a (.dK ks)∧KReps K g ks kvs := by
 cases r with
 | dK h1 h2 h3=>cases h; exact ⟨_,_,rfl,w.sub.rd h1,h2,h3⟩
 | ref h1 =>
  rename_i a n
  unfold Am.dcK at h
  simp only at h
  split at h
  ·rename_i ys e
   cases h
   obtain ⟨b,q1,q2,vs,q3,q4,q5⟩ := w.nd n _ e
   rw [h1] at q1; cases q1
   exact ⟨a,vs,rfl, .inl q3,q4,q5⟩
  ·rename_i o us ys e
   cases h
   obtain ⟨b,q1,q2,q3,q4,q5⟩ := w.nd n _ e
   rw [h1] at q1; cases q1
   exact ⟨a,us,rfl, .inr ⟨o,q3⟩,q4,q5⟩
  ·cases h
 | _=>cases h
theorem Wr.dcT {kvs:List (List Key × D)} (w:Wr K g A H) (r:Rep K g v d) (h:dcT A d=some kvs):∃ a ks,v = .ref a∧Rd H a (.dT ks)∧KReps K g ks kvs := by
 cases r with
 | dT h1 h2 h3=>cases h; exact ⟨_,_,rfl,w.sub.rd h1,h2,h3⟩
 | ref h1 =>
  rename_i a n
  unfold Am.dcT at h
  simp only at h
  split at h
  ·rename_i ys e
   cases h
   obtain ⟨b,q1,q2,vs,q3,q4,q5⟩ := w.nd n _ e
   rw [h1] at q1; cases q1
   exact ⟨a,vs,rfl, .inl q3,q4,q5⟩
  ·rename_i o us ys e
   cases h
   obtain ⟨b,q1,q2,q3,q4,q5⟩ := w.nd n _ e
   rw [h1] at q1; cases q1
   exact ⟨a,us,rfl, .inr ⟨o,q3⟩,q4,q5⟩
  ·cases h
 | _=>cases h
theorem kyK_ok {k:Key} (r:Rep K g v d) (h:kyK d=some k):v=kV k := by
 cases d with
 | int i=>cases h; exact r.int_
 | str i=>cases h; exact r.str_
 | _=>cases h
theorem kysK_ok:∀ {vs:List V} {ds:List D} {ks:List Key},Reps K g vs ds→kysK ds=some ks→vs=ks.map kV
 | _,_,_, .nil,e=>by cases e; rfl
 | _,_,_, .cons (d := d) (ds := ds) h r,e=>by
  unfold kysK at e
  cases q1:kyK d with
  | none=>rw [q1] at e; cases e
  | some k =>
   rw [q1] at e
   cases q:kysK ds with
   | none=>rw [q] at e; cases e
   | some ys=>rw [q] at e; cases e; rw [kyK_ok h q1,kysK_ok r q]; rfl
theorem kyT_ok {k:List Key} (w:Wr K g A H) (r:Rep K g v d) (h:kyT d=some k):∃ b,v = .ref b∧H b=some (.tup (k.map kV)) := by
 cases r with
 | tup h1 h2 =>
  have := kysK_ok h2 h
  subst this
  exact ⟨_,rfl,w.sub.at_ h1 (by constructor <;> intro _ z <;> cases z)⟩
 | _=>cases h
theorem Wr.dval {x y:V} {dx dy:D} {o:Option D} (w:Wr K g A H) (rx:Rep K g x dx) (ry:Rep K g y dy) (h:dval A dx dy o):∃ a o',x = .ref a∧DGet H a y o'∧Fm.Orel (fun d v=>Rep K g v d) o o' := by
 rcases h with ⟨kvs,k,h1,h2,h3⟩ | ⟨kvs,k,h1,h2,h3⟩
 ·obtain ⟨a,ks,e,q1,q2⟩ := w.dcK rx h1
  exact ⟨a,_,e, .inl ⟨ks,k,q1,kyK_ok ry h2,rfl⟩,by rw [h3]; exact q2.val⟩
 ·obtain ⟨a,ks,e,q1,q2⟩ := w.dcT rx h1
  obtain ⟨b,q3,q4⟩ := kyT_ok w ry h2
  exact ⟨a,_,e, .inr ⟨ks,k,b,q1,q3,q4,rfl⟩,by rw [h3]; exact q2.val⟩
def mDGet (ma mb:ME):ME := fun s A Q E=>ma s A (fun x A1=>mb s A1 (fun y A2=>∃ d,dval A2 x y (some d)∧Q d A2) E) E
theorem c_dget:∀ σ H Q,cE K W (mDGet ma mb) σ H Q→tDGet (cE K W ma) (cE K W mb) σ H Q := fun σ H Q ⟨g,s,A,Qa,Ea,w,rs,h,q,qx⟩ =>
 ⟨g,s,A,_,Ea,w,rs,h,fun g1 A1 H1 x dx st1 w1 r1 h1=>⟨g1,s,A1,_,Ea,w1,rs.mono st1.le,h1,fun g2 A2 H2 y dy st2 w2 r2 ⟨d,h2,h3⟩=>by
  obtain ⟨a,o,e,q1,q2⟩ := w2.dval (r1.mono st2.le) r2 h2
  cases q2 with
  | yes z=>exact ⟨a,_,e,q1,q _ _ _ _ _ (st1.trans st2) w2 z h3⟩,qx.step st1⟩,qx⟩
def mDIn (neg:Bool) (ma mb:ME):ME := fun s A Q E=>ma s A (fun y A1=>mb s A1 (fun x A2=>∃ o,dval A2 x y o∧Q (.bl (o.isSome != neg)) A2) E) E
theorem orel_some {α β:Type} {F:α→β→Prop} {o:Option α} {o':Option β} (h:Fm.Orel F o o'):o'.isSome=o.isSome := by cases h <;> rfl
theorem c_dnotin:∀ σ H Q,cE K W (mDIn true ma mb) σ H Q→tDNotIn (cE K W ma) (cE K W mb) σ H Q := fun σ H Q ⟨g,s,A,Qa,Ea,w,rs,h,q,qx⟩ =>
 ⟨g,s,A,_,Ea,w,rs,h,fun g1 A1 H1 y dy st1 w1 r1 h1=>⟨g1,s,A1,_,Ea,w1,rs.mono st1.le,h1,fun g2 A2 H2 x dx st2 w2 r2 ⟨o,h2,h3⟩=>by
  obtain ⟨a,o',e,q1,q2⟩ := w2.dval r2 (r1.mono st2.le) h2
  exact ⟨a,o',e,q1,q _ _ _ _ _ (st1.trans st2) w2 (.bl _) (by rw [orel_some q2]; simpa using h3)⟩,qx.step st1⟩,qx⟩
def mDNew (x:Nd):ME := fun _ A Q _=>∀ n,A n=none→Q (.ref n) (put A n x)
theorem c_dnewK:∀ σ H Q,cE K W (mDNew (.dK [])) σ H Q→tDNewK σ H Q := fun σ H Q ⟨g,s,A,Qa,Ea,w,rs,h,q,qx⟩ p np=>by
 obtain ⟨n,h1,h2,w2,st2⟩ := w.node (o := .dK []) (x := .dK []) np fun g' e=>⟨[],upd_same,rfl, .nil⟩
 exact q _ _ _ _ _ st2 w2 (.ref (if_pos rfl)) (h n h1)
end
end Am
namespace Am
open PySem PySem.Spec PyProof.Rows L2
open Fm (same_new iSeq)
abbrev MG := D→Sl→AH→(Sl→AH→Prop)→Prop
abbrev MGs := List D→Sl→AH→(Sl→AH→Prop)→Prop
abbrev MI := Sl→AH→(List D→(AH→Prop)→AH→Prop)→QX→Prop
structure WalkD (K:PySem.W.Frag) (J:It) (g:Sg) (items:List D) (ck:AH→Prop):Prop where
 go:∀ i g2 A2 H2,g.le g2→Wr K g2 A2 H2→ck A2→i < items.length→J.go i H2
 yl:∀ i g2 A2 H2 x H' d,g.le g2→Wr K g2 A2 H2→ck A2→items[i]? = some d→J.yld i H2 x H'→∃ g3,Stp g2 A2 H2 g3 A2 H'∧Wr K g3 A2 H'∧Rep K g3 x d
 st:∀ i g2 A2 H2,g.le g2→Wr K g2 A2 H2→ck A2→items.length≤i→J.stop i H2
def cI (K:PySem.W.Frag) (W:WX) (m:MI):TI := fun σ H R=>∃ g s A Ra Ea,Wr K g A H∧RepS K g σ s∧m s A Ra Ea∧(∀ g' A' H' J items ck,Stp g A H g' A' H'→Wr K g' A' H'→WalkD K J g' items ck→Ra items ck A'→R J H')∧PostX K g A H Ea (fun c d H'=>W c d σ H')
theorem PI.weak {X:Cx} {tg e:Expr} {t t':TI} (h:PI X tg e t) (k:∀ σ H Q,t' σ H Q→t σ H Q):PI X tg e t' := ⟨fun pins s σ H Q I q=>h.run pins s σ H Q I (k σ H Q q)⟩
section
variable {K:PySem.W.Frag} {g g':Sg} {A:AH} {H:Hp} {v:V} {d:D} {W:WX} {m ma mb mc:ME}
abbrev ckT:AH→Prop := fun _=>True
def chars (z:Str):List D := z.cps.toList.map fun c=>.str ⟨#[c]⟩
def fSeq (d:D) (A:AH) (R:List D→(AH→Prop)→AH→Prop):Prop := match d with
 | .str z=>R (chars z) ckT A
 | .ref n=>∃ xs,A n=some (.lst xs)∧R xs (fun A2=>A2 n=some (.lst xs)) A
 | d=>∃ xs,itS A d=some xs∧R xs ckT A
def mSeq (m:ME):MI := fun s A R E=>m s A (fun d A1=>fSeq d A1 R) E
theorem walk_fr {a:Addr} {vs:List V} {items:List D} (h:Rd g.S a (.lst vs)) (r:Reps K g vs items):WalkD K (Itl K a) g items ckT where
 go := fun i g2 A2 H2 le w _ hi=>by
  have := (w.sub.rd (Fm.Same.rd le.s h))
  have hi':i < vs.length := by rw [r.len]; exact hi
  exact ⟨vs,vs[i], .inl this,List.getElem?_eq_getElem hi'⟩
 yl := fun i g2 A2 H2 x H' d le w _ hd y=>by
  obtain ⟨e,hy⟩ := y
  subst e
  obtain ⟨u,h1,h2⟩ := r.at_ hd
  have := hy vs (.inl (w.sub.rd (Fm.Same.rd le.s h)))
  rw [h1] at this; cases this
  exact ⟨g2, .refl,w,h2.mono le⟩
 st := fun i g2 A2 H2 le w _ hi=>⟨vs, .inl (w.sub.rd (Fm.Same.rd le.s h)),by rw [r.len]; exact hi⟩
theorem walk_frT {a:Addr} {vs:List V} {items:List D} (h:SqT K g.S a vs) (r:Reps K g vs items):WalkD K (Itt K a) g items ckT where
 go := fun i g2 A2 H2 le w _ hi=>by
  have := (w.sub.sqt (Fm.Same.tup le.s h))
  have hi':i < vs.length := by rw [r.len]; exact hi
  exact ⟨vs,vs[i],this,List.getElem?_eq_getElem hi'⟩
 yl := fun i g2 A2 H2 x H' d le w _ hd y=>by
  obtain ⟨e,hy⟩ := y
  subst e
  obtain ⟨u,h1,h2⟩ := r.at_ hd
  have := hy vs (w.sub.sqt (Fm.Same.tup le.s h))
  rw [h1] at this; cases this
  exact ⟨g2, .refl,w,h2.mono le⟩
 st := fun i g2 A2 H2 le w _ hi=>⟨vs,w.sub.sqt (Fm.Same.tup le.s h),by rw [r.len]; exact hi⟩
theorem walk_nd {a:Addr} {n:Nat} {items:List D} (h:g.i n=some a):WalkD K (Itl K a) g items (fun A2=>A2 n=some (.lst items)) where
 go := fun i g2 A2 H2 le w ck hi=>by
  obtain ⟨b,vs,e,q1,q2,q3⟩ := w.nodeL (v := .ref a) (.ref (le.i _ _ h)) ck
  cases e
  have hi':i < vs.length := by rw [q3.len]; exact hi
  exact ⟨vs,vs[i], .inl (.inl q2),List.getElem?_eq_getElem hi'⟩
 yl := fun i g2 A2 H2 x H' d le w ck hd y=>by
  obtain ⟨e,hy⟩ := y
  subst e
  obtain ⟨b,vs,e,q1,q2,q3⟩ := w.nodeL (v := .ref a) (.ref (le.i _ _ h)) ck
  cases e
  obtain ⟨u,h1,h2⟩ := q3.at_ hd
  have := hy vs (.inl (.inl q2))
  rw [h1] at this; cases this
  exact ⟨g2, .refl,w,h2⟩
 st := fun i g2 A2 H2 le w ck hi=>by
  obtain ⟨b,vs,e,q1,q2,q3⟩ := w.nodeL (v := .ref a) (.ref (le.i _ _ h)) ck
  cases e
  exact ⟨vs, .inl (.inl q2),by rw [q3.len]; exact hi⟩
theorem walk_str {z:Str}:WalkD K (Its z) g (chars z) ckT where
 go := fun i g2 A2 H2 le w _ hi=>by
  have:i < z.cps.size := by simpa [chars] using hi
  exact this
 yl := fun i g2 A2 H2 x H' d le w _ hd y=>by
  obtain ⟨e,c,h1,h2⟩ := y
  subst e
  subst h2
  unfold chars at hd
  rw [List.getElem?_map] at hd
  have h1':z.cps.toList[i]? = some c := by simpa using h1
  rw [h1'] at hd
  cases hd
  exact ⟨g2, .refl,w, .str _⟩
 st := fun i g2 A2 H2 le w _ hi=>by
  have:z.cps.size≤i := by simpa [chars] using hi
  exact this
def intsD (lo:Int) (n:Nat):List D := (List.range n).map fun i=>.int (lo + (i:Nat))
theorem walk_rng {lo : Int} {n : Nat} : WalkD K (Itr lo n) g (intsD lo n) ckT where
  go := fun i g2 A2 H2 le w _ hi => by
    have : i < n := by simpa [intsD] using hi
    exact this
  yl := fun i g2 A2 H2 x H' d le w _ hd y => by
    obtain ⟨e, h2⟩ := y
    subst e
    subst h2
    unfold intsD at hd
    rw [List.getElem?_map] at hd
    cases q : (List.range n)[i]? with
    | none => rw [q] at hd; cases hd
    | some j =>
      rw [q] at hd
      have : j = i := by
        rw [List.getElem?_range] at q
        · exact (Option.some.inj q).symm
        · exact Classical.byContradiction fun z => by rw [List.getElem?_eq_none (by simpa using z)] at q; cases q
      subst this
      cases hd
      exact ⟨g2, .refl, w, .int _⟩
  st := fun i g2 A2 H2 le w _ hi => by
    have : n ≤ i := by simpa [intsD] using hi
    exact this
theorem c_seq:∀ σ H R,cI K W (mSeq m) σ H R→iSeq K (cE K W m) σ H R := fun σ H R ⟨g,s,A,Ra,Ea,w,rs,h,q,qx⟩ =>
 ⟨g,s,A,_,Ea,w,rs,h,fun g1 A1 H1 x dx st1 w1 r1 h1=>by
  cases r1 with
  | str z=>exact .inr (.inr ⟨z,rfl,q g1 A1 H1 _ _ _ st1 w1 walk_str h1⟩)
  | ref hi =>
   obtain ⟨xs,e1,e2⟩ := h1
   obtain ⟨a,vs,e,q1,q2,q3⟩ := w1.nodeL (.ref hi) e1
   cases e
   exact .inl ⟨_,rfl,⟨vs, .inl (.inl q2)⟩,q g1 A1 H1 _ _ _ st1 w1 (walk_nd hi) e2⟩
  | lst h2 h3 =>
   obtain ⟨xs,e1,e2⟩ := h1
   cases e1
   exact .inl ⟨_,rfl,⟨_, .inl (w1.sub.rd h2)⟩,q g1 A1 H1 _ _ _ st1 w1 (walk_fr h2 h3) e2⟩
  | tup h2 h3 =>
   obtain ⟨xs,e1,e2⟩ := h1
   cases e1
   exact .inr (.inl ⟨_,rfl,⟨_,w1.sub.sqt (.inl (.inl h2))⟩,q g1 A1 H1 _ _ _ st1 w1 (walk_frT (.inl (.inl h2)) h3) e2⟩)
  | ktup h2 h3 =>
   obtain ⟨xs,e1,e2⟩ := h1
   cases e1
   exact .inr (.inl ⟨_,rfl,⟨_,w1.sub.sqt h2⟩,q g1 A1 H1 _ _ _ st1 w1 (walk_frT h2 h3) e2⟩)
  | _=>exact (by obtain ⟨xs,e1,_⟩ := h1; cases e1),qx⟩
def mRng1 (r:MA):MI := fun s A R E=>r s A (fun ds A1=>∃ j:Int,ds=[.int j] ∧ -(2 ^ 62)≤j∧j < 2 ^ 62∧R (intsD 0 j.toNat) ckT A1) E
theorem c_rng1 {mr:MA}:∀ σ H R,cI K W (mRng1 mr) σ H R→iRng1 (cA K W mr) σ H R := fun σ H R ⟨g,s,A,Ra,Ea,w,rs,h,q,qx⟩ =>
 ⟨g,s,A,_,Ea,w,rs,h,fun g1 A1 H1 xs ds st1 w1 r1 ⟨j,e,h0,h1,h2⟩=>by
  subst e
  obtain ⟨v,rfl,r⟩ := r1.one
  exact ⟨j,by rw [r.int_],h0,h1,q g1 A1 H1 _ _ _ st1 w1 walk_rng h2⟩,qx⟩
def pairs (items:List D):List D := (List.range items.length).map fun i=>.tup [.int (i:Nat),items.getD i .non]
theorem pairs_at {items:List D} {i:Nat} {d:D} (h:(pairs items)[i]? = some d):∃ y,items[i]? = some y∧d = .tup [.int (i:Nat),y] := by
 unfold pairs at h
 rw [List.getElem?_map] at h
 cases q:(List.range items.length)[i]? with
 | none=>rw [q] at h; cases h
 | some j =>
  have hlt:i < items.length := Classical.byContradiction fun z=>by rw [List.getElem?_eq_none (by simpa using z)] at q; cases q
  rw [List.getElem?_range hlt] at q
  rw [List.getElem?_range hlt] at h
  cases q
  cases h
  refine ⟨items[i],List.getElem?_eq_getElem hlt, ?_⟩
  show D.tup [D.int ↑i,items.getD i D.non]=_
  rw [List.getD_eq_getElem?_getD,List.getElem?_eq_getElem hlt]
  rfl
theorem pairs_len {items:List D}:(pairs items).length=items.length := by simp [pairs]
theorem WalkD.enum {a:Addr} {items:List D} {ck:AH→Prop} (h:WalkD K (Itl K a) g items ck) (hq:∀ g2 A2 H2,g.le g2→Wr K g2 A2 H2→ck A2→∃ vs,SqL K H2 a vs∧Reps K g2 vs items):WalkD K (Ite K a) g (pairs items) ck where
 go := fun i g2 A2 H2 le w c hi=>h.go i g2 A2 H2 le w c (by rw [pairs_len] at hi; exact hi)
 yl := fun i g2 A2 H2 x H' d le w c hd y=>by
  obtain ⟨T,u,e1,e2,e3,hy⟩ := y
  subst e1; subst e3
  obtain ⟨z,h1,h2⟩ := pairs_at hd
  subst h2
  obtain ⟨vs,h3,h4⟩ := hq g2 A2 H2 le w c
  obtain ⟨u',h5,h6⟩ := h4.at_ h1
  have := hy vs h3
  rw [h5] at this; cases this
  obtain ⟨w3,st3⟩ := w.new (o := .tup [.int (i:Nat),u]) e2
  exact ⟨_,st3,w3, .tup upd_same (.cons (.int _) (.cons (h6.mono st3.le) .nil))⟩
 st := fun i g2 A2 H2 le w c hi=>h.st i g2 A2 H2 le w c (by rw [pairs_len] at hi; exact hi)
def fEnum (d:D) (A:AH) (R:List D→(AH→Prop)→AH→Prop):Prop := match d with
 | .ref n=>∃ xs,A n=some (.lst xs)∧R (pairs xs) (fun A2=>A2 n=some (.lst xs)) A
 | .lst xs=>R (pairs xs) ckT A
 | _=>False
def mEnum (r:MA):MI := fun s A R E=>r s A (fun ds A1=>∃ d,ds=[d]∧fEnum d A1 R) E
theorem c_enum {mr:MA}:∀ σ H R,cI K W (mEnum mr) σ H R→iEnum K (cA K W mr) σ H R := fun σ H R ⟨g,s,A,Ra,Ea,w,rs,h,q,qx⟩ =>
 ⟨g,s,A,_,Ea,w,rs,h,fun g1 A1 H1 vs ds st1 w1 r1 ⟨d,e,h1⟩=>by
  subst e
  obtain ⟨v,rfl,r⟩ := r1.one
  cases r with
  | ref hi =>
   obtain ⟨xs,e1,e2⟩ := h1
   obtain ⟨a,vs,e,q1,q2,q3⟩ := w1.nodeL (.ref hi) e1
   cases e
   exact ⟨_,vs,rfl, .inl (.inl q2),q g1 A1 H1 _ _ _ st1 w1 ((walk_nd hi).enum fun g2 A2 H2 le w2 ck=>by
    obtain ⟨b,us,e,p1,p2,p3⟩ := w2.nodeL (v := .ref _) (.ref (le.i _ _ hi)) ck
    cases e
    exact ⟨us, .inl (.inl p2),p3⟩) e2⟩
  | lst h2 h3=>exact ⟨_,_,rfl, .inl (w1.sub.rd h2),q g1 A1 H1 _ _ _ st1 w1 ((walk_fr h2 h3).enum fun g2 A2 H2 le w2 ck=>⟨_, .inl (w2.sub.rd (Fm.Same.rd le.s h2)),h3.mono le⟩) h1⟩
  | _=>exact h1.elim,qx⟩
end
def TgS (K:PySem.W.Frag) (t:TG) (mg:MG) (vs:List Nat):Prop := ∀ g A H v d σ s Qa Q,Wr K g A H→Rep K g v d→RepS K g σ s→mg d s A Qa →
 (∀ σ' s',RepS K g σ' s'→(∀ us:List Nat,(∀ i∈vs,i∈us)→wipe σ' us=wipe σ us)→Qa s' A→Q σ' H)→t v σ H Q
def TgsS (K:PySem.W.Frag) (t:TGs) (mg:MGs) (vs:List Nat):Prop := ∀ g A H xs ds σ s Qa Q,Wr K g A H→Reps K g xs ds→RepS K g σ s→mg ds s A Qa →
 (∀ σ' s',RepS K g σ' s'→(∀ us:List Nat,(∀ i∈vs,i∈us)→wipe σ' us=wipe σ us)→Qa s' A→Q σ' H)→t xs σ H Q
theorem wipe_at:∀ (us:List Nat) (σ:L2.St) (n:Nat),(wipe σ us)[n]? = if n∈us∧n < σ.length then some none else σ[n]?
 | [],σ,n=>by simp [wipe]
 | u :: us,σ,n=>by
  show ((wipe σ us).set u none)[n]? = _
  rw [List.getElem?_set,wipe_at us σ n,wipe_length]
  by_cases h1:u=n
  ·subst h1
   by_cases h2:u < σ.length
   ·simp [h2]
   ·simp [h2,List.getElem?_eq_none (Nat.le_of_not_lt h2)]
  ·have h1':¬ n=u := fun e=>h1 e.symm
   simp [h1,h1']
theorem wipe_set {σ:L2.St} {i:Nat} {v:Option V} {us:List Nat} (h:i∈us):wipe (σ.set i v) us=wipe σ us := by
 apply List.ext_getElem?
 intro n
 rw [wipe_at,wipe_at,List.length_set,List.getElem?_set]
 by_cases h1:n∈us∧n < σ.length
 ·rw [if_pos h1,if_pos h1]
 ·rw [if_neg h1,if_neg h1]
  by_cases h2:i=n
  ·subst h2
   have:¬ i < σ.length := fun z=>h1 ⟨h,z⟩
   rw [if_pos rfl,if_neg this,List.getElem?_eq_none (Nat.le_of_not_lt this)]
  ·rw [if_neg h2]
section
variable {K:PySem.W.Frag}
def gN (i:Nat):MG := fun d s A Q=>Q (s.set i (some d)) A
theorem tg_name {i:Nat}:TgS K (gName i) (gN i) [i] := fun g A H v d σ s Qa Q w r rs h q=>q _ _ (rs.set r) (fun us hu=>wipe_set (hu i (by simp))) h
def gNl:MGs := fun ds s A Q=>ds=[]∧Q s A
def gCs (t:MG) (u:MGs):MGs := fun ds s A Q=>∃ d r,ds=d :: r∧t d s A fun s' A'=>u r s' A' Q
theorem tgs_nil:TgsS K gNil gNl [] := fun g A H xs ds σ s Qa Q w r rs ⟨e,h⟩ q=>by
 subst e
 cases r
 exact ⟨rfl,q σ s rs (fun _ _=>rfl) h⟩
theorem tgs_cons {t:TG} {mt:MG} {u:TGs} {mu:MGs} {vs us:List Nat} (h1:TgS K t mt vs) (h2:TgsS K u mu us):TgsS K (gCons t u) (gCs mt mu) (vs ++ us) := fun g A H xs ds σ s Qa Q w r rs ⟨d,rd,e,h⟩ q=>by
 subst e
 cases r with
 | cons r0 rr=>exact ⟨_,_,rfl,h1 g A H _ _ σ s _ _ w r0 rs h fun σ1 s1 rs1 e1 h=>h2 g A H _ _ σ1 s1 _ _ w rr rs1 h fun σ2 s2 rs2 e2 h=>q σ2 s2 rs2 (fun ws hw=>(e2 ws fun i hi=>hw i (List.mem_append_right _ hi)).trans (e1 ws fun i hi=>hw i (List.mem_append_left _ hi))) h⟩
def gTp (n:Nat) (u:MGs):MG := fun d s A Q=>∃ ds,(d = .tup ds∨d = .ktup ds)∧ds.length=n∧u ds s A Q
theorem tg_tup {n:Nat} {u:TGs} {mu:MGs} {us:List Nat} (h2:TgsS K u mu us):TgS K (gTup K n u) (gTp n mu) us := fun g A H v d σ s Qa Q w r rs ⟨ds,e,hl,h⟩ q=>by
 rcases e with e | e
 ·subst e
  cases r with
  | tup h3 h4=>exact ⟨_,_,rfl,w.sub.sqt (.inl (.inl h3)),by rw [h4.len]; exact hl,h2 g A H _ _ σ s Qa Q w h4 rs h q⟩
 ·subst e
  cases r with
  | ktup h3 h4=>exact ⟨_,_,rfl,w.sub.sqt h3,by rw [h4.len]; exact hl,h2 g A H _ _ σ s Qa Q w h4 rs h q⟩
end
abbrev NX:QX := fun _ _=>False
def wipeD (s:Sl):List Nat→Sl
 | []=>s
 | v :: vs=>(wipeD s vs).set v none
def lcL (ck:AH→Prop) (tg:MG) (tt:MT) (te:ME) (s:Sl):List D→AH→(List D→AH→Prop)→Prop
 | [],A,Q=>ck A∧Q [] A
 | d :: ds,A,Q=>ck A∧tg d s A fun s1 A1=>tt s1 A1 (fun b A2=>if b=true then te s1 A2 (fun y A3=>lcL ck tg tt te s ds A3 fun ys A4=>Q (y :: ys) A4) NX else lcL ck tg tt te s ds A2 Q) NX
def mYes:MT := fun _ A Q _=>Q true A
def mLcG (mk:List D→AH→QE→Prop) (mi:MI) (tg:MG) (tt:MT) (te:ME) (vs:List Nat):ME := fun s A Q E=>mi s A (fun items ck A1=>items.length≤sizeLine∧lcL ck tg tt te (wipeD s vs) items A1 fun ds A2=>mk ds A2 Q) E
def mLc := mLcG oldL
def mLcM := mLcG newL
section
variable {K:PySem.W.Frag} {W:WX}
theorem c_yes:∀ σ H Q,cT K W mYes σ H Q→tYes σ H Q := fun σ H Q ⟨g,s,A,Qa,Ea,w,rs,h,q,qx⟩=>q g A H true .refl w h
theorem RepS.wipe {g:Sg} {σ:L2.St} {s:Sl} (h:RepS K g σ s):∀ vs:List Nat,RepS K g (L2.wipe σ vs) (wipeD s vs)
 | []=>h
 | v :: vs=>(RepS.wipe h vs).unset
theorem wipe_wipe {σ:L2.St} (vs:List Nat):L2.wipe (L2.wipe σ vs) vs=L2.wipe σ vs := by
 apply List.ext_getElem?
 intro n
 rw [wipe_at,wipe_at,wipe_length]
 by_cases h:n∈vs∧n < σ.length
 ·rw [if_pos h,if_pos h]
 ·rw [if_neg h,if_neg h]
def MkX (K:PySem.W.Frag) (mk:List D→AH→QE→Prop):Prop := ∀ g A H p vs ds Qa (Q:VK),Wr K g A H→H p=some (.lst vs)→g.S p=none→(∀ n,g.i n≠some p)→Reps K g vs ds→mk ds A Qa →
 (∀ g' A' v d,g.le g'→(∀ a,Own g' A' a→Own g A a∨a=p)→(∀ a,a≠p→g.S a=none→g'.S a=none)→(∀ n a,g'.i n=some a→g.i n=some a∨a=p)→Wr K g' A' H→Rep K g' v d→Qa d A'→Q v H)→Q (.ref p) H
theorem mx_old:MkX K oldL := fun g A H p vs ds Qa Q w hp hS hi r h q=>by
 have le:g.le ⟨upd g.S p (.lst vs),g.i⟩ := ⟨same_new hS,fun _ _ h=>h⟩
 refine q ⟨upd g.S p (.lst vs),g.i⟩ A (.ref p) (.lst ds) le (fun a h=>.inl h) (fun a ha hs=>by show upd g.S p (.lst vs) a=none; rw [upd_ne ha]; exact hs) (fun _ _ h=>.inl h) ⟨fun b o e=>?_,w.inj,w.ex,w.fin,fun n x h=>?_⟩ (.lst (.inl upd_same) (r.mono le)) h
 ·by_cases hb:b=p
  ·subst hb; have e':upd g.S b (.lst vs) b=some o := e; rw [upd_same] at e'; cases e'; exact ⟨_,hp, .inl rfl⟩
  ·have e':upd g.S p (.lst vs) b=some o := e; rw [upd_ne hb] at e'; exact w.sub b o e'
 ·obtain ⟨a,h1,h2,h3⟩ := w.nd n x h
  have hn:a≠p := fun z=>hi n (by rw [← z]; exact h1)
  exact ⟨a,h1,by show upd g.S p (.lst vs) a=none; rw [upd_ne hn]; exact h2,h3.mono le rfl⟩
theorem mx_new : MkX K newL := fun g A H p vs ds Qa Q w hp hS hi r h q => by
  obtain ⟨N, hN⟩ := w.fin
  have hiN : g.i N = none := hN N (Nat.le_refl _)
  have hA : A N = none := by
    cases e : A N with
    | none => rfl
    | some x => obtain ⟨a, h, _⟩ := w.nd N x e; rw [hiN] at h; cases h
  have le : g.le ⟨g.S, fun m => if m = N then some p else g.i m⟩ := ⟨Same.refl _, fun m a h => by
    have : m ≠ N := fun e => by rw [e, hiN] at h; cases h
    show (if m = N then some p else g.i m) = some a
    rw [if_neg this]; exact h⟩
  have old : ∀ m a, (if m = N then some p else g.i m) = some a → (m = N ∧ a = p) ∨ (m ≠ N ∧ g.i m = some a ∧ a ≠ p) := fun m a h => by
    by_cases e : m = N
    · rw [if_pos e] at h; exact .inl ⟨e, (Option.some.inj h).symm⟩
    · rw [if_neg e] at h; exact .inr ⟨e, h, fun z => hi m (by rw [← z]; exact h)⟩
  refine q ⟨g.S, fun m => if m = N then some p else g.i m⟩ (put A N (.lst ds)) (.ref p) (.ref N) le (fun a ⟨m, x, h1, h2⟩ => ?_) (fun _ _ h => h) (fun n a h => ?_) ⟨w.sub, fun n m a h1 h2 => ?_, fun n a h => ?_, ⟨N + 1, fun n h => ?_⟩, fun n y h => ?_⟩ (.ref (if_pos rfl)) (h N hA)
  · rcases old m a h2 with ⟨e1, e2⟩ | ⟨e1, e2, e3⟩
    · exact .inr e2
    · rw [put_ne e1] at h1; exact .inl ⟨m, x, h1, e2⟩
  · rcases old n a h with ⟨e1, e2⟩ | ⟨e1, e2, e3⟩
    · exact .inr e2
    · exact .inl e2
  · rcases old n a h1 with ⟨e1, e2⟩ | ⟨e1, e2, e3⟩ <;> rcases old m a h2 with ⟨f1, f2⟩ | ⟨f1, f2, f3⟩
    · rw [e1, f1]
    · exact absurd e2 f3
    · exact absurd f2 e3
    · exact w.inj n m a e2 f2
  · rcases old n a h with ⟨e1, e2⟩ | ⟨e1, e2, e3⟩
    · rw [e2, hp]; simp
    · exact w.ex n a e2
  · show (if n = N then some p else g.i n) = none
    rw [if_neg (by omega)]; exact hN n (by omega)
  · by_cases e : n = N
    · subst e
      rw [put_same] at h; cases h
      exact ⟨p, if_pos rfl, hS, vs, hp, r.mono le⟩
    · rw [put_ne e] at h
      obtain ⟨a, h1, h2, h3⟩ := w.nd n y h
      exact ⟨a, by show (if n = N then some p else g.i n) = some a; rw [if_neg e]; exact h1, h2, h3.mono le rfl⟩
end
end Am
namespace Am
open PySem PySem.Spec PyProof.Rows L2
open Fm (same_new iSeq)
section
variable {K:PySem.W.Frag} {W:WX}
theorem c_lcG {mk:List D→AH→QE→Prop} {mi:MI} {t:TG} {tg:MG} {tt:MT} {te:ME} {vs ws:List Nat} (hk:MkX K mk) (ht:TgS K t tg ws) (hw:∀ i∈ws,i∈vs) :
  ∀ σ H Q,cE K W (mLcG mk mi tg tt te vs) σ H Q→tLc (cI K W mi) t (cT K WF tt) (cE K WF te) vs σ H Q := fun σ H Q ⟨g,s,A,Qa,Ea,w,rs,h,q,qx⟩ =>
 ⟨g,s,A,_,Ea,w,rs,h,fun g1 A1 H1 J items ck st1 w1 wk ⟨hz,h1⟩ D nD=>by
  have nS:g1.S D=none := w1.sub.free nD
  have nI:∀ n,g1.i n≠some D := fun n e=>w1.ex n D e nD
  obtain ⟨w1',st1'⟩ := w1.tmp (o := .lst []) nD
  refine ⟨fun i m H=>m=items.length - i∧i≤items.length∧∃ g2 A2 acc ds,Stp g1 A1 H1 g2 A2 H∧Wr K g2 A2 H∧H D=some (.lst acc)∧g2.S D=none∧(∀ n,g2.i n≠some D)∧Reps K g2 acc ds∧acc.length≤i∧lcL ck tg tt te (wipeD s vs) (items.drop i) A2 fun ys A3=>mk (ds ++ ys) A3 Qa,
   ⟨items.length,by omega,by omega,g1,A1,[],[],st1',w1',upd_same,nS,nI, .nil,Nat.le_refl _,by simpa using h1⟩, ?_⟩
  rintro i m H2 ⟨rfl,hin,g2,A2,acc,ds,st2,w2,hD,hS,hI,ra,hl,h2⟩
  have rs2 := (rs.mono (st1.trans st2).le).wipe vs
  by_cases hlt:i < items.length
  ·have ed:items.drop i=items[i] :: items.drop (i + 1) := List.drop_eq_getElem_cons hlt
   rw [ed] at h2
   obtain ⟨hck,h2⟩ := h2
   refine .inr ⟨wk.go i g2 A2 H2 st2.le w2 hck hlt,fun H'=>∃ g3 A3 acc ds,Stp g1 A1 H1 g3 A3 H'∧Wr K g3 A3 H'∧H' D=some (.lst acc)∧g3.S D=none∧(∀ n,g3.i n≠some D)∧Reps K g3 acc ds∧acc.length≤i + 1∧lcL ck tg tt te (wipeD s vs) (items.drop (i + 1)) A3 fun ys A4=>mk (ds ++ ys) A4 Qa,
    fun H' h=>⟨items.length - (i + 1),by omega,rfl,hlt,h⟩,fun x H' y=>?_⟩
   obtain ⟨g3,st3,w3,rx⟩ := wk.yl i g2 A2 H2 x H' _ st2.le w2 hck (List.getElem?_eq_getElem hlt) y
   have keep:∀ {g4 A4 H4},Stp g2 A2 H2 g4 A4 H4→H4 D=some (.lst acc)∧g4.S D=none∧∀ n,g4.i n≠some D := fun st=>st.beside hD hS hI
   refine ht g3 A2 H' x _ _ _ _ _ w3 rx (rs2.mono st3.le) h2 fun σ4 s4 rs4 e4 h4=>⟨by rw [e4 vs hw,wipe_wipe],g3,s4,A2,_,NX,w3,rs4,h4,fun g5 A5 H5 b st5 w5 h5=>?_,fun _ _ _ _ _ _ _ _ _ z=>z⟩
   have st25 := st3.trans st5
   cases b with
   | false =>
    obtain ⟨k1,k2,k3⟩ := keep st25
    exact iteF ⟨g5,A5,acc,ds,st2.trans st25,w5,k1,k2,k3,ra.mono st25.le,by omega,h5⟩
   | true =>
    refine iteT ⟨g5,s4,A5,_,NX,w5,rs4.mono st5.le,h5,fun g6 A6 H6 y6 d6 st6 w6 r6 h6=>?_,fun _ _ _ _ _ _ _ _ _ z=>z⟩
    have st26 := st25.trans st6
    obtain ⟨k1,k2,k3⟩ := keep st26
    refine ⟨acc,k1,by omega, ?_⟩
    have w7 := w6.own (o := .lst (acc ++ [y6])) k2 k3
    refine ⟨g6,A6,acc ++ [y6],ds ++ [d6], ?_,w7,upd_same,k2,k3,(ra.mono st26.le).app (.cons r6 .nil),by simpa using hl,by simpa [List.append_assoc] using h6⟩
    exact (st2.trans st26).put nD
  ·have e:i=items.length := by omega
   subst e
   rw [List.drop_length] at h2
   obtain ⟨hck,h2⟩ := h2
   refine .inl ⟨wk.st _ g2 A2 H2 st2.le w2 hck (Nat.le_refl _),hk g2 A2 H2 D acc ds Qa Q w2 hD hS hI ra (by simpa using h2) fun g' A' v d le own sn inw w' r' h'=>?_⟩
   refine q g' A' H2 v d (st1.trans ⟨st2.le.trans le,st2.kp,fun a ha=>?_,st2.ex,fun a o h1 h0 h2 h3=>?_,fun n a e=>?_⟩) w' r' h'
   ·rcases own a ha with z | z
    ·exact st2.nw a z
    ·exact .inr (by rw [z]; exact nD)
   ·exact sn a (ne_of_none h1 nD) (st2.sn a o h1 h0 h2 h3)
   ·rcases inw n a e with z | z
    ·exact st2.inw n a z
    ·exact .inr (by rw [z]; exact nD),qx⟩
end
end Am
namespace Am
open PySem PySem.Spec PyProof.Rows L2
open Fm (same_new iSeq)
section
variable {K:PySem.W.Frag} {W:WX}
theorem c_lc {mi:MI} {t:TG} {tg:MG} {tt:MT} {te:ME} {vs ws:List Nat} (ht:TgS K t tg ws) (hw:∀ i∈ws,i∈vs):∀ σ H Q,cE K W (mLc mi tg tt te vs) σ H Q→tLc (cI K W mi) t (cT K WF tt) (cE K WF te) vs σ H Q := c_lcG mx_old ht hw
theorem c_lcM {mi:MI} {t:TG} {tg:MG} {tt:MT} {te:ME} {vs ws:List Nat} (ht:TgS K t tg ws) (hw:∀ i∈ws,i∈vs):∀ σ H Q,cE K W (mLcM mi tg tt te vs) σ H Q→tLc (cI K W mi) t (cT K WF tt) (cE K WF te) vs σ H Q := c_lcG mx_new ht hw
def dcL (ck:AH→Prop) (tg:MG) (tt:MT) (tk tv:ME) (s:Sl):List D→List (Key × D)→AH→(List (Key × D)→AH→Prop)→Prop
 | [],acc,A,Q=>ck A∧Q acc A
 | d :: ds,acc,A,Q=>ck A∧tg d s A fun s1 A1=>tt s1 A1 (fun b A2=>if b=true then tk s1 A2 (fun y A3=>tv s1 A3 (fun z A4=>∃ k,kyK y=some k∧dcL ck tg tt tk tv s ds (putD acc k z) A4 Q) NX) NX else dcL ck tg tt tk tv s ds acc A2 Q) NX
def mDc (mi:MI) (tg:MG) (tt:MT) (tk tv:ME) (vs:List Nat):ME := fun s A Q E=>mi s A (fun items ck A1=>items.length≤sizeLine∧dcL ck tg tt tk tv (wipeD s vs) items [] A1 fun kvs A2=>Q (.dK kvs) A2) E
theorem length_putK {κ:Type} [DecidableEq κ] (kvs:List (κ × V)) (k:κ) (v:V):(putK kvs k v).length≤kvs.length + 1 := by
 unfold putK
 split
 ·rw [List.length_map]; omega
 ·rw [List.length_append]; simp
theorem c_dc {mi:MI} {t:TG} {tg:MG} {tt:MT} {tk tv:ME} {vs ws:List Nat} (ht:TgS K t tg ws) (hw:∀ i∈ws,i∈vs) :
  ∀ σ H Q,cE K W (mDc mi tg tt tk tv vs) σ H Q→tDc (cI K W mi) t (cT K WF tt) (cE K WF tk) (cE K WF tv) vs σ H Q := fun σ H Q ⟨g,s,A,Qa,Ea,w,rs,h,q,qx⟩ =>
 ⟨g,s,A,_,Ea,w,rs,h,fun g1 A1 H1 J items ck st1 w1 wk ⟨hz,h1⟩ D nD=>by
  have nS:g1.S D=none := w1.sub.free nD
  have nI:∀ n,g1.i n≠some D := fun n e=>w1.ex n D e nD
  obtain ⟨w1',st1'⟩ := w1.tmp (o := .dK []) nD
  refine ⟨fun i m H=>m=items.length - i∧i≤items.length∧∃ g2 A2 acc ds,Stp g1 A1 H1 g2 A2 H∧Wr K g2 A2 H∧H D=some (.dK acc)∧g2.S D=none∧(∀ n,g2.i n≠some D)∧KReps K g2 acc ds∧acc.length≤i∧dcL ck tg tt tk tv (wipeD s vs) (items.drop i) ds A2 fun kvs A2=>Qa (.dK kvs) A2,
   ⟨items.length,by omega,by omega,g1,A1,[],[],st1',w1',upd_same,nS,nI, .nil,Nat.le_refl _,by simpa using h1⟩, ?_⟩
  rintro i m H2 ⟨rfl,hin,g2,A2,acc,ds,st2,w2,hD,hS,hI,ra,hl,h2⟩
  have rs2 := (rs.mono (st1.trans st2).le).wipe vs
  by_cases hlt:i < items.length
  ·have ed:items.drop i=items[i] :: items.drop (i + 1) := List.drop_eq_getElem_cons hlt
   rw [ed] at h2
   obtain ⟨hck,h2⟩ := h2
   refine .inr ⟨wk.go i g2 A2 H2 st2.le w2 hck hlt,fun H'=>∃ g3 A3 acc ds,Stp g1 A1 H1 g3 A3 H'∧Wr K g3 A3 H'∧H' D=some (.dK acc)∧g3.S D=none∧(∀ n,g3.i n≠some D)∧KReps K g3 acc ds∧acc.length≤i + 1∧dcL ck tg tt tk tv (wipeD s vs) (items.drop (i + 1)) ds A3 fun kvs A2=>Qa (.dK kvs) A2,
    fun H' h=>⟨items.length - (i + 1),by omega,rfl,hlt,h⟩,fun x H' y=>?_⟩
   obtain ⟨g3,st3,w3,rx⟩ := wk.yl i g2 A2 H2 x H' _ st2.le w2 hck (List.getElem?_eq_getElem hlt) y
   have keep:∀ {g4 A4 H4},Stp g2 A2 H2 g4 A4 H4→H4 D=some (.dK acc)∧g4.S D=none∧∀ n,g4.i n≠some D := fun st=>st.beside hD hS hI
   refine ht g3 A2 H' x _ _ _ _ _ w3 rx (rs2.mono st3.le) h2 fun σ4 s4 rs4 e4 h4=>⟨by rw [e4 vs hw,wipe_wipe],g3,s4,A2,_,NX,w3,rs4,h4,fun g5 A5 H5 b st5 w5 h5=>?_,fun _ _ _ _ _ _ _ _ _ z=>z⟩
   have st25 := st3.trans st5
   cases b with
   | false =>
    obtain ⟨k1,k2,k3⟩ := keep st25
    exact iteF ⟨g5,A5,acc,ds,st2.trans st25,w5,k1,k2,k3,ra.mono st25.le,by omega,h5⟩
   | true =>
    refine iteT ⟨g5,s4,A5,_,NX,w5,rs4.mono st5.le,h5,fun g6 A6 H6 y6 d6 st6 w6 r6 h6=>⟨g6,s4,A6,_,NX,w6,rs4.mono (st5.trans st6).le,h6,fun g7 A7 H7 y7 d7 st7 w7 r7 ⟨k,hk,h7⟩=>?_,fun _ _ _ _ _ _ _ _ _ z=>z⟩,fun _ _ _ _ _ _ _ _ _ z=>z⟩
    have st27 := (st25.trans st6).trans st7
    obtain ⟨k1,k2,k3⟩ := keep st27
    refine ⟨acc,k,kyK_ok r6 hk,k1,by omega, ?_⟩
    have w8 := w7.own (o := .dK (putK acc k y7)) k2 k3
    refine ⟨g7,A7,putK acc k y7,putD ds k d7,(st2.trans st27).put nD,w8,upd_same,k2,k3,(ra.mono st27.le).put r7, ?_,h7⟩
    exact Nat.le_trans (length_putK _ _ _) (by omega)
  ·have e:i=items.length := by omega
   subst e
   rw [List.drop_length] at h2
   obtain ⟨hck,h2⟩ := h2
   have le:g2.le ⟨upd g2.S D (.dK acc),g2.i⟩ := ⟨same_new hS,fun _ _ h=>h⟩
   have w':Wr K ⟨upd g2.S D (.dK acc),g2.i⟩ A2 H2 := by
    refine ⟨fun b o e=>?_,w2.inj,w2.ex,w2.fin,fun n x h=>?_⟩
    ·by_cases hb:b=D
     ·subst hb; have e':upd g2.S b (.dK acc) b=some o := e; rw [upd_same] at e'; cases e'; exact ⟨_,hD, .inl rfl⟩
     ·have e':upd g2.S D (.dK acc) b=some o := e; rw [upd_ne hb] at e'; exact w2.sub b o e'
    ·obtain ⟨a,h1,h2,h3⟩ := w2.nd n x h
     have hn:a≠D := fun z=>hI n (by rw [← z]; exact h1)
     exact ⟨a,h1,by show upd g2.S D (.dK acc) a=none; rw [upd_ne hn]; exact h2,h3.mono le rfl⟩
   refine .inl ⟨wk.st _ g2 A2 H2 st2.le w2 hck (Nat.le_refl _),q _ _ _ _ _ (st1.trans ⟨st2.le.trans le,st2.kp,st2.nw,st2.ex,fun a o h1 h0 h2 h3=>?_,st2.inw⟩) w' (.dK (.inl upd_same) (ra.mono le).1 (ra.mono le).2) h2⟩
   show upd g2.S D (.dK acc) a=none
   rw [upd_ne (ne_of_none h1 nD)]
   exact st2.sn a o h1 h0 h2 h3,qx⟩
end
structure AEnds where
 nx:Sl→AH→Prop
 rt:QE
 bk:Sl→AH→Prop
 ct:Sl→AH→Prop
 ex:Xc→Sl→AH→Prop
abbrev MS := AEnds→Sl→AH→Prop
def PostN (K:PySem.W.Frag) (g:Sg) (A:AH) (H:Hp) (Qa:Sl→AH→Prop) (Q:L2.St→Hp→Prop):Prop := ∀ g' A' H' σ' s',Stp g A H g' A' H'→Wr K g' A' H'→RepS K g' σ' s'→Qa s' A'→Q σ' H'
def PostW (K:PySem.W.Frag) (g:Sg) (A:AH) (H:Hp) (Ea:Xc→Sl→AH→Prop) (W:WX):Prop := ∀ g' A' H' σ' s' x cls dd,Stp g A H g' A' H'→Wr K g' A' H'→RepS K g' σ' s'→RepX K g' cls dd x→Ea x s' A'→W cls dd σ' H'
structure PostS (K:PySem.W.Frag) (g:Sg) (A:AH) (H:Hp) (Da:AEnds) (D:Ends) (W:WX):Prop where
 nx:PostN K g A H Da.nx D.nx
 rt:Post K g A H Da.rt D.rt
 bk:PostN K g A H Da.bk D.bk
 ct:PostN K g A H Da.ct D.ct
 ex:PostW K g A H Da.ex W
def cS (K:PySem.W.Frag) (W:WX) (m:MS):TS := fun D σ H=>∃ g s A Da,Wr K g A H∧RepS K g σ s∧m Da s A∧PostS K g A H Da D W
theorem PS.weak {X:Cx} {st:Stmt} {t t':TS} (h:PS X st t) (k:∀ D σ H,t' D σ H→t D σ H):PS X st t' := ⟨fun pins s σ H D I q=>h.run pins s σ H D I (k D σ H q)⟩
theorem PSs.weak {X:Cx} {st:List Stmt} {t t':TS} (h:PSs X st t) (k:∀ D σ H,t' D σ H→t D σ H):PSs X st t' := ⟨fun pins s σ H D I q=>h.run pins s σ H D I (k D σ H q)⟩
section
variable {K:PySem.W.Frag} {W:WX} {g g1:Sg} {A A1:AH} {H H1:Hp} {m ma mb mc:ME}
theorem PostN.step {Qa:Sl→AH→Prop} {Q:L2.St→Hp→Prop} (q:PostN K g A H Qa Q) (s:Stp g A H g1 A1 H1):PostN K g1 A1 H1 Qa Q := fun g' A' H' σ s2 s' w r h=>q g' A' H' σ s2 (s.trans s') w r h
theorem PostW.step {Ea:Xc→Sl→AH→Prop} (q:PostW K g A H Ea W) (s:Stp g A H g1 A1 H1):PostW K g1 A1 H1 Ea W := fun g' A' H' σ s2 x c d s' w r rx h=>q g' A' H' σ s2 x c d (s.trans s') w r rx h
theorem PostS.step {Da:AEnds} {D:Ends} (q:PostS K g A H Da D W) (s:Stp g A H g1 A1 H1):PostS K g1 A1 H1 Da D W := ⟨q.nx.step s,q.rt.step s,q.bk.step s,q.ct.step s,q.ex.step s⟩
theorem PostW.at_ {Ea:Xc→Sl→AH→Prop} {σ:L2.St} {s:Sl} (q:PostW K g A H Ea W) (rs:RepS K g σ s):PostX K g A H (fun x A'=>Ea x s A') (fun c d H'=>W c d σ H') := fun g' A' H' x c d st w rx h=>q g' A' H' σ s x c d st w (rs.mono st.le) rx h
def mNext:MS := fun D s A=>D.nx s A
def mSq (t u:MS):MS := fun D s A=>t { D with nx := fun s' A'=>u D s' A' } s A
def mNever:MS := fun _ _ _=>False
theorem c_next:∀ D σ H,cS K W mNext D σ H→tNext D σ H := fun D σ H ⟨g,s,A,Da,w,rs,h,q⟩=>q.nx g A H σ s .refl w rs h
theorem c_never:∀ D σ H,cS K W mNever D σ H→tNever D σ H := fun D σ H ⟨g,s,A,Da,w,rs,h,q⟩=>h
theorem c_sq {t u:MS}:∀ D σ H,cS K W (mSq t u) D σ H→tSeq (cS K W t) (cS K W u) D σ H := fun D σ H ⟨g,s,A,Da,w,rs,h,q⟩ =>
 ⟨g,s,A,_,w,rs,h,⟨fun g1 A1 H1 σ1 s1 st1 w1 r1 h1=>⟨g1,s1,A1,Da,w1,r1,h1,q.step st1⟩,q.rt,q.bk,q.ct,q.ex⟩⟩
def mSet (m:ME) (tg:MG):MS := fun D s A=>m s A (fun d A1=>tg d s A1 D.nx) fun x A1=>D.ex x s A1
theorem c_set {t:TG} {tg:MG} {ws:List Nat} (ht:TgS K t tg ws):∀ D σ H,cS K W (mSet m tg) D σ H→tAsg (cE K W m) t D σ H := fun D σ H ⟨g,s,A,Da,w,rs,h,q⟩ =>
 ⟨g,s,A,_,_,w,rs,h,fun g1 A1 H1 x dx st1 w1 r1 h1=>ht g1 A1 H1 x dx σ s _ _ w1 r1 (rs.mono st1.le) h1 fun σ' s' rs' _ h'=>q.nx g1 A1 H1 σ' s' st1 w1 rs' h',q.ex.at_ rs⟩
def mDrop (m:ME):MS := fun D s A=>m s A (fun _ A1=>D.nx s A1) fun x A1=>D.ex x s A1
theorem c_drop:∀ D σ H,cS K W (mDrop m) D σ H→tDrop (cE K W m) D σ H := fun D σ H ⟨g,s,A,Da,w,rs,h,q⟩ =>
 ⟨g,s,A,_,_,w,rs,h,fun g1 A1 H1 x dx st1 w1 r1 h1=>q.nx g1 A1 H1 σ s st1 w1 (rs.mono st1.le) h1,q.ex.at_ rs⟩
def mRet (m:ME):MS := fun D s A=>m s A D.rt fun x A1=>D.ex x s A1
theorem c_ret:∀ D σ H,cS K W (mRet m) D σ H→tRet (cE K W m) D σ H := fun D σ H ⟨g,s,A,Da,w,rs,h,q⟩=>⟨g,s,A,_,_,w,rs,h,q.rt,q.ex.at_ rs⟩
def frz1 (A:AH) (d:D) (Q:QE):Prop := match d with
 | .ref n=>match A n with
  | some (.lst xs)=>Q (.lst xs) (rem A n)
  | some (.dK kvs)=>Q (.dK kvs) (rem A n)
  | some (.dT kvs)=>Q (.dT kvs) (rem A n)
  | some (.ins c fs)=>Q (.ins c fs) (rem A n)
  | _=>Q d A
 | d=>Q d A
theorem frz1_ok {v:V} {d:D} {Qa:QE} {Q:VK} (w:Wr K g A H) (r:Rep K g v d) (h:frz1 A d Qa) (q:Post K g A H Qa Q):Q v H := by
 unfold frz1 at h
 cases d with
 | ref n =>
  obtain ⟨a,rfl,hi⟩:∃ a,v = .ref a∧g.i n=some a := by cases r with | ref h=>exact ⟨_,rfl,h⟩
  simp only at h
  cases e:A n with
  | none=>rw [e] at h; exact q.now w (.ref hi) h
  | some x =>
   rw [e] at h
   obtain ⟨b,q1,q2,q3⟩ := w.nd n x e
   rw [hi] at q1; cases q1
   cases x with
   | lst xs =>
    obtain ⟨vs,z1,z2⟩ := q3
    obtain ⟨w2,st2⟩ := w.freeze hi e z1
    exact q _ _ _ _ _ st2 w2 (.lst (.inl upd_same) (z2.mono st2.le)) h
   | dK xs =>
    obtain ⟨vs,z1,z2,z3⟩ := q3
    obtain ⟨w2,st2⟩ := w.freeze hi e z1
    exact q _ _ _ _ _ st2 w2 (.dK (.inl upd_same) z2 (z3.mono st2.le)) h
   | dT xs =>
    obtain ⟨vs,z1,z2,z3⟩ := q3
    obtain ⟨w2,st2⟩ := w.freeze hi e z1
    exact q _ _ _ _ _ st2 w2 (.dT (.inl upd_same) z2 (z3.mono st2.le)) h
   | ins c fs =>
    obtain ⟨dx,vs,z1,z2,z3⟩ := q3
    obtain ⟨w2,st2⟩ := w.freeze hi e z1
    exact q _ _ _ _ _ st2 w2 (.ins upd_same z2 (z3.mono st2.le)) h
   | pool=>exact q.now w (.ref hi) h
   | lkK o us ds=>exact q.now w (.ref hi) h
   | lkT o us ds=>exact q.now w (.ref hi) h
 | _=>exact q.now w r h
def mFz (m:ME):ME := fun s A Q E=>m s A (fun d A1=>frz1 A1 d Q) E
theorem c_fz:∀ σ H Q,cE K W (mFz m) σ H Q→cE K W m σ H Q := fun σ H Q ⟨g,s,A,Qa,Ea,w,rs,h,q,qx⟩ =>
 ⟨g,s,A,_,Ea,w,rs,h,fun g1 A1 H1 x dx st1 w1 r1 h1=>frz1_ok w1 r1 h1 (q.step st1),qx⟩
def mIfS (t:MT) (u v:MS):MS := fun D s A=>t s A (fun b A1=>if b=true then u D s A1 else v D s A1) fun x A1=>D.ex x s A1
theorem c_ifS {t:MT} {u v:MS}:∀ D σ H,cS K W (mIfS t u v) D σ H→tIfS (cT K W t) (cS K W u) (cS K W v) D σ H := fun D σ H ⟨g,s,A,Da,w,rs,h,q⟩ =>
 ⟨g,s,A,_,_,w,rs,h,fun g1 A1 H1 b st1 w1 h1=>by
  cases b with
  | true=>exact iteT ⟨g1,s,A1,Da,w1,rs.mono st1.le,h1,q.step st1⟩
  | false=>exact iteF ⟨g1,s,A1,Da,w1,rs.mono st1.le,h1,q.step st1⟩,q.ex.at_ rs⟩
def forL (ck:AH→Prop) (tg:MG) (tb:MS):List D→MS
 | [],D,s,A=>ck A∧D.nx s A
 | d :: ds,D,s,A=>ck A∧tg d s A fun s1 A1=>tb { D with nx := fun s2 A2=>forL ck tg tb ds D s2 A2,ct := fun s2 A2=>forL ck tg tb ds D s2 A2,bk := D.nx } s1 A1
def mFor (mi:MI) (tg:MG) (tb:MS):MS := fun D s A=>mi s A (fun items ck A1=>forL ck tg tb items D s A1) fun x A1=>D.ex x s A1
theorem c_for {mi:MI} {t:TG} {tg:MG} {tb:MS} {ws:List Nat} (ht:TgS K t tg ws):∀ D σ H,cS K W (mFor mi tg tb) D σ H→tFor (cI K W mi) t (cS K W tb) D σ H := fun D σ H ⟨g,s,A,Da,w,rs,h,q⟩ =>
 ⟨g,s,A,_,_,w,rs,h,fun g1 A1 H1 J items ck st1 w1 wk h1=>by
  refine ⟨fun i m σ H=>m=items.length - i∧i≤items.length∧∃ g2 A2 s2,Stp g1 A1 H1 g2 A2 H∧Wr K g2 A2 H∧RepS K g2 σ s2∧forL ck tg tb (items.drop i) Da s2 A2,⟨items.length,by omega,by omega,g1,A1,s, .refl,w1,rs.mono st1.le,by simpa using h1⟩, ?_⟩
  rintro i m σ2 H2 ⟨rfl,hin,g2,A2,s2,st2,w2,rs2,h2⟩
  have st12 := st1.trans st2
  by_cases hlt:i < items.length
  ·have ed:items.drop i=items[i] :: items.drop (i + 1) := List.drop_eq_getElem_cons hlt
   rw [ed] at h2
   obtain ⟨hck,h2⟩ := h2
   refine .inr ⟨wk.go i g2 A2 H2 st2.le w2 hck hlt,fun σ' H'=>∃ g3 A3 s3,Stp g1 A1 H1 g3 A3 H'∧Wr K g3 A3 H'∧RepS K g3 σ' s3∧forL ck tg tb (items.drop (i + 1)) Da s3 A3,fun σ' H' h=>⟨items.length - (i + 1),by omega,rfl,hlt,h⟩,fun x H' y=>?_⟩
   obtain ⟨g3,st3,w3,rx⟩ := wk.yl i g2 A2 H2 x H' _ st2.le w2 hck (List.getElem?_eq_getElem hlt) y
   refine ht g3 A2 H' x _ _ _ _ _ w3 rx (rs2.mono st3.le) h2 fun σ4 s4 rs4 _ h4=>⟨g3,s4,A2,_,w3,rs4,h4, ?_⟩
   have st13 := st12.trans st3
   have n5:PostN K g3 A2 H' (fun s2 A2=>forL ck tg tb (items.drop (i + 1)) Da s2 A2) (fun σ' H'=>∃ g3 A3 s3,Stp g1 A1 H1 g3 A3 H'∧Wr K g3 A3 H'∧RepS K g3 σ' s3∧forL ck tg tb (items.drop (i + 1)) Da s3 A3) := fun g5 A5 H5 σ5 s5 st5 w5 rs5 h5=>⟨g5,A5,s5,(st2.trans st3).trans st5,w5,rs5,h5⟩
   exact ⟨n5,q.rt.step st13,q.nx.step st13,n5,q.ex.step st13⟩
  ·have e:i=items.length := by omega
   subst e
   rw [List.drop_length] at h2
   obtain ⟨hck,h2⟩ := h2
   exact .inl ⟨wk.st _ g2 A2 H2 st2.le w2 hck (Nat.le_refl _),q.nx g2 A2 H2 σ2 s2 st12 w2 rs2 h2⟩,q.ex.at_ rs⟩
end
end Am
namespace Am
open PySem PySem.Spec PyProof.Rows L2
open Fm (same_new iSeq rOwnEq tClS tMtS tMakeS TyE ClsX)
section
variable {K:PySem.W.Frag} {W:WX} {g g1:Sg} {A A1:AH} {H H1:Hp} {m ma mb mc:ME} {v:V} {d:D}
def putFD (f:Str) (v:D):List (Str × D)→List (Str × D)
 | []=>[(f,v)]
 | (g,x) :: r=>if g=f then (g,v) :: r else (g,x) :: putFD f v r
theorem KReps.putF {f:Str} (r:Rep K g v d):∀ {kvs:List (Str × V)} {ds:List (Str × D)},KReps K g kvs ds→KReps K g (putF f v kvs) (putFD f d ds)
 | kvs,ds,h=>by
  rcases h.ind with ⟨e1,e2⟩ | ⟨k,v',d',kr,dr,e1,e2,hr,ht⟩
  ·subst e1; subst e2; exact KReps.nil.cons r
  ·subst e1; subst e2
   unfold L2.putF putFD
   by_cases q:k=f
   ·rw [if_pos q,if_pos q]; exact ht.cons r
   ·rw [if_neg q,if_neg q]; exact (KReps.putF r ht).cons hr
 termination_by kvs=>kvs.length
 decreasing_by subst e1; simp
theorem Wr.nodeI {n:Nat} {c:Str} {fs:List (Str × D)} (w:Wr K g A H) (r:Rep K g v (.ref n)) (h:A n=some (.ins c fs)):∃ a dx fvs,v = .ref a∧g.i n=some a∧H a=some (.ins (He.ga K c) dx fvs)∧KReps K g fvs fs := by
 cases r with
 | ref h1 =>
  obtain ⟨a,q1,q2,dx,vs,q3,q4,q5⟩ := w.nd n _ h
  rw [h1] at q1; cases q1
  exact ⟨_,dx,vs,rfl,h1,q3,q4,q5⟩
def mSFld (cs:List Str) (f:Str) (mo mv:ME):MS := fun D s A=>mv s A (fun y A1=>mo s A1 (fun x A2=>∃ n c fs,x = .ref n∧A2 n=some (.ins c fs)∧c∈cs∧fs.length < 1000∧D.nx s (put A2 n (.ins c (putFD f y fs)))) fun e A2=>D.ex e s A2) fun e A1=>D.ex e s A1
theorem c_sfld {cs:List Str} {f:Str} {mo mv:ME} (hc:∀ c∈cs,Cls K (He.ga K c)∧NoAttr K (He.ga K c) f):∀ D σ H,cS K W (mSFld cs f mo mv) D σ H→sFld K (cE K W mo) (cE K W mv) f D σ H := fun D σ H ⟨g,s,A,Da,w,rs,h,q⟩ =>
 ⟨g,s,A,_,_,w,rs,h,fun g1 A1 H1 y dy st1 w1 r1 h1=>⟨g1,s,A1,_,_,w1,rs.mono st1.le,h1,fun g2 A2 H2 x dx st2 w2 r2 ⟨n,c,fs,e1,e2,e3,e4,h2⟩=>by
  subst e1
  obtain ⟨a,ddx,fvs,rfl,q1,q2,q3⟩ := w2.nodeI r2 e2
  have hp := KReps.putF (f := f) (r1.mono st2.le) q3
  obtain ⟨w3,st3⟩ := w2.set (o := .ins (He.ga K c) ddx (L2.putF f y fvs)) (y := .ins c (putFD f dy fs)) q1 e2 ⟨_,_,upd_same,hp.1,hp.2⟩
  have st := (st1.trans st2).trans st3
  exact ⟨a,_,ddx,fvs,rfl,q2,(hc c e3).1,(hc c e3).2,by rw [q3.len]; exact e4,q.nx _ _ _ σ s st w3 (rs.mono st.le) h2⟩,(q.step st1).ex.at_ (rs.mono st1.le)⟩,q.ex.at_ rs⟩
def dput (A:AH) (x y v:D) (Q:AH→Prop):Prop := ∃ n,x = .ref n∧((∃ kvs k,A n=some (.dK kvs)∧kyK y=some k∧kvs.length < sizeLine∧Q (put A n (.dK (putD kvs k v))))∨∃ kvs k,A n=some (.dT kvs)∧kyT y=some k∧kvs.length < sizeLine∧Q (put A n (.dT (putD kvs k v))))
theorem dput_ok {x y u:V} {dx dy du:D} {Qa:AH→Prop} {Q:Hp→Prop} (w:Wr K g A H) (rx:Rep K g x dx) (ry:Rep K g y dy) (ru:Rep K g u du) (h:dput A dx dy du Qa) (q:∀ A' H',Stp g A H g A' H'→Wr K g A' H'→Qa A'→Q H'):∃ a H',x = .ref a∧DPut H a y u H'∧Q H' := by
 obtain ⟨n,e,h⟩ := h
 subst e
 obtain ⟨a,rfl,hi⟩:∃ a,x = .ref a∧g.i n=some a := by cases rx with | ref h=>exact ⟨_,rfl,h⟩
 rcases h with ⟨kvs,k,h1,h2,h3,h4⟩ | ⟨kvs,k,h1,h2,h3,h4⟩
 ·obtain ⟨a',q1,q2,ks,q3,q4,q5⟩ := w.nd n _ h1
  rw [hi] at q1; cases q1
  have hp:KReps K g (putK ks k u) (putD kvs k du) := KReps.put ⟨q4,q5⟩ ru
  have hl:ks.length=kvs.length := KReps.len (K := K) (g := g) ⟨q4,q5⟩
  obtain ⟨w3,st3⟩ := w.set (o := .dK (putK ks k u)) (y := .dK (putD kvs k du)) hi h1 ⟨_,upd_same,hp.1,hp.2⟩
  exact ⟨a,_,rfl, .inl ⟨ks,k,q3,kyK_ok ry h2,by omega,rfl⟩,q _ _ st3 w3 h4⟩
 ·obtain ⟨a',q1,q2,ks,q3,q4,q5⟩ := w.nd n _ h1
  rw [hi] at q1; cases q1
  have hp:KReps K g (putK ks k u) (putD kvs k du) := KReps.put ⟨q4,q5⟩ ru
  have hl:ks.length=kvs.length := KReps.len (K := K) (g := g) ⟨q4,q5⟩
  obtain ⟨b,eb,hb⟩ := kyT_ok w ry h2
  obtain ⟨w3,st3⟩ := w.set (o := .dT (putK ks k u)) (y := .dT (putD kvs k du)) hi h1 ⟨_,upd_same,hp.1,hp.2⟩
  exact ⟨a,_,rfl, .inr ⟨ks,k,b,q3,eb,hb,by omega,rfl⟩,q _ _ st3 w3 h4⟩
def mDPut (mo mi mv:ME):MS := fun D s A=>mv s A (fun z A1=>mo s A1 (fun x A2=>mi s A2 (fun y A3=>dput A3 x y z fun A4=>D.nx s A4) fun e A=>D.ex e s A) fun e A=>D.ex e s A) fun e A=>D.ex e s A
theorem c_dput {mo mi mv:ME}:∀ D σ H,cS K W (mDPut mo mi mv) D σ H→sDPut (cE K W mo) (cE K W mi) (cE K W mv) D σ H := fun D σ H ⟨g,s,A,Da,w,rs,h,q⟩ =>
 ⟨g,s,A,_,_,w,rs,h,fun g1 A1 H1 z dz st1 w1 r1 h1=>⟨g1,s,A1,_,_,w1,rs.mono st1.le,h1,fun g2 A2 H2 x dx st2 w2 r2 h2=>⟨g2,s,A2,_,_,w2,rs.mono (st1.trans st2).le,h2,fun g3 A3 H3 y dy st3 w3 r3 h3=>by
  have st := (st1.trans st2).trans st3
  exact dput_ok w3 (r2.mono st3.le) r3 (r1.mono (st2.trans st3).le) h3 fun A4 H4 st4 w4 h4=>q.nx _ _ _ σ s (st.trans st4) w4 (rs.mono (st.trans st4).le) h4,(q.step (st1.trans st2)).ex.at_ (rs.mono (st1.trans st2).le)⟩,(q.step st1).ex.at_ (rs.mono st1.le)⟩,q.ex.at_ rs⟩
def lput (A:AH) (x y v:D) (Q:AH→Prop):Prop := ∃ n xs i j,x = .ref n∧A n=some (.lst xs)∧y = .int i∧ixN xs.length i=some j∧Q (put A n (.lst (xs.set j v)))
def mLPut (mo mi mv:ME):MS := fun D s A=>mv s A (fun z A1=>mo s A1 (fun x A2=>mi s A2 (fun y A3=>lput A3 x y z fun A4=>D.nx s A4) fun e A=>D.ex e s A) fun e A=>D.ex e s A) fun e A=>D.ex e s A
theorem lput_ok {x y u:V} {dx dy du:D} {Qa:AH→Prop} {Q:Hp→Prop} (w:Wr K g A H) (rx:Rep K g x dx) (ry:Rep K g y dy) (ru:Rep K g u du) (h:lput A dx dy du Qa) (q:∀ A' H',Stp g A H g A' H'→Wr K g A' H'→Qa A'→Q H'):rSetL x y u H Q := by
 obtain ⟨n,xs,i,j,e1,e2,e3,e4,h⟩ := h
 subst e1; subst e3
 obtain ⟨a,vs,rfl,q1,q2,q3⟩ := w.nodeL rx e2
 obtain ⟨w3,st3⟩ := w.set (o := .lst (vs.set j u)) (y := .lst (xs.set j du)) q1 e2 ⟨_,upd_same,q3.set_ j ru⟩
 exact ⟨a,vs,i,j,rfl,ry.int_,q2,by rw [q3.len]; exact e4,q _ _ st3 w3 h⟩
theorem c_lput {mo mi mv:ME}:∀ D σ H,cS K W (mLPut mo mi mv) D σ H→tAsg (cE K W mv) (gSub (cE K W mo) (cE K W mi) rSetL) D σ H := fun D σ H ⟨g,s,A,Da,w,rs,h,q⟩ =>
 ⟨g,s,A,_,_,w,rs,h,fun g1 A1 H1 z dz st1 w1 r1 h1=>⟨g1,s,A1,_,_,w1,rs.mono st1.le,h1,fun g2 A2 H2 x dx st2 w2 r2 h2=>⟨g2,s,A2,_,_,w2,rs.mono (st1.trans st2).le,h2,fun g3 A3 H3 y dy st3 w3 r3 h3=>by
  have st := (st1.trans st2).trans st3
  exact lput_ok w3 (r2.mono st3.le) r3 (r1.mono (st2.trans st3).le) h3 fun A4 H4 st4 w4 h4=>q.nx _ _ _ σ s (st.trans st4) w4 (rs.mono (st.trans st4).le) h4,(q.step (st1.trans st2)).ex.at_ (rs.mono (st1.trans st2).le)⟩,(q.step st1).ex.at_ (rs.mono st1.le)⟩,q.ex.at_ rs⟩
abbrev FN := List D→AH→QE→QX→Prop
def spM (K:PySem.W.Frag) (f:FN):Sp := fun vs H Q E=>∃ g A ds Qa Ea,Wr K g A H∧Reps K g vs ds∧f ds A Qa Ea∧Post K g A H Qa Q∧PostX K g A H Ea E
def Fg (A:AH) (P:AH→Prop):Prop := ∃ A',Les A' A∧P A'
def mFn (k n:Nat) (body:MS):FN := fun ds A Q E=>ds.length=k∧body { nx := fun _ A'=>Fg A' (Q .non),rt := fun d A'=>Fg A' (Q d),bk := fun _ _=>False,ct := fun _ _=>False,ex := fun x _ A'=>Fg A' (E x) } (ds.map some ++ List.replicate (n - k) none) A
abbrev WD (E:XK):WX := fun c d _ H=>E c d H
theorem Reps.slots {vs:List V} {ds:List D} (n:Nat) (h:Reps K g vs ds):RepS K g (vs.map some ++ List.replicate n none) (ds.map some ++ List.replicate n none) := by
 refine ⟨by simp [h.len],fun i d e=>?_⟩
 have hi:i < ds.length := Classical.byContradiction fun z=>by
  rw [List.getElem?_append_right (by simpa using z),List.getElem?_replicate] at e
  split at e <;> cases e
 rw [List.getElem?_append_left (by simpa using hi),List.getElem?_map] at e
 cases q:ds[i]? with
 | none=>rw [q] at e; cases e
 | some d' =>
  rw [q] at e; cases e
  obtain ⟨v,h1,h2⟩ := h.at_ q
  exact ⟨v,by rw [List.getElem?_append_left (by rw [List.length_map,h.len]; exact hi),List.getElem?_map,h1]; rfl,h2⟩
theorem fn_ok {k:Nat} {N:List Str} {body:MS} {vs:List V} {Q:VK} {E:XK} (h:spM K (mFn k N.length body) vs H Q E):cS K (WD E) body { nx := fun _ H'=>Q .non H',rt := Q } (start N vs) H := by
 obtain ⟨g,A,ds,Qa,Ea,w,r,⟨hk,h⟩,q,qx⟩ := h
 have hl:vs.length=k := by rw [r.len]; exact hk
 refine ⟨g,_,A,_,w, ?_,h,⟨fun g' A' H' σ' s' st w' _ ⟨A2,l2,h'⟩=>q _ _ _ _ _ (st.forget l2) (w'.forget l2) .non h',fun g' A' H' v d st w' r' ⟨A2,l2,h'⟩=>q _ _ _ _ _ (st.forget l2) (w'.forget l2) r' h',fun _ _ _ _ _ _ _ _ z=>z,fun _ _ _ _ _ _ _ _ z=>z,fun g' A' H' σ' s' x c d st w' _ rx ⟨A2,l2,h'⟩=>qx _ _ _ _ _ _ (st.forget l2) (w'.forget l2) rx h'⟩⟩
 unfold L2.start
 rw [hl]
 exact r.slots _
theorem fn_len {k n:Nat} {body:MS} {vs:List V} {Q:VK} {E:XK} (h:spM K (mFn k n body) vs H Q E):vs.length=k := by
 obtain ⟨g,A,ds,Qa,Ea,w,r,⟨hk,h⟩,q,qx⟩ := h
 rw [r.len]; exact hk
def mCall (f:FN) (r:MA):ME := fun s A Q E=>r s A (fun ds A1=>f ds A1 Q E) E
theorem c_cl {f:FN} {mr:MA}:∀ σ H Q,cE K W (mCall f mr) σ H Q→tClS (spM K f) (WE W) (cA K W mr) σ H Q := fun σ H Q ⟨g,s,A,Qa,Ea,w,rs,h,q,qx⟩ =>
 ⟨g,s,A,_,Ea,w,rs,h,fun g1 A1 H1 vs ds st1 w1 r1 h1=>⟨g1,A1,ds,Qa,Ea,w1,r1,h1,q.step st1,qx.step st1⟩,qx⟩
def mMeth (c:Str) (mn:Str) (f:FN) (mo:ME) (r:MA):ME := fun s A Q E=>mo s A (fun x A1=>(∃ fs,insOf A1 x=some (c,fs)∧fs.lookup mn=none)∧r s A1 (fun ds A2=>f (x :: ds) A2 Q E) E) E
theorem c_meth {f:FN} {mr:MA} {c mn:Str}:∀ σ H Q,cE K W (mMeth c mn f m mr) σ H Q→tMtS (He.ga K c) mn (spM K f) (WE W) (cE K W m) (cA K W mr) σ H Q := fun σ H Q ⟨g,s,A,Qa,Ea,w,rs,h,q,qx⟩ =>
 ⟨g,s,A,_,Ea,w,rs,h,fun g1 A1 H1 x dx st1 w1 r1 ⟨⟨fs,h0,hn⟩,h1⟩=>by
  obtain ⟨a,ddx,fvs,rfl,q1,q2⟩ := w1.ins r1 h0
  exact ⟨a,ddx,fvs,rfl,q1,q2.lookN hn,g1,s,A1,_,Ea,w1,rs.mono st1.le,h1,fun g2 A2 H2 vs ds st2 w2 r2 h2=>⟨g2,A2,_,Qa,Ea,w2, .cons (r1.mono st2.le) r2,h2,q.step (st1.trans st2),qx.step (st1.trans st2)⟩,qx.step st1⟩,qx⟩
def mMakeG (fin:AH→D→QE→Prop) (c:Str) (f:FN) (r:MA):ME := fun s A Q E=>r s A (fun ds A1=>∀ n,A1 n=none→f (.ref n :: ds) (put A1 n (.ins c [])) (fun d A2=>d = .non∧fin A2 (.ref n) Q) E) E
def FinS (K:PySem.W.Frag) (fin:AH→D→QE→Prop):Prop := ∀ g A H v d Qa Q,Wr K g A H→Rep K g v d→fin A d Qa→Post K g A H Qa Q→Q v H
theorem c_makeG {fin:AH→D→QE→Prop} {f:FN} {mr:MA} {c:Str} (hf:FinS K fin):∀ σ H Q,cE K W (mMakeG fin c f mr) σ H Q→tMakeS (He.ga K c) (spM K f) (WE W) (cA K W mr) σ H Q := fun σ H Q ⟨g,s,A,Qa,Ea,w,rs,h,q,qx⟩ =>
 ⟨g,s,A,_,Ea,w,rs,h,fun g1 A1 H1 vs ds st1 w1 r1 h1 x dx nx ndx hne=>by
  obtain ⟨w2,st2⟩ := w1.tmp (o := .own x) ndx
  have nx2:upd H1 dx (.own x) x=none := by rw [upd_ne (Ne.symm hne)]; exact nx
  obtain ⟨n,hA,hi,w3,st3⟩ := w2.node (o := .ins (He.ga K c) dx []) (x := .ins c []) nx2 fun g' e=>⟨dx,[],upd_same,rfl, .nil⟩
  have st := (st1.trans st2).trans st3
  have hn := h1 n hA
  refine ⟨_,_,_,_,_,w3, .cons (.ref (if_pos rfl)) (r1.mono (st2.trans st3).le),hn,fun g4 A4 H4 v d st4 w4 r4 ⟨e,h4⟩=>?_,qx.step st⟩
  subst e
  exact ⟨r4.non_,hf g4 A4 H4 (.ref x) (.ref n) Qa Q w4 (.ref (st4.le.i _ _ (if_pos rfl))) h4 (q.step (st.trans st4))⟩,qx⟩
theorem nox {A0:AH} {E:XK}:PostX K g A0 H NX E := fun _ _ _ _ _ _ _ _ _ z=>z.elim
end
end Am
namespace Am
open PySem PySem.Spec PyProof.Rows L2
open Fm (same_new iSeq rOwnEq TyE ClsX tRz spE1)
inductive TyN where
 | b (n:String) | c (n:Str)
 deriving DecidableEq
def tyD (A:AH):D→Option TyN
 | .non=>some (.b "NoneType")
 | .bl _=>some (.b "bool")
 | .int _=>some (.b "int")
 | .str _=>some (.b "str")
 | .tup _=>some (.b "tuple")
 | .ktup _=>some (.b "tuple")
 | .lst _=>some (.b "list")
 | .ins c _=>some (.c c)
 | .ref n=>match A n with
  | some (.lst _)=>some (.b "list")
  | some (.dK _)=>some (.b "dict")
  | some (.dT _)=>some (.b "dict")
  | some (.ins c _)=>some (.c c)
  | _=>none
 | _=>none
def TyN.val (K:PySem.W.Frag):TyN→Value
 | .b n=>.type n
 | .c n=>.ref (He.ga K n)
section
variable {K:PySem.W.Frag} {W:WX} {g g1:Sg} {A A1:AH} {H H1:Hp} {m ma mb mc:ME} {v:V} {d:D}
def CsOk (K:PySem.W.Frag) (cs:List Str):Prop := ∀ c∈cs,Cls K (He.ga K c)∧ClsX K (He.ga K c)
def inCs (cs:List Str):TyN→Prop
 | .b _=>True
 | .c n=>n∈cs
theorem tyD_ok {cs:List Str} {t:TyN} (hc:CsOk K cs) (w:Wr K g A H) (r:Rep K g v d) (h:tyD A d=some t) (ht:inCs cs t):TyX K H v (t.val K) := by
 cases r with
 | non=>cases h; exact .base .non
 | bl b=>cases h; exact .base (.bl b)
 | int b=>cases h; exact .base (.int b)
 | str b=>cases h; exact .base (.str b)
 | tup h1 h2=>cases h; exact Fm.ty_tup (w.sub.sqt (.inl (.inl h1)))
 | ktup h1 h2=>cases h; exact Fm.ty_tup (w.sub.sqt h1)
 | lst h1 h2 =>
  cases h
  rcases w.sub.rd h1 with h3 | ⟨o,h3⟩
  ·exact .base (.lst h3)
  ·exact .base (.frz h3)
 | ins h1 h2 h3 =>
  cases h
  obtain ⟨q1,q2⟩ := hc _ ht
  exact Fm.ty_ins q1 q2 (w.sub.ins h1)
 | ref h1 =>
  rename_i a n
  unfold tyD at h
  simp only at h
  cases e:A n with
  | none=>rw [e] at h; cases h
  | some x =>
   rw [e] at h
   obtain ⟨b,q1,q2,q3⟩ := w.nd n x e
   rw [h1] at q1; cases q1
   cases x with
   | lst xs=>cases h; obtain ⟨vs,z,_⟩ := q3; exact .base (.lst z)
   | dK xs=>cases h; obtain ⟨vs,z,_⟩ := q3; exact .base (.dK z)
   | dT xs=>cases h; obtain ⟨vs,z,_⟩ := q3; exact .base (.dT z)
   | ins c fs =>
    cases h
    obtain ⟨dx,vs,z,_⟩ := q3
    obtain ⟨z1,z2⟩ := hc _ ht
    exact Fm.ty_ins z1 z2 z
   | pool=>cases h
   | lkK o us ds=>cases h
   | lkT o us ds=>cases h
 | _=>cases h
def mIsi (tab:List (TyN × Bool)) (m:ME):ME := fun s A Q E=>m s A (fun d A1=>∃ t b,tyD A1 d=some t∧tab.lookup t=some b∧Q (.bl b) A1) E
theorem lookup_mem {α β:Type} [BEq α] [LawfulBEq α] {a:α} {b:β}:∀ {l:List (α × β)},l.lookup a=some b→(a,b)∈l
 | (k,x) :: r,h=>by
  rw [List.lookup_cons] at h
  cases q:(a == k) with
  | true=>rw [q] at h; cases h; rw [eq_of_beq q]; exact List.mem_cons_self ..
  | false=>rw [q] at h; exact List.mem_cons_of_mem _ (lookup_mem h)
theorem c_isi {cs:List Str} {tab:List (TyN × Bool)} {c:V} {u:Value} (hcs:CsOk K cs) (hu:ClsV c u) (ht:∀ p∈tab,inCs cs p.1∧PySem.W.kitOne K (p.1.val K) u=some p.2):∀ σ H Q,cE K W (mIsi tab m) σ H Q→tCB (rIsi K) (tCons (cE K W m) (tCons (tC c) tNil)) σ H Q := fun σ H Q ⟨g,s,A,Qa,Ea,w,rs,h,q,qx⟩ =>
 ⟨g,s,A,_,Ea,w,rs,h,fun g1 A1 H1 x dx st1 w1 r1 ⟨t,b,h1,h2,h3⟩=>by
  obtain ⟨z1,z2⟩ := ht _ (lookup_mem h2)
  exact ⟨x,c,_,u,b,rfl,hu,tyD_ok hcs w1 r1 h1 z1,z2,q _ _ _ _ _ st1 w1 (.bl _) h3⟩,qx⟩
def mOwnEq (ts:List TyN) (c:Str) (f:FN) (ma mb:ME):ME := fun s A Q E=>ma s A (fun x A1=>mb s A1 (fun y A2=>(∃ fs,insOf A2 x=some (c,fs))∧(∃ t,tyD A2 y=some t∧t∈ts)∧f [x,y] A2 Q NX) E) E
theorem c_ownEq {cs:List Str} {ts:List TyN} {c:Str} {f:FN} {E:XK} (hcs:CsOk K cs) (ht:∀ t∈ts,inCs cs t∧PySem.W.notFirst K (He.ga K c) (t.val K)=true):∀ σ H Q,cE K W (mOwnEq ts c f ma mb) σ H Q→tOp (rOwnEq K (He.ga K c) (spM K f) E) (cE K W ma) (cE K W mb) σ H Q := fun σ H Q ⟨g,s,A,Qa,Ea,w,rs,h,q,qx⟩ =>
 ⟨g,s,A,_,Ea,w,rs,h,fun g1 A1 H1 x dx st1 w1 r1 h1=>⟨g1,s,A1,_,Ea,w1,rs.mono st1.le,h1,fun g2 A2 H2 y dy st2 w2 r2 ⟨⟨fs,h3⟩,⟨t,h4,h5⟩,h2⟩=>by
  have r1' := r1.mono st2.le
  have st := st1.trans st2
  obtain ⟨a,d1,f1,e1,q1,_⟩ := w2.ins r1' h3
  exact ⟨a,d1,f1,_,e1,q1, .inl (tyD_ok hcs w2 r2 h4 (ht t h5).1),(ht t h5).2,g2,A2,_,Qa,_,w2, .cons r1' (.cons r2 .nil),h2,q.step st,nox⟩,qx.step st1⟩,qx⟩
def mRz1 (c f:Str) (m:ME):MS := fun D s A=>m s A (fun v A1=>D.ex ⟨c,[(f,v)]⟩ s A1) fun e A=>D.ex e s A
theorem c_rz1 {c f:Str}:∀ D σ H,cS K W (mRz1 c f m) D σ H→tRz (He.ga K c) (spE1 (He.ga K c) f) (tCons (cE K W m) tNil) W D σ H := fun D σ H ⟨g,s,A,Da,w,rs,h,q⟩ =>
 ⟨g,s,A,_,_,w,rs,h,fun g1 A1 H1 v dv st1 w1 r1 h1=>⟨by simp,fun a na=>⟨a,v,rfl,upd_same,fun dx nx hne=>by
  have hda:H1 dx=none := by rw [upd_ne hne] at nx; exact nx
  refine ⟨rfl,dx,[(f,v)],upd_same,by rw [upd_ne hne,upd_same],hda, ?_⟩
  have e:upd (L2.del (upd (upd (upd H1 a (exo a (He.ga K c) none)) dx (exd dx [(f,v)])) a (exo a (He.ga K c) (some dx))) a) dx (.xd [(f,v)])=upd H1 dx (.xd [(f,v)]) := by
   funext b
   by_cases h1:b=dx
   ·subst h1; rw [upd_same,upd_same]
   ·rw [upd_ne h1,upd_ne h1]
    by_cases h2:b=a
    ·subst h2; rw [L2.del_same,na]
    ·rw [L2.del_ne h2,upd_ne h2,upd_ne h1,upd_ne h2]
  rw [e]
  obtain ⟨w2,st2⟩ := w1.new (o := .xd [(f,v)]) hda
  exact q.ex _ _ _ σ s ⟨c,[(f,dv)]⟩ _ _ (st1.trans st2) w2 (rs.mono (st1.trans st2).le) ⟨rfl, .inl ⟨dx,_,rfl,upd_same,rfl, .cons (r1.mono st2.le) .nil⟩⟩ h1⟩⟩,q.ex.at_ rs⟩
end
end Am
namespace Am
open PySem PySem.Spec PyProof.Rows L2
open Fm (same_new iSeq rOwnEq TyE ClsX tRz spE1 run_fnRS tMtS)
section
variable {X:Cx} {W:WX} {e:Expr} {m ma mb:ME} {t:TE}
theorem passF (σ:L2.St):PassesAt (L2.CX X.prog X.w) X σ (WE WF σ) := fun _ _ _ _ _ _ h=>by
 obtain ⟨_,_,_,_,_,_,_,_,_,_,_,_,z⟩ := h
 exact z.elim
theorem passF0:Passes (L2.CX X.prog X.w) X E0 := fun _ _ _ _ _ _ _ h=>by
 obtain ⟨_,_,_,_,_,_,_,_,_,_,_,_,z⟩ := h
 exact z.elim
theorem at_cmpX (h:PT X e (tTest t)) (c:∀ σ H Q,cE X.K W m σ H Q→t σ H Q):PT X e (cT X.K W (mB m)) := PT.weak h fun σ H Q q=>tTest_mono c σ H Q (c_tTest σ H Q q)
theorem at_pc (h:PT X e (tB t)) (c:∀ σ H Q,cE X.K W m σ H Q→t σ H Q):PT X e (cT X.K W (mB m)) := PT.weak h fun σ H Q q=>c σ H _ (c_tB σ H Q q)
theorem PTs.weak {es:List Expr} {t t':TT} (h:PTs X es t) (k:∀ σ H Q,t' σ H Q→t σ H Q):PTs X es t' := ⟨fun pins s σ H Q I q=>h.run pins s σ H Q I (k σ H Q q)⟩
theorem c_setX {K:PySem.W.Frag} {tg:TG} {mg:MG} {ws:List Nat} (c:∀ σ H Q,cE K W m σ H Q→t σ H Q) (ht:TgS K tg mg ws):∀ D σ H,cS K W (mSet m mg) D σ H→tAsg t tg D σ H := fun D σ H h=>c σ H _ (c_set ht D σ H h)
def fTru (d:D) (A:AH) (Q:Bool→AH→Prop):Prop := match d with
 | .non=>Q false A
 | .bl b=>Q b A
 | .int i=>Q (i != 0) A
 | .str z=>z.length≤sizeLine∧Q ((z.length:Int) != 0) A
 | d=>∃ xs,itS A d=some xs∧Q (!xs.isEmpty) A
def mTru (m:ME):MT := fun s A Q E=>m s A (fun d A1=>fTru d A1 Q) E
theorem isEmpty_len {α β:Type} {xs:List α} {ys:List β} (h:xs.length=ys.length):xs.isEmpty=ys.isEmpty := by
 cases xs <;> cases ys <;> simp_all
theorem at_tru (h:PE X e (cE X.K W m)) (he:∀ whole,isTrue e X.env whole=(do let v ← whole; standAt e.pos; holding [v] (truthy v)) := by intro _; rfl):PT X e (cT X.K W (mTru m)) := PT.weak (pt_truth h he) fun σ H Q ⟨g,s,A,Qa,Ea,w,rs,h,q,qx⟩ =>
 ⟨g,s,A,_,Ea,w,rs,h,fun g1 A1 H1 x dx st1 w1 r1 h1=>by
  have fin:(∃ xs,itS A1 dx=some xs∧Qa (!xs.isEmpty) A1)→∃ k,TruV X.K x H1 k∧Q k H1 := fun ⟨xs,e1,e2⟩=>by
   obtain ⟨a,vs,rfl,q1,q2⟩ := w1.getS r1 e1
   refine ⟨_, ?_,q _ _ _ _ st1 w1 e2⟩
   rcases q1 with q1 | q1
   ·exact .inl ⟨vs,q1,by rw [isEmpty_len q2.len]⟩
   ·exact .inr (.inl ⟨vs,q1,by rw [isEmpty_len q2.len]⟩)
  cases dx with
  | non=>rw [r1.non_]; exact ⟨_,rfl,q _ _ _ _ st1 w1 h1⟩
  | bl b=>rw [r1.bl_]; exact ⟨_,rfl,q _ _ _ _ st1 w1 h1⟩
  | int i=>rw [r1.int_]; exact ⟨_,rfl,q _ _ _ _ st1 w1 h1⟩
  | str z=>rw [r1.str_]; exact ⟨_,⟨h1.1,rfl⟩,q _ _ _ _ st1 w1 h1.2⟩
  | _=>exact fin h1,qx⟩
end
def fPool:FN := fun ds A Q _=>∃ ns,ds=[.scr ns]∧ns.length≤63∧∀ n,A n=none→Q (.ref n) (put A n .pool)
def fDraw:FN := fun ds A Q _=>∃ n k,ds=[.ref n, .int k]∧A n=some .pool∧0 < k∧k.natAbs.log2 < 9000∧∀ r,0≤r→r < k→Q (.int r) A
theorem FnR.up {P:Program} {w:World} {K:PySem.W.Frag} {mg:Str→Option Value} {base:Heap} {CX:CXT} {k:Nat} {f:Addr} {sp:Sp} (F:FnR P w K mg base CX0 k f sp):FnR P w K mg base CX k f sp := fun A outer s H us vs Q E hr e0 r h =>
 codeAny_mono (F A outer s H us vs Q E hr e0 r h) fun r s' hq=>by
  cases r with
  | error e=>exact False.elim hq
  | ok fl=>cases fl <;> exact hq
section
variable {K:PySem.W.Frag} {cs:List Str}
def inCsB (cs:List Str):TyN→Bool
 | .b _=>true
 | .c n=>cs.contains n
theorem inCsB_ok {t:TyN} (h:inCsB cs t=true):inCs cs t := by
 cases t with
 | b n=>trivial
 | c n=>exact List.contains_iff_mem.mp h
def isTab (K:PySem.W.Frag) (u:Value) (tab:List (TyN × Bool)):Bool := tab.all fun p=>decide (PySem.W.kitOne K (p.1.val K) u=some p.2)
theorem isTab_ok {u:Value} {tab:List (TyN × Bool)} (hi:(tab.all fun p=>inCsB cs p.1)=true) (h:isTab K u tab=true):∀ p∈tab,inCs cs p.1∧PySem.W.kitOne K (p.1.val K) u=some p.2 := fun p hp =>
 ⟨inCsB_ok (List.all_eq_true.mp hi p hp),of_decide_eq_true (List.all_eq_true.mp h p hp)⟩
def nfTab (K:PySem.W.Frag) (C:Addr) (ts:List TyN):Bool := ts.all fun t=>PySem.W.notFirst K C (t.val K)
theorem nfTab_ok {C:Addr} {ts:List TyN} (hi:(ts.all fun t=>inCsB cs t)=true) (h:nfTab K C ts=true):∀ t∈ts,inCs cs t∧PySem.W.notFirst K C (t.val K)=true := fun t ht =>
 ⟨inCsB_ok (List.all_eq_true.mp hi t ht),List.all_eq_true.mp h t ht⟩
end
end Am
namespace Am
open PySem PySem.Spec PyProof.Rows L2
theorem Les.trans {A B C:AH} (h:Les A B) (h':Les B C):Les A C := fun n x e=>h' n x (h n x e)
theorem fg {A:AH} {P:AH→Prop} (h:P A):Fg A P := ⟨A, .refl,h⟩
theorem fg_les {A B:AH} {P:AH→Prop} (l:Les A B) (h:P A):Fg B P := ⟨A,l,h⟩
theorem law_start {K:PySem.W.Frag} {N:List Str} {body:MS} {H:Hp} {a:Addr} {ns:List Int} {Q:VK} (hS:SqL K H a (ns.map V.int)) (h:body { nx := fun _ _=>False,rt := fun d _=>d = .bl true,bk := fun _ _=>False,ct := fun _ _=>False,ex := fun _ _ _=>False } ([some (.scr ns)] ++ List.replicate (N.length - 1) none) (fun _=>none)) (q:∀ H',Q (.bl true) H') :
  cS K WF body { nx := fun _ H'=>Q .non H',rt := Q } (start N [.ref a]) H := by
 obtain ⟨S,eS⟩:∃ S:Hp,S=fun b=>if b=a then H a else none := ⟨_,rfl⟩
 have sub:Sub S H := fun b o e=>by
  rw [eS] at e
  by_cases hb:b=a
  ·simp only [hb,if_true] at e; exact ⟨o,by rw [hb]; exact e, .inl rfl⟩
  ·simp only [hb,if_false] at e; cases e
 have hS':SqL K S a (ns.map V.int) := by
  rcases hS with (e | ⟨o,e⟩) | e
  ·exact .inl (.inl (by rw [eS]; simpa using e))
  ·exact .inl (.inr ⟨o,by rw [eS]; simpa using e⟩)
  ·exact .inr e
 refine ⟨⟨S,fun _=>none⟩,_,fun _=>none,_,⟨sub,fun _ _ _ z=>(by cases z),fun _ _ z=>(by cases z),⟨0,fun _ _=>rfl⟩,fun _ _ z=>(by cases z)⟩, ?_,h,⟨fun _ _ _ _ _ _ _ _ z=>z.elim,fun _ _ _ v d _ _ r e=>by subst e; rw [r.bl_]; exact q _,fun _ _ _ _ _ _ _ _ z=>z.elim,fun _ _ _ _ _ _ _ _ z=>z.elim,fun _ _ _ _ _ _ _ _ _ _ _ _ z=>z.elim⟩⟩
 exact Reps.slots (vs := [.ref a]) (ds := [.scr ns]) _ (.cons (.scr hS') .nil)
end Am
namespace Am
open PySem PySem.Spec PyProof.Rows L2
end Am
namespace Am
open PySem PySem.Spec PyProof.Rows L2
open Fm (same_new IteT iEnumT pi_enumT)
section
variable {K:PySem.W.Frag} {W:WX} {g:Sg}
theorem WalkD.enumT {a:Addr} {items:List D} {ck:AH→Prop} (h:WalkD K (Itt K a) g items ck) (hq:∀ g2 A2 H2,g.le g2→Wr K g2 A2 H2→ck A2→∃ vs,SqT K H2 a vs∧Reps K g2 vs items):WalkD K (IteT K a) g (pairs items) ck where
 go := fun i g2 A2 H2 le w c hi=>h.go i g2 A2 H2 le w c (by rw [pairs_len] at hi; exact hi)
 yl := fun i g2 A2 H2 x H' d le w c hd y=>by
  obtain ⟨T,u,e1,e2,e3,hy⟩ := y
  subst e1; subst e3
  obtain ⟨z,h1,h2⟩ := pairs_at hd
  subst h2
  obtain ⟨vs,h3,h4⟩ := hq g2 A2 H2 le w c
  obtain ⟨u',h5,h6⟩ := h4.at_ h1
  have := hy vs h3
  rw [h5] at this; cases this
  obtain ⟨w3,st3⟩ := w.new (o := .tup [.int (i:Nat),u]) e2
  exact ⟨_,st3,w3, .tup upd_same (.cons (.int _) (.cons (h6.mono st3.le) .nil))⟩
 st := fun i g2 A2 H2 le w c hi=>h.st i g2 A2 H2 le w c (by rw [pairs_len] at hi; exact hi)
def mEnumT (r:MA):MI := fun s A R E=>r s A (fun ds A1=>∃ xs,ds=[.tup xs]∧R (pairs xs) ckT A1) E
theorem c_enumT {mr:MA}:∀ σ H R,cI K W (mEnumT mr) σ H R→iEnumT K (cA K W mr) σ H R := fun σ H R ⟨g,s,A,Ra,Ea,w,rs,h,q,qx⟩ =>
 ⟨g,s,A,_,Ea,w,rs,h,fun g1 A1 H1 vs ds st1 w1 r1 ⟨xs,e,h1⟩=>by
  subst e
  obtain ⟨v,rfl,r⟩ := r1.one
  cases r with
  | tup h2 h3=>exact ⟨_,_,rfl, .inl (w1.sub.rd (.inl h2)),q g1 A1 H1 _ _ _ st1 w1 ((walk_frT (.inl (.inl h2)) h3).enumT fun g2 A2 H2 le w2 ck=>⟨_, .inl (w2.sub.rd (Fm.Same.rd le.s (.inl h2))),h3.mono le⟩) h1⟩,qx⟩
theorem dx_new {g : Sg} {A : AH} {H : Hp} {p : Addr} {vs : List (Key × V)} {ds : List (Key × D)} {Qa : QE} {Q : VK} (w : Wr K g A H) (hp : H p = some (.dK vs)) (hS : g.S p = none) (hi : ∀ n, g.i n ≠ some p) (r : KReps K g vs ds) (h : ∀ n, A n = none → Qa (.ref n) (put A n (.dK ds)))
    (q : ∀ g' A' v d, g.le g' → (∀ a, Own g' A' a → Own g A a ∨ a = p) → (∀ a, a ≠ p → g.S a = none → g'.S a = none) → (∀ n a, g'.i n = some a → g.i n = some a ∨ a = p) → Wr K g' A' H → Rep K g' v d → Qa d A' → Q v H) : Q (.ref p) H := by
  obtain ⟨N, hN⟩ := w.fin
  have hiN : g.i N = none := hN N (Nat.le_refl _)
  have hA : A N = none := by
    cases e : A N with
    | none => rfl
    | some x => obtain ⟨a, h, _⟩ := w.nd N x e; rw [hiN] at h; cases h
  have le : g.le ⟨g.S, fun m => if m = N then some p else g.i m⟩ := ⟨Same.refl _, fun m a h => by
    have : m ≠ N := fun e => by rw [e, hiN] at h; cases h
    show (if m = N then some p else g.i m) = some a
    rw [if_neg this]; exact h⟩
  have old : ∀ m a, (if m = N then some p else g.i m) = some a → (m = N ∧ a = p) ∨ (m ≠ N ∧ g.i m = some a ∧ a ≠ p) := fun m a h => by
    by_cases e : m = N
    · rw [if_pos e] at h; exact .inl ⟨e, (Option.some.inj h).symm⟩
    · rw [if_neg e] at h; exact .inr ⟨e, h, fun z => hi m (by rw [← z]; exact h)⟩
  refine q ⟨g.S, fun m => if m = N then some p else g.i m⟩ (put A N (.dK ds)) (.ref p) (.ref N) le (fun a ⟨m, x, h1, h2⟩ => ?_) (fun _ _ h => h) (fun n a h => ?_) ⟨w.sub, fun n m a h1 h2 => ?_, fun n a h => ?_, ⟨N + 1, fun n h => ?_⟩, fun n y h => ?_⟩ (.ref (if_pos rfl)) (h N hA)
  · rcases old m a h2 with ⟨e1, e2⟩ | ⟨e1, e2, e3⟩
    · exact .inr e2
    · rw [put_ne e1] at h1; exact .inl ⟨m, x, h1, e2⟩
  · rcases old n a h with ⟨e1, e2⟩ | ⟨e1, e2, e3⟩
    · exact .inr e2
    · exact .inl e2
  · rcases old n a h1 with ⟨e1, e2⟩ | ⟨e1, e2, e3⟩ <;> rcases old m a h2 with ⟨f1, f2⟩ | ⟨f1, f2, f3⟩
    · rw [e1, f1]
    · exact absurd e2 f3
    · exact absurd f2 e3
    · exact w.inj n m a e2 f2
  · rcases old n a h with ⟨e1, e2⟩ | ⟨e1, e2, e3⟩
    · rw [e2, hp]; simp
    · exact w.ex n a e2
  · show (if n = N then some p else g.i n) = none
    rw [if_neg (by omega)]; exact hN n (by omega)
  · by_cases e : n = N
    · subst e
      rw [put_same] at h; cases h
      exact ⟨p, if_pos rfl, hS, vs, hp, r.mono le⟩
    · rw [put_ne e] at h
      obtain ⟨a, h1, h2, h3⟩ := w.nd n y h
      exact ⟨a, by show (if n = N then some p else g.i n) = some a; rw [if_neg e]; exact h1, h2, h3.mono le rfl⟩
def mDcM (mi:MI) (tg:MG) (tt:MT) (tk tv:ME) (vs:List Nat):ME := fun s A Q E=>mi s A (fun items ck A1=>items.length≤sizeLine∧dcL ck tg tt tk tv (wipeD s vs) items [] A1 fun kvs A2=>∀ n,A2 n=none→Q (.ref n) (put A2 n (.dK kvs))) E
theorem c_dcM {mi:MI} {t:TG} {tg:MG} {tt:MT} {tk tv:ME} {vs ws:List Nat} (ht:TgS K t tg ws) (hw:∀ i∈ws,i∈vs) :
  ∀ σ H Q,cE K W (mDcM mi tg tt tk tv vs) σ H Q→tDc (cI K W mi) t (cT K WF tt) (cE K WF tk) (cE K WF tv) vs σ H Q := fun σ H Q ⟨g,s,A,Qa,Ea,w,rs,h,q,qx⟩ =>
 ⟨g,s,A,_,Ea,w,rs,h,fun g1 A1 H1 J items ck st1 w1 wk ⟨hz,h1⟩ D nD=>by
  have nS:g1.S D=none := w1.sub.free nD
  have nI:∀ n,g1.i n≠some D := fun n e=>w1.ex n D e nD
  obtain ⟨w1',st1'⟩ := w1.tmp (o := .dK []) nD
  refine ⟨fun i m H=>m=items.length - i∧i≤items.length∧∃ g2 A2 acc ds,Stp g1 A1 H1 g2 A2 H∧Wr K g2 A2 H∧H D=some (.dK acc)∧g2.S D=none∧(∀ n,g2.i n≠some D)∧KReps K g2 acc ds∧acc.length≤i∧dcL ck tg tt tk tv (wipeD s vs) (items.drop i) ds A2 fun kvs A2=>∀ n,A2 n=none→Qa (.ref n) (put A2 n (.dK kvs)),
   ⟨items.length,by omega,by omega,g1,A1,[],[],st1',w1',upd_same,nS,nI, .nil,Nat.le_refl _,by simpa using h1⟩, ?_⟩
  rintro i m H2 ⟨rfl,hin,g2,A2,acc,ds,st2,w2,hD,hS,hI,ra,hl,h2⟩
  have rs2 := (rs.mono (st1.trans st2).le).wipe vs
  by_cases hlt:i < items.length
  ·have ed:items.drop i=items[i] :: items.drop (i + 1) := List.drop_eq_getElem_cons hlt
   rw [ed] at h2
   obtain ⟨hck,h2⟩ := h2
   refine .inr ⟨wk.go i g2 A2 H2 st2.le w2 hck hlt,fun H'=>∃ g3 A3 acc ds,Stp g1 A1 H1 g3 A3 H'∧Wr K g3 A3 H'∧H' D=some (.dK acc)∧g3.S D=none∧(∀ n,g3.i n≠some D)∧KReps K g3 acc ds∧acc.length≤i + 1∧dcL ck tg tt tk tv (wipeD s vs) (items.drop (i + 1)) ds A3 fun kvs A2=>∀ n,A2 n=none→Qa (.ref n) (put A2 n (.dK kvs)),
    fun H' h=>⟨items.length - (i + 1),by omega,rfl,hlt,h⟩,fun x H' y=>?_⟩
   obtain ⟨g3,st3,w3,rx⟩ := wk.yl i g2 A2 H2 x H' _ st2.le w2 hck (List.getElem?_eq_getElem hlt) y
   have keep:∀ {g4 A4 H4},Stp g2 A2 H2 g4 A4 H4→H4 D=some (.dK acc)∧g4.S D=none∧∀ n,g4.i n≠some D := fun st=>st.beside hD hS hI
   refine ht g3 A2 H' x _ _ _ _ _ w3 rx (rs2.mono st3.le) h2 fun σ4 s4 rs4 e4 h4=>⟨by rw [e4 vs hw,wipe_wipe],g3,s4,A2,_,NX,w3,rs4,h4,fun g5 A5 H5 b st5 w5 h5=>?_,fun _ _ _ _ _ _ _ _ _ z=>z⟩
   have st25 := st3.trans st5
   cases b with
   | false =>
    obtain ⟨k1,k2,k3⟩ := keep st25
    exact iteF ⟨g5,A5,acc,ds,st2.trans st25,w5,k1,k2,k3,ra.mono st25.le,by omega,h5⟩
   | true =>
    refine iteT ⟨g5,s4,A5,_,NX,w5,rs4.mono st5.le,h5,fun g6 A6 H6 y6 d6 st6 w6 r6 h6=>⟨g6,s4,A6,_,NX,w6,rs4.mono (st5.trans st6).le,h6,fun g7 A7 H7 y7 d7 st7 w7 r7 ⟨k,hk,h7⟩=>?_,fun _ _ _ _ _ _ _ _ _ z=>z⟩,fun _ _ _ _ _ _ _ _ _ z=>z⟩
    have st27 := (st25.trans st6).trans st7
    obtain ⟨k1,k2,k3⟩ := keep st27
    refine ⟨acc,k,kyK_ok r6 hk,k1,by omega, ?_⟩
    have w8 := w7.own (o := .dK (putK acc k y7)) k2 k3
    refine ⟨g7,A7,putK acc k y7,putD ds k d7,(st2.trans st27).put nD,w8,upd_same,k2,k3,(ra.mono st27.le).put r7, ?_,h7⟩
    exact Nat.le_trans (length_putK _ _ _) (by omega)
  ·have e:i=items.length := by omega
   subst e
   rw [List.drop_length] at h2
   obtain ⟨hck,h2⟩ := h2
   refine .inl ⟨wk.st _ g2 A2 H2 st2.le w2 hck (Nat.le_refl _),dx_new w2 hD hS hI ra h2 fun g' A' v d le own sn inw w' r' h'=>?_⟩
   refine q g' A' H2 v d (st1.trans ⟨st2.le.trans le,st2.kp,fun a ha=>?_,st2.ex,fun a o h1 h0 h2 h3=>?_,fun n a e=>?_⟩) w' r' h'
   ·rcases own a ha with z | z
    ·exact st2.nw a z
    ·exact .inr (by rw [z]; exact nD)
   ·exact sn a (ne_of_none h1 nD) (st2.sn a o h1 h0 h2 h3)
   ·rcases inw n a e with z | z
    ·exact st2.inw n a z
    ·exact .inr (by rw [z]; exact nD),qx⟩
end
end Am
namespace Am
open PySem PySem.Spec PyProof.Rows L2
open PySem.W (Datum Tup T3 T4)
mutual
def ofP:PyData→D
 | .none=>.non
 | .bool b=>.bl b
 | .int i=>.int i
 | .str x=>.str x
 | .list xs=>.lst (ofPs xs)
 | .tuple xs=>.tup (ofPs xs)
 | .dict _=>.non
def ofPs:List PyData→List D
 | []=>[]
 | x :: xs=>ofP x :: ofPs xs
end
mutual
theorem toP_ofP:∀ (p:PyData),p.plain=true→toP (ofP p)=some p
 | .none,_=>rfl
 | .bool b,_=>rfl
 | .int i,_=>rfl
 | .str x,_=>rfl
 | .list xs,h=>by
  unfold ofP toP
  rw [toPs_ofPs xs (by unfold PyData.plain at h; exact h)]
  rfl
 | .tuple xs,h=>by
  unfold ofP toP
  rw [toPs_ofPs xs (by unfold PyData.plain at h; exact h)]
  rfl
 | .dict _,h=>by unfold PyData.plain at h; cases h
theorem toPs_ofPs:∀ (ps:List PyData),PyData.plainAll ps=true→toPs (ofPs ps)=some ps
 | [],_=>rfl
 | p :: ps,h=>by
  unfold PyData.plainAll at h
  obtain ⟨h1,h2⟩ := Bool.and_eq_true_iff.mp h
  unfold ofPs toPs
  rw [toP_ofP p h1,toPs_ofPs ps h2]
  rfl
end
theorem ofPs_map:∀ ps:List PyData,ofPs ps=ps.map ofP
 | []=>rfl
 | p :: ps=>by rw [ofPs,ofPs_map ps]; rfl
section
variable {α β γ δ:Type} [DecidableEq α] [Datum α] [DecidableEq β] [Datum β] [DecidableEq γ] [Datum γ] [DecidableEq δ] [Datum δ] {A:AH}
def en (a:α):D := ofP (Datum.toD a)
@[simp] theorem en_int (i:Int):en i = .int i := rfl
@[simp] theorem en_bl (b:Bool):en b = .bl b := rfl
@[simp] theorem en_str (z:Str):en z = .str z := rfl
theorem en_tup (xs:List α):en (Tup.mk xs) = .tup (xs.map en) := by
 show D.tup (ofPs (xs.map Datum.toD))=_
 rw [ofPs_map,List.map_map]
 rfl
@[simp] theorem toP_en (a:α):toP (en a)=some (Datum.toD a) := toP_ofP _ (Datum.plain a)
theorem toPs_map (xs:List α):toPs (xs.map en)=some (xs.map Datum.toD) := by
 have:xs.map en=ofPs (xs.map Datum.toD) := by rw [ofPs_map,List.map_map]; rfl
 rw [this]
 exact toPs_ofPs _ (PySem.W.plainAll_map xs)
theorem toPA_en (a:α):toPA A (en a)=some (Datum.toD a) := by
 have h := toP_en a
 cases e:en a with
 | ref n=>rw [e] at h; cases h
 | _=>rw [e] at h; exact h
def LsD (A:AH) (d:D) (xs:List α):Prop := itL A d=some (xs.map en)
def SqD (A:AH) (d:D) (xs:List α):Prop := itS A d=some (xs.map en)
theorem LsD.sq {d:D} {xs:List α} (h:LsD A d xs):SqD A d xs := by
 unfold LsD at h
 unfold SqD
 cases d <;> first | exact h | cases h
theorem LsD.toPA {d:D} {xs:List α} (h:LsD A d xs):toPA A d=some (.list (xs.map Datum.toD)) := by
 unfold LsD itL at h
 unfold Am.toPA
 cases d with
 | lst ys=>cases h; show toP (.lst (xs.map en))=_; unfold toP; rw [toPs_map]; rfl
 | ref n =>
  simp only at h
  split at h
  ·rename_i ys e
   cases h
   simp only [e]
   rw [toPs_map]
   rfl
  ·cases h
 | _=>cases h
theorem w_eq {neg:Bool} {a b:α} {Q:QE} (q:Q (.bl (decide (a=b) != neg)) A) (hd:Datum.depth α≤60 := by decide):fEq neg (en a) (en b) A Q :=
 ⟨_,_,toPA_en a,toPA_en b,Datum.plain a,Datum.plain b,Nat.le_trans (Nat.min_le_left _ _) (Nat.le_trans (Datum.depth_le a) hd),by rw [Datum.eqv]; exact q⟩
theorem w_eqL {neg:Bool} {x y:D} {xs ys:List α} {Q:QE} (hx:LsD A x xs) (hy:LsD A y ys) (q:Q (.bl (decide (xs=ys) != neg)) A) (hd:Datum.depth (List α)≤60 := by decide):fEq neg x y A Q :=
 ⟨_,_,hx.toPA,hy.toPA,Datum.plain xs,Datum.plain ys,Nat.le_trans (Nat.min_le_left _ _) (Nat.le_trans (Datum.depth_le xs) hd),by
  have := Datum.eqv xs ys
  have e:PyData.eqv (.list (xs.map Datum.toD)) (.list (ys.map Datum.toD))=decide (xs=ys) := this
  rw [e]; exact q⟩
theorem w_in {neg:Bool} {a:α} {y:D} {xs:List α} {Q:QE} (hy:SqD A y xs) (q:Q (.bl (decide (a∈xs) != neg)) A) (hd:Datum.depth α≤60 := by decide):fIn neg (en a) y A Q := by
 have fin:∃ ys p ps,itS A y=some ys∧toPA A (en a)=some p∧toPs ys=some ps∧p.plain=true∧PyData.plainAll ps=true∧p.depth≤60∧Q (.bl (ps.any (fun z=>PyData.eqv z p) != neg)) A :=
  ⟨_,_,_,hy,toPA_en a,toPs_map xs,Datum.plain a,PySem.W.plainAll_map xs,Nat.le_trans (Datum.depth_le a) hd,by rw [PySem.W.any_datum]; exact q⟩
 unfold fIn
 cases y with
 | str z=>cases hy
 | _=>exact fin
theorem w_ix {x:D} {xs:List α} {i:Nat} {j:Int} {a:α} {Q:QE} (hx:SqD A x xs) (hj:j=(i:Int)) (h:xs[i]? = some a) (q:Q (en a) A):fIx x (.int j) A Q := by
 have fin:∃ ys i d,itS A x=some ys∧D.int j = .int i∧L2.atI ys i=some d∧Q d A := ⟨_,j,en a,hx,rfl,by rw [hj]; exact atI_nat (by rw [List.getElem?_map,h]; rfl),q⟩
 unfold fIx
 cases x with
 | str z=>cases hx
 | _=>exact fin
theorem w_ixS {z:Str} {i c:Nat} {j:Int} {Q:QE} (hj:j=(i:Int)) (hz:z.length≤sizeLine) (h:z.cps.toList[i]? = some c) (q:Q (.str ⟨#[c]⟩) A):fIx (.str z) (.int j) A Q := ⟨j,c,rfl,hz,by rw [hj]; exact atI_nat h,q⟩
end
section
variable {α:Type} {ck:AH→Prop} {tg:MG} {tt:MT} {te tk tv:ME} {s:Sl} {A:AH}
theorem lc_map {xs:List α} {e:α→D} {p:α→Bool} {f:α→D} {Q:List D→AH→Prop} (hc:ck A)
  (hb:∀ x∈xs,∀ (R:D→AH→Prop) (R':AH→Prop),(p x=true→R (f x) A)→(p x=false→R' A)→tg (e x) s A fun s1 A1=>tt s1 A1 (fun b A2=>if b=true then te s1 A2 R NX else R' A2) NX)
  (q:Q ((xs.filter p).map f) A):lcL ck tg tt te s (xs.map e) A Q := by
 induction xs generalizing Q with
 | nil=>exact ⟨hc,q⟩
 | cons x xs ih =>
  refine ⟨hc,hb x (List.mem_cons_self ..) _ _ (fun hp=>?_) (fun hp=>?_)⟩
  ·refine ih (fun y hy=>hb y (List.mem_cons_of_mem _ hy)) ?_
   rw [List.filter_cons,hp] at q
   exact q
  ·refine ih (fun y hy=>hb y (List.mem_cons_of_mem _ hy)) ?_
   rw [List.filter_cons,hp] at q
   exact q
theorem lc_each {xs:List α} {e:α→D} {E:α→D→Prop} {Q:List D→AH→Prop} (hc:ck A)
  (hb:∀ x∈xs,∀ (R:D→AH→Prop) (R':AH→Prop),(∀ y,E x y→R y A)→tg (e x) s A fun s1 A1=>tt s1 A1 (fun b A2=>if b=true then te s1 A2 R NX else R' A2) NX)
  (q:∀ ys,Paired E xs ys→Q ys A):lcL ck tg tt te s (xs.map e) A Q := by
 induction xs generalizing Q with
 | nil=>exact ⟨hc,q [] .nil⟩
 | cons x xs ih=>exact ⟨hc,hb x (List.mem_cons_self ..) _ _ fun y hy=>ih (fun y hy=>hb y (List.mem_cons_of_mem _ hy)) fun ys hys=>q (y :: ys) (.cons hy hys)⟩
end
theorem for_inv {ck:AH→Prop} {tg:MG} {tb:MS} {D0:AEnds} (items:List D) (J:Nat→Sl→AH→Prop) {s:Sl} {A:AH} (h0:J 0 s A) (hck:∀ i s A,J i s A→ck A)
  (step:∀ i d s A (N:Sl→AH→Prop),items[i]? = some d→J i s A→(∀ s' A',J (i + 1) s' A'→N s' A')→tg d s A fun s1 A1=>tb { D0 with nx := N,ct := N,bk := D0.nx } s1 A1)
  (fin:∀ s A,J items.length s A→D0.nx s A):forL ck tg tb items D0 s A := by
 have go:∀ (ds pre:List D) (s:Sl) (A:AH),items=pre ++ ds→J pre.length s A→forL ck tg tb ds D0 s A := by
  intro ds
  induction ds with
  | nil =>
   intro pre s A e h
   rw [List.append_nil] at e
   subst e
   exact ⟨hck _ _ _ h,fin _ _ h⟩
  | cons d ds ih =>
   intro pre s A e h
   refine ⟨hck _ _ _ h,step pre.length d s A _ (by rw [e]; simp) h fun s' A' h'=>ih (pre ++ [d]) s' A' (by rw [e]; simp) (by rw [List.length_append]; exact h')⟩
 exact go items [] s A rfl h0
end Am
namespace Am
open PySem PySem.Spec PyProof.Rows L2
open PySem.W (Datum Tup T3 T4)
def Pv (m:ME) (s:Sl) (A:AH) (d:D):Prop := ∀ Q E,Q d A→m s A Q E
def Pt (m:MT) (s:Sl) (A:AH) (b:Bool):Prop := ∀ Q E,Q b A→m s A Q E
def Pa (m:MA) (s:Sl) (A:AH) (ds:List D):Prop := ∀ Q E,Q ds A→m s A Q E
def Po (m:MO) (s:Sl) (A:AH) (o:Option Int):Prop := ∀ Q E,Q o A→m s A Q E
def Fv (f:FN) (ds:List D) (A:AH) (d:D):Prop := ∀ Q E,Q d A→f ds A Q E
section
variable {s:Sl} {A:AH} {m ma mb mc:ME} {d x y z:D} {ds:List D} {a b:Bool} {t u:MT} {mr:MA} {α β γ δ:Type} [DecidableEq α] [Datum α] [DecidableEq β] [Datum β] [DecidableEq γ] [Datum γ] [DecidableEq δ] [Datum δ]
theorem pv_var {i:Nat} (h:s[i]? = some (some d)):Pv (mVar i) s A d := fun Q E q=>⟨d,h,q⟩
theorem pv_c:Pv (mC d) s A d := fun Q E q=>q
theorem pv_op {f:F2} (ha:Pv ma s A x) (hb:Pv mb s A y) (hf:∀ Q:QE,Q d A→f x y A Q):Pv (mOp f ma mb) s A d := fun Q E q=>ha _ E (hb _ E (hf Q q))
theorem pv_un {f:F1} (ha:Pv ma s A x) (hf:∀ Q:QE,Q d A→f x A Q):Pv (mUn f ma) s A d := fun Q E q=>ha _ E (hf Q q)
theorem Pv.is (h:Pv m s A x) (e:x=y):Pv m s A y := e ▸ h
theorem Pt.is (h:Pt t s A a) (e:a=b):Pt t s A b := e ▸ h
theorem pv_in {neg:Bool} {a:α} {xs:List α} (ha:Pv ma s A (en a)) (hb:Pv mb s A y) (hy:SqD A y xs) (hd:Datum.depth α≤60 := by decide):Pv (mOp (fIn neg) ma mb) s A (.bl (decide (a∈xs) != neg)) := pv_op ha hb fun Q q=>w_in hy q hd
theorem pv_inS {neg:Bool} {a:Str} {xs:List Str} (ha:Pv ma s A (.str a)) (hb:Pv mb s A y) (hy:SqD A y xs):Pv (mOp (fIn neg) ma mb) s A (.bl (decide (a∈xs) != neg)) := pv_in (α := Str) ha hb hy
theorem pv_sign {neg:Bool} {c:Nat} {z:Str} (ha:Pv ma s A (.str ⟨#[c]⟩)) (hb:Pv mb s A (.str z)):Pv (mOp (fIn neg) ma mb) s A (.bl (decide (c∈z.cps.toList) != neg)) := pv_op ha hb fun Q q=>⟨c,rfl,q⟩
theorem pv_ix {xs:List α} {i:Nat} {j:Int} {a:α} (ha:Pv ma s A x) (hb:Pv mb s A (.int j)) (hx:SqD A x xs) (hj:j=(i:Int)) (h:xs[i]? = some a):Pv (mOp fIx ma mb) s A (en a) := pv_op ha hb fun Q q=>w_ix hx hj h q
theorem pv_addI {i j:Int} (ha:Pv ma s A (.int i)) (hb:Pv mb s A (.int j)):Pv (mOp fAdd ma mb) s A (.int (i + j)) := pv_op ha hb fun Q q=>⟨j,rfl,q⟩
theorem pv_addS {i j:Str} (ha:Pv ma s A (.str i)) (hb:Pv mb s A (.str j)) (h:i.length + j.length≤sizeLine):Pv (mOp fAdd ma mb) s A (.str (i ++ j)) := pv_op ha hb fun Q q=>⟨j,rfl,h,q⟩
theorem pv_neg {i:Int} (ha:Pv ma s A (.int i)):Pv (mUn fNeg ma) s A (.int (-i)) := pv_un ha fun Q q=>⟨i,rfl,q⟩
theorem pv_chain {i j k:Int} (ha:Pv ma s A (.int i)) (hb:Pv mb s A (.int j)) (hc:Pv mc s A (.int k)):Pv (mChain fLe fLe ma mb mc) s A (.bl (decide (i≤j) && decide (j≤k))) := fun Q E q=>ha _ E (hb _ E ⟨i,j,rfl,rfl,_,rfl,by
 cases e:decide (i≤j) with
 | true=>exact iteT (hc _ E ⟨j,k,rfl,rfl,by rw [e] at q; exact q⟩)
 | false=>exact iteF (by rw [e] at q; exact q)⟩)
theorem pv_andV (ha:Pv ma s A (.bl a)) (hb:a=true→Pv mb s A (.bl b)):Pv (mAndV ma mb) s A (.bl (a && b)) := fun Q E q=>ha _ E ⟨a,rfl,by
 cases a with
 | true=>exact iteT (hb rfl _ E q)
 | false=>exact iteF q⟩
theorem pv_if (ht:Pt t s A a) (h1:a=true→Pv ma s A d) (h2:a=false→Pv mb s A d):Pv (mIf t ma mb) s A d := fun Q E q=>ht _ E (by
 cases a with
 | true=>exact iteT (h1 rfl _ E q)
 | false=>exact iteF (h2 rfl _ E q))
theorem pt_b (h:Pv m s A (.bl a)):Pt (mB m) s A a := fun Q E q=>h _ E ⟨a,rfl,q⟩
theorem pt_and (h1:Pt t s A a) (h2:a=true→Pt u s A b):Pt (mAnd t u) s A (a && b) := fun Q E q=>h1 _ E (by
 cases a with
 | true=>exact iteT (h2 rfl _ E q)
 | false=>exact iteF q)
theorem pt_or (h1:Pt t s A a) (h2:a=false→Pt u s A b):Pt (mOr t u) s A (a || b) := fun Q E q=>h1 _ E (by
 cases a with
 | true=>exact iteT q
 | false=>exact iteF (h2 rfl _ E q))
theorem pt_not (h:Pt t s A a):Pt (mNot t) s A (!a) := fun Q E q=>h _ E q
theorem pt_yes:Pt mYes s A true := fun Q E q=>q
theorem pa_nil':Pa mNil s A [] := fun Q E q=>q
theorem pa_cons' (h:Pv m s A d) (hr:Pa mr s A ds):Pa (mCons m mr) s A (d :: ds) := fun Q E q=>h _ E (hr _ E q)
theorem pa_1 (h:Pv m s A x):Pa (mCons m mNil) s A [x] := pa_cons' h pa_nil'
theorem pa_2 (h:Pv ma s A x) (h2:Pv mb s A y):Pa (mCons ma (mCons mb mNil)) s A [x,y] := pa_cons' h (pa_1 h2)
theorem pa_3 (h:Pv ma s A x) (h2:Pv mb s A y) (h3:Pv mc s A z):Pa (mCons ma (mCons mb (mCons mc mNil))) s A [x,y,z] := pa_cons' h (pa_2 h2 h3)
theorem sz {n:Nat} (h:n≤1000):n≤sizeLine := Fm.small_size h
theorem pv_tup (h:Pa mr s A ds) (hz:ds.length≤sizeLine := by exact sz (by simp)):Pv (mTup mr) s A (.tup ds) := fun Q E q=>h _ E ⟨hz,q⟩
theorem pv_lst (h:Pa mr s A ds) (hz:ds.length≤sizeLine := by exact sz (by simp)):Pv (mLst mr) s A (.lst ds) := fun Q E q=>h _ E ⟨hz,q⟩
theorem pv_cb {f:List D→AH→QE→Prop} (h:Pa mr s A ds) (hf:∀ Q:QE,Q d A→f ds A Q):Pv (mCB f mr) s A d := fun Q E q=>h _ E (hf Q q)
theorem pv_lenS {z:Str} (h:Pv m s A (.str z)) (hz:z.length≤sizeLine):Pv (mCB fLen (mCons m mNil)) s A (.int z.length) := pv_cb (pa_1 h) fun Q q=>⟨_,rfl,hz,q⟩
theorem pv_fld {cs:List Str} {f c:Str} {fs:List (Str × D)} (h:Pv m s A x) (hx:insOf A x=some (c,fs)) (hc:c∈cs) (hf:fs.lookup f=some d):Pv (mFld cs f m) s A d := fun Q E q=>h _ E ⟨c,fs,d,hx,hc,hf,q⟩
theorem pv_isi {tab:List (TyN × Bool)} {t:TyN} (h:Pv m s A x) (ht:tyD A x=some t) (hb:tab.lookup t=some b):Pv (mIsi tab m) s A (.bl b) := fun Q E q=>h _ E ⟨t,b,ht,hb,q⟩
theorem pv_call {f:FN} (h:Pa mr s A ds) (hf:Fv f ds A d):Pv (mCall f mr) s A d := fun Q E q=>h _ E (hf Q E q)
theorem pv_ownEq {f:FN} {ts:List TyN} {t:TyN} {c:Str} {fs:List (Str × D)} (h1:Pv ma s A x) (h2:Pv mb s A y) (hx:insOf A x=some (c,fs)) (hy:tyD A y=some t) (ht:t∈ts) (hf:Fv f [x,y] A d):Pv (mOwnEq ts c f ma mb) s A d := fun Q E q=>h1 _ E (h2 _ E ⟨⟨fs,hx⟩,⟨t,hy,ht⟩,hf Q NX q⟩)
theorem pv_meth {f:FN} {c mn:Str} {fs:List (Str × D)} (h1:Pv m s A x) (hx:insOf A x=some (c,fs)) (hn:fs.lookup mn=none) (h2:Pa mr s A ds) (hf:Fv f (x :: ds) A d):Pv (mMeth c mn f m mr) s A d := fun Q E q=>h1 _ E ⟨⟨fs,hx,hn⟩,h2 _ E (hf Q E q)⟩
theorem pv_join {z:Str} {zs:List Str} {ys:List D} (h1:Pv ma s A (.str z)) (h2:Pv mb s A y) (hy:itS A y=some ys) (hs:strsOf ys=some zs) (hz:(zs.map (·.length)).sum + zs.length * z.length≤16777216):Pv (mJoin ma mb) s A (.str (Txt.join z zs)) := fun Q E q=>h1 _ E ⟨z,rfl,h2 _ E ⟨ys,zs,hy,hs,hz,q⟩⟩
theorem strsOf_map:∀ zs:List Str,strsOf (zs.map en)=some zs
 | []=>rfl
 | z :: zs=>by rw [List.map_cons,en_str]; unfold strsOf; rw [strsOf_map zs]; rfl
theorem pv_dget {o:D} (h1:Pv ma s A x) (h2:Pv mb s A y) (h:dval A x y (some o)):Pv (mDGet ma mb) s A o := fun Q E q=>h1 _ E (h2 _ E ⟨o,h,q⟩)
theorem pv_din {o:Option D} {neg:Bool} (h1:Pv ma s A y) (h2:Pv mb s A x) (h:dval A x y o):Pv (mDIn neg ma mb) s A (.bl (o.isSome != neg)) := fun Q E q=>h1 _ E (h2 _ E ⟨o,h,q⟩)
theorem po_no:Po mNoPart s A none := fun Q E q=>q
theorem po_so {i:Int} (h:Pv m s A (.int i)):Po (mPart m) s A (some i) := fun Q E q=>h _ E ⟨i,rfl,q⟩
theorem pv_sl {lo hi:MO} {l h:Option Int} {xs:List D} (hx:Pv m s A x) (h1:Po lo s A l) (h2:Po hi s A h) (hl:itL A x=some xs):Pv (mSl m lo hi) s A (.lst (cutD xs l h)) := fun Q E q=>hx _ E (h1 _ E (h2 _ E (by
 cases x with
 | str z=>cases hl
 | _=>exact ⟨xs,hl,q⟩)))
theorem pv_slS {lo hi:MO} {l h:Option Int} {z:Str} (hx:Pv m s A (.str z)) (h1:Po lo s A l) (h2:Po hi s A h) (hz:z.length≤sizeLine):Pv (mSl m lo hi) s A (.str (cutS z l h)) := fun Q E q=>hx _ E (h1 _ E (h2 _ E ⟨hz,q⟩))
theorem cutD_map {ι:Type} (e:ι→D) (xs:List ι) (lo hi:Option Int):cutD (xs.map e) lo hi=((xs.drop (HT.sIx xs.length 0 lo)).take (HT.sIx xs.length xs.length hi - HT.sIx xs.length 0 lo)).map e := by
 unfold cutD
 rw [List.length_map,List.map_take,List.map_drop]
theorem pv_lcS {tg:MG} {te:ME} {vs:List Nat} {z:Str} {p:Nat→Bool} {f:Nat→D} (hx:Pv m s A (.str z)) (hz:z.length≤sizeLine)
  (hb:∀ c∈z.cps.toList,∀ (R:Sl→AH→Prop),(∀ s1,Pt t s1 A (p c)→(p c=true→Pv te s1 A (f c))→R s1 A)→tg (.str ⟨#[c]⟩) (wipeD s vs) A R):Pv (mLc (mSeq m) tg t te vs) s A (.lst ((z.cps.toList.filter p).map f)) := fun Q E q=>hx _ E ⟨by unfold chars; rw [List.length_map,Array.length_toList]; exact hz,lc_map (ck := ckT) True.intro (fun a ha R R' h1 h2=>hb a ha _ fun s1 ht he=>ht _ _ (by
 cases e:p a with
 | true=>exact iteT (he e _ _ (h1 e))
 | false=>exact iteF (h2 e))) q⟩
variable {D0:AEnds}
theorem s_set {i:Nat} (h:Pv m s A d) (q:D0.nx (s.set i (some d)) A):mSet m (gN i) D0 s A := h _ _ q
theorem s_ret (h:Pv m s A d) (q:D0.rt d A):mRet m D0 s A := h _ _ q
theorem s_if {u v:MS} (h:Pt t s A a) (h1:a=true→u D0 s A) (h2:a=false→v D0 s A):mIfS t u v D0 s A := h _ _ (by
 cases a with
 | true=>exact iteT (h1 rfl)
 | false=>exact iteF (h2 rfl))
theorem w_draw {n:Nat} {k:Int} {ma mb:ME} {Q:QE} {E:QX} (ha:Pv ma s A (.ref n)) (hb:Pv mb s A (.int k)) (hA:A n=some .pool) (hk:0 < k) (hl:k.natAbs.log2 < 9000) (q:∀ r,0≤r→r < k→Q (.int r) A):mCall fDraw (mCons ma (mCons mb mNil)) s A Q E := (pa_2 ha hb) _ _ ⟨n,k,rfl,hA,hk,hl,q⟩
end
end Am
namespace Am
open PySem PySem.Spec PyProof.Rows L2
open PySem.W (Datum Tup T3 T4)
def Px (m:ME) (s:Sl) (A:AH) (R:D→Prop):Prop := ∀ Q E,(∀ d,R d→Q d A)→m s A Q E
def Pxt (m:MT) (s:Sl) (A:AH):Prop := ∀ Q E,(∀ b,Q b A)→m s A Q E
def Fx (f:FN) (ds:List D) (A:AH) (R:D→Prop):Prop := ∀ Q E,(∀ d,R d→Q d A)→f ds A Q E
section
variable {s:Sl} {A:AH} {m ma mb mc:ME} {d x y z:D} {ds:List D} {a b:Bool} {t u:MT} {mr:MA} {R R1 R2:D→Prop} {α β:Type} [DecidableEq α] [Datum α] [DecidableEq β] [Datum β]
theorem Pv.px (h:Pv m s A d):Px m s A fun e=>e=d := fun Q E q=>h Q E (q d rfl)
theorem Px.imp (h:Px m s A R) (k:∀ d,R d→R1 d):Px m s A R1 := fun Q E q=>h Q E fun d r=>q d (k d r)
theorem Pt.px (h:Pt t s A a):Pxt t s A := fun Q E q=>h Q E (q a)
theorem px_op {f:F2} (ha:Px ma s A R1) (hb:Px mb s A R2) (hf:∀ x y,R1 x→R2 y→∀ Q:QE,(∀ d,R d→Q d A)→f x y A Q):Px (mOp f ma mb) s A R := fun Q E q=>ha _ E fun x rx=>hb _ E fun y ry=>hf x y rx ry Q q
theorem px_op' {f:F2} (ha:Px ma s A R1) (hb:Px mb s A R2) (hf:∀ x y,R1 x→R2 y→Px (mOp f (mC x) (mC y)) s A R):Px (mOp f ma mb) s A R := px_op ha hb fun x y rx ry Q q=>hf x y rx ry Q NX q
def DrN (k:Int):D→Prop := fun d=>∃ r,d = .int r∧0≤r∧r < k
theorem px_draw {n:Nat} {k:Int} (hA:A n=some .pool) (ha:Pv ma s A (.ref n)) (hb:Pv mb s A (.int k)) (hk:0 < k := by decide) (hl:k.natAbs.log2 < 9000 := by decide):Px (mCall fDraw (mCons ma (mCons mb mNil))) s A (DrN k) := fun Q E q=>w_draw ha hb hA hk hl fun r h0 h1=>q _ ⟨r,rfl,h0,h1⟩
theorem DrN.i {k:Int} (d:D) (h:DrN k d):∃ i,d = .int i := by obtain ⟨r,e,_⟩ := h; exact ⟨r,e⟩
theorem px_addD {k j:Int} (ha:Px ma s A (DrN k)):Px (mOp fAdd (mC (.int j)) ma) s A fun d=>∃ r,d = .int r∧j≤r∧r < j + k := px_op' (Pv.px pv_c) ha fun u v e ⟨r,e2,q0,q1⟩=>by
 subst e e2
 exact (pv_addI pv_c pv_c).px.imp fun d e=>⟨_,e,by omega,by omega⟩
variable {D0:AEnds}
theorem s_setX {i:Nat} (h:Px m s A R) (q:∀ d,R d→D0.nx (s.set i (some d)) A):mSet m (gN i) D0 s A := h _ _ q
theorem len_intsD {lo:Int} {n:Nat}:(intsD lo n).length=n := by unfold intsD; simp
theorem px_lcR {tg:MG} {te:ME} {vs:List Nat} {j:Int} {E0:Nat→D→Prop} (hx:Pv m s A (.int j)) (h0:0≤j) (hz:j≤1000)
  (hb:∀ i:Nat,i < j.toNat→∀ (R:Sl→AH→Prop),(∀ s1,Px te s1 A (E0 i)→R s1 A)→tg (.int i) (wipeD s vs) A R):Px (mLc (mRng1 (mCons m mNil)) tg mYes te vs) s A fun d=>∃ ys,d = .lst ys∧Paired E0 (List.range j.toNat) ys := fun Q E q =>
 hx (fun d A1=>∃ k:Int,[d]=[.int k] ∧ -(2 ^ 62)≤k∧k < 2 ^ 62∧(intsD 0 k.toNat).length≤sizeLine∧lcL ckT tg mYes te (wipeD s vs) (intsD 0 k.toNat) A1 fun ys A2=>Q (.lst ys) A2) _ ⟨j,rfl,by omega,by omega,by rw [len_intsD]; exact sz (by omega),by
  have e:intsD 0 j.toNat=(List.range j.toNat).map fun i:Nat=>D.int i := by unfold intsD; simp
  rw [e]
  exact lc_each (ck := ckT) (E := E0) True.intro (fun i hi R R' k=>hb i (List.mem_range.mp hi) _ fun s1 h=>(show (if true=true then te s1 A R NX else R' A) from iteT (B := R' A) (h _ _ k))) fun ys hys=>q _ ⟨ys,rfl,hys⟩⟩
end
theorem s_ifF {s:Sl} {A:AH} {t:MT} {u:MS} {D0:AEnds} (h:Pt t s A false) (q:D0.nx s A):mIfS t u mNext D0 s A := h _ _ (iteF q)
theorem s_ifT {s:Sl} {A:AH} {t:MT} {u v:MS} {D0:AEnds} (h:Pt t s A true) (q:u D0 s A):mIfS t u v D0 s A := h _ _ (iteT q)
section
variable {s:Sl} {A:AH} {Q:QE} {E:QX} {i n:Nat}
theorem w_fzL {xs:List D} (hi:s[i]? = some (some (.ref n))) (h:A n=some (.lst xs)) (q:Q (.lst xs) (rem A n)):mFz (mVar i) s A Q E := ⟨_,hi,by unfold frz1; simp only [h]; exact q⟩
end
theorem Les.put' {A A':AH} {n:Nat} {x:Nd} (h:Les A A') (hn:A n=none):Les A (put A' n x) := fun k y e=>by
 rw [put_ne (fun z=>by rw [z,hn] at e; cases e)]
 exact h k y e
theorem LsD.put {α:Type} [DecidableEq α] [Datum α] {A:AH} {x:D} {xs:List α} {n:Nat} {Z:Nd} (h:LsD A x xs) (hn:A n=none):LsD (put A n Z) x xs := by
 cases x with
 | ref k =>
  unfold LsD itL at h ⊢
  simp only at h ⊢
  have:k≠n := fun e=>by rw [e,hn] at h; cases h
  rw [put_ne this]
  exact h
 | _=>exact h
end Am
namespace Am
open PySem PySem.Spec PyProof.Rows L2
open PySem.W (Datum Tup T3 T4)
def P2 (f:F2) (x y:D) (A:AH) (d:D):Prop := ∀ Q:QE,Q d A→f x y A Q
def P1 (f:F1) (x:D) (A:AH) (d:D):Prop := ∀ Q:QE,Q d A→f x A Q
def PB (f:List D→AH→QE→Prop) (ds:List D) (A:AH) (d:D):Prop := ∀ Q:QE,Q d A→f ds A Q
def UE {α:Type} [DecidableEq α] [Datum α] (d:D) (a:α):Prop := d=en a
section
variable {α β γ δ:Type} {i1:DecidableEq α} {j1:Datum α} {i2:DecidableEq β} {j2:Datum β} {i3:DecidableEq γ} {j3:Datum γ} {i4:DecidableEq δ} {j4:Datum δ}
variable {A:AH} {x y d:D} {xs ys:List α} {a b:α}
theorem p2_eq (hx:UE x a) (hy:UE y b) (hd:Datum.depth α≤60):P2 (fEq false) x y A (.bl (decide (a=b))) := fun Q q=>by
 rw [hx,hy]; exact w_eq (by rw [Bool.bne_false]; exact q) hd
theorem p2_ne (hx:UE x a) (hy:UE y b) (hd:Datum.depth α≤60):P2 (fEq true) x y A (.bl (!decide (a=b))) := fun Q q=>by
 rw [hx,hy]; exact w_eq (by rw [Bool.bne_true]; exact q) hd
theorem p2_eqL (hx:LsD A x xs) (hy:LsD A y ys) (hd:Datum.depth (List α)≤60):P2 (fEq false) x y A (.bl (decide (xs=ys))) := fun Q q=>w_eqL hx hy (by rw [Bool.bne_false]; exact q) hd
theorem p2_in (hx:UE x a) (hy:SqD A y xs) (hd:Datum.depth α≤60):P2 (fIn false) x y A (.bl (decide (a∈xs))) := fun Q q=>by
 rw [hx]; exact w_in hy (by rw [Bool.bne_false]; exact q) hd
theorem p2_nin (hx:UE x a) (hy:SqD A y xs) (hd:Datum.depth α≤60):P2 (fIn true) x y A (.bl (!decide (a∈xs))) := fun Q q=>by
 rw [hx]; exact w_in hy (by rw [Bool.bne_true]; exact q) hd
theorem p2_addI {i j:Int}:P2 fAdd (.int i) (.int j) A (.int (i + j)) := fun Q q=>⟨j,rfl,q⟩
theorem p2_addS {i j:Str} (h:i.length + j.length≤sizeLine):P2 fAdd (.str i) (.str j) A (.str (i ++ j)) := fun Q q=>⟨j,rfl,h,q⟩
theorem p2_subI {i j:Int}:P2 fSub (.int i) (.int j) A (.int (i - j)) := fun Q q=>⟨i,j,rfl,rfl,q⟩
theorem p2_le {i j:Int}:P2 fLe (.int i) (.int j) A (.bl (decide (i≤j))) := fun Q q=>⟨i,j,rfl,rfl,q⟩
theorem p2_gt {i j:Int}:P2 fGt (.int i) (.int j) A (.bl (decide (j < i))) := fun Q q=>⟨i,j,rfl,rfl,q⟩
theorem p2_isN:P2 fIsN x .non A (.bl (isNon x)) := fun Q q=>⟨rfl,q⟩
theorem p2_isNy:P2 fIsN .non .non A (.bl true) := fun Q q=>⟨rfl,q⟩
theorem p2_ixT {ds:List D} {i:Int} (hx:x = .tup ds) (h:L2.atI ds i=some d):P2 fIx x (.int i) A d := fun Q q=>by rw [hx]; exact ⟨ds,i,d,rfl,rfl,h,q⟩
theorem p1_neg {i:Int}:P1 fNeg (.int i) A (.int (-i)) := fun Q q=>⟨i,rfl,q⟩
theorem pb_list {ds:List D} (h:itS A x=some ds):PB fList [x] A (.lst ds) := fun Q q=>⟨x,ds,rfl,h,q⟩
theorem pb_tup {ds:List D} (h:itL A x=some ds):PB fTupOf [x] A (.tup ds) := fun Q q=>⟨x,rfl,by
 cases x with
 | tup ys=>cases h
 | _=>exact ⟨ds,h,q⟩⟩
theorem allBD_map {ι:Type} (f:ι→Bool):∀ zs:List ι,allBD (zs.map fun c=>.bl (f c))=some (zs.all f)
 | []=>rfl
 | z :: zs=>by rw [List.map_cons,allBD,allBD_map f zs]; rfl
theorem pb_all {ι:Type} {f:ι→Bool} {zs:List ι}:PB fAll [.lst (zs.map fun c=>.bl (f c))] A (.bl (zs.all f)) := fun Q q=>⟨_,_,_,rfl,rfl,allBD_map f zs,q⟩
def ItL (A:AH) (x:D) {ι:Type} (xs:List ι) (e:ι→D):Prop := itL A x=some (xs.map e)
def ItS (A:AH) (x:D) {ι:Type} (xs:List ι) (e:ι→D):Prop := itS A x=some (xs.map e)
theorem it_l {ι:Type} {xs:List ι} {e:ι→D}:ItS A (.lst (xs.map e)) xs e := rfl
theorem it_t {ι:Type} {xs:List ι} {e:ι→D}:ItS A (.tup (xs.map e)) xs e := rfl
theorem itS_ref {n:Nat} {ds:List D} (h:A n=some (.lst ds)):itS A (.ref n)=some ds := by unfold itS itL; simp only [h]
theorem itL_ref {n:Nat} {ds:List D} (h:A n=some (.lst ds)):itL A (.ref n)=some ds := by unfold itL; simp only [h]
theorem ins_n {n:Nat} {c:Str} {fs:List (Str × D)} (h:A n=some (.ins c fs)):insOf A (.ref n)=some (c,fs) := by unfold insOf; simp only [h]
end
section
variable {s s':Sl} {A:AH} {m ma mb mc:ME} {d x y z:D} {ds:List D} {a b:Bool} {t u:MT} {mr:MA} {Q:QE} {E:QX}
theorem pv_op2 {f:F2} (ha:Pv ma s A x) (hb:Pv mb s A y) (hf:P2 f x y A d):Pv (mOp f ma mb) s A d := pv_op ha hb hf
theorem pv_un1 {f:F1} (ha:Pv ma s A x) (hf:P1 f x A d):Pv (mUn f ma) s A d := pv_un ha hf
theorem pv_cbB {f:List D→AH→QE→Prop} (h:Pa mr s A ds) (hf:PB f ds A d):Pv (mCB f mr) s A d := pv_cb h hf
theorem pv_chainB {f f':F2} {b1 b2:Bool} (ha:Pv ma s A x) (hb:Pv mb s A y) (h1:P2 f x y A (.bl b1)) (hc:b1=true→Pv mc s A z) (h2:P2 f' y z A (.bl b2)):Pv (mChain f f' ma mb mc) s A (.bl (b1 && b2)) := fun Q E q=>ha _ E (hb _ E (h1 _ ⟨b1,rfl,by
 cases b1 with
 | true=>exact iteT (hc rfl _ E (h2 _ q))
 | false=>exact iteF q⟩))
theorem Pv.wp (q:Q d A) (h:Pv m s A d):m s A Q E := h Q E q
theorem P2.wp {f:F2} (q:Q d A) (h:P2 f x y A d):f x y A Q := h Q q
theorem w_opW {f:F2} (h:ma s A (fun x A1=>mb s A1 (fun y A2=>f x y A2 Q) E) E):mOp f ma mb s A Q E := h
theorem w_callW {f:FN} (q:f ds A Q E) (h:Pa mr s A ds):mCall f mr s A Q E := h _ _ q
theorem w_consX {R:List D→AH→Prop} (h:m s A (fun x A1=>mr s A1 (fun xs A2=>R (x :: xs) A2) E) E):mCons m mr s A R E := h
theorem w_nilX {R:List D→AH→Prop} (h:R [] A):mNil s A R E := h
theorem w_tupX (h:mr s A (fun ds A1=>ds.length≤sizeLine∧Q (.tup ds) A1) E):mTup mr s A Q E := h
theorem w_lstM (h:mr s A (fun ds A1=>ds.length≤sizeLine∧newL ds A1 Q) E):mLstM mr s A Q E := h
def Tg (tg:MG) (d:D) (s:Sl) (s':Sl):Prop := ∀ A (R:Sl→AH→Prop),R s' A→tg d s A R
def Tgs (tg:MGs) (ds:List D) (s:Sl) (s':Sl):Prop := ∀ A (R:Sl→AH→Prop),R s' A→tg ds s A R
theorem tg_n {i:Nat} (h:s.set i (some d)=s'):Tg (gN i) d s s' := fun A R r=>by unfold gN; rw [h]; exact r
theorem tg_tp {n:Nat} {g:MGs} (hd:d = .tup ds) (hn:ds.length=n) (h:Tgs g ds s s'):Tg (gTp n g) d s s' := fun A R r=>⟨ds, .inl hd,hn,h A R r⟩
theorem tgz_nil:Tgs gNl [] s s := fun A R r=>⟨rfl,r⟩
theorem tgz_cons {g:MG} {gs:MGs} {s1:Sl} (h:Tg g d s s1) (hs:Tgs gs ds s1 s'):Tgs (gCs g gs) (d :: ds) s s' := fun A R r=>⟨d,ds,rfl,h A _ (hs A R r)⟩
def LcB (tg:MG) (t:MT) (te:ME) (s:Sl) (A:AH) (d:D) (b:Bool) (y:D):Prop := ∃ s1,Tg tg d s s1∧Pt t s1 A b∧(b=true→Pv te s1 A y)
theorem lcb {tg:MG} {te:ME} (h:Tg tg d s s') (ht:Pt t s' A b) (he:b=true→Pv te s' A y):LcB tg t te s A d b y := ⟨s',h,ht,he⟩
theorem ItS.seq {ι:Type} {xs:List ι} {e:ι→D} {R:List D→(AH→Prop)→AH→Prop} (h:ItS A x xs e) (q:∀ ck:AH→Prop,ck A→(∀ A',(∀ n,x = .ref n→A' n=A n)→ck A')→R (xs.map e) ck A):fSeq x A R := by
 unfold ItS at h
 unfold fSeq
 cases x with
 | str z=>cases h
 | ref n =>
  unfold itS itL at h
  simp only at h
  split at h
  ·rename_i ys e
   cases h
   exact ⟨_,e,q _ e fun A' k=>by rw [k n rfl]; exact e⟩
  ·cases h
 | _=>exact ⟨_,h,q ckT True.intro fun _ _=>True.intro⟩
def fnE (Q:QE) (E:QX):AEnds := { nx := fun _ A'=>Fg A' (Q .non),rt := fun d A'=>Fg A' (Q d),bk := fun _ _=>False,ct := fun _ _=>False,ex := fun x _ A'=>Fg A' (E x) }
def sqE (u:MS) (D:AEnds):AEnds := { D with nx := fun s' A'=>u D s' A' }
def lpE (D:AEnds) (N:Sl→AH→Prop):AEnds := { D with nx := N,ct := N,bk := D.nx }
variable {D0:AEnds} {N:Sl→AH→Prop} {S U V:MS} {xc:Xc}
theorem fn_in {k n:Nat} {body:MS} (h:body (fnE Q E) s A) (h1:ds.length=k) (hs:ds.map some ++ List.replicate (n - k) none=s):mFn k n body ds A Q E := by subst hs; exact ⟨h1,h⟩
theorem fv_in {k n:Nat} {body:MS} (h:∀ Q E,Q d A→body (fnE Q E) s A) (h1:ds.length=k) (hs:ds.map some ++ List.replicate (n - k) none=s):Fv (mFn k n body) ds A d := fun Q E q=>fn_in (h Q E q) h1 hs
theorem s_sq (h:S (sqE U D0) s A):mSq S U D0 s A := h
theorem nx_sq (h:U D0 s A):(sqE U D0).nx s A := h
theorem rt_sq (h:D0.rt d A):(sqE U D0).rt d A := h
theorem ex_sq (h:D0.ex xc s A):(sqE U D0).ex xc s A := h
theorem nx_lp (h:N s A):(lpE D0 N).nx s A := h
theorem rt_lp (h:D0.rt d A):(lpE D0 N).rt d A := h
theorem ex_lp (h:D0.ex xc s A):(lpE D0 N).ex xc s A := h
theorem t_next (q:D0.nx s A):mNext D0 s A := q
end
end Am
namespace Am
open PySem PySem.Spec PyProof.Rows L2
open PySem.W (Datum Tup T3 T4)
structure Cells0 (B:AH) (cs:List (Nat × Nd)) (A:AH):Prop where
 nd:(cs.map (·.1)).Nodup
 get:∀ c∈cs,A c.1=some c.2
 fr:∀ c∈cs,B c.1=none
 le:Les B A
def Cells (B:AH) (sg:List (List (Nat × Nd))) (A:AH):Prop := Cells0 B sg.flatten A
def remL (A:AH) (ns:List Nat):AH := fun m=>if m∈ns then none else A m
theorem remL_no {A:AH} {ns:List Nat} {m:Nat} (h:m ∉ ns):remL A ns m=A m := if_neg h
theorem remL_in {A:AH} {ns:List Nat} {m:Nat} (h:m∈ns):remL A ns m=none := if_pos h
section
variable {B A A':AH} {cs ds ws ws' rest:List (Nat × Nd)} {sg:List (List (Nat × Nd))} {n i j:Nat} {X Y:Nd}
theorem Cells0.non (h:Cells0 B cs A) (hn:A n=none):B n=none := by
 cases e:B n with
 | none=>rfl
 | some x=>rw [h.le n x e] at hn; cases hn
theorem Cells0.perm (h:Cells0 B cs A) (p:cs.Perm ds):Cells0 B ds A := ⟨(p.map _).nodup_iff.mp h.nd,fun c hc=>h.get c (p.mem_iff.mpr hc),fun c hc=>h.fr c (p.mem_iff.mpr hc),h.le⟩
theorem Cells0.sub (h:Cells0 B cs A) (k:ds.Sublist cs):Cells0 B ds A := ⟨h.nd.sublist (k.map _),fun c hc=>h.get c (k.subset hc),fun c hc=>h.fr c (k.subset hc),h.le⟩
theorem Cells0.les (h:Cells0 B cs A) (l:Les A A'):Cells0 B cs A' := ⟨h.nd,fun c hc=>l _ _ (h.get c hc),h.fr,h.le.trans l⟩
theorem Cells0.focus (h:Cells0 B (ws ++ rest) A):Cells0 (remL A (ws.map (·.1))) ws A := by
 refine ⟨h.nd.sublist ((List.sublist_append_left ws rest).map _),fun c hc=>h.get c (List.mem_append.mpr (.inl hc)),fun c hc=>remL_in (List.mem_map.mpr ⟨c,hc,rfl⟩),fun m x e=>?_⟩
 unfold remL at e
 split at e
 ·cases e
 ·exact e
theorem Cells0.back (h:Cells0 B (ws ++ rest) A) (h':Cells0 (remL A (ws.map (·.1))) ws' A'):Cells0 B (ws' ++ rest) A' := by
 have nd := h.nd
 rw [List.map_append,List.nodup_append] at nd
 have out:∀ c∈rest,c.1 ∉ ws.map (·.1) := fun c hc hm=>nd.2.2 _ hm _ (List.mem_map.mpr ⟨c,hc,rfl⟩) rfl
 have new:∀ c∈ws',c.1∈ws.map (·.1)∨A c.1=none := fun c hc=>by
  have := h'.fr c hc
  unfold remL at this
  split at this
  ·rename_i e; exact .inl e
  ·exact .inr this
 have old:∀ c∈rest,A c.1=some c.2 := fun c hc=>h.get c (List.mem_append.mpr (.inr hc))
 refine ⟨?_,fun c hc=>?_,fun c hc=>?_,fun m x e=>?_⟩
 ·rw [List.map_append,List.nodup_append]
  refine ⟨h'.nd,nd.2.1,fun a ha b hb=>?_⟩
  obtain ⟨c,hc,rfl⟩ := List.mem_map.mp ha
  obtain ⟨d,hd,rfl⟩ := List.mem_map.mp hb
  intro e
  rcases new c hc with h1 | h1
  ·exact out d hd (e ▸ h1)
  ·rw [e,old d hd] at h1; cases h1
 ·rcases List.mem_append.mp hc with hc | hc
  ·exact h'.get c hc
  ·exact h'.le _ _ (by rw [remL_no (out c hc)]; exact old c hc)
 ·rcases List.mem_append.mp hc with hc | hc
  ·rcases new c hc with h1 | h1
   ·obtain ⟨d,hd,e⟩ := List.mem_map.mp h1
    rw [← e]; exact h.fr d (List.mem_append.mpr (.inl hd))
   ·exact h.non h1
  ·exact h.fr c (List.mem_append.mpr (.inr hc))
 ·refine h'.le m x ?_
  rw [remL_no]
  ·exact h.le m x e
  ·intro hm
   obtain ⟨d,hd,e2⟩ := List.mem_map.mp hm
   have := h.fr d (List.mem_append.mpr (.inl hd))
   rw [e2,e] at this; cases this
theorem flat_set (h:sg[i]? = some ws):sg.flatten.Perm (ws ++ (sg.set i []).flatten) := by
 induction sg generalizing i with
 | nil=>simp at h
 | cons s sg ih =>
  cases i with
  | zero=>simp at h; subst h; simp
  | succ i =>
   simp at h
   have := ih h
   simp only [List.flatten_cons,List.set_cons_succ]
   refine (this.append_left s).trans ?_
   rw [← List.append_assoc,← List.append_assoc]
   exact List.perm_append_comm.append_right _
theorem flat_put (h:i < sg.length):(sg.set i ws).flatten.Perm (ws ++ (sg.set i []).flatten) := by
 have := flat_set (sg := sg.set i ws) (i := i) (ws := ws) (by rw [List.getElem?_set_self h])
 rw [List.set_set] at this
 exact this
theorem Cells.focus (h:Cells B sg A) (i:Nat) (e:sg[i]? = some ws):Cells0 (remL A (ws.map (·.1))) ws A := (Cells0.perm h (flat_set e)).focus
theorem Cells.back (h:Cells B sg A) (i:Nat) (e:sg[i]? = some ws) (h':Cells0 (remL A (ws.map (·.1))) ws' A'):Cells B (sg.set i ws') A' := ((Cells0.perm h (flat_set e)).back h').perm (flat_put (List.getElem?_eq_some_iff.mp e).1).symm
theorem Cells.nil_ {A:AH}:Cells A [] A where
 nd := .nil
 get := fun _ h=>nomatch h
 fr := fun _ h=>nomatch h
 le := Les.refl
theorem Cells.le (h:Cells B sg A):Les B A := Cells0.le h
theorem Cells.at (h:Cells B sg A) (i:Nat) (e:sg[i]? = some [(n,X)]):A n=some X := (h.focus i e).get _ (List.mem_singleton.mpr rfl)
theorem Cells0.put1 (h:Cells0 B [(n,X)] A) (Y:Nd):Cells0 B [(n,Y)] (put A n Y) := by
 have hb := h.fr _ (List.mem_singleton.mpr rfl)
 refine ⟨by simp,fun c hc=>?_,fun c hc=>?_,h.le.put' hb⟩
 ·rw [List.mem_singleton.mp hc]; exact put_same
 ·rw [List.mem_singleton.mp hc]; exact hb
theorem Cells.put (h:Cells B sg A) (i:Nat) (e:sg[i]? = some [(n,X)]) (Y:Nd):Cells B (sg.set i [(n,Y)]) (put A n Y) := h.back i e ((h.focus i e).put1 Y)
theorem Cells.new (h:Cells B sg A) (X:Nd) (hn:A n=none):Cells B (sg ++ [[(n,X)]]) (Am.put A n X) := by
 have h0:Cells0 B sg.flatten A := h
 have ne:∀ c∈sg.flatten,c.1≠n := fun c hc e=>by have := h0.get c hc; rw [e,hn] at this; cases this
 show Cells0 B (sg ++ [[(n,X)]]).flatten _
 rw [List.flatten_append]
 show Cells0 B (sg.flatten ++ [(n,X)]) _
 refine ⟨?_,fun c hc=>?_,fun c hc=>?_,h0.le.put' (h0.non hn)⟩
 ·rw [List.map_append,List.nodup_append]
  refine ⟨h0.nd,by simp,fun a ha b hb=>?_⟩
  obtain ⟨c,hc,rfl⟩ := List.mem_map.mp ha
  have:b=n := by simpa using hb
  rw [this]; exact ne c hc
 ·rcases List.mem_append.mp hc with hc | hc
  ·rw [put_ne (ne c hc)]; exact h0.get c hc
  ·rw [List.mem_singleton.mp hc]; exact put_same
 ·rcases List.mem_append.mp hc with hc | hc
  ·exact h0.fr c hc
  ·rw [List.mem_singleton.mp hc]; exact h0.non hn
theorem Cells.take (h:Cells B sg A) (k:Nat):Cells B (sg.take k) A := by
 have:sg.flatten=(sg.take k).flatten ++ (sg.drop k).flatten := by rw [← List.flatten_append,List.take_append_drop]
 have h':Cells0 B ((sg.take k).flatten ++ (sg.drop k).flatten) A := this ▸ h
 exact h'.sub (List.sublist_append_left _ _)
theorem Cells.les (h:Cells B sg A) (l:Les A A'):Cells B sg A' := Cells0.les h l
theorem flat_erase:∀ {sg:List (List (Nat × Nd))} {i:Nat},(sg.eraseIdx i).flatten=(sg.set i []).flatten
 | [],_=>by simp
 | s :: sg,0=>by simp
 | s :: sg,i + 1=>by simp [flat_erase (sg := sg) (i := i)]
theorem flat_set_sub:∀ {sg:List (List (Nat × Nd))} {i:Nat},(sg.set i []).flatten.Sublist sg.flatten
 | [],_=>by simp
 | s :: sg,0=>by simp
 | s :: sg,i + 1=>by simp only [List.set_cons_succ,List.flatten_cons]; exact (List.Sublist.refl s).append flat_set_sub
theorem Cells.erase (h:Cells B sg A) (k:Nat):Cells B (sg.eraseIdx k) A := by
 unfold Cells
 rw [flat_erase]
 exact Cells0.sub h flat_set_sub
theorem Cells.cut (h:Cells B sg A) (i:Nat) (e:sg[i]? = some [(n,X)]):Cells B (sg.eraseIdx i) (rem A n) := by
 have:Cells B (sg.set i []) (rem A n) := h.back i e (by
  refine ⟨.nil,fun _ h=>(nomatch h),fun _ h=>(nomatch h),fun m x e=>?_⟩
  unfold remL at e
  unfold rem
  simp only [List.map_cons,List.map_nil,List.mem_singleton] at e
  exact e)
 unfold Cells at this ⊢
 rw [flat_erase]; exact this
end
def Sz (n:Nat):Prop := n≤sizeLine
theorem Sz.of {n:Nat} (h:n≤1000000):Sz n := Nat.le_trans h (by decide)
def ixG {α:Type} (d0:α) (xs:List α) (i:Int):α := (xs[i.toNat]?).getD d0
def rng (j:Int):List Int := (List.range j.toNat).map fun i:Nat=>(i:Int)
def enu {α:Type} (xs:List α):List (Int × α) := xs.zipIdx.map fun p=>((p.2:Int),p.1)
def eE {α:Type} (e:α→D):Int × α→D := fun p=>.tup [.int p.1,e p.2]
def cutL {α:Type} (xs:List α) (lo hi:Option Int):List α := (xs.drop (HT.sIx xs.length 0 lo)).take (HT.sIx xs.length xs.length hi - HT.sIx xs.length 0 lo)
def letW {α:Type} (a:α) (k:α→Prop):Prop := k a
def joinW {σ:Type} (b:(σ→Prop)→Prop) (k:σ→Prop):Prop := b k
def forW {ι σ:Type}:List ι→σ→(ι→σ→(σ→Prop)→(σ→Prop)→Prop)→(σ→Prop)→Prop
 | [],st,_,K=>K st
 | x :: xs,st,b,K=>b x st (fun st'=>forW xs st' b K) K
def lcW {ι β:Type}:List ι→(ι→(Option β→Prop)→Prop)→(List β→Prop)→Prop
 | [],_,K=>K []
 | x :: xs,b,K=>b x fun o=>match o with
  | some y=>lcW xs b fun ys=>K (y :: ys)
  | none=>lcW xs b K
section
variable {ι α β:Type} {s s':Sl} {A B:AH} {m ma mb mc:ME} {d x y z:D} {xs:List ι} {e:ι→D}
theorem ItL.les (h:ItL B x xs e) (l:Les B A):ItL A x xs e := by
 unfold ItL at *
 cases x with
 | ref k =>
  unfold itL at *
  simp only at *
  cases q:B k with
  | none=>rw [q] at h; cases h
  | some z=>rw [l k z q]; rw [q] at h; exact h
 | _=>exact h
theorem ItL.toS (h:ItL A x xs e):ItS A x xs e := by
 unfold ItL ItS itS at *
 cases x <;> first | exact h | cases h
theorem ItS.les (h:ItS B x xs e) (l:Les B A):ItS A x xs e := by
 unfold ItS at *
 cases x with
 | ref k=>exact (ItL.les (x := .ref k) (xs := xs) (e := e) h l)
 | _=>exact h
theorem il_l:ItL A (.lst (xs.map e)) xs e := rfl
theorem il_n {n:Nat} (h:A n=some (.lst (xs.map e))):ItL A (.ref n) xs e := by unfold ItL itL; simp only [h]
theorem ItL.same {A':AH} (h:ItL B x xs e) (l:Les B A) (l':Les B A'):∀ n,x = .ref n→A' n=A n := fun n ex=>by
 subst ex
 unfold ItL itL at h
 simp only at h
 cases q:B n with
 | none=>rw [q] at h; cases h
 | some z=>rw [l n z q,l' n z q]
theorem ItS.sq {α:Type} {i1:DecidableEq α} {j1:Datum α} {xs:List α} (h:ItS A x xs en):SqD A x xs := h
theorem ue_t {α:Type} {i1:DecidableEq α} {j1:Datum α} {xs:List α}:UE (.tup (xs.map en)) (Tup.mk xs) := (en_tup xs).symm
theorem atI_G {d0:ι} {j:Int} (h:0≤j∧j < xs.length):L2.atI (xs.map e) j=some (e (ixG d0 xs j)) := by
 have hj:j.toNat < xs.length := by omega
 have e1:ixG d0 xs j=xs[j.toNat] := by unfold ixG; rw [List.getElem?_eq_getElem hj]; rfl
 have h2:L2.atI (xs.map e) ((j.toNat:Nat):Int)=some (e xs[j.toNat]) := atI_nat (by rw [List.getElem?_map,List.getElem?_eq_getElem hj]; rfl)
 have e2:((j.toNat:Nat):Int)=j := by omega
 rw [e1,← h2,e2]
theorem p2_ixG {d0:ι} {j:Int} (hx:ItS A x xs e) (h:0≤j∧j < xs.length):P2 fIx x (.int j) A (e (ixG d0 xs j)) := fun Q q=>by
 have fin:∃ ys i d,itS A x=some ys∧D.int j = .int i∧L2.atI ys i=some d∧Q d A := ⟨_,j,_,hx,rfl,atI_G h,q⟩
 unfold fIx
 cases x with
 | str z=>cases hx
 | _=>exact fin
theorem atI_L {d0:ι} (h:xs≠[]):L2.atI (xs.map e) (-1)=some (e (xs.getLast?.getD d0)) := by
 have hl:0 < xs.length := List.length_pos_iff.mpr h
 have e1:xs.getLast?.getD d0=xs[xs.length - 1] := by rw [List.getLast?_eq_getElem?,List.getElem?_eq_getElem (by omega)]; rfl
 rw [e1]
 unfold L2.atI ixN
 rw [List.length_map]
 simp only [show ¬ (0:Int) ≤ -1 by decide,if_false]
 rw [if_pos (by omega)]
 have:(-1 + (xs.length:Int)).toNat=xs.length - 1 := by omega
 rw [this,Option.bind_some,List.getElem?_map,List.getElem?_eq_getElem (by omega)]
 rfl
theorem p2_ixL {d0:ι} (hx:ItS A x xs e) (h:xs≠[]):P2 fIx x (.int (-1)) A (e (xs.getLast?.getD d0)) := fun Q q=>by
 have fin:∃ ys i d,itS A x=some ys∧D.int (-1) = .int i∧L2.atI ys i=some d∧Q d A := ⟨_,-1,_,hx,rfl,atI_L h,q⟩
 unfold fIx
 cases x with
 | str z=>cases hx
 | _=>exact fin
theorem pb_lenI (hx:ItS A x xs e):PB fLen [x] A (.int xs.length) := fun Q q=>by
 refine ⟨x,rfl, ?_⟩
 have fin:∃ ys,itS A x=some ys∧Q (.int ys.length) A := ⟨_,hx,by rw [List.length_map]; exact q⟩
 cases x with
 | str z=>cases hx
 | _=>exact fin
theorem pb_listI (hx:ItS A x xs e):PB fList [x] A (.lst (xs.map e)) := pb_list hx
theorem pb_tupI (hx:ItL A x xs e):PB fTupOf [x] A (.tup (xs.map e)) := pb_tup hx
theorem pv_slG {lo hi:MO} {l h:Option Int} (hx:Pv m s A x) (h1:Po lo s A l) (h2:Po hi s A h) (hl:ItL A x xs e):Pv (mSl m lo hi) s A (.lst ((cutL xs l h).map e)) := (pv_sl hx h1 h2 hl).is (by rw [cutD_map]; rfl)
theorem p2_addLI {ys:List ι} (hx:ItL A x xs e) (hy:ItL A y ys e) (h:Sz (xs.length + ys.length)):P2 fAdd x y A (.lst ((xs ++ ys).map e)) := fun Q q=>by
 unfold fAdd fAddG
 have fin:∃ us vs,itL A x=some us∧itL A y=some vs∧us.length + vs.length≤sizeLine∧oldL (us ++ vs) A Q := ⟨_,_,hx,hy,by rw [List.length_map,List.length_map]; exact h,by rw [← List.map_append]; exact q⟩
 cases x with
 | int i=>cases hx
 | str z=>cases hx
 | tup ds=>cases hx
 | lst us=>exact fin
 | ref n=>exact fin
 | _=>cases hx
theorem pv_ifG {t:MT} {b:Bool} {f:α→D} {p q:α} (ht:Pt t s A b) (h1:b=true→Pv ma s A (f p)) (h2:b=false→Pv mb s A (f q)):Pv (mIf t ma mb) s A (f (if b=true then p else q)) := pv_if ht (fun h=>by rw [if_pos h]; exact h1 h) (fun h=>by rw [if_neg (by rw [h]; decide)]; exact h2 h)
theorem pt_truL {t:ι} (h:Pv m s A x) (hx:ItS A x xs e):Pt (mTru m) s A (!xs.isEmpty) := fun Q E q=>h _ E (by
 have fin:∃ ys,itS A x=some ys∧Q (!ys.isEmpty) A := ⟨_,hx,by rw [isEmpty_len (ys := xs) (by simp)]; exact q⟩
 unfold fTru
 cases x with
 | non=>cases hx
 | bl b=>cases hx
 | int b=>cases hx
 | str b=>cases hx
 | _=>exact fin)
end
def Mi (mi:MI) (s:Sl) (A:AH) (xs:List D) (P:AH→Prop):Prop := ∀ (R:List D→(AH→Prop)→AH→Prop) (E:QX),(∀ ck:AH→Prop,ck A→(∀ A',P A'→ck A')→R xs ck A)→mi s A R E
section
variable {ι α β σ:Type} {s s':Sl} {A B:AH} {m ma mb mc te:ME} {t:MT} {tg:MG} {d x y z:D} {xs:List ι} {e:ι→D} {mi:MI} {P:AH→Prop}
theorem mi_seq (h:Pv m s A x) (hl:ItS A x xs e):Mi (mSeq m) s A (xs.map e) (fun A'=>∀ n,x = .ref n→A' n=A n) := fun R E k=>h _ E (ItS.seq hl fun ck h1 h2=>k ck h1 h2)
theorem intsD_rng (j:Int):intsD 0 j.toNat=(rng j).map en := by unfold intsD rng; rw [List.map_map]; exact List.map_congr_left fun i _=>by show D.int _=D.int _; rw [Int.zero_add]
theorem mi_rng {j:Int} (h:Pv m s A (.int j)) (hb:-(2 ^ 62)≤j∧j < 2 ^ 62):Mi (mRng1 (mCons m mNil)) s A ((rng j).map en) (fun _=>True) := fun R E k=>(pa_1 h) (fun ds A1=>∃ i:Int,ds=[.int i] ∧ -(2 ^ 62)≤i∧i < 2 ^ 62∧R (intsD 0 i.toNat) ckT A1) E ⟨j,rfl,hb.1,hb.2,by rw [intsD_rng]; exact k ckT True.intro fun _ _=>True.intro⟩
theorem pairs_enu (xs:List ι) (e:ι→D):pairs (xs.map e)=(enu xs).map (eE e) := by
 apply List.ext_getElem?
 intro i
 unfold pairs enu
 rw [List.getElem?_map,List.getElem?_map,List.getElem?_map,List.getElem?_zipIdx,List.length_map]
 by_cases h:i < xs.length
 ·rw [List.getElem?_range h,List.getElem?_eq_getElem h,Option.map_some,Option.map_some,Option.map_some,Option.map_some,List.getD_eq_getElem?_getD,List.getElem?_map,List.getElem?_eq_getElem h]
  unfold eE
  simp
 ·rw [List.getElem?_eq_none (by simpa using h),List.getElem?_eq_none (by simpa using h)]
  rfl
theorem mi_enum (h:Pv m s A x) (hl:ItL A x xs e):Mi (mEnum (mCons m mNil)) s A ((enu xs).map (eE e)) (fun A'=>∀ n,x = .ref n→A' n=A n) := fun R E k=>by
 refine (pa_1 h) (fun ds A1=>∃ d,ds=[d]∧fEnum d A1 R) E ⟨x,rfl, ?_⟩
 rw [← pairs_enu] at k
 unfold ItL itL at hl
 unfold fEnum
 cases x with
 | ref n =>
  simp only at hl
  split at hl
  ·rename_i ys e1
   cases hl
   exact ⟨_,e1,k _ e1 fun A' q=>by rw [q n rfl]; exact e1⟩
  ·cases hl
 | lst ys=>cases hl; exact k ckT True.intro fun _ _=>True.intro
 | _=>cases hl
theorem mi_enumT (h:Pv m s A (.tup (xs.map e))):Mi (mEnumT (mCons m mNil)) s A ((enu xs).map (eE e)) (fun _=>True) := fun R E k=>(pa_1 h) (fun ds A1=>∃ xs,ds=[.tup xs]∧R (pairs xs) ckT A1) E ⟨_,rfl,by rw [pairs_enu]; exact k ckT True.intro fun _ _=>True.intro⟩
theorem v_lcFM {p:ι→Bool} {g:ι→β} {e':β→D} {vs:List Nat} (hm:Mi mi s A (xs.map e) P) (hw:wipeD s vs=s') (hz:Sz xs.length) (hb:∀ a∈xs,LcB tg t te s' A (e a) (p a) (e' (g a))):Pv (mLc mi tg t te vs) s A (.lst (((xs.filter p).map g).map e')) := fun Q E q=>hm _ _ fun ck hck _=>⟨by rw [List.length_map]; exact hz,by
 rw [hw]
 refine lc_map (f := fun a=>e' (g a)) hck (fun a ha R R' h1 h2=>?_) (by show Q (.lst _) A; rw [List.map_map] at q; exact q)
 obtain ⟨s1,k1,k2,k3⟩ := hb a ha
 refine k1 A _ (k2 _ _ ?_)
 cases e:p a with
 | true=>exact iteT (k3 e _ _ (h1 e))
 | false=>exact iteF (h2 e)⟩
theorem v_lcM {g:ι→β} {e':β→D} {vs:List Nat} (hm:Mi mi s A (xs.map e) P) (hw:wipeD s vs=s') (hz:Sz xs.length) (hb:∀ a∈xs,LcB tg mYes te s' A (e a) true (e' (g a))):Pv (mLc mi tg mYes te vs) s A (.lst ((xs.map g).map e')) := (v_lcFM (p := fun _=>true) hm hw hz hb).is (by rw [List.filter_eq_self.mpr (fun _ _=>rfl)])
theorem lc_corr {f:β→D} {ck:AH→Prop} {b:ι→(Option β→Prop)→Prop} (hc:ck A) (hb:∀ a∈xs,∀ (K:Option β→Prop) (R:D→AH→Prop) (R':AH→Prop),b a K→(∀ y,K (some y)→R (f y) A)→(K none→R' A)→tg (e a) s A fun s1 A1=>t s1 A1 (fun b A2=>if b=true then te s1 A2 R NX else R' A2) NX) :
  ∀ {K:List β→Prop} {Q:List D→AH→Prop},lcW xs b K→(∀ ys,K ys→Q (ys.map f) A)→lcL ck tg t te s (xs.map e) A Q := by
 induction xs with
 | nil=>intro K Q h q; exact ⟨hc,q [] h⟩
 | cons a xs ih =>
  intro K Q h q
  refine ⟨hc,hb a (List.mem_cons_self ..) _ _ _ h (fun y hy=>?_) (fun hn=>?_)⟩
  ·exact ih (fun b hb'=>hb b (List.mem_cons_of_mem _ hb')) hy fun ys hys=>q (y :: ys) hys
  ·exact ih (fun b hb'=>hb b (List.mem_cons_of_mem _ hb')) hn q
theorem u_lcM {f:β→D} {vs:List Nat} {b:ι→(Option β→Prop)→Prop} {K:List β→Prop} {Q:QE} {E:QX} (hm:Mi mi s A (xs.map e) P) (hw:wipeD s vs=s') (hz:Sz xs.length) (h:lcW xs b K) (hb:∀ a∈xs,∀ (K:Option β→Prop) (R:D→AH→Prop) (R':AH→Prop),b a K→(∀ y,K (some y)→R (f y) A)→(K none→R' A)→tg (e a) s' A fun s1 A1=>t s1 A1 (fun b A2=>if b=true then te s1 A2 R NX else R' A2) NX) (q:∀ ys,K ys→∀ n,A n=none→Q (.ref n) (put A n (.lst (ys.map f)))):mLcM mi tg t te vs s A Q E := hm _ _ fun ck hck _=>⟨by rw [List.length_map]; exact hz,by rw [hw]; exact lc_corr hck hb h q⟩
theorem lc_yes {R:D→AH→Prop} {R':AH→Prop} {s1:Sl} (h1:te s1 A R NX):mYes s1 A (fun b A2=>if b=true then te s1 A2 R NX else R' A2) NX := iteT (B := R' A) h1
variable {D0:AEnds} {U V S:MS} {Q:QE} {E:QX}
theorem at_s {M:MS} (e:s=s') (h:M D0 s' A):M D0 s A := e ▸ h
theorem at_n {N:Sl→AH→Prop} (e:s=s') (h:N s' A):N s A := e ▸ h
theorem u_set {i:Nat} (h:Pv m s A d) (hs:s.set i (some d)=s') (q:D0.nx s' A):mSet m (gN i) D0 s A := by subst hs; exact h _ _ q
theorem u_setE {i:Nat} (h:m s A (fun d A1=>D0.nx (s.set i (some d)) A1) (fun x A1=>D0.ex x s A1)):mSet m (gN i) D0 s A := h
theorem u_setG (h:Pv m s A d) (q:tg d s A D0.nx):mSet m tg D0 s A := h _ _ q
theorem u_setGE (h:m s A (fun d A1=>tg d s A1 D0.nx) (fun x A1=>D0.ex x s A1)):mSet m tg D0 s A := h
theorem u_if {b:Bool} {W1 W2:Prop} (ht:Pt t s A b) (h:if b=true then W1 else W2) (h1:b=true→W1→U D0 s A) (h2:b=false→W2→V D0 s A):mIfS t U V D0 s A := ht _ _ (by
 cases b with
 | true=>exact iteT (h1 rfl (by simpa using h))
 | false=>exact iteF (h2 rfl (by simpa using h)))
theorem u_ret (h:Pv m s A d) (q:D0.rt d A):mRet m D0 s A := h _ _ q
theorem u_retE (h:m s A D0.rt (fun x A1=>D0.ex x s A1)):mRet m D0 s A := h
theorem u_dropE (h:m s A (fun _ A1=>D0.nx s A1) (fun x A1=>D0.ex x s A1)):mDrop m D0 s A := h
theorem u_app {n:Nat} {ys:List D} (ho:Pv ma s A (.ref n)) (hA:A n=some (.lst ys)) (h:Pv m s A d) (hz:Sz (ys.length + 1)) (q:D0.nx s (put A n (.lst (ys ++ [d])))):mDrop (mBM fAppend ma (mCons m mNil)) D0 s A := ho _ _ ⟨⟨ys,itL_ref hA⟩,(pa_1 h) _ _ ⟨n,ys,d,rfl,rfl,hA,hz,q⟩⟩
theorem u_appS (h:ma s A (fun x A1=>(∃ xs,itL A1 x=some xs)∧m s A1 (fun d A2=>fAppend x [d] A2 fun _ A3=>D0.nx s A3) (fun x A1=>D0.ex x s A1)) (fun x A1=>D0.ex x s A1)):mDrop (mBM fAppend ma (mCons m mNil)) D0 s A := h
theorem u_it {n:Nat} {ys:List D} (hA:A n=some (.lst ys)):∃ xs,itL A (.ref n)=some xs := ⟨ys,itL_ref hA⟩
theorem u_rt {B:AH} {cs:List (List (Nat × Nd))} (hc:Cells B cs A) (h:Q d B):(fnE Q E).rt d A := fg_les hc.le h
theorem u_nxf {B:AH} {cs:List (List (Nat × Nd))} (hc:Cells B cs A) (h:Q .non B):(fnE Q E).nx s A := fg_les hc.le h
theorem u_exf {B:AH} {cs:List (List (Nat × Nd))} {x:Xc} (hc:Cells B cs A) (h:E x B):(fnE Q E).ex x s A := fg_les hc.le h
theorem u_rz1 {c f:Str} (h:Pv m s A d) (q:D0.ex ⟨c,[(f,d)]⟩ s A):mRz1 c f m D0 s A := h _ _ q
theorem u_lputS {mo mi mv:ME} (h:mv s A (fun z A1=>mo s A1 (fun x A2=>mi s A2 (fun y A3=>lput A3 x y z fun A4=>D0.nx s A4) fun e A=>D0.ex e s A) fun e A=>D0.ex e s A) fun e A=>D0.ex e s A):mLPut mo mi mv D0 s A := h
theorem ixN_nn {k:Nat} {i:Int} (h:0≤i∧i < k):ixN k i=some i.toNat := by unfold ixN; rw [if_pos h.1,if_pos (by omega)]
theorem set_map {xs:List ι} {e:ι→D} {j:Nat} {v:ι}:(xs.map e).set j (e v)=(xs.set j v).map e := by rw [List.map_set]
theorem app_map {xs:List ι} {e:ι→D} {v:ι}:xs.map e ++ [e v]=(xs ++ [v]).map e := by rw [List.map_append]; rfl
theorem u_lput1 {n:Nat} {xs:List ι} {e:ι→D} {i:Int} {v:ι} {Rn:AH→Prop} (hA:A n=some (.lst (xs.map e))) (hj:0≤i∧i < xs.length) (q:Rn (put A n (.lst ((xs.set i.toNat v).map e)))):lput A (.ref n) (.int i) (e v) Rn := ⟨n,_,i,i.toNat,rfl,hA,rfl,ixN_nn (by rw [List.length_map]; exact hj),by rw [set_map]; exact q⟩
theorem u_app2 {n:Nat} {xs:List ι} {e:ι→D} {v:ι} {Rn:AH→Prop} (hA:A n=some (.lst (xs.map e))) (hz:Sz (xs.length + 1)) (q:Rn (put A n (.lst ((xs ++ [v]).map e)))):fAppend (.ref n) [e v] A (fun _ A3=>Rn A3) := ⟨n,xs.map e,e v,rfl,rfl,hA,by rw [List.length_map]; exact hz,by rw [app_map]; exact q⟩
theorem u_for {Wb:Prop} (hm:Mi mi s A (xs.map e) P) (h:∀ ck:AH→Prop,ck A→(∀ A',P A'→ck A')→forL ck tg U (xs.map e) D0 s A):mFor mi tg U D0 s A := hm _ _ h
theorem for_corr {ck:AH→Prop} (Rl:σ→Sl→AH→Prop) {wb:ι→σ→(σ→Prop)→(σ→Prop)→Prop} {K:σ→Prop} {st:σ} (h:forW xs st wb K) (h0:Rl st s A) (hck:∀ st s A,Rl st s A→ck A)
  (step:∀ x∈xs,∀ st s A (N B:σ→Prop) (Nm:Sl→AH→Prop),wb x st N B→Rl st s A→(∀ st' s' A',N st'→Rl st' s' A'→Nm s' A')→(∀ st' s' A',B st'→Rl st' s' A'→D0.nx s' A')→tg (e x) s A (fun s1 A1=>U (lpE D0 Nm) s1 A1))
  (fin:∀ st s A,K st→Rl st s A→D0.nx s A):forL ck tg U (xs.map e) D0 s A := by
 induction xs generalizing st s A with
 | nil=>exact ⟨hck _ _ _ h0,fin _ _ _ h h0⟩
 | cons x xs ih =>
  refine ⟨hck _ _ _ h0, ?_⟩
  exact step x (List.mem_cons_self ..) st s A _ K (fun s2 A2=>forL ck tg U (xs.map e) D0 s2 A2) h h0 (fun st' s' A' hN hR=>ih hN hR fun y hy=>step y (List.mem_cons_of_mem _ hy)) fin
theorem u_forC (Rl:σ→Sl→AH→Prop) {wb:ι→σ→(σ→Prop)→(σ→Prop)→Prop} {K:σ→Prop} {st:σ} (hm:Mi mi s A (xs.map e) P) (h:forW xs st wb K) (h0:Rl st s A) (hck:∀ st s A,Rl st s A→P A)
 (step:∀ x∈xs,∀ st s A (N B:σ→Prop) (Nm:Sl→AH→Prop),wb x st N B→Rl st s A→(∀ st' s' A',N st'→Rl st' s' A'→Nm s' A')→(∀ st' s' A',B st'→Rl st' s' A'→D0.nx s' A')→tg (e x) s A (fun s1 A1=>U (lpE D0 Nm) s1 A1))
 (fin:∀ st s A,K st→Rl st s A→D0.nx s A):mFor mi tg U D0 s A := hm _ _ fun ck h1 h2=>for_corr Rl h h0 (fun st s A r=>h2 A (hck st s A r)) step fin
theorem u_join (Rl:σ→Sl→AH→Prop) {b:(σ→Prop)→Prop} {K:σ→Prop} {M:MS} (h:joinW b K) (hb:∀ N:σ→Prop,b N→(∀ st s A,N st→Rl st s A→V D0 s A)→M (sqE V D0) s A) (hk:∀ st s A,K st→Rl st s A→V D0 s A):mSq M V D0 s A := hb K h hk
end
theorem forW_inv {ι σ:Type} (J:List ι→σ→Prop) {xs:List ι} {st:σ} {b:ι→σ→(σ→Prop)→(σ→Prop)→Prop} {K:σ→Prop} (h0:J [] st)
  (step:∀ pre x post st (N:σ→Prop),xs=pre ++ x :: post→J pre st→(∀ st',J (pre ++ [x]) st'→N st')→b x st N K) (fin:∀ st,J xs st→K st):forW xs st b K := by
 have go:∀ (post pre:List ι) (st:σ),xs=pre ++ post→J pre st→forW post st b K := by
  intro post
  induction post with
  | nil=>intro pre st e h; rw [List.append_nil] at e; subst e; exact fin st h
  | cons x post ih=>intro pre st e h; exact step pre x post st _ e h fun st' h'=>ih (pre ++ [x]) st' (by rw [e]; simp) h'
 exact go xs [] st rfl h0
theorem lcW_all {ι β:Type} (E:ι→β→Prop) {xs:List ι} {b:ι→(Option β→Prop)→Prop} {K:List β→Prop} (hb:∀ x∈xs,∀ N:Option β→Prop,(∀ y,E x y→N (some y))→b x N) (q:∀ ys,Paired E xs ys→K ys):lcW xs b K := by
 induction xs generalizing K with
 | nil=>exact q [] .nil
 | cons x xs ih=>exact hb x (List.mem_cons_self ..) _ fun y hy=>ih (fun z hz=>hb z (List.mem_cons_of_mem _ hz)) fun ys hys=>q (y :: ys) (.cons hy hys)
theorem letW_in {α:Type} {a:α} {k:α→Prop} (h:∀ v,v=a→k v):letW a k := h a rfl
end Am
namespace Am
open PySem PySem.Spec PyProof.Rows L2
open PySem.W (Datum Tup T3 T4)
section
variable {ι α β σ:Type} {s s':Sl} {A B:AH} {m ma mb mc te:ME} {t u:MT} {tg:MG} {d x y z:D} {ds:List D} {xs:List ι} {e:ι→D} {Q:QE} {E:QX} {D0:AEnds} {U Vv:MS} {mr:MA}
theorem w_nilM (h:∀ n,A n=none→Q (.ref n) (put A n (.lst []))):mLstM mNil s A Q E := ⟨sz (by simp),h⟩
theorem w_listM (hp:Pv m s A x) (hx:ItS A x xs e) (h:∀ n,A n=none→Q (.ref n) (put A n (.lst (xs.map e)))):mCB fListM (mCons m mNil) s A Q E := (pa_1 hp) _ _ ⟨x,_,rfl,hx,h⟩
theorem dr_small {k:Int} (h:0 < k∧k≤1000000000):k.natAbs.log2 < 9000 := by
 have h1:k.natAbs < 2 ^ 30 := by omega
 by_cases h0:k.natAbs=0
 ·rw [h0]; decide
 ·exact Nat.lt_of_lt_of_le ((Nat.log2_lt h0).mpr h1) (by decide)
theorem w_drawA {n:Nat} {k:Int} (h:Pa mr s A [.ref n, .int k]) (hA:A n=some .pool) (hk:0 < k) (hl:k.natAbs.log2 < 9000) (q:∀ r,0≤r→r < k→Q (.int r) A):mCall fDraw mr s A Q E := h _ _ ⟨n,k,rfl,hA,hk,hl,q⟩
theorem u_rngE (h:m s A (fun d A1=>∃ j:Int,[d]=[D.int j] ∧ -(2 ^ 62)≤j∧j < 2 ^ 62∧forL ckT tg U (intsD 0 j.toNat) D0 s A1) fun x A1=>D0.ex x s A1):mFor (mRng1 (mCons m mNil)) tg U D0 s A := h
theorem letW_out {a v:α} {k:α→Prop} (e:v=a) (h:letW a k):k v := by subst e; exact h
theorem isNon_en {o:Option Str}:isNon (en o)=o.isNone := by cases o <;> rfl
theorem p2_isNO {o:Option Str}:P2 fIsN (en o) .non A (.bl o.isNone) := fun Q q=>⟨rfl,by rw [isNon_en]; exact q⟩
theorem u_gN {i:Nat} {R:Sl→AH→Prop} (hs:s.set i (some d)=s') (h:R s' A):gN i d s A R := by subst hs; exact h
theorem il_r (h:itL A x=some (xs.map e)):ItL A x xs e := h
theorem is_r (h:itS A x=some (xs.map e)):ItS A x xs e := h
theorem w_poolA {ns:List Int} (hns:ns.length≤63) (hv:Pa mr s A [.scr ns]) (q:∀ n,A n=none→Q (.ref n) (put A n .pool)):mCall fPool mr s A Q E := hv _ _ ⟨ns,rfl,hns,q⟩
end
theorem ue_r {α:Type} {i1:DecidableEq α} {j1:Datum α} {d:D} {a:α} (h:d=en a):UE d a := h
section
variable {α:Type} [DecidableEq α] [Datum α] {A:AH} {x y:D} {a b:α} {xs ys:List α}
def eqB (a b:α):Bool := decide (a=b)
def inB (a:α) (xs:List α):Bool := decide (a∈xs)
theorem eqB_iff:eqB a b=true↔a=b := by unfold eqB; exact decide_eq_true_iff
theorem inB_iff:inB a xs=true↔a∈xs := by unfold inB; exact decide_eq_true_iff
theorem eqB_no:eqB a b=false↔a≠b := by unfold eqB; exact decide_eq_false_iff_not
theorem inB_no:inB a xs=false↔a ∉ xs := by unfold inB; exact decide_eq_false_iff_not
theorem q2_eq (hx:UE x a) (hy:UE y b) (hd:Datum.depth α≤60):P2 (fEq false) x y A (.bl (eqB a b)) := p2_eq hx hy hd
theorem q2_ne (hx:UE x a) (hy:UE y b) (hd:Datum.depth α≤60):P2 (fEq true) x y A (.bl (!eqB a b)) := p2_ne hx hy hd
theorem q2_eqL (hx:ItL A x xs en) (hy:ItL A y ys en) (hd:Datum.depth (List α)≤60):P2 (fEq false) x y A (.bl (eqB xs ys)) := p2_eqL hx hy hd
theorem q2_in (hx:UE x a) (hy:SqD A y xs) (hd:Datum.depth α≤60):P2 (fIn false) x y A (.bl (inB a xs)) := p2_in hx hy hd
theorem q2_nin (hx:UE x a) (hy:SqD A y xs) (hd:Datum.depth α≤60):P2 (fIn true) x y A (.bl (!inB a xs)) := p2_nin hx hy hd
end
theorem joinW_by {σ:Type} (J:σ→Prop) {b:(σ→Prop)→Prop} {k:σ→Prop} (hk:∀ st,J st→k st) (h:∀ N:σ→Prop,(∀ st,J st→N st)→b N):joinW b k := h k hk
end Am
namespace Am
open PySem PySem.Spec PyProof.Rows L2
open Fm (same_new same_upd same_both Same.rd Same.tup Same.sql tMakeS)
open PySem.W (Datum Tup T3 T4)
def frzL (fz:D→AH→QE→Prop):List D→AH→(List D→AH→Prop)→Prop
 | [],A,Q=>Q [] A
 | d :: ds,A,Q=>fz d A fun d' A1=>frzL fz ds A1 fun ds' A2=>Q (d' :: ds') A2
def zipK {κ:Type} (ks:List (κ × D)) (ds:List D):List (κ × D) := (ks.map (·.1)).zip ds
def frzD:Nat→D→AH→QE→Prop
 | 0,d,A,Q=>Q d A
 | k + 1,d,A,Q=>match d with
  | .ref n=>match A n with
   | some (.lst xs)=>frzL (frzD k) xs (rem A n) fun xs' A'=>Q (.lst xs') A'
   | some (.dK kvs)=>frzL (frzD k) (kvs.map (·.2)) (rem A n) fun xs' A'=>Q (.dK (zipK kvs xs')) A'
   | some (.dT kvs)=>frzL (frzD k) (kvs.map (·.2)) (rem A n) fun xs' A'=>Q (.dT (zipK kvs xs')) A'
   | some (.ins c fs)=>frzL (frzD k) (fs.map (·.2)) (rem A n) fun xs' A'=>Q (.ins c (zipK fs xs')) A'
   | _=>Q d A
  | d=>Q d A
section
variable {K:PySem.W.Frag}
theorem zipK_1 {κ:Type} {ks:List (κ × D)} {ds:List D} (h:ks.length=ds.length):(zipK ks ds).map (·.1)=ks.map (·.1) := by
 unfold zipK
 rw [List.map_fst_zip]
 rw [List.length_map,h]; exact Nat.le_refl _
theorem zipK_2 {κ:Type} {ks:List (κ × D)} {ds:List D} (h:ks.length=ds.length):(zipK ks ds).map (·.2)=ds := by
 unfold zipK
 rw [List.map_snd_zip]
 rw [List.length_map,h]; exact Nat.le_refl _
theorem frzL_ok {fz:D→AH→QE→Prop} (hf:∀ {g:Sg} {A:AH} {H:Hp} {v:V} {d:D} {R:QE} {X:Prop},Wr K g A H→Rep K g v d→fz d A R→(∀ g' A' d',Stp g A H g' A' H→Wr K g' A' H→Rep K g' v d'→R d' A'→X)→X) :
  ∀ {ds:List D} {vs:List V} {g:Sg} {A:AH} {H:Hp} {R:List D→AH→Prop} {X:Prop},Wr K g A H→Reps K g vs ds→frzL fz ds A R→(∀ g' A' ds',Stp g A H g' A' H→Wr K g' A' H→Reps K g' vs ds'→R ds' A'→X)→X
 | [],_,g,A,H,R,X,w,r,h,q=>by cases r; exact q g A [] .refl w .nil h
 | d :: ds,_,g,A,H,R,X,w,r,h,q=>by
  cases r with
  | cons r1 r2=>exact hf w r1 h fun g1 A1 d1 st1 w1 q1 h1=>frzL_ok hf w1 (r2.mono st1.le) h1 fun g2 A2 ds2 st2 w2 q2 h2=>q g2 A2 _ (st1.trans st2) w2 (.cons (q1.mono st2.le) q2) h2
theorem frzD_ok:∀ (k:Nat) {g:Sg} {A:AH} {H:Hp} {v:V} {d:D} {R:QE} {X:Prop},Wr K g A H→Rep K g v d→frzD k d A R→(∀ g' A' d',Stp g A H g' A' H→Wr K g' A' H→Rep K g' v d'→R d' A'→X)→X
 | 0,g,A,H,v,d,R,X,w,r,h,q=>q g A d .refl w r h
 | k + 1,g,A,H,v,d,R,X,w,r,h,q=>by
  unfold frzD at h
  cases d with
  | ref n =>
   obtain ⟨a,rfl,hi⟩:∃ a,v = .ref a∧g.i n=some a := by cases r with | ref h=>exact ⟨_,rfl,h⟩
   simp only at h
   cases e:A n with
   | none=>rw [e] at h; exact q _ _ _ .refl w (.ref hi) h
   | some x =>
    rw [e] at h
    obtain ⟨b,q1,q2,q3⟩ := w.nd n x e
    rw [hi] at q1; cases q1
    cases x with
    | lst xs =>
     obtain ⟨vs,z1,z2⟩ := q3
     obtain ⟨w2,st2⟩ := w.freeze hi e z1
     exact frzL_ok (frzD_ok k) w2 (z2.mono st2.le) h fun g1 A1 ds st1 w1 r1 h3=>q _ _ _ (st2.trans st1) w1 (.lst (Fm.Same.rd st1.le.s (.inl upd_same)) r1) h3
    | dK xs =>
     obtain ⟨vs,z1,z2,z3⟩ := q3
     obtain ⟨w2,st2⟩ := w.freeze hi e z1
     exact frzL_ok (frzD_ok k) w2 (z3.mono st2.le) h fun g1 A1 ds st1 w1 r1 h3=>by
      have hl:xs.length=ds.length := by
       have l1 := r1.len
       have l2 := congrArg List.length z2
       simp only [List.length_map] at l1 l2
       omega
      exact q _ _ _ (st2.trans st1) w1 (.dK (Fm.Same.rd st1.le.s (.inl upd_same)) (by rw [zipK_1 hl]; exact z2) (by rw [zipK_2 hl]; exact r1)) h3
    | dT xs =>
     obtain ⟨vs,z1,z2,z3⟩ := q3
     obtain ⟨w2,st2⟩ := w.freeze hi e z1
     exact frzL_ok (frzD_ok k) w2 (z3.mono st2.le) h fun g1 A1 ds st1 w1 r1 h3=>by
      have hl:xs.length=ds.length := by
       have l1 := r1.len
       have l2 := congrArg List.length z2
       simp only [List.length_map] at l1 l2
       omega
      exact q _ _ _ (st2.trans st1) w1 (.dT (Fm.Same.rd st1.le.s (.inl upd_same)) (by rw [zipK_1 hl]; exact z2) (by rw [zipK_2 hl]; exact r1)) h3
    | ins c fs =>
     obtain ⟨dx,vs,z1,z2,z3⟩ := q3
     obtain ⟨w2,st2⟩ := w.freeze hi e z1
     exact frzL_ok (frzD_ok k) w2 (z3.mono st2.le) h fun g1 A1 ds st1 w1 r1 h3=>by
      have hl:fs.length=ds.length := by
       have l1 := r1.len
       have l2 := congrArg List.length z2
       simp only [List.length_map] at l1 l2
       omega
      exact q _ _ _ (st2.trans st1) w1 (.ins (st1.le.s _ _ upd_same) (by rw [zipK_1 hl]; exact z2) (by rw [zipK_2 hl]; exact r1)) h3
    | pool=>exact q _ _ _ .refl w (.ref hi) h
    | lkK o us ds=>exact q _ _ _ .refl w (.ref hi) h
    | lkT o us ds=>exact q _ _ _ .refl w (.ref hi) h
  | _=>exact q _ _ _ .refl w r h
def frzF (A:AH) (d:D) (Q:QE):Prop := frzD 3 d A Q
theorem fin_deep:FinS K frzF := fun g A H v d Qa Q w r h q=>frzD_ok 3 w r h fun g' A' d' st w' r' h'=>q g' A' H v d' st w' r' h'
def mMakeD := mMakeG frzF
variable {W:WX} {m:ME}
theorem c_makeD {f:FN} {mr:MA} {c:Str}:∀ σ H Q,cE K W (mMakeD c f mr) σ H Q→tMakeS (He.ga K c) (spM K f) (WE W) (cA K W mr) σ H Q := c_makeG fin_deep
end
def Tre (d:D):Prop := ∀ n,d≠.ref n
theorem frz_tre {k:Nat} {d:D} {A:AH} {Q:QE} (h:Tre d) (q:Q d A):frzD k d A Q := by
 cases k with
 | zero=>exact q
 | succ k =>
  unfold frzD
  cases d with
  | ref n=>exact absurd rfl (h n)
  | _=>exact q
theorem frzL_tre {k:Nat} {A:AH}:∀ {ds:List D} {R:List D→AH→Prop},(∀ d∈ds,Tre d)→R ds A→frzL (frzD k) ds A R
 | [],R,_,q=>q
 | d :: ds,R,h,q=>frz_tre (h d (List.mem_cons_self ..)) (frzL_tre (fun e he=>h e (List.mem_cons_of_mem _ he)) q)
theorem tre_ofP:∀ p:PyData,Tre (ofP p) := fun p n=>by cases p <;> (intro h; cases h)
theorem tre_en {α:Type} [DecidableEq α] [Datum α] (a:α):Tre (en a) := tre_ofP _
theorem frzL_nil {fz:D→AH→QE→Prop} {A:AH} {R:List D→AH→Prop} (q:R [] A):frzL fz [] A R := q
theorem frzL_cons {fz:D→AH→QE→Prop} {A:AH} {R:List D→AH→Prop} {d:D} {ds:List D} (h:fz d A fun d' A1=>frzL fz ds A1 fun ds' A2=>R (d' :: ds') A2):frzL fz (d :: ds) A R := h
theorem frz_ins {k n:Nat} {c:Str} {fs:List (Str × D)} {A:AH} {Q:QE} (hA:A n=some (.ins c fs)) (h:frzL (frzD k) (fs.map (·.2)) (rem A n) fun xs A'=>Q (.ins c (zipK fs xs)) A'):frzD (k + 1) (.ref n) A Q := by unfold frzD; simp only [hA]; exact h
theorem zipK_id {κ:Type}:∀ kvs:List (κ × D),zipK kvs (kvs.map (·.2))=kvs
 | []=>rfl
 | p :: r=>by
  have := zipK_id r
  unfold zipK at this ⊢
  rw [List.map_cons,List.map_cons,List.zip_cons_cons,this]
theorem frz_dK {k n:Nat} {kvs:List (Key × D)} {A:AH} {Q:QE} (hA:A n=some (.dK kvs)) (he:∀ p∈kvs,Tre p.2) (q:Q (.dK kvs) (rem A n)):frzD (k + 1) (.ref n) A Q := by
 unfold frzD
 simp only [hA]
 refine frzL_tre (fun d hd=>by obtain ⟨x,hx,e2⟩ := List.mem_map.mp hd; rw [← e2]; exact he x hx) ?_
 rw [zipK_id]; exact q
section
variable {κ α:Type} [DecidableEq κ]
def putA (l:List (κ × α)) (k:κ) (v:α):List (κ × α) := if (l.any fun p=>decide (p.1=k))=true then l.map (fun p=>if p.1=k then (p.1,v) else p) else l ++ [(k,v)]
def valA (l:List (κ × α)) (k:κ):Option α := (l.find? fun p=>decide (p.1=k)).map (·.2)
theorem valA_none {l:List (κ × α)} {k:κ}:valA l k=none↔k ∉ l.map (·.1) := by
 unfold valA
 rw [Option.map_eq_none_iff,List.find?_eq_none,List.mem_map]
 constructor
 ·rintro h ⟨p,hp,e⟩; exact h p hp (by simpa using e)
 ·intro h p hp e; exact h ⟨p,hp,by simpa using e⟩
theorem putA_new {l:List (κ × α)} {k:κ} {v:α} (h:k ∉ l.map (·.1)):putA l k v=l ++ [(k,v)] := by
 unfold putA
 rw [if_neg]
 intro e
 obtain ⟨p,hp,e2⟩ := List.any_eq_true.mp e
 exact h (List.mem_map.mpr ⟨p,hp,by simpa using e2⟩)
end
def kS (z:Str):Key := .inr z
theorem kS_inj {a b:Str} (h:kS a=kS b):a=b := Sum.inr.inj h
def eD {κ κ' α:Type} (f:κ→κ') (e:α→D):κ × α→κ' × D := fun p=>(f p.1,e p.2)
section
variable {κ κ' α:Type} [DecidableEq κ] [DecidableEq κ'] {f:κ→κ'} {e:α→D} (hf:∀ a b,f a=f b→a=b) {l:List (κ × α)} {k:κ} {v:α}
include hf
theorem put_eD:putD (l.map (eD f e)) (f k) (e v)=(putA l k v).map (eD f e) := by
 unfold putD putA
 have h1:((l.map (eD f e)).any fun p=>decide (p.1=f k))=(l.any fun p=>decide (p.1=k)) := by
  rw [List.any_map]
  congr 1
  funext p
  show decide (f p.1=f k)=decide (p.1=k)
  rw [decide_eq_decide]
  exact ⟨fun h=>hf _ _ h,fun h=>by rw [h]⟩
 rw [h1]
 split
 ·rw [List.map_map,List.map_map]
  apply List.map_congr_left
  intro p hp
  show (if f p.1=f k then (f p.1,e v) else eD f e p)=eD f e (if p.1=k then (p.1,v) else p)
  by_cases h:p.1=k
  ·rw [if_pos h,if_pos (by rw [h])]; rfl
  ·rw [if_neg h,if_neg (fun z=>h (hf _ _ z))]
 ·rw [List.map_append]; rfl
theorem val_eD:valD (l.map (eD f e)) (f k)=(valA l k).map e := by
 unfold valD valA
 rw [List.find?_map,Option.map_map,Option.map_map]
 have:((fun kv:κ' × D=>decide (kv.1=f k)) ∘ eD f e)=fun p=>decide (p.1=k) := by
  funext p
  show decide (f p.1=f k)=decide (p.1=k)
  rw [decide_eq_decide]
  exact ⟨fun h=>hf _ _ h,fun h=>by rw [h]⟩
 rw [this]
 rfl
end
theorem tre_eD {κ κ' α:Type} {f:κ→κ'} {e:α→D} {l:List (κ × α)} (he:∀ x,Tre (e x)):∀ p∈l.map (eD f e),Tre p.2 := fun p hp=>by
 obtain ⟨x,_,e2⟩ := List.mem_map.mp hp
 rw [← e2]; exact he x.2
def DcK {κ α:Type} (A:AH) (x:D) (f:κ→Key) (e:α→D) (l:List (κ × α)):Prop := dcK A x=some (l.map (eD f e))
section
variable {κ α:Type} [DecidableEq κ] {A B:AH} {s:Sl} {x y z:D} {fk:κ→Key} {ft:κ→List Key} {e:α→D} {l:List (κ × α)} {k:κ} {d0:α} {ma mb mc:ME}
theorem dk_t:DcK A (.dK (l.map (eD fk e))) fk e l := rfl
theorem dk_n {n:Nat} (h:A n=some (.dK (l.map (eD fk e)))):DcK A (.ref n) fk e l := by unfold DcK dcK; simp only [h]
theorem pv_getK (hf:∀ a b,fk a=fk b→a=b) (h1:Pv ma s A x) (h2:Pv mb s A y) (hd:DcK A x fk e l) (hk:kyK y=some (fk k)) (hs:(valA l k).isSome=true):Pv (mDGet ma mb) s A (e ((valA l k).getD d0)) := by
 obtain ⟨v,hv⟩ := Option.isSome_iff_exists.mp hs
 exact pv_dget h1 h2 (.inl ⟨_,_,hd,hk,by rw [val_eD hf,hv]; rfl⟩)
theorem pv_inK {neg:Bool} (hf:∀ a b,fk a=fk b→a=b) (h1:Pv ma s A y) (h2:Pv mb s A x) (hd:DcK A x fk e l) (hk:kyK y=some (fk k)):Pv (mDIn neg ma mb) s A (.bl ((valA l k).isSome != neg)) := (pv_din h1 h2 (.inl ⟨_,_,hd,hk,(val_eD hf).symm⟩)).is (by rw [Option.isSome_map])
theorem pv_inK1 (hf:∀ a b,fk a=fk b→a=b) (h1:Pv ma s A y) (h2:Pv mb s A x) (hd:DcK A x fk e l) (hk:kyK y=some (fk k)):Pv (mDIn true ma mb) s A (.bl (!(valA l k).isSome)) := (pv_inK hf h1 h2 hd hk).is (by simp)
theorem u_dputK {n:Nat} {v:α} {Rn:AH→Prop} (hf:∀ a b,fk a=fk b→a=b) (hA:A n=some (.dK (l.map (eD fk e)))) (hk:kyK y=some (fk k)) (hz:Sz (l.length + 1)) (q:Rn (put A n (.dK ((putA l k v).map (eD fk e))))):dput A (.ref n) y (e v) Rn := ⟨n,rfl, .inl ⟨_,_,hA,hk,by rw [List.length_map]; exact hz,by rw [put_eD hf]; exact q⟩⟩
variable {D0:AEnds} {mo mi mv:ME}
theorem u_dputS (h:mv s A (fun z A1=>mo s A1 (fun x A2=>mi s A2 (fun y A3=>dput A3 x y z fun A4=>D0.nx s A4) fun e A=>D0.ex e s A) fun e A=>D0.ex e s A) fun e A=>D0.ex e s A):mDPut mo mi mv D0 s A := h
theorem w_dnK {Q:QE} {E:QX} (h:∀ n,A n=none→Q (.ref n) (put A n (.dK []))):mDNew (.dK []) s A Q E := h
end
section
variable {ι κ α:Type} [DecidableEq κ] {A:AH} {s s':Sl} {fk:κ→Key} {e':α→D} {tg:MG} {t:MT} {tk tv:ME} {xs:List ι} {e:ι→D} {mi:MI} {P:AH→Prop} {vs:List Nat} {g:ι→κ} {v:ι→α} {p:ι→Bool}
def DcB (tg:MG) (t:MT) (tk tv:ME) (s:Sl) (A:AH) (d:D) (b:Bool) (k:Key) (v:D):Prop := ∃ s1 y,Tg tg d s s1∧Pt t s1 A b∧(b=true→Pv tk s1 A y∧kyK y=some k∧Pv tv s1 A v)
theorem dcb {d y w:D} {b:Bool} {k:Key} {s1:Sl} (h:Tg tg d s s1) (ht:Pt t s1 A b) (hk:b=true→Pv tk s1 A y) (h2:kyK y=some k) (hv:b=true→Pv tv s1 A w):DcB tg t tk tv s A d b k w := ⟨s1,y,h,ht,fun z=>⟨hk z,h2,hv z⟩⟩
def dcA (g:ι→κ) (v:ι→α) (p:ι→Bool) (xs:List ι):List (κ × α) := (xs.filter p).foldl (fun acc x=>putA acc (g x) (v x)) []
theorem dc_walk (hf:∀ a b,fk a=fk b→a=b) {ck:AH→Prop} (hc:ck A) (hb:∀ a∈xs,DcB tg t tk tv s A (e a) (p a) (fk (g a)) (e' (v a))):∀ {acc:List (κ × α)} {Q:List (Key × D)→AH→Prop},Q (((xs.filter p).foldl (fun acc x=>putA acc (g x) (v x)) acc).map (eD fk e')) A→dcL ck tg t tk tv s (xs.map e) (acc.map (eD fk e')) A Q := by
 induction xs with
 | nil=>intro acc Q q; exact ⟨hc,q⟩
 | cons x xs ih =>
  intro acc Q q
  obtain ⟨s1,y,k1,k2,k3⟩ := hb x (List.mem_cons_self ..)
  refine ⟨hc,k1 A _ (k2 _ _ ?_)⟩
  cases hp:p x with
  | true =>
   obtain ⟨m1,m2,m3⟩ := k3 hp
   refine iteT (m1 _ _ (m3 _ _ ⟨_,m2, ?_⟩))
   rw [put_eD hf]
   exact ih (fun a ha=>hb a (List.mem_cons_of_mem _ ha)) (acc := putA acc (g x) (v x)) (Q := Q) (by rw [List.filter_cons,if_pos hp] at q; exact q)
  | false=>exact iteF (ih (fun a ha=>hb a (List.mem_cons_of_mem _ ha)) (acc := acc) (Q := Q) (by rw [List.filter_cons,if_neg (by rw [hp]; decide)] at q; exact q))
theorem v_dc (hf:∀ a b,fk a=fk b→a=b) (hm:Mi mi s A (xs.map e) P) (hw:wipeD s vs=s') (hz:Sz xs.length) (hb:∀ a∈xs,DcB tg t tk tv s' A (e a) (p a) (fk (g a)) (e' (v a))):Pv (mDc mi tg t tk tv vs) s A (.dK ((dcA g v p xs).map (eD fk e'))) := fun Q E q=>hm _ _ fun ck hck _=>⟨by rw [List.length_map]; exact hz,by rw [hw]; exact dc_walk (acc := []) hf hck hb q⟩
theorem w_dcM' {Q:QE} {E:QX} (hf:∀ a b,fk a=fk b→a=b) (hm:Mi mi s A (xs.map e) P) (hw:wipeD s vs=s') (hz:Sz xs.length) (hb:∀ a∈xs,DcB tg t tk tv s' A (e a) (p a) (fk (g a)) (e' (v a))) (q:∀ n,A n=none→Q (.ref n) (put A n (.dK ((dcA g v p xs).map (eD fk e'))))):mDcM mi tg t tk tv vs s A Q E := hm _ _ fun ck hck _=>⟨by rw [List.length_map]; exact hz,by rw [hw]; exact dc_walk (acc := []) hf hck hb q⟩
end
inductive Exv where
 | badSchema (a:Option Int) | unknown (z:Str) | noThing (i:Int) | wrongEnds (z:Str) | badPattern (z:Str) | misfit (i:Int) (z:Str) | otherSchema | badRow (i:Int) | undone (i:Int) (w:D) | notKept | tooWide (z:Option Str) | badEdit (i:Int) | badLine (i:Int)
abbrev encOI (o:Option Int):D := en o
def encX:Exv→Xc
 | .badSchema a=>⟨"BadSchema",[("at",encOI a)]⟩
 | .unknown z=>⟨"Unknown",[("name", .str z)]⟩
 | .noThing i=>⟨"NoThing",[("number", .int i)]⟩
 | .wrongEnds z=>⟨"WrongEnds",[("name", .str z)]⟩
 | .badPattern z=>⟨"BadPattern",[("name", .str z)]⟩
 | .misfit i z=>⟨"Misfit",[("part", .str z),("at", .int i)]⟩
 | .otherSchema=>⟨"OtherSchema",[]⟩
 | .badRow i=>⟨"BadRow",[("index", .int i)]⟩
 | .undone i w=>⟨"Undone",[("why",w),("index", .int i)]⟩
 | .notKept=>⟨"NotKept",[]⟩
 | .tooWide z=>⟨"TooWide",[("kind",en z)]⟩
 | .badEdit i=>⟨"BadEdit",[("index", .int i)]⟩
 | .badLine i=>⟨"BadLine",[("number", .int i)]⟩
theorem u_sfldS {cs:List Str} {f:Str} {mo mv:ME} {D0:AEnds} {s:Sl} {A:AH} (h:mv s A (fun y A1=>mo s A1 (fun x A2=>∃ n c fs,x = .ref n∧A2 n=some (.ins c fs)∧c∈cs∧fs.length < 1000∧D0.nx s (put A2 n (.ins c (putFD f y fs)))) fun e A2=>D0.ex e s A2) fun e A1=>D0.ex e s A1):mSFld cs f mo mv D0 s A := h
theorem u_sfld1 {cs:List Str} {f c:Str} {n:Nat} {fs fs':List (Str × D)} {y:D} {A:AH} {Rn:AH→Prop} (hA:A n=some (.ins c fs)) (hc:c∈cs) (hl:fs.length < 1000) (he:putFD f y fs=fs') (q:Rn (put A n (.ins c fs'))):∃ n' c' fs'',D.ref n = .ref n'∧A n' = some (.ins c' fs'')∧c'∈cs∧fs''.length < 1000∧Rn (put A n' (.ins c' (putFD f y fs''))) := ⟨n,c,fs,rfl,hA,hc,hl,by rw [he]; exact q⟩
theorem w_makeD {c:Str} {f:FN} {mr:MA} {s:Sl} {A:AH} {Q:QE} {E:QX} {ds:List D} (ha:Pa mr s A ds) (h:∀ n,A n=none→f (.ref n :: ds) (put A n (.ins c [])) (fun d A2=>d = .non∧frzF A2 (.ref n) Q) E):mMakeD c f mr s A Q E := ha _ _ h
theorem u_nxi {n:Nat} {Q:QE} {E:QX} {s:Sl} {A:AH} (h:frzD 3 (.ref n) A Q):(fnE (fun d A2=>d = .non∧frzF A2 (.ref n) Q) E).nx s A := fg ⟨rfl,h⟩
theorem en_optS {o:Option Str} (h:Option.isNone o=false):en o=D.str (Option.getD o ("":Str)) := by cases o with
 | none=>cases h
 | some z=>rfl
end Am
namespace Am
open PySem PySem.Spec PyProof.Rows L2
end Am
namespace Am
open PySem PySem.Spec PyProof.Rows L2
open Fm
end Am
namespace Am
open PySem PySem.Spec PyProof.Rows L2
end Am
namespace Am
open PySem PySem.Spec PyProof.Rows L2 PySem.W PySem.Calls PyProof.V
end Am
namespace Am
open PySem PySem.Spec PyProof.Rows L2
section
variable {prog:Program} {w:World} {A:Around} {E:Value→Shared→Prop} {s:Shared} {Q:Bool→Shared→Prop}
def KTup (h:Heap) (v:Value) (k:List Key):Prop := ∃ a o its n,v = .ref a∧h.get? a=some o∧o.cls = .type "tuple" ∧ o.data = .seq its n∧Vals (k.map kV) its.toList
theorem KTup.keeps {h h':Heap} {v:Value} {k:List Key} (p:KTup h v k) (kp:∀ b o,h.get? b=some o→o.cls = .type "tuple" → h'.get? b=some o):KTup h' v k := by
 obtain ⟨a,o,its,n,e,ho,hc,r⟩ := p
 exact ⟨a,o,its,n,e,kp a o ho hc,hc,r⟩
end
end Am
namespace Am
open PySem PySem.Spec PyProof.Rows L2
end Am
namespace Am
open PySem PySem.Spec PyProof.Rows L2
open PySem.W (Datum Tup)
end Am
namespace Am
open PySem PySem.Spec PyProof.Rows L2
open PySem.W (Datum Tup)
end Am
namespace Am
open PySem PySem.Spec PyProof.Rows L2
end Am
namespace Am
open PySem PySem.Spec PyProof.Rows L2
end Am
namespace Am
open PySem PySem.Spec PyProof.Rows L2
end Am
namespace Am
open PySem PySem.Spec PyProof.Rows L2
open Fm (fnR_of)
end Am
namespace Am
open PySem PySem.Spec PyProof.Rows L2
open PySem.W (Datum Tup T3 T4)
open Fm (rTupOf)
end Am
namespace Am
open PySem PySem.Spec PyProof.Rows L2
open PySem.W (Datum Tup T3 T4)
end Am
namespace Am
open PySem PySem.Spec PyProof.Rows L2
end Am
namespace Am
open PySem PySem.Spec PyProof.Rows L2
open PySem.W (Datum Tup T3 T4)
end Am
namespace Am
open PySem PySem.Spec PyProof.Rows L2
open PySem.W (Datum Tup T3 T4)
end Am
namespace Am
open PySem PySem.Spec PyProof.Rows L2
open PySem.W (Datum Tup T3 T4)
end Am
namespace Am
open PySem PySem.Spec PyProof.Rows L2
open PySem.W (Datum Tup T3 T4)
open Fm (uniq)
end Am
namespace Am
open PySem PySem.Spec PyProof.Rows L2
end Am
namespace Am
open PySem PySem.Spec PyProof.Rows L2
end Am
namespace Am
open PySem PySem.Spec PyProof.Rows L2
open Fm (same_new)
open RZ (ItzT iZipA)
end Am
namespace Am
open PySem PySem.Spec PyProof.Rows L2
open Fm (fnR_of)
end Am
namespace Am
open PySem PySem.Spec PyProof.Rows L2
end Am
namespace Am
open PySem PySem.Spec PyProof.Rows L2
end Am
namespace Am
open PySem PySem.Spec PyProof.Rows L2
open Fm (rGetL)
end Am
namespace Am
open PySem PySem.Spec PyProof.Rows L2 Fm
section
variable {X:Cx} {W:WX} {e a b c:Expr} {es:List Expr} {m ma mb mc:ME} {pos:Pos} {x:Str}
theorem q0 (i:Nat) (hN:X.N[i]? = some x := by rfl) (hv:Vis X.env.scope x := by first | exact Or.inl rfl | exact Or.inr (Or.inl rfl) | exact Or.inr (Or.inr rfl)) (hd:(x == ("__debug__":Str))=false := by decide) (hc:(x == ("__classdict__":Str))=false := by decide):PE X (.Name x pos) (cE X.K W (mVar i)) := ae_var (pv i hN hv hd hc)
theorem q1 {i:Int} {j:Nat}:PE X (.Constant (.int i) j pos) (cE X.K W (mC (.int i))) := ae_c (fun _=>.int _) pe_int
theorem q2 {j:Nat}:PE X (.Constant (.str x) j pos) (cE X.K W (mC (.str x))) := ae_c (fun _=>.str _) pe_str
theorem qa (ha:PE X a (cE X.K W ma)) (h1:starEach [a] X.env=(false,eval a X.env) :: starEach [] X.env := by rfl):PA X [a] (cA X.K W (mCons ma mNil)) := aa_cons ha aa_nil h1
theorem qb (ha:PE X a (cE X.K W ma)) (hb:PE X b (cE X.K W mb)) (h1:starEach [a,b] X.env=(false,eval a X.env) :: starEach [b] X.env := by rfl) (h2:starEach [b] X.env=(false,eval b X.env) :: starEach [] X.env := by rfl):PA X [a,b] (cA X.K W (mCons ma (mCons mb mNil))) := aa_cons ha (aa_cons hb aa_nil h2) h1
theorem qc {mr:MA} (ha:PE X a (cE X.K W ma)) (hb:PE X b (cE X.K W mb)) (hs:PA X es (cA X.K W mr)) (h1:starEach (a :: b :: es) X.env=(false,eval a X.env) :: starEach (b :: es) X.env := by rfl) (h2:starEach (b :: es) X.env=(false,eval b X.env) :: starEach es X.env := by rfl):PA X (a :: b :: es) (cA X.K W (mCons ma (mCons mb mr))) := aa_cons ha (aa_cons hb hs h2) h1
theorem qi (ha:PE X a (cE X.K W ma)) (hb:PE X b (cE X.K W mb)) (h:PlainIx b := by exact fun _ _=>rfl):PE X (.Subscript a b pos) (cE X.K W (mOp fIx ma mb)) := PE.weak (pe_ix ix_seq ha hb h) (c_op os_ix)
theorem ql {p:Pos} {mr:MA} (hm:X.mg x=none) (ha:PA X (e :: es) (cA X.K W mr)) (hg:Gl X x := by rfl) (hv:bootBuiltins x=some (.builtin "len") := by decide +kernel) (hn:x ≠ "__name__" := by decide) (hdb:(x == ("__debug__":Str))=false := by decide)
 (he:starEach (e :: es) X.env=(false,eval e X.env) :: starEach es X.env := by rfl) (hpl:(backTo pos (starEach es X.env)).any (·.1)=false := by rfl):PE X (.Call (.Name x p) (e :: es) [] pos) (cE X.K W (mCB fLen mr)) := PE.weak (pe_callB call_lenA hg hm hv ha hn hdb he hpl) (c_cb cs_len)
theorem qf {f:Str} {cs:List Str} (h:PE X e (cE X.K W m)) (hc:∀ c∈cs,Cls X.K (He.ga X.K c)∧NoAttr X.K (He.ga X.K c) f) (hb:attributeBase e f X.env (eval e X.env)=eval e X.env := by rfl):PE X (.Attribute e f pos) (cE X.K W (mFld cs f m)) := PE.weak (pe_fld h hb) (c_fld hc)
theorem qk {p:Pos} {k:Nat} {f:Addr} {fn:FN} {mr:MA} (F:FnR X.prog X.w X.K X.mg X.base (L2.CX X.prog X.w) k f (spM X.K fn)) (hx:∀ σ,PassesAt (L2.CX X.prog X.w) X σ (WE W σ)) {K':Nat} (hr:Room K' X.A) (hm:X.mg x=some (.ref f)) (hk:PySem.W.keepIn X.K (.ref f)=true) (ha:PA X (e :: es) (cA X.K W mr)) (hl:k≤K' := by decide) (hg:Gl X x := by rfl) (hdb:(x == ("__debug__":Str))=false := by decide)
 (he:starEach (e :: es) X.env=(false,eval e X.env) :: starEach es X.env := by rfl) (hpl:(backTo pos (starEach es X.env)).any (·.1)=false := by rfl):PE X (.Call (.Name x p) (e :: es) [] pos) (cE X.K W (mCall fn mr)) := PE.weak (pe_clS F (hr.mono hl) hg hm hk hx ha hdb he hpl) c_cl
theorem qe (hu:X.A.units + 64 < cLine) (ha:PE X a (cE X.K W ma)) (hb:PE X b (cE X.K W mb)):PT X (.Compare a [.Eq] [b] pos) (cT X.K W (mB (mOp (fEq false) ma mb))) := at_cmp (op_eqP hu) os_eq ha hb (nomark _)
theorem qn (hu:X.A.units + 64 < cLine) (ha:PE X a (cE X.K W ma)) (hb:PE X b (cE X.K W mb)):PT X (.Compare a [.NotEq] [b] pos) (cT X.K W (mB (mOp (fEq true) ma mb))) := at_cmp (op_neP hu) os_ne ha hb (nomark _)
theorem qp {apos cpos:Pos} {mr:MA} (ho:PE X a (cE X.K W m)) (ha:PA X (e :: es) (cA X.K W mr)) (hbase:attributeBase a "append" X.env (eval a X.env)=eval a X.env := by rfl)
 (hfew:((backTo cpos (starEach (e :: es) X.env)).all (fun x=>!x.1) && (backToKw cpos (keywordEach [] X.env)).all (fun x=>x.1.isSome) && decide ((e :: es).length + ([]:List Keyword).length + (if ([]:List Keyword).isEmpty then 0 else 1) < 30))=true := by rfl)
 (hline:(apos.endLine == cpos.line)=true := by rfl) (hs:starEach (e :: es) X.env=(false,eval e X.env) :: starEach es X.env := by rfl) (hplain:(backTo cpos (starEach es X.env)).any (·.1)=false := by rfl) :
 PE X (.Call (.Attribute a "append" apos) (e :: es) [] cpos) (cE X.K W (mBM fAppend m mr)) := PE.weak (pe_bm PySem.F.plainAttrs_list PySem.F.slot_list_append PySem.F.type_list_append mt_append ho ha hbase hfew hline hs hplain) (c_bm ms_append)
theorem qg (i:Nat) {N ps:List Str} {sc:Scope} (S:FnScope N ps sc) (hi:N[i]? = some x) (hN:X.N=N := by rfl) (hx:L2.Loc X.env.scope x := by first | exact .inl rfl | exact .inr rfl) (hf:X.fn x=true∨X.env.scope.names.lookup x=some .local := by first | exact .inl rfl | exact .inr rfl | assumption):PG X (.Name x pos) (gName i) := pg_name (by rw [hN]; exact S.nd) (by rw [hN]; exact hi) hx hf
variable {st:Stmt} {rest u v:List Stmt} {t:MT} {ms mu mv:MS}
theorem ra {tt:TS} {tm:MS} (h:PS X st tt) (k:∀ D σ H,cS X.K W tm D σ H→tt D σ H) (r:PSs X rest (cS X.K W mu)):PSs X (st :: rest) (cS X.K W (mSq tm mu)) := PSs.weak (pss_cons (PS.weak h k) r) c_sq
theorem rb (h:PS X st (cS X.K W ms)) (r:PSs X rest (cS X.K W mu)):PSs X (st :: rest) (cS X.K W (mSq ms mu)) := PSs.weak (pss_cons h r) c_sq
theorem rz:PSs X [] (cS X.K W mNext) := PSs.weak pss_nil c_next
theorem ri {tc:Expr} (h:PT X tc (cT X.K W t)) (h1:PSs X u (cS X.K W mu)) (h2:PSs X v (cS X.K W mv)):PS X (.If tc u v pos) (cS X.K W (mIfS t mu mv)) := PS.weak (ps_if h h1 h2) c_ifS
theorem rj {tc:Expr} (h:PT X tc (cT X.K W t)) (h1:PSs X u (cS X.K W mu)):PS X (.If tc u [] pos) (cS X.K W (mIfS t mu mNext)) := ri h h1 rz
theorem rr (h:PE X e (cE X.K W m)):PS X (.Return (some e) pos) (cS X.K W (mRet m)) := PS.weak (ps_ret h) c_ret
theorem rd (h:PE X e (cE X.K W m)) (hs:swapsWith e none pos.line X.env=pure false := by rfl):PS X (.Expr e pos) (cS X.K W (mDrop m)) := PS.weak (ps_expr h hs) c_drop
theorem rs (i:Nat) {N ps:List Str} {sc:Scope} {pos':Pos} (S:FnScope N ps sc) (hi:N[i]? = some x) (h:PE X e (cE X.K W m)) (hN:X.N=N := by rfl) (hx:L2.Loc X.env.scope x := by first | exact .inl rfl | exact .inr rfl) (hs:swapsWith e (some (.Name x pos')) pos.line X.env=pure false := by rfl) (hf:X.fn x=true∨X.env.scope.names.lookup x=some .local := by first | exact .inl rfl | exact .inr rfl | assumption) :
 PS X (.Assign [.Name x pos'] e pos) (cS X.K W (mSet m (gN i))) := PS.weak (ps_set (by rw [hN]; exact S.nd) (by rw [hN]; exact hi) hx h hs hf) (c_set tg_name)
end
abbrev WkP (P:Program) (w:World) (K:PySem.W.Frag) (mg:Str→Option Value) (base:Heap) (N:List Str) (q:Str) (st:Stmt) (f:Addr) (k:Nat) (b:MS):Prop :=
 ∀ (cdv:Value) (A:Around) (outer:List Env) (s:Shared) (H:Hp) (E:XK),Room k (A.deeper (envOfC q (defScope st) s.heap.objs.size f cdv))→PSs (cxOf (L2.CX P w) P w K mg base N q (defScope st) f cdv A outer s H E) (defBody st) (cS K (WD E) b)
theorem wk_in {P:Program} {w:World} {K:PySem.W.Frag} {mg:Str→Option Value} {base:Heap} {N:List Str} {q:Str} {st:Stmt} {f:Addr} {k:Nat} {b:MS}
  (h:∀ (cdv:Value) (A:Around) (outer:List Env) (s:Shared) (H:Hp) (E:XK),Room k (A.deeper (envOfC q (defScope st) s.heap.objs.size f cdv))→Takes (cxOf (L2.CX P w) P w K mg base N q (defScope st) f cdv A outer s H E) (WD E)→(∀ σ,PassesAt (L2.CX P w) (cxOf (L2.CX P w) P w K mg base N q (defScope st) f cdv A outer s H E) σ (WE (WD E) σ))→PassesOwn (model P w) (cxOf (L2.CX P w) P w K mg base N q (defScope st) f cdv A outer s H E).A (cxOf (L2.CX P w) P w K mg base N q (defScope st) f cdv A outer s H E).env (cxOf (L2.CX P w) P w K mg base N q (defScope st) f cdv A outer s H E).xe →
   PSs (cxOf (L2.CX P w) P w K mg base N q (defScope st) f cdv A outer s H E) (defBody st) (cS K (WD E) b)):WkP P w K mg base N q st f k b := fun cdv A outer s H E hr =>
 have tk:Takes (cxOf (L2.CX P w) P w K mg base N q (defScope st) f cdv A outer s H E) (WD E) := takes_of rfl rfl rfl rfl
 h cdv A outer s H E hr tk (fun σ=>passAt tk σ) (passes_of rfl)
abbrev GX (P:Program) (w:World) (K:PySem.W.Frag) (mg:Str→Option Value) (base:Heap) (k:Nat) (f:Addr) (m:FN):Prop := FnR P w K mg base (L2.CX P w) k f (spM K m)
theorem fsc {N P:List Str} {sc:Scope} (a:sc.kind = .function := by rfl) (b:sc.isCoroutine=false := by rfl) (c:sc.isGenerator=false := by rfl) (d:N.Nodup := by decide +kernel) (e:N.take P.length=P := by rfl) (f:∀ x∈P,sc.names.lookup x=some .local∨sc.names.lookup x=some .cell := by decide +kernel) (g:∀ y∈sc.names,y.2≠.free := by decide +kernel):FnScope N P sc := ⟨a,b,c,d,e,f,g⟩
theorem okX {P:Program} {w:World} {K:PySem.W.Frag} {mg:Str→Option Value} {base:Heap} {k:Nat} {f:Addr} {fn:FN} {x qual:Str} {st:Stmt} {N ps:List Str} {b:MS} (F:∃ fd,Fun K x qual st f fd) (S:FnScope N ps (defScope st)) (W:WkP P w K mg base N qual st f k b) (len:∀ vs H Q E,spM K fn vs H Q E→vs.length=ps.length := by exact fun vs H Q E h=>fn_len h)
 (hb:∀ (kV doc pm:Value) (an:Option Addr) (cdv ct:Value) (us:List Value),us.length=ps.length→bindArgs (PySem.W.fnOf x qual (defArgs st) (defBody st) (defScope st) .none kV doc pm an cdv ct) ⟨us,[]⟩=pure (ps.zip us) := by first | exact (fun _ _ _ _ _ _ us hl=>match us,hl with | [_],_=>rfl) | exact (fun _ _ _ _ _ _ us hl=>match us,hl with | [_,_],_=>rfl) | exact (fun _ _ _ _ _ _ us hl=>match us,hl with | [_,_,_],_=>rfl) | exact (fun _ _ _ _ _ _ us hl=>match us,hl with | [_,_,_,_],_=>rfl) | exact (fun _ _ _ _ _ _ us hl=>match us,hl with | [_,_,_,_,_],_=>rfl) | exact (fun _ _ _ _ _ _ us hl=>match us,hl with | [_,_,_,_,_,_],_=>rfl) | exact (fun _ _ _ _ _ _ us hl=>match us,hl with | [_,_,_,_,_,_,_],_=>rfl) | exact (fun _ _ _ _ _ _ us hl=>match us,hl with | [_,_,_,_,_,_,_,_],_=>rfl))
 (hq:∀ H vs Q E,spM K fn vs H Q E→cS K (WD E) b { nx := fun _ H'=>Q .non H',rt := Q } (start N vs) H := by exact fun H vs Q E h=>fn_ok h):GX P w K mg base (k + 1) f fn := fnR_defX F S len hb (fun E=>cS K (WD E) b) W hq
end Am
namespace Am
open PySem PySem.Spec PyProof.Rows L2
end Am
namespace Am
open PySem PySem.Spec PyProof.Rows L2
end Am
namespace Am
open PySem PySem.Spec PyProof.Rows L2
section
variable {K:PySem.W.Frag} {g:Sg} {A:AH} {H:Hp}
theorem reps_strs:∀ {xs:List Str},Reps K g (xs.map V.str) (xs.map D.str)
 | []=>.nil
 | x :: xs=>.cons (.str x) reps_strs
end
end Am
namespace Am
open PySem PySem.Spec PyProof.Rows L2
end Am
namespace Am
open PySem PySem.Spec PyProof.Rows L2
end Am
namespace Am
open PySem PySem.Spec PyProof.Rows L2
end Am
namespace Am
open PySem PySem.Spec PyProof.Rows L2
end Am
namespace Am
open PySem PySem.Spec PyProof.Rows L2
end Am
namespace Am
open PySem PySem.Spec PyProof.Rows L2
end Am
namespace Am
open PySem PySem.Spec PyProof.Rows L2
end Am
namespace Fm
open PySem PySem.Spec PyProof.Rows L2
end Fm
namespace Am
open PySem PySem.Spec PyProof.Rows L2
end Am
namespace Fm
open PySem PySem.Spec PyProof.Rows L2
def FnG (P:Program) (w:World) (K:PySem.W.Frag) (mg:Str→Option Value) (base:Heap) (CX:CXT) (k:Nat) (f:Addr) (sp:Sp):Prop :=
 ∀ (A:Around) (fs:List Env) (s:Shared) (H:Hp) (us:List Value) (vs:List V) (Q:VK) (E:XK),A.guards=some []→Room k A→Env0 P w K mg base A fs s H→Vals vs us→sp vs H Q E →
  codeAny (model P w) A (.call (.ref f) { pos := us,kw := [] }) (CR CX fs P w H s Q E) s
section
variable {P:Program} {w:World} {K:PySem.W.Frag} {mg:Str→Option Value} {base:Heap} {CX:CXT} {j k:Nat} {f:Addr} {sp sp2:Sp}
theorem FnG.mono (F:FnG P w K mg base CX j f sp) (le:j≤k):FnG P w K mg base CX k f sp := fun A fs s H us vs Q E g hr=>F A fs s H us vs Q E g (hr.mono le)
end
end Fm
namespace Am
open PySem PySem.Spec PyProof.Rows L2 Fm
end Am
namespace Fm
open PySem PySem.Spec PyProof.Rows L2
end Fm
namespace Am
open PySem PySem.Spec PyProof.Rows L2
open Fm (rNeP rInt1)
end Am
namespace Fm
open PySem PySem.Spec PyProof.Rows L2 ItX
end Fm
namespace Am
open PySem PySem.Spec PyProof.Rows L2
open PySem.W (Datum Tup T3 T4)
end Am
namespace Fm
open PySem PySem.Spec PyProof.Rows L2
def growI (acc:List Int) (z:Int):List Int := if z∈acc then acc else acc ++ [z]
def uniqI (zs:List Int):List Int := zs.foldl growI []
section
variable {prog:Program} {w:World} {A:Around} {R:Result→Shared→Prop} {it T:Addr} {fp wr:List Addr} {G:Array GenState→Array GenState→Prop} {n:Nat} {P:Nat→Value→Prop} {St:Nat→Shared→Prop} {zs:List Int}
def GotI (w:World) (zs:List Int) (T:Addr) (i:Nat) (h:Heap):Prop := SetR w h T (fun z=>decide (z∈zs.take i)) (uniqI (zs.take i)).length
theorem GotI.keep {i:Nat} {h h':Heap} (q:GotI w zs T i h) (k:∀ o,h.get? T=some o→h'.get? T=some o):GotI w zs T i h' := SetR.at q k
variable {l:Addr} {vs:Array Value} {s:Shared} {E:Value→Shared→Prop} {Q:Value→Shared→Prop}
end
def rSetL (K:PySem.W.Frag) (w:World):List V→Hp→VK→Prop := fun xs H Q=>∃ (l:Addr) (ns:List Int),xs=[.ref l]∧SqL K H l (ns.map V.int)∧ns.length≤100∧∀ p,H p=none→Q (.ref p) (upd H p (SetO w p (fun k=>decide (k∈ns)) (uniqI ns).length))
end Fm
namespace Am
open PySem PySem.Spec PyProof.Rows L2
open Fm (rSetL uniqI)
end Am
namespace Am
open PySem PySem.Spec PyProof.Rows L2
end Am
namespace Fm
open PySem PySem.Spec PyProof.Rows L2
def entI:List DictEntry→List (Str × Int)→Bool
 | [],[]=>true
 | ⟨_, .str x _, .int i _⟩ :: es,(y,j) :: ks=>(x == y && i == j) && entI es ks
 | _,_=>false
def tabIB (K:PySem.W.Frag) (a:Addr) (tab:List (Str × Int)):Bool := match K.lookup a with
 | some o=>(match o.data with
  | .dict es _=>entI es.toList tab
  | _=>false)
 | none=>false
def atT:List (Str × Int)→Str→Option Int
 | [],_=>none
 | (y,j) :: ks,z=>if y=z then some j else atT ks z
theorem ent_find {z:Str}:∀ {es:List DictEntry} {tab:List (Str × Int)},entI es tab=true →
  (atT tab z=none→es.find? (·.key.isStr z)=none)∧(∀ i,atT tab z=some i→∃ e t,es.find? (·.key.isStr z)=some e∧e.val = .int i t)∧es.any (·.refKey)=false
 | [],[],_=>⟨fun _=>rfl,fun i e=>(nomatch e),rfl⟩
 | [],_ :: _,h=>by cases h
 | ⟨_, .str x _, .int i _⟩ :: es,[],h=>by cases h
 | ⟨hh, .str x t, .int i u⟩ :: es,(y,j) :: ks,h=>by
  have h':((x == y && i == j) && entI es ks)=true := h
  rw [Bool.and_eq_true,Bool.and_eq_true,beq_iff_eq,beq_iff_eq] at h'
  obtain ⟨⟨e1,e2⟩,h3⟩ := h'
  subst e1 e2
  obtain ⟨k1,k2,k3⟩ := ent_find (z := z) h3
  have kx:(Value.str x t).isStr z=decide (x=z) := by
   unfold Value.isStr
   first | rfl | exact (beq_eq_decide ..) | (by_cases q:x=z <;> simp [q])
  have k0:(⟨hh, .str x t, .int i u⟩:DictEntry).refKey=false := rfl
  by_cases q:x=z
  ·refine ⟨fun e=>?_,fun i2 e=>?_, ?_⟩
   ·unfold atT at e; rw [if_pos q] at e; cases e
   ·unfold atT at e; rw [if_pos q] at e; cases e
    exact ⟨_,u,by rw [List.find?_cons_of_pos (by show (Value.str x t).isStr z=true; rw [kx]; exact decide_eq_true q)],rfl⟩
   ·rw [List.any_cons,k0,k3]; rfl
  ·have nf:(es.find? (·.key.isStr z))=(⟨hh, .str x t, .int i u⟩ :: es).find? (·.key.isStr z) := (List.find?_cons_of_neg (by show ¬(Value.str x t).isStr z=true; rw [kx]; simpa using q)).symm
   refine ⟨fun e=>?_,fun i2 e=>?_, ?_⟩
   ·unfold atT at e; rw [if_neg q] at e; rw [← nf]; exact k1 e
   ·unfold atT at e; rw [if_neg q] at e; rw [← nf]; exact k2 i2 e
   ·rw [List.any_cons,k0,k3]; rfl
structure KTab (K:PySem.W.Frag) (w:World) (a:Addr) (tab:List (Str × Int)):Prop where
 kd:∃ es n,KDict K w a es n
 is:tabIB K a tab=true
theorem ns_tab {K:PySem.W.Frag} {w:World} {a:Addr} {tab:List (Str × Int)} {es:Array DictEntry} {n:Nat} (D:KDict K w a es n) (h:tabIB K a tab=true) {z:Str} :
  (atT tab z=none→PySem.W.nsIn K a z=some none)∧∀ i,atT tab z=some i→∃ t,PySem.W.nsIn K a z=some (some (.int i t)) := by
 unfold tabIB at h
 rw [D.at_] at h
 obtain ⟨k1,k2,k3⟩ := ent_find (z := z) (show entI es.toList tab=true from h)
 refine ⟨fun e=>?_,fun i e=>?_⟩
 ·unfold PySem.W.nsIn
  rw [D.at_]
  show (match es.toList.find? (·.key.isStr z) with
   | some e=>some (some e.val)
   | none=>if es.toList.any (·.refKey) then none else some none)=_
  rw [k1 e,k3]
  rfl
 ·obtain ⟨en,t,e1,e2⟩ := k2 i e
  refine ⟨t, ?_⟩
  unfold PySem.W.nsIn
  rw [D.at_]
  show (match es.toList.find? (·.key.isStr z) with
   | some e=>some (some e.val)
   | none=>if es.toList.any (·.refKey) then none else some none)=_
  rw [e1]
  show some (some en.val)=_
  rw [e2]
section
variable {X:Cx} {a:Addr} {tab:List (Str × Int)} {ty tx:TE} {o e f:Expr} {apos cpos:Pos}
def tKGet (tab:List (Str × Int)) (ty tx:TE):TE := fun σ H Q=>ty σ H fun y H1=>tx σ H1 fun z H2=>∃ k,y = .str k∧(∀ i,atT tab k=some i→Q (.int i) H2)∧(atT tab k=none→Q z H2)
theorem pe_kget (T:KTab X.K X.w a tab) (ho:PE X o (tC (.ref a))) (he:PE X e ty) (hf:PE X f tx) (m:M2 X o "get" apos e f cpos):PE X (.Call (.Attribute o "get" apos) [e,f] [] cpos) (tKGet tab ty tx) := by
 obtain ⟨es,n,D⟩ := T.kd
 refine ⟨fun pins s σ H Q I h=>wpAny_Call_method m.base m.few m.line F.plainAttrs_dict F.slot_dict_get F.type_dict_get (thn (ho.run pins s σ H (fun x H1=>x = .ref a∧ty σ H1 fun y H1=>tx σ H1 fun z H2=>∃ k,y = .str k∧(∀ i,atT tab k=some i→Q (.int i) H2)∧(atT tab k=none→Q z H2)) I ⟨rfl,h⟩) fun u s1 ⟨x,H1,I1,rx,ex,q1⟩=>?_)⟩
 subst ex
 obtain rfl:u=Value.ref a := rx
 have mo := PySem.W.mapOf_K (prog := X.prog) (w := X.w) I1.kIn D.at_ D.lit
 refine ⟨mo.typeIs,mo.noDict, ?_⟩
 rw [m.trees]
 refine Calls.callWith_builtin rfl (Calls.evalArgs_plain (Calls.spliced_cons (thn (he.run pins s1 σ H1 _ I1 q1) fun iv s2 ⟨y,H2,I2,ry,q2⟩=>Calls.spliced_cons (thn (hf.run pins s2 σ H2 _ I2 q2) fun fv s3 ⟨z,H3,I3,rz,k,ek,q3,q4⟩=>Calls.spliced_nil ?_))))
 subst ek
 obtain ⟨tk,rfl⟩ := ry
 have mo3 := PySem.W.mapOf_K (prog := X.prog) (w := X.w) I3.kIn D.at_ D.lit
 obtain ⟨k1,k2⟩ := ns_tab D T.is (z := k)
 refine call_meetsIn F.slot_dict_get mo3.typeIs F.entry_dict_get (F.args_dict_get_3 _ _ _) (meets_dict_get_default (strKind X.prog X.w) a (PySem.strKind_is X.prog X.w k tk) D.low fv) ⟨_,mo3, ?_⟩
 show EP X pins σ Q ((findBy Value.isStrOf es k).getD fv) _
 cases h:atT tab k with
 | none =>
  rw [PySem.W.find_K D.at_ (k1 h)]
  exact ⟨z,H3,I3.tok _,rz,q4 h⟩
 | some i =>
  obtain ⟨t,h2⟩ := k2 i h
  rw [PySem.W.find_K D.at_ h2]
  exact ⟨.int i,H3,I3.tok _,⟨t,rfl⟩,q3 i h⟩
end
abbrev TabX:Type := (PySem.W.Frag→Addr) × List Str
abbrev AlX:Type := He.AlD × List (Option (List (Option (Str × Int))))
def obsX (fa:List (PySem.W.Frag→Bool)) (fn:List He5.DefA) (fe:List DefE) (ts:List TabX) (K:PySem.W.Frag):AlX := (obsE fa fn fe K,ts.map fun t=>He.dicW K (t.1 K))
def valX (fn:List He5.DefA) (fe:List DefE) (ts:List TabX) (w:World):AlX := (valE fn fe,ts.map fun t=>some (He.keysIn w.params t.2))
def obsXG (n:Nat) (fa:List (PySem.W.Frag→Bool)) (fn:List He5.DefA) (fe:List DefE) (ts:List TabX) (g:Addr→Option Obj):AlX := obsX fa fn fe ts (He.frG g (asE g n))
def hookX (n:Nat) (fa:List (PySem.W.Frag→Bool)) (fn:List He5.DefA) (fe:List DefE) (ts:List TabX):PySem.W.Hook where
 α := AlX
 obs := fun s=>obsXG n fa fn fe ts s.heap.get?
 val := fun w=>valX fn fe ts w
 says := fun w h=>∃ K:PySem.W.Frag,K.In h∧obsX fa fn fe ts K=valX fn fe ts w
 of := fun _ _ e=>⟨_,He.frG_in,e⟩
 keeps := fun _ _ _ ⟨K,hK,c⟩ k=>⟨K,PySem.W.Frag.In.keeps hK k,c⟩
theorem obsXG_eq {n:Nat} {fa:List (PySem.W.Frag→Bool)} {fn:List He5.DefA} {fe:List DefE} {ts:List TabX} {g:Addr→Option Obj} {s:Shared} (h:∀ a,g a=s.heap.get? a):obsXG n fa fn fe ts g=(hookX n fa fn fe ts).obs s := by
 have e:g=s.heap.get? := funext h
 rw [e] <;> rfl
section
variable {fa:List (PySem.W.Frag→Bool)} {fn:List He5.DefA} {fe:List DefE} {ts:List TabX} {K:PySem.W.Frag} {w:World}
theorem toX (c:obsX fa fn fe ts K=valX fn fe ts w):obsE fa fn fe K=valE fn fe := congrArg (fun z:AlX=>z.1) c
theorem toT (c:obsX fa fn fe ts K=valX fn fe ts w) (i:Nat) {t:TabX} (h:ts[i]? = some t := by rfl):∃ es n,KDict K w (t.1 K) es n := by
 have e2 := congrArg (fun z:AlX=>z.2[i]?) c
 rw [show (obsX fa fn fe ts K).2[i]? = (ts.map fun t=>He.dicW K (t.1 K))[i]? from rfl,show (valX fn fe ts w).2[i]? = (ts.map fun t=>some (He.keysIn w.params t.2))[i]? from rfl,List.getElem?_map,List.getElem?_map,h] at e2
 exact He.dicW_ok (Option.some.inj e2)
end
end Fm
namespace Fm
open PySem PySem.Spec PyProof.Rows L2
theorem draws_sh {P:Program} {w:World} {A:Around} {it:Addr} {fp:List Addr} {n:Nat} {R:Nat→Value→Prop} {St:Nat→Heap→Prop} (D:Draws P w A it fp n R St) (k:Nat):Draws P w A it fp (n + k) (fun i v=>R (i - k) v) (fun i h=>k≤i∧St (i - k) h) where
 live := fun i h st=>D.live _ _ st.2
 frame := fun i h h' st q=>⟨st.1,D.frame _ _ _ st.2 q⟩
 item := fun i s Q E hi st q=>D.item (i - k) s Q E (by have := st.1; omega) st.2 fun x h' tk p s2 b=>q x h' tk p ⟨Nat.le_succ_of_le st.1,by rw [show i + 1 - k=i - k + 1 by have := st.1; omega]; exact s2⟩ b
 done := fun s Q E st q=>D.done s Q E (by have := st.2; rwa [Nat.add_sub_cancel] at this) q
def IteS (K:PySem.W.Frag) (k:Nat) (a:Addr):It :=
 ⟨fun i H=>∃ (xs:List V) (x:V),SqL K H a xs∧xs[i]? = some x,fun i H v H'=>∃ T x,v = .ref T∧H T=none∧H' = upd H T (.tup [.int ((i + k:Nat):Int),x])∧∀ xs,SqL K H a xs→xs[i]? = some x,fun i H=>∃ xs:List V,SqL K H a xs∧xs.length≤i⟩
theorem liter_not {h:Heap} {it a t:Addr} {i:Nat} {vs:Array Value} (he:h.IsListIter it t i) (ht:h.IsList a vs):a≠it := fun z=>by
 obtain ⟨o,ho,hc,_⟩ := ht
 obtain ⟨o',ho',hc',_⟩ := he
 subst z
 rw [ho] at ho'
 cases ho'
 rw [hc] at hc'
 exact absurd (Value.type.inj hc') (by decide)
theorem enum_not_l {h:Heap} {e it a:Addr} {i:Int} {old:Value} {vs:Array Value} (he:IsEnum h e it i old) (ht:h.IsList a vs):e≠a := fun z=>by
 obtain ⟨o,ho,hc,_⟩ := ht
 subst z
 unfold IsEnum at he
 rw [he] at ho
 cases ho
 exact absurd (Value.type.inj hc) (by decide)
theorem turn_enumS {P : Program} {w : World} {K : PySem.W.Frag} {elts : List Expr} {kk : Nat} {tpos : Pos} (k : Nat) (a e it : Addr) :
    Turn P w K (.Tuple elts kk tpos) (IteS K k a) [e, it] e (fun i h => (∃ old, IsEnum h e it ((i + k : Nat) : Int) old) ∧ h.IsListIter it a i ∧ e ≠ it) where
  mem := by simp
  obj := fun i h st b hb => by
    obtain ⟨⟨old, he⟩, ⟨o, ho, hc, hd⟩, _⟩ := st
    rcases (by simpa using hb : b = e ∨ b = it) with z | z
    · subst z; exact ⟨_, he, fun v q => nomatch q⟩
    · subst z; exact ⟨o, ho, fun v q => by rw [hd] at q; cases q⟩
  keep := fun i h h' st k => by
    obtain ⟨⟨old, he⟩, hi, hne⟩ := st
    exact ⟨⟨old, k e (by simp) _ he⟩, hi.at fun o q => k it (by simp) o q, hne⟩
  item := by
    intro X hP hw hK hc i pins s σ H E I hf st hg
    subst hP hw hK
    obtain ⟨⟨old, he⟩, hit, hne⟩ := st
    obtain ⟨xs, x, hq, hx⟩ := hg
    obtain ⟨its, rv, p, hz⟩ := I.list hq
    have p' : s.heap.IsList a its.toArray := p.isList
    obtain ⟨u, hu, ru⟩ := rv.get hx
    have hel : e < s.heap.objs.size := Heap.lt_size he
    have hil : it < s.heap.objs.size := by obtain ⟨_, q, _⟩ := hit; exact Heap.lt_size q
    have hilt : i + k < its.toArray.size + k := by
      have := (List.getElem?_eq_some_iff.mp hu).1
      simpa using this
    refine wpAny_pyNext_enum_itemD (i := i + k) (draws_sh (Draws.list (A := X.A.in1) (show X.A.in1.handled = none from I.ok.hd hc) it a (liter_not hit p') its.toArray) k) he ⟨Nat.le_add_left .., by rw [Nat.add_sub_cancel]; exact ⟨hit, p'⟩⟩ hilt hne (fun m => ?_) fun y h' tk hy ho hst hT hsz hk => ?_
    · rcases (by simpa using m : e = it ∨ e = a) with z | z
      · exact hne z
      · exact enum_not_l he p' z
    replace hst := hst.2
    rw [show i + k + 1 - k = i + 1 by omega] at hst
    rw [Nat.add_sub_cancel] at hy
    obtain rfl : u = y := by
      have : its[i]? = some y := by simpa using hy
      rw [hu] at this
      exact Option.some.inj this
    refine ⟨_, rfl, wpAny_letOwnedTupleGo_enum (s := { s with heap := h', toks := tk + 1 }) ho fun h'' he' sb => ?_⟩
    have hT2 : h''.get? s.heap.objs.size = some { cls := .type "tuple", data := .seq #[.int ((i + k : Nat) : Int) tk, u] } := (sb.2 _ (Nat.ne_of_gt hel)).trans hT
    have nw : ObjOk X.prog X.w (upd H s.heap.objs.size (.tup [.int ((i + k : Nat) : Int), x])) h'' s.heap.objs.size (.tup [.int ((i + k : Nat) : Int), x]) := ⟨by show 2 ≤ sizeLine; decide, [.int ((i + k : Nat) : Int) tk, u], .cons ⟨_, rfl⟩ (.cons ru .nil), ⟨_, hT2, rfl, _, rfl⟩⟩
    have I1 : Inv X pins σ (upd H s.heap.objs.size (.tup [.int ((i + k : Nat) : Int), x])) { s with heap := h'', toks := tk + 1 } := I.turnedNew (ch := [e, it]) (fun b ob hb q => (sb.2 b (fun z => hb (by simp [z]))).trans (hk b ob (fun z => hb (by simp [z])) (fun z => hb (by simp [z])) q)) hf (Nat.le_refl _) nw
    refine ⟨.ref s.heap.objs.size, _, I1, rfl, ⟨_, x, rfl, I.hok.fresh (Nat.le_refl _), rfl, fun ys hy => by rw [I.list_inj hy hq]; exact hx⟩, ⟨⟨u, ?_⟩, hst.1.at fun o q => (sb.2 it (Ne.symm hne)).trans q, hne⟩, fun b hb => ?_⟩
    · rw [show ((i + 1 + k : Nat) : Int) = ((i + k : Nat) : Int) + 1 by omega]; exact he'
    · have hb' : b < s.heap.objs.size := by
        rcases (by simpa using hb : b = e ∨ b = it) with z | z
        · rw [z]; exact hel
        · rw [z]; exact hil
      rw [upd_ne (Nat.ne_of_lt hb')]
      exact (hf b hb).1
  done := by
    intro X hP hw hK hc i pins s σ H E I hf st hg
    subst hP hw hK
    obtain ⟨⟨old, he⟩, hit, hne⟩ := st
    obtain ⟨xs, hq, hx⟩ := hg
    obtain ⟨its, rv, p, hz⟩ := I.list hq
    have p' : s.heap.IsList a its.toArray := p.isList
    obtain ⟨f0, f1, f2, f3, f4, f5⟩ := hf it (by simp)
    have hl := rv.length
    have hTy : s.TypeIs (.ref e) "enumerate" := ⟨_, he, rfl⟩
    unfold pyNext
    refine wpAny_bind (wpAny_attempt (wpAny_callSpecial?_slot (name := Str.ofString "__next__") hTy F.slot_enumerate_next (wpAny_call_entry F.slot_enumerate_next hTy F.entry_enumerate_next (show wpAny _ _ (field (.ref e) 2 >>= _) _ _ _ from ?_) (F.args_enumerate_next_1 _))))
    refine wpAny_bind (wpAny_field he rfl (x := .ref it) rfl (wpAny_bind (wpAny_nextOf_list_end (show X.A.in1.handled = none from I.ok.hd hc) hit p' (by simp; omega) fun h' y eb hy => ?_)))
    obtain ⟨o, ho, hcl⟩ := hy
    exact wpAny_bind (wpAny_isInstance (T := "StopIteration") (b := true) ⟨o, ho, hcl⟩ isSubtype_stop (wpAny_pure ⟨rfl, I.turned (t' := s.toks) (fun b o hb q => eb b o hb q) f0 f1 f3 f4 f5⟩))
  self := fun A i s Q E st h => by
    obtain ⟨⟨_, he⟩, _⟩ := st
    exact wpAny_pyIter_enum he h
def iEnumS (K:PySem.W.Frag) (k:Nat) (ta:TA):TI := fun σ H R=>ta σ H fun vs H1=>∃ a xs,vs=[.ref a]∧SqL K H1 a xs∧R (IteS K k a) H1
theorem cw_tyK {M:Model} {A:Around} {E:Value→Shared→Prop} {s:Shared} {pos:Pos} {T:String} {first:List Value} {args:List (Bool × Sem Value)} {kws:List (Option Str × Sem Value)} {Q:Value→Shared→Prop} (hp:(args.any (·.1) || kws.any (·.1.isNone))=false)
  (h:wpAny M A (evalArgs (.type T) true args kws) (fun a s₁=>wpAny M A (call (.type T) (first ++ a.pos) a.kw) Q E s₁) E s):wpAny M A (callWith pos (.type T) first args kws) Q E s := by
 unfold callWith
 refine wpAny_bind (wpAny_holding (thn h fun a s₁ h₁=>wpAny_bind (wpAny_standAt ?_)))
 simp only [hp]
 exact wpAny_bind (wpAny_pure (wpAny_bind (thn h₁ fun r s₂ hr=>wpAny_bind (wpAny_holding (wpAny_point (wpAny_pure hr))))))
theorem pi_enumS {X:Cx} {e ek:Expr} {ta:TA} {p pos tpos kp:Pos} {elts:List Expr} {kk k:Nat} (hg:Gl X "enumerate") (hm:X.mg "enumerate" = none) (ha:PA X [e] ta) (hk:PE X ek (tC (.int (k:Int)))) (hk2:k < 1000) (hs:backTo pos (starEach [e] X.env)=[(false,eval e X.env)] := by rfl) (hkw:backToKw pos (keywordEach [⟨some (Str.ofString "start"),ek,kp⟩] X.env)=[(some (Str.ofString "start"),do let v ← eval ek X.env; standAt pos; pure v)] := by rfl)
  (he:eval (.Call (.Name "enumerate" p) [e] [⟨some (Str.ofString "start"),ek,kp⟩] pos) X.env=(do callWith pos (← eval (.Name "enumerate" p) X.env) [] (backTo pos (starEach [e] X.env)) (backToKw pos (keywordEach [⟨some (Str.ofString "start"),ek,kp⟩] X.env))) := by rfl):PI X (.Tuple elts kk tpos) (.Call (.Name "enumerate" p) [e] [⟨some (Str.ofString "start"),ek,kp⟩] pos) (iEnumS X.K k ta) := by
 refine ⟨fun pins s σ H R I h=>?_⟩
 rw [he]
 refine wpAny_bind (ld_blt I hg hm boot_enumerate ?_)
 have h1 := ha.run pos pins s σ H _ I h
 rw [hs] at h1 ⊢
 rw [hkw]
 refine cw_tyK rfl (PyProof.Rows.evalArgs_kwB rfl (thn h1 fun us s1 ⟨vs,H1,I1,r1,a,xs,ex,hq,q⟩=>?_))
 subst ex
 cases r1 with
 | cons r rr =>
  cases rr
  cases r
  refine PyProof.Rows.evalAll_cons (wpAny_bind (thn (hk.run pins s1 σ H1 (fun x H2=>x = .int (k:Int)∧H2=H1) I1 ⟨rfl,rfl⟩) fun v s2 ⟨y,H2,I2,ry,ey,eH⟩=>wpAny_bind (wpAny_standAt (wpAny_pure (PyProof.Rows.evalAll_nil ?_)))))
  subst ey eH
  obtain ⟨t,rfl⟩ := ry
  obtain ⟨its,rv,p',hz⟩ := I2.list hq
  refine enum_begins_start (begins_list a its.toArray) p'.isList (by omega) (by omega) fun h' he2 hit hsz hk3=>wpAny_pyIter_enum he2 ?_
  have I3:Inv X pins σ H2 { s2 with heap := h' } := I2.kept (t' := s2.toks) hk3
  refine ⟨s2.heap.objs.size + 1,[s2.heap.objs.size + 1,s2.heap.objs.size],_,_,H2,rfl,I3,turn_enumS k a (s2.heap.objs.size + 1) s2.heap.objs.size,⟨⟨.none,by rw [Nat.zero_add]; exact he2⟩,⟨_,hit,rfl,rfl⟩,Nat.succ_ne_self _⟩,fun b hb=>?_,q⟩
  have hle:s2.heap.objs.size≤b := by
   rcases (by simpa using hb:b=s2.heap.objs.size + 1∨b=s2.heap.objs.size) with z | z
   ·rw [z]; exact Nat.le_add_right _ _
   ·rw [z]; exact Nat.le_refl _
  exact I2.fpOk hle (I2.hok.fresh hle)
end Fm
namespace Am
open PySem PySem.Spec PyProof.Rows L2
open Fm (atT KTab tKGet iEnumS IteS)
section
variable {K:PySem.W.Frag} {W:WX} {ma mb mc:ME} {s:Sl} {A:AH} {z y:Str} {Q:QE} {E:QX} {g:Sg}
def mSplit (ma mb:ME):ME := fun s A Q E=>ma s A (fun x A1=>(∃ a,x = .str a)∧mb s A1 (fun y A2=>∃ a b,x = .str a∧y = .str b∧(b.length == 0)=false∧a.length + 2≤sizeLine∧Q (.lst ((Txt.split a b).map D.str)) A2) E) E
theorem c_split:∀ σ H Q,cE K W (mSplit ma mb) σ H Q→tM1 (fun x xs H Q=>∃ a b,x = .str a∧xs=[.str b]∧(b.length == 0)=false∧a.length + 2≤sizeLine∧rNewStrs (Txt.split a b) H Q) (cE K W ma) (cE K W mb) σ H Q := fun σ H Q ⟨g,s,A,Qa,Ea,w,rs,h,q,qx⟩ =>
 ⟨g,s,A,_,Ea,w,rs,h,fun g1 A1 H1 x dx st1 w1 r1 ⟨⟨a,e⟩,h1⟩=>by
  subst e
  refine ⟨⟨a,r1.str_⟩,g1,s,A1,_,Ea,w1,rs.mono st1.le,h1,fun g2 A2 H2 y dy st2 w2 r2 ⟨a',b,e1,e2,e3,e4,h2⟩=>?_,qx.step st1⟩
  cases e1
  subst e2
  refine ⟨a,b,r1.str_,by rw [r2.str_],e3,e4,fun p hp=>?_⟩
  exact mk_old g2 A2 H2 p _ _ Qa Q w2 hp reps_strs h2 (q.step (st1.trans st2)),qx⟩
theorem pv_split (h1:Pv ma s A (.str z)) (h2:Pv mb s A (.str y)) (h:(y.length == 0)=false) (hz:z.length + 2≤sizeLine):Pv (mSplit ma mb) s A (.lst ((Txt.split z y).map D.str)) := fun Q E q=>h1 _ E ⟨⟨z,rfl⟩,h2 _ E ⟨z,y,rfl,rfl,h,hz,q⟩⟩
def mFmt (ma:ME):ME := fun s A Q E=>ma s A (fun x A1=>(∃ z,x = .str z∧z.length≤sizeLine∧Q (.str z) A1)∨∃ i,x = .int i∧i.natAbs.log2 < 1920∧Q (.str (Str.ofString (toString i))) A1) E
theorem c_fmt:∀ σ H Q,cE K W (mFmt ma) σ H Q→tFmt (cE K W ma) σ H Q := fun σ H Q ⟨g,s,A,Qa,Ea,w,rs,h,q,qx⟩ =>
 ⟨g,s,A,_,Ea,w,rs,h,fun g1 A1 H1 x dx st1 w1 r1 h1=>by
  rcases h1 with ⟨z,e,h2,h3⟩ | ⟨i,e,h2,h3⟩
  ·subst e
   exact .inl ⟨z,r1.str_,h2,q _ _ _ _ _ st1 w1 (.str _) h3⟩
  ·subst e
   exact .inr ⟨i,r1.int_,h2,q _ _ _ _ _ st1 w1 (.str _) h3⟩,qx⟩
theorem pv_fmtS (h:Pv ma s A (.str z)) (hz:z.length≤sizeLine):Pv (mFmt ma) s A (.str z) := fun Q E q=>h _ E (.inl ⟨z,rfl,hz,q⟩)
def jsM:List ME→Str→Sl→AH→(Str→AH→Prop)→QX→Prop
 | [],acc,_,A,Q,_=>Q acc A
 | m :: ms,acc,s,A,Q,E=>m s A (fun x A1=>∃ z,x = .str z∧(acc ++ z).length≤sizeLine∧jsM ms (acc ++ z) s A1 Q E) E
def mJs (ms:List ME):ME := fun s A Q E=>jsM ms Str.empty s A (fun out A1=>Q (.str out) A1) E
theorem c_jsM:∀ {ms:List ME} {acc:Str} {σ:L2.St} {H:Hp} {Q:Str→Hp→Prop} {g:Sg} {s:Sl} {A:AH} {Qa:Str→AH→Prop} {Ea:QX},Wr K g A H→RepS K g σ s→jsM ms acc s A Qa Ea→(∀ g' A' H' out,Stp g A H g' A' H'→Wr K g' A' H'→Qa out A'→Q out H')→PostX K g A H Ea (fun c d H'=>W c d σ H')→tJs (ms.map fun m=>cE K W m) acc σ H Q
 | [],acc,σ,H,Q,g,s,A,Qa,Ea,w,rs,h,q,qx=>q g A H acc .refl w h
 | m :: ms,acc,σ,H,Q,g,s,A,Qa,Ea,w,rs,h,q,qx =>
  ⟨g,s,A,_,Ea,w,rs,h,fun g1 A1 H1 x dx st1 w1 r1 ⟨z,e,h1,h2⟩=>by
   subst e
   exact ⟨z,r1.str_,h1,c_jsM w1 (rs.mono st1.le) h2 (fun g2 A2 H2 out st2 w2 q2=>q g2 A2 H2 out (st1.trans st2) w2 q2) (qx.step st1)⟩,qx⟩
theorem c_js {ms:List ME}:∀ σ H Q,cE K W (mJs ms) σ H Q→tJs (ms.map fun m=>cE K W m) Str.empty σ H fun out H1=>Q (.str out) H1 := fun σ H Q ⟨g,s,A,Qa,Ea,w,rs,h,q,qx⟩ =>
 c_jsM w rs h (fun g' A' H' out st w' h'=>q g' A' H' _ _ st w' (.str _) h') qx
def catS:Str→List Str→Str
 | acc,[]=>acc
 | acc,z :: zs=>catS (acc ++ z) zs
theorem cat_le:∀ {zs:List Str} {acc:Str},acc.length≤(catS acc zs).length
 | [],acc=>Nat.le_refl _
 | z :: zs,acc=>Nat.le_trans (by rw [Str.length_append]; exact Nat.le_add_right ..) (cat_le (zs := zs))
theorem pv_jsM:∀ {ms:List ME} {zs:List Str} {acc:Str} {s:Sl} {A:AH},Paired (fun m z=>Pv m s A (.str z)) ms zs→(catS acc zs).length≤sizeLine→∀ (Q:Str→AH→Prop) (E:QX),Q (catS acc zs) A→jsM ms acc s A Q E
 | _,_,acc,s,A, .nil,hz,Q,E,q=>q
 | _,_,acc,s,A, .cons h r,hz,Q,E,q=>h _ E ⟨_,rfl,Nat.le_trans cat_le hz,pv_jsM r hz Q E q⟩
theorem pv_js {ms:List ME} {zs:List Str} (h:Paired (fun m z=>Pv m s A (.str z)) ms zs) (hz:(catS Str.empty zs).length≤sizeLine):Pv (mJs ms) s A (.str (catS Str.empty zs)) := fun Q E q=>pv_jsM h hz _ E q
def mKGet (tab:List (Str × Int)) (ma mb:ME):ME := fun s A Q E=>ma s A (fun y A1=>mb s A1 (fun d A2=>∃ k,y = .str k∧(∀ i,atT tab k=some i→Q (.int i) A2)∧(atT tab k=none→Q d A2)) E) E
theorem c_kget {tab:List (Str × Int)}:∀ σ H Q,cE K W (mKGet tab ma mb) σ H Q→tKGet tab (cE K W ma) (cE K W mb) σ H Q := fun σ H Q ⟨g,s,A,Qa,Ea,w,rs,h,q,qx⟩ =>
 ⟨g,s,A,_,Ea,w,rs,h,fun g1 A1 H1 x dx st1 w1 r1 h1 =>
  ⟨g1,s,A1,_,Ea,w1,rs.mono st1.le,h1,fun g2 A2 H2 y dy st2 w2 r2 ⟨k,e1,h2,h3⟩=>by
   subst e1
   exact ⟨k,r1.str_,fun i e=>q _ _ _ _ _ (st1.trans st2) w2 (.int i) (h2 i e),fun e=>q _ _ _ _ _ (st1.trans st2) w2 r2 (h3 e)⟩,qx.step st1⟩,qx⟩
theorem pv_kget {tab:List (Str × Int)} {i:Int} (h1:Pv ma s A (.str z)) (h2:Pv mb s A (.int i)):Pv (mKGet tab ma mb) s A (.int ((atT tab z).getD i)) := fun Q E q=>h1 _ E (h2 _ E ⟨z,rfl,fun j e=>by rw [e] at q; exact q,fun e=>by rw [e] at q; exact q⟩)
def pairsS (k:Nat) (items:List D):List D := (List.range items.length).map fun i=>.tup [.int ((i + k:Nat):Int),items.getD i .non]
theorem pairsS_at {k:Nat} {items:List D} {i:Nat} {d:D} (h:(pairsS k items)[i]? = some d):∃ y,items[i]? = some y∧d = .tup [.int ((i + k:Nat):Int),y] := by
 unfold pairsS at h
 rw [List.getElem?_map] at h
 obtain ⟨j,hj,e⟩ := Option.map_eq_some_iff.mp h
 have hlt:i < items.length := by have := (List.getElem?_eq_some_iff.mp hj).1; simpa using this
 rw [List.getElem?_range hlt] at hj
 cases hj
 refine ⟨items[i],List.getElem?_eq_getElem hlt, ?_⟩
 rw [← e,List.getD_eq_getElem?_getD,List.getElem?_eq_getElem hlt]
 rfl
theorem pairsS_len {k:Nat} {items:List D}:(pairsS k items).length=items.length := by simp [pairsS]
theorem WalkD.enumS {k:Nat} {a:Addr} {items:List D} {ck:AH→Prop} (h:WalkD K (Itl K a) g items ck) (hq:∀ g2 A2 H2,g.le g2→Wr K g2 A2 H2→ck A2→∃ vs,SqL K H2 a vs∧Reps K g2 vs items):WalkD K (IteS K k a) g (pairsS k items) ck where
 go := fun i g2 A2 H2 le w c hi=>h.go i g2 A2 H2 le w c (by rwa [pairsS_len] at hi)
 yl := fun i g2 A2 H2 x H' d le w c hd y=>by
  obtain ⟨T,u,e1,e2,e3,hy⟩ := y
  subst e1; subst e3
  obtain ⟨z,h1,h2⟩ := pairsS_at hd
  subst h2
  obtain ⟨vs,h3,h4⟩ := hq g2 A2 H2 le w c
  obtain ⟨u',h5,h6⟩ := h4.at_ h1
  have := hy vs h3
  rw [h5] at this; cases this
  obtain ⟨w3,st3⟩ := w.new (o := .tup [.int ((i + k:Nat):Int),u]) e2
  exact ⟨_,st3,w3, .tup upd_same (.cons (.int _) (.cons (h6.mono st3.le) .nil))⟩
 st := fun i g2 A2 H2 le w c hi=>h.st i g2 A2 H2 le w c (by rwa [pairsS_len] at hi)
def mEnumS (k:Nat) (r:MA):MI := fun s A R E=>r s A (fun ds A1=>∃ xs,ds=[.lst xs]∧R (pairsS k xs) ckT A1) E
theorem c_enumS {k:Nat} {mr:MA}:∀ σ H R,cI K W (mEnumS k mr) σ H R→iEnumS K k (cA K W mr) σ H R := fun σ H R ⟨g,s,A,Ra,Ea,w,rs,h,q,qx⟩ =>
 ⟨g,s,A,_,Ea,w,rs,h,fun g1 A1 H1 vs ds st1 w1 r1 ⟨xs,e,h1⟩=>by
  subst e
  obtain ⟨v,rfl,r⟩ := r1.one
  cases r with
  | lst h2 h3=>exact ⟨_,_,rfl, .inl (w1.sub.rd h2),q g1 A1 H1 _ _ _ st1 w1 ((walk_fr h2 h3).enumS fun g2 A2 H2 le w2 ck=>⟨_, .inl (w2.sub.rd (Fm.Same.rd le.s h2)),h3.mono le⟩) h1⟩,qx⟩
theorem pairsS_enu {ι:Type} {k:Nat} (xs:List ι) (e:ι→D):pairsS k (xs.map e)=(enu xs).map fun p=>.tup [.int (p.1 + (k:Int)),e p.2] := by
 refine List.ext_getElem? fun i=>?_
 unfold pairsS enu
 rw [List.getElem?_map,List.getElem?_map,List.getElem?_map,List.getElem?_zipIdx,List.length_map]
 by_cases h:i < xs.length
 ·rw [List.getElem?_range h,List.getElem?_eq_getElem h]
  show some (D.tup [.int ((i + k:Nat):Int),(xs.map e).getD i D.non])=some (D.tup [.int (((0 + i:Nat):Int) + (k:Int)),e xs[i]])
  rw [List.getD_eq_getElem?_getD,List.getElem?_map,List.getElem?_eq_getElem h]
  show some (D.tup [.int ((i + k:Nat):Int),e xs[i]])=some (D.tup [.int (((0 + i:Nat):Int) + (k:Int)),e xs[i]])
  rw [Nat.zero_add]
  rfl
 ·rw [List.getElem?_eq_none (by simpa using h),List.getElem?_eq_none (by omega)]
  rfl
theorem mi_enumS {ι:Type} {k:Nat} {xs:List ι} {e:ι→D} {m:ME} (h:Pv m s A (.lst (xs.map e))):Mi (mEnumS k (mCons m mNil)) s A ((enu xs).map fun p=>.tup [.int (p.1 + (k:Int)),e p.2]) (fun _=>True) := fun R E q=>(pa_1 h) (fun ds A1=>∃ xs,ds=[.lst xs]∧R (pairsS k xs) ckT A1) E ⟨_,rfl,by rw [pairsS_enu]; exact q ckT True.intro fun _ _=>True.intro⟩
end
end Am
namespace Lw
open PySem PySem.Spec PyProof.Rows L2 Fm Am
open PySem.W (Datum Tup T3 T4)
abbrev css:List Str := ["Schema"]
def ti_Schema:List (TyN × Bool) := [(.b "str",false),(.b "int",false),(.b "bool",false),(.b "NoneType",false),(.b "tuple",false),(.b "list",false),(.c "Schema",true)]
def ti_str:List (TyN × Bool) := [(.b "str",true),(.b "int",false),(.b "bool",false),(.b "NoneType",false),(.b "tuple",false),(.b "list",false),(.c "Schema",false)]
def ts_Schema:List TyN := [.b "str", .b "int", .b "bool", .b "NoneType", .b "tuple", .b "list", .c "Schema"]
@[reducible] def b_is_word:MS :=
 (mRet (mAndV (mIsi ti_str (mVar 0)) (mAndV (mChain fLe fLe (mC (.int 1)) (mCB fLen (mCons (mVar 0) mNil)) (mC (.int 8))) (mCB fAll (mCons (mLc (mSeq (mVar 0)) (gN 1) mYes (mOp (fIn false) (mVar 1) (mC (.str "abcdefghijklmnopqrstuvwxyz"))) [1]) mNil)))))
def m_is_word:FN := mFn 1 2 b_is_word
@[reducible] def b_Schema_eq:MS :=
 (mRet (mAndV (mIsi ti_Schema (mVar 1)) (mAndV (mOp (fEq false) (mFld ["Schema"] "kind_entries" (mVar 0)) (mFld ["Schema"] "kind_entries" (mVar 1))) (mOp (fEq false) (mFld ["Schema"] "link_entries" (mVar 0)) (mFld ["Schema"] "link_entries" (mVar 1))))))
def m_Schema_eq:FN := mFn 2 2 b_Schema_eq
def m_law_pool:FN := fPool
def m_law_draw:FN := fDraw
@[reducible] def b_law_text:MS :=
 (mSq (mSet (mLstM mNil) (gN 2))
  (mSq (mFor (mSeq (mVar 0)) (gTp 3 (gCs (gN 3) (gCs (gN 4) (gCs (gN 5) gNl)))) (mDrop (mBM fAppend (mVar 2) (mCons (mOp fAdd (mOp fAdd (mOp fAdd (mOp fAdd (mC (.str "kind ")) (mVar 3)) (mC (.str " "))) (mVar 4)) (mIf (mB (mOp fIsN (mVar 5) (mC .non))) (mC (.str "")) (mOp fAdd (mC (.str " ")) (mVar 5)))) mNil))))
  (mSq (mFor (mSeq (mVar 1)) (gTp 4 (gCs (gN 3) (gCs (gN 6) (gCs (gN 7) (gCs (gN 4) gNl))))) (mDrop (mBM fAppend (mVar 2) (mCons (mOp fAdd (mOp fAdd (mOp fAdd (mOp fAdd (mOp fAdd (mOp fAdd (mOp fAdd (mC (.str "link ")) (mVar 3)) (mC (.str " "))) (mVar 6)) (mC (.str " "))) (mVar 7)) (mC (.str " "))) (mVar 4)) mNil))))
  (mRet (mJoin (mC (.str "\n")) (mVar 2))))))
def m_law_text:FN := mFn 2 8 b_law_text
@[reducible] def b_read_kind:MS :=
 (mSq (mIfS (mNot (mB (mCB fAll (mCons (mLc (mSeq (mVar 0)) (gN 1) mYes (mCall m_is_word (mCons (mVar 1) mNil)) [1]) mNil)))) (mRet (mC .non)) mNext)
  (mSq (mIfS (mAnd (mB (mOp (fEq false) (mCB fLen (mCons (mVar 0) mNil)) (mC (.int 3)))) (mB (mOp (fIn false) (mOp fIx (mVar 0) (mC (.int 2))) (mTup (mCons (mC (.str "loose")) (mCons (mC (.str "once")) mNil)))))) (mRet (mTup (mCons (mOp fIx (mVar 0) (mC (.int 1))) (mCons (mOp fIx (mVar 0) (mC (.int 2))) (mCons (mC .non) mNil))))) mNext)
  (mSq (mIfS (mAnd (mB (mOp (fEq false) (mCB fLen (mCons (mVar 0) mNil)) (mC (.int 4)))) (mB (mOp (fEq false) (mOp fIx (mVar 0) (mC (.int 2))) (mC (.str "under"))))) (mRet (mTup (mCons (mOp fIx (mVar 0) (mC (.int 1))) (mCons (mOp fIx (mVar 0) (mC (.int 2))) (mCons (mOp fIx (mVar 0) (mC (.int 3))) mNil))))) mNext)
  (mRet (mC .non)))))
def m_read_kind:FN := mFn 1 2 b_read_kind
@[reducible] def b_read_link:MS :=
 (mSq (mIfS (mOr (mB (mOp (fEq true) (mCB fLen (mCons (mVar 0) mNil)) (mC (.int 5)))) (mOr (mNot (mB (mCB fAll (mCons (mLc (mSeq (mVar 0)) (gN 1) mYes (mCall m_is_word (mCons (mVar 1) mNil)) [1]) mNil)))) (mB (mOp (fIn true) (mOp fIx (mVar 0) (mC (.int 4))) (mTup (mCons (mC (.str "loose")) (mCons (mC (.str "once")) mNil))))))) (mRet (mC .non)) mNext)
  (mRet (mTup (mCons (mOp fIx (mVar 0) (mC (.int 1))) (mCons (mOp fIx (mVar 0) (mC (.int 2))) (mCons (mOp fIx (mVar 0) (mC (.int 3))) (mCons (mOp fIx (mVar 0) (mC (.int 4))) mNil)))))))
def m_read_link:FN := mFn 1 2 b_read_link
@[reducible] def b_read_guard:MS :=
 (mSq (mIfS (mOr (mB (mOp (fEq true) (mCB fLen (mCons (mVar 0) mNil)) (mC (.int 2)))) (mNot (mB (mCall m_is_word (mCons (mOp fIx (mVar 0) (mC (.int 1))) mNil))))) (mRet (mC .non)) mNext)
  (mRet (mOp fIx (mVar 0) (mC (.int 1)))))
def m_read_guard:FN := mFn 1 1 b_read_guard
@[reducible] def b_law_word:MS :=
 (mSq (mSet (mC (.str "abcdefghijklmnopqrstuvwxyz")) (gN 2))
  (mSq (mSet (mOp fAdd (mC (.int 1)) (mCall m_law_draw (mCons (mVar 0) (mCons (mC (.int 8)) mNil)))) (gN 3))
  (mSq (mSet (mJoin (mC (.str "")) (mLc (mRng1 (mCons (mVar 3) mNil)) (gN 5) mYes (mOp fIx (mVar 2) (mCall m_law_draw (mCons (mVar 0) (mCons (mC (.int 26)) mNil)))) [5])) (gN 4))
  (mSq (mIfS (mB (mOp (fIn false) (mVar 4) (mVar 1))) (mSet (mOp fIx (mLc (mSeq (mVar 2)) (gN 6) (mB (mOp (fIn true) (mOp fAdd (mSl (mVar 4) mNoPart (mPart (mC (.int 7)))) (mVar 6)) (mVar 1))) (mOp fAdd (mSl (mVar 4) mNoPart (mPart (mC (.int 7)))) (mVar 6)) [6]) (mC (.int 0))) (gN 4)) mNext)
  (mRet (mVar 4))))))
def m_law_word:FN := mFn 2 7 b_law_word
@[reducible] def b_check_names:MS :=
 (mSq (mSet (mLstM mNil) (gN 2))
  (mSq (mFor (mEnum (mCons (mVar 0) mNil)) (gTp 2 (gCs (gN 3) (gCs (gTp 3 (gCs (gN 4) (gCs (gN 5) (gCs (gN 6) gNl)))) gNl))) (mSq (mIfS (mOr (mNot (mB (mCall m_is_word (mCons (mVar 4) mNil)))) (mB (mOp (fIn false) (mVar 4) (mVar 2)))) (mRz1 "BadSchema" "at" (mVar 3)) mNext)
  (mSq (mIfS (mOr (mB (mOp (fIn true) (mVar 5) (mTup (mCons (mC (.str "loose")) (mCons (mC (.str "once")) (mCons (mC (.str "under")) mNil)))))) (mB (mOp (fEq true) (mOp fIsN (mVar 6) (mC .non)) (mOp (fEq true) (mVar 5) (mC (.str "under")))))) (mRz1 "BadSchema" "at" (mVar 3)) mNext)
  (mDrop (mBM fAppend (mVar 2) (mCons (mVar 4) mNil))))))
  (mSq (mSet (mCB fList (mCons (mVar 2) mNil)) (gN 7))
  (mFor (mEnum (mCons (mVar 1) mNil)) (gTp 2 (gCs (gN 3) (gCs (gTp 4 (gCs (gN 4) (gCs (gN 8) (gCs (gN 9) (gCs (gN 5) gNl))))) gNl))) (mSq (mIfS (mOr (mNot (mB (mCall m_is_word (mCons (mVar 4) mNil)))) (mOr (mB (mOp (fIn false) (mVar 4) (mVar 2))) (mB (mOp (fIn true) (mVar 5) (mTup (mCons (mC (.str "loose")) (mCons (mC (.str "once")) mNil))))))) (mRz1 "BadSchema" "at" (mOp fAdd (mCB fLen (mCons (mVar 0) mNil)) (mVar 3))) mNext)
  (mSq (mIfS (mOr (mB (mOp (fIn true) (mVar 8) (mVar 7))) (mB (mOp (fIn true) (mVar 9) (mVar 7)))) (mRz1 "BadSchema" "at" (mOp fAdd (mCB fLen (mCons (mVar 0) mNil)) (mVar 3))) mNext)
  (mDrop (mBM fAppend (mVar 2) (mCons (mVar 4) mNil)))))))))
def m_check_names:FN := mFn 2 10 b_check_names
@[reducible] def b_check_owners:MS :=
 (mSq (mSet (mDc (mSeq (mVar 0)) (gTp 3 (gCs (gN 4) (gCs (gN 5) (gCs (gN 6) gNl)))) mYes (mVar 4) (mVar 5) [4,5,6]) (gN 2))
  (mFor (mEnum (mCons (mVar 0) mNil)) (gTp 2 (gCs (gN 3) (gCs (gTp 3 (gCs (gN 4) (gCs (gN 5) (gCs (gN 6) gNl)))) gNl))) (mIfS (mB (mOp (fEq false) (mVar 5) (mC (.str "under")))) (mSq (mSet (mLc (mSeq (mVar 1)) (gTp 4 (gCs (gN 8) (gCs (gN 9) (gCs (gN 10) (gCs (gN 11) gNl))))) (mAnd (mB (mOp (fEq false) (mVar 8) (mVar 6))) (mB (mOp (fEq false) (mVar 10) (mVar 4)))) (mVar 9) [8,9,10,11]) (gN 7))
  (mIfS (mOr (mNot (mTru (mVar 7))) (mB (mOp (fEq false) (mDGet (mVar 2) (mOp fIx (mVar 7) (mC (.int 0)))) (mC (.str "under"))))) (mRz1 "BadSchema" "at" (mVar 3)) mNext)) mNext)))
def m_check_owners:FN := mFn 2 12 b_check_owners
@[reducible] def b_Schema_rule:MS :=
 (mSq (mIfS (mB (mDIn true (mVar 1) (mFld ["Schema"] "rules" (mVar 0)))) (mRz1 "Unknown" "name" (mVar 1)) mNext)
  (mRet (mDGet (mFld ["Schema"] "rules" (mVar 0)) (mVar 1))))
def m_Schema_rule:FN := mFn 2 2 b_Schema_rule
@[reducible] def b_Schema_ends:MS :=
 (mSq (mIfS (mB (mDIn true (mVar 1) (mFld ["Schema"] "spans" (mVar 0)))) (mRz1 "Unknown" "name" (mVar 1)) mNext)
  (mRet (mDGet (mFld ["Schema"] "spans" (mVar 0)) (mVar 1))))
def m_Schema_ends:FN := mFn 2 2 b_Schema_ends
@[reducible] def b_Schema_owner:MS :=
 (mSq (mIfS (mB (mDIn true (mVar 1) (mFld ["Schema"] "owners" (mVar 0)))) (mRz1 "Unknown" "name" (mVar 1)) mNext)
  (mRet (mDGet (mFld ["Schema"] "owners" (mVar 0)) (mVar 1))))
def m_Schema_owner:FN := mFn 2 2 b_Schema_owner
@[reducible] def b_read_lines:MS :=
 (mSq (mSet (mLstM (mCons (mLstM mNil) (mCons (mLstM mNil) (mCons (mLstM mNil) (mCons (mLstM mNil) mNil))))) (gN 2))
  (mSq (mSet (mC (.int 0)) (gN 3))
  (mSq (mFor (mEnumS 1 (mCons (mSplit (mVar 0) (mC (.str "\n"))) mNil)) (gTp 2 (gCs (gN 4) (gCs (gN 5) gNl))) (mSq (mSet (mSplit (mVar 5) (mC (.str " "))) (gN 6))
  (mSq (mSet (mKGet [("kind",0),("link",1),("find",2),("make",2),("both",2),("guard",3)] (mOp fIx (mVar 6) (mC (.int 0))) (mUn fNeg (mC (.int 1)))) (gN 7))
  (mSq (mIfS (mNot (mB (mChain fLe fLe (mVar 3) (mVar 7) (mVar 1)))) (mRz1 "BadLine" "number" (mVar 4)) mNext)
  (mSq (mSet (mVar 7) (gN 3))
  (mSq (mIfS (mB (mOp (fEq false) (mVar 7) (mC (.int 2)))) mNever (mIfS (mB (mOp (fEq false) (mVar 7) (mC (.int 0)))) (mSet (mCall m_read_kind (mCons (mVar 6) mNil)) (gN 8)) (mSet (mIf (mB (mOp (fEq false) (mVar 7) (mC (.int 1)))) (mCall m_read_link (mCons (mVar 6) mNil)) (mCall m_read_guard (mCons (mVar 6) mNil))) (gN 8))))
  (mSq (mIfS (mB (mOp fIsN (mVar 8) (mC .non))) (mRz1 "BadLine" "number" (mVar 4)) mNext)
  (mDrop (mBM fAppend (mOp fIx (mVar 2) (mVar 7)) (mCons (mVar 8) mNil))))))))))
  (mRet (mVar 2)))))
def m_read_lines:FN := mFn 2 9 b_read_lines
@[reducible] def b_law_schema:MS :=
 (mSq (mSet (mLstM mNil) (gN 2))
  (mSq (mFor (mRng1 (mCons (mOp fAdd (mC (.int 1)) (mCall m_law_draw (mCons (mVar 0) (mCons (mVar 1) mNil)))) mNil)) (gN 3) (mDrop (mBM fAppend (mVar 2) (mCons (mCall m_law_word (mCons (mVar 0) (mCons (mVar 2) mNil))) mNil))))
  (mSq (mSet (mLcM (mSeq (mVar 2)) (gN 9) mYes (mOp fIx (mLst (mCons (mC (.str "loose")) (mCons (mC (.str "once")) (mCons (mC (.str "under")) mNil)))) (mCall m_law_draw (mCons (mVar 0) (mCons (mC (.int 3)) mNil)))) [9]) (gN 4))
  (mSq (mIfS (mAnd (mB (mOp (fIn true) (mC (.str "loose")) (mVar 4))) (mB (mOp (fIn true) (mC (.str "once")) (mVar 4)))) (mLPut (mVar 4) (mCall m_law_draw (mCons (mVar 0) (mCons (mCB fLen (mCons (mVar 4) mNil)) mNil))) (mOp fIx (mLst (mCons (mC (.str "loose")) (mCons (mC (.str "once")) mNil))) (mCall m_law_draw (mCons (mVar 0) (mCons (mC (.int 2)) mNil))))) mNext)
  (mSq (mSet (mLc (mEnum (mCons (mVar 2) mNil)) (gTp 2 (gCs (gN 3) (gCs (gN 9) gNl))) (mB (mOp (fEq true) (mOp fIx (mVar 4) (mVar 3)) (mC (.str "under")))) (mVar 9) [3,9]) (gN 5))
  (mSq (mSet (mLstM mNil) (gN 6))
  (mSq (mSet (mLstM mNil) (gN 7))
  (mSq (mSet (mCB fListM (mCons (mVar 2) mNil)) (gN 8))
  (mSq (mFor (mEnum (mCons (mVar 2) mNil)) (gTp 2 (gCs (gN 3) (gCs (gN 9) gNl))) (mIfS (mB (mOp (fEq false) (mOp fIx (mVar 4) (mVar 3)) (mC (.str "under")))) (mSq (mDrop (mBM fAppend (mVar 8) (mCons (mCall m_law_word (mCons (mVar 0) (mCons (mVar 8) mNil))) mNil)))
  (mSq (mDrop (mBM fAppend (mVar 7) (mCons (mTup (mCons (mOp fIx (mVar 8) (mUn fNeg (mC (.int 1)))) (mCons (mOp fIx (mVar 5) (mCall m_law_draw (mCons (mVar 0) (mCons (mCB fLen (mCons (mVar 5) mNil)) mNil)))) (mCons (mVar 9) (mCons (mOp fIx (mLst (mCons (mC (.str "loose")) (mCons (mC (.str "once")) mNil))) (mCall m_law_draw (mCons (mVar 0) (mCons (mC (.int 2)) mNil)))) mNil))))) mNil)))
  (mDrop (mBM fAppend (mVar 6) (mCons (mTup (mCons (mVar 9) (mCons (mC (.str "under")) (mCons (mOp fIx (mVar 8) (mUn fNeg (mC (.int 1)))) mNil)))) mNil))))) (mDrop (mBM fAppend (mVar 6) (mCons (mTup (mCons (mVar 9) (mCons (mOp fIx (mVar 4) (mVar 3)) (mCons (mC .non) mNil)))) mNil)))))
  (mSq (mFor (mRng1 (mCons (mCall m_law_draw (mCons (mVar 0) (mCons (mOp fSub (mC (.int 7)) (mCB fLen (mCons (mVar 7) mNil))) mNil))) mNil)) (gN 3) (mSq (mDrop (mBM fAppend (mVar 8) (mCons (mCall m_law_word (mCons (mVar 0) (mCons (mVar 8) mNil))) mNil)))
  (mSq (mSet (mOp fIx (mVar 2) (mCall m_law_draw (mCons (mVar 0) (mCons (mCB fLen (mCons (mVar 2) mNil)) mNil)))) (gN 10))
  (mSq (mSet (mOp fIx (mVar 2) (mCall m_law_draw (mCons (mVar 0) (mCons (mCB fLen (mCons (mVar 2) mNil)) mNil)))) (gN 11))
  (mDrop (mBM fAppend (mVar 7) (mCons (mTup (mCons (mOp fIx (mVar 8) (mUn fNeg (mC (.int 1)))) (mCons (mVar 10) (mCons (mVar 11) (mCons (mOp fIx (mLst (mCons (mC (.str "loose")) (mCons (mC (.str "once")) mNil))) (mCall m_law_draw (mCons (mVar 0) (mCons (mC (.int 2)) mNil)))) mNil))))) mNil)))))))
  (mSq (mSet (mCall m_law_draw (mCons (mVar 0) (mCons (mOp fAdd (mCB fLen (mCons (mVar 7) mNil)) (mC (.int 1))) mNil))) (gN 12))
  (mRet (mTup (mCons (mFz (mVar 6)) (mCons (mOp fAdd (mSl (mVar 7) (mPart (mVar 12)) mNoPart) (mSl (mVar 7) mNoPart (mPart (mVar 12)))) mNil)))))))))))))))
def m_law_schema:FN := mFn 2 13 b_law_schema
@[reducible] def b_Schema_init:MS :=
 (mSq (mDrop (mCall m_check_names (mCons (mVar 1) (mCons (mVar 2) mNil))))
  (mSq (mIfS (mOr (mNot (mB (mChain fLe fLe (mC (.int 1)) (mCB fLen (mCons (mVar 1) mNil)) (mC (.int 4))))) (mB (mOp fGt (mCB fLen (mCons (mVar 2) mNil)) (mC (.int 6))))) (mRz1 "BadSchema" "at" (mC .non)) mNext)
  (mSq (mDrop (mCall m_check_owners (mCons (mVar 1) (mCons (mVar 2) mNil))))
  (mSq (mSFld ["Schema"] "kind_entries" (mVar 0) (mCB fTupOf (mCons (mVar 1) mNil)))
  (mSq (mSFld ["Schema"] "link_entries" (mVar 0) (mCB fTupOf (mCons (mVar 2) mNil)))
  (mSq (mSFld ["Schema"] "kinds" (mVar 0) (mCB fTupOf (mCons (mLc (mSeq (mVar 1)) (gTp 3 (gCs (gN 3) (gCs (gN 6) (gCs (gN 7) gNl)))) mYes (mVar 3) [3,6,7]) mNil)))
  (mSq (mSFld ["Schema"] "links" (mVar 0) (mCB fTupOf (mCons (mLc (mSeq (mVar 2)) (gTp 4 (gCs (gN 3) (gCs (gN 4) (gCs (gN 5) (gCs (gN 6) gNl))))) mYes (mVar 3) [3,4,5,6]) mNil)))
  (mSq (mSFld ["Schema"] "rules" (mVar 0) (mDcM (mSeq (mVar 1)) (gTp 3 (gCs (gN 3) (gCs (gN 6) (gCs (gN 7) gNl)))) mYes (mVar 3) (mVar 6) [3,6,7]))
  (mSq (mSFld ["Schema"] "spans" (mVar 0) (mDNew (.dK [])))
  (mSq (mFor (mSeq (mVar 2)) (gTp 4 (gCs (gN 3) (gCs (gN 4) (gCs (gN 5) (gCs (gN 6) gNl))))) (mSq (mDPut (mFld ["Schema"] "rules" (mVar 0)) (mVar 3) (mVar 6))
  (mDPut (mFld ["Schema"] "spans" (mVar 0)) (mVar 3) (mTup (mCons (mVar 4) (mCons (mVar 5) mNil))))))
  (mSq (mSFld ["Schema"] "owners" (mVar 0) (mDNew (.dK [])))
  (mSq (mFor (mSeq (mVar 1)) (gTp 3 (gCs (gN 3) (gCs (gN 6) (gCs (gN 7) gNl)))) (mDPut (mFld ["Schema"] "owners" (mVar 0)) (mVar 3) (mIf (mB (mOp fIsN (mVar 7) (mC .non))) (mC .non) (mTup (mCons (mVar 7) (mCons (mOp fIx (mDGet (mFld ["Schema"] "spans" (mVar 0)) (mVar 7)) (mC (.int 0))) mNil))))))
  (mSq (mSFld ["Schema"] "kind_codes" (mVar 0) (mDc (mEnumT (mCons (mFld ["Schema"] "kinds" (mVar 0)) mNil)) (gTp 2 (gCs (gN 8) (gCs (gN 3) gNl))) mYes (mVar 3) (mVar 8) [8,3]))
  (mSFld ["Schema"] "link_codes" (mVar 0) (mDc (mEnumT (mCons (mFld ["Schema"] "links" (mVar 0)) mNil)) (gTp 2 (gCs (gN 8) (gCs (gN 3) gNl))) mYes (mVar 3) (mVar 8) [8,3])))))))))))))))
def m_Schema_init:FN := mFn 3 9 b_Schema_init
@[reducible] def b_write_schema:MS :=
 (mSq (mSet (mLstM mNil) (gN 1))
  (mSq (mFor (mSeq (mFld ["Schema"] "kinds" (mVar 0))) (gN 2) (mSq (mSet (mMeth "Schema" "owner" m_Schema_owner (mVar 0) (mCons (mVar 2) mNil)) (gN 3))
  (mSq (mSet (mIf (mB (mOp fIsN (mVar 3) (mC .non))) (mC (.str "")) (mOp fAdd (mC (.str " ")) (mOp fIx (mVar 3) (mC (.int 0))))) (gN 4))
  (mDrop (mBM fAppend (mVar 1) (mCons (mJs [(mC (.str "kind ")),(mFmt (mVar 2)),(mC (.str " ")),(mFmt (mMeth "Schema" "rule" m_Schema_rule (mVar 0) (mCons (mVar 2) mNil))),(mFmt (mVar 4))]) mNil))))))
  (mSq (mFor (mSeq (mFld ["Schema"] "links" (mVar 0))) (gN 2) (mSq (mSet (mMeth "Schema" "ends" m_Schema_ends (mVar 0) (mCons (mVar 2) mNil)) (gTp 2 (gCs (gN 5) (gCs (gN 6) gNl))))
  (mDrop (mBM fAppend (mVar 1) (mCons (mJs [(mC (.str "link ")),(mFmt (mVar 2)),(mC (.str " ")),(mFmt (mVar 5)),(mC (.str " ")),(mFmt (mVar 6)),(mC (.str " ")),(mFmt (mMeth "Schema" "rule" m_Schema_rule (mVar 0) (mCons (mVar 2) mNil)))]) mNil)))))
  (mRet (mJoin (mC (.str "\n")) (mVar 1))))))
def m_write_schema:FN := mFn 1 7 b_write_schema
@[reducible] def b_law_told:MS :=
 (mSq (mIfS (mOr (mB (mOp (fEq true) (mFld ["Schema"] "kinds" (mVar 0)) (mCB fTupOf (mCons (mLc (mSeq (mVar 1)) (gN 10) mYes (mOp fIx (mVar 10) (mC (.int 0))) [10]) mNil)))) (mB (mOp (fEq true) (mFld ["Schema"] "links" (mVar 0)) (mCB fTupOf (mCons (mLc (mSeq (mVar 2)) (gN 10) mYes (mOp fIx (mVar 10) (mC (.int 0))) [10]) mNil))))) (mRet (mC (.bl false))) mNext)
  (mSq (mSet (mDNew (.dK [])) (gN 3))
  (mSq (mFor (mSeq (mVar 2)) (gTp 4 (gCs (gN 4) (gCs (gN 5) (gCs (gN 6) (gCs (gN 7) gNl))))) (mSq (mDPut (mVar 3) (mVar 4) (mVar 5))
  (mIfS (mOr (mB (mOp (fEq true) (mMeth "Schema" "rule" m_Schema_rule (mVar 0) (mCons (mVar 4) mNil)) (mVar 7))) (mB (mOp (fEq true) (mMeth "Schema" "ends" m_Schema_ends (mVar 0) (mCons (mVar 4) mNil)) (mTup (mCons (mVar 5) (mCons (mVar 6) mNil)))))) (mRet (mC (.bl false))) mNext)))
  (mSq (mFor (mSeq (mVar 1)) (gTp 3 (gCs (gN 4) (gCs (gN 7) (gCs (gN 8) gNl)))) (mSq (mSet (mIf (mB (mOp fIsN (mVar 8) (mC .non))) (mC .non) (mTup (mCons (mVar 8) (mCons (mDGet (mVar 3) (mVar 8)) mNil)))) (gN 9))
  (mIfS (mOr (mB (mOp (fEq true) (mMeth "Schema" "rule" m_Schema_rule (mVar 0) (mCons (mVar 4) mNil)) (mVar 7))) (mB (mOp (fEq true) (mMeth "Schema" "owner" m_Schema_owner (mVar 0) (mCons (mVar 4) mNil)) (mVar 9)))) (mRet (mC (.bl false))) mNext)))
  (mRet (mC (.bl true)))))))
def m_law_told:FN := mFn 3 11 b_law_told
@[reducible] def b_read_schema:MS :=
 (mSq (mSet (mCall m_read_lines (mCons (mVar 0) (mCons (mC (.int 1)) mNil))) (gN 1))
  (mRet (mMakeD "Schema" m_Schema_init (mCons (mOp fIx (mVar 1) (mC (.int 0))) (mCons (mOp fIx (mVar 1) (mC (.int 1))) mNil)))))
def m_read_schema:FN := mFn 1 2 b_read_schema
@[reducible] def b_law:MS :=
 (mSq (mSet (mCall m_law_pool (mCons (mVar 0) mNil)) (gN 1))
  (mSq (mFor (mRng1 (mCons (mC (.int 3)) mNil)) (gN 2) (mSq (mSet (mCall m_law_schema (mCons (mVar 1) (mCons (mC (.int 4)) mNil))) (gTp 2 (gCs (gN 3) (gCs (gN 4) gNl))))
  (mSq (mSet (mCall m_law_text (mCons (mVar 3) (mCons (mVar 4) mNil))) (gN 5))
  (mSq (mSet (mMakeD "Schema" m_Schema_init (mCons (mVar 3) (mCons (mVar 4) mNil))) (gN 6))
  (mSq (mSet (mCall m_write_schema (mCons (mVar 6) mNil)) (gN 7))
  (mSq (mIfS (mOr (mNot (mB (mIsi ti_str (mVar 7)))) (mB (mOp (fEq true) (mVar 7) (mVar 5)))) (mRet (mC (.bl false))) mNext)
  (mSq (mSet (mCall m_read_schema (mCons (mVar 5) mNil)) (gN 8))
  (mSq (mIfS (mOr (mNot (mB (mOwnEq ts_Schema "Schema" m_Schema_eq (mVar 8) (mVar 6)))) (mOr (mNot (mB (mCall m_law_told (mCons (mVar 8) (mCons (mVar 3) (mCons (mVar 4) mNil)))))) (mB (mOp (fEq true) (mCall m_write_schema (mCons (mVar 8) mNil)) (mVar 5))))) (mRet (mC (.bl false))) mNext)
  (mFor (mSeq (mLst (mCons (mTup (mCons (mOp fAdd (mSl (mVar 3) (mPart (mC (.int 1))) mNoPart) (mSl (mVar 3) mNoPart (mPart (mC (.int 1))))) (mCons (mVar 4) mNil))) (mCons (mTup (mCons (mVar 3) (mCons (mOp fAdd (mSl (mVar 4) (mPart (mC (.int 1))) mNoPart) (mSl (mVar 4) mNoPart (mPart (mC (.int 1))))) mNil))) mNil)))) (gTp 2 (gCs (gN 9) (gCs (gN 10) gNl))) (mSq (mSet (mCall m_read_schema (mCons (mCall m_law_text (mCons (mVar 9) (mCons (mVar 10) mNil))) mNil)) (gN 11))
  (mSq (mIfS (mNot (mB (mCall m_law_told (mCons (mVar 11) (mCons (mVar 9) (mCons (mVar 10) mNil)))))) (mRet (mC (.bl false))) mNext)
  (mIfS (mB (mOp (fEq true) (mOwnEq ts_Schema "Schema" m_Schema_eq (mVar 11) (mVar 6)) (mAndV (mOp (fEq false) (mVar 9) (mVar 3)) (mOp (fEq false) (mVar 10) (mVar 4))))) (mRet (mC (.bl false))) mNext))))))))))))
  (mRet (mC (.bl true)))))
end Lw
namespace Lw
open PySem PySem.Spec PyProof.Rows L2 Fm Am
open PySem.W (Datum Tup T3 T4)
def topS (i : Nat) : Stmt := PySem.Challenge.pw_foundormade_k31_schemas_written.main.body.getD i (.Pass ⟨0,0,0,0⟩)
abbrev s_is_word:Stmt := topS 8
abbrev N_is_word:List Str := ["text","sign"]
abbrev ps_is_word:List Str := ["text"]
theorem sc_is_word:FnScope N_is_word ps_is_word (defScope s_is_word) := fsc
abbrev s_check_names:Stmt := topS 9
abbrev N_check_names:List Str := ["kinds","links","known","at","name","rule","owner","names","start","end"]
abbrev ps_check_names:List Str := ["kinds","links"]
theorem sc_check_names:FnScope N_check_names ps_check_names (defScope s_check_names) := fsc
abbrev s_check_owners:Stmt := topS 10
abbrev N_check_owners:List Str := ["kinds","links","rules","at","name","rule","owner","starts","link","start","end","how"]
abbrev ps_check_owners:List Str := ["kinds","links"]
theorem sc_check_owners:FnScope N_check_owners ps_check_owners (defScope s_check_owners) := fsc
abbrev s_Schema_init:Stmt := inClass (topS 11) 0
abbrev N_Schema_init:List Str := ["self","kinds","links","name","start","end","rule","owner","at"]
abbrev ps_Schema_init:List Str := ["self","kinds","links"]
theorem sc_Schema_init:FnScope N_Schema_init ps_Schema_init (defScope s_Schema_init) := fsc
abbrev s_Schema_rule:Stmt := inClass (topS 11) 1
abbrev N_Schema_rule:List Str := ["self","name"]
abbrev ps_Schema_rule:List Str := ["self","name"]
theorem sc_Schema_rule:FnScope N_Schema_rule ps_Schema_rule (defScope s_Schema_rule) := fsc
abbrev s_Schema_ends:Stmt := inClass (topS 11) 2
abbrev N_Schema_ends:List Str := ["self","name"]
abbrev ps_Schema_ends:List Str := ["self","name"]
theorem sc_Schema_ends:FnScope N_Schema_ends ps_Schema_ends (defScope s_Schema_ends) := fsc
abbrev s_Schema_owner:Stmt := inClass (topS 11) 3
abbrev N_Schema_owner:List Str := ["self","name"]
abbrev ps_Schema_owner:List Str := ["self","name"]
theorem sc_Schema_owner:FnScope N_Schema_owner ps_Schema_owner (defScope s_Schema_owner) := fsc
abbrev s_Schema_eq:Stmt := inClass (topS 11) 5
abbrev N_Schema_eq:List Str := ["self","other"]
abbrev ps_Schema_eq:List Str := ["self","other"]
theorem sc_Schema_eq:FnScope N_Schema_eq ps_Schema_eq (defScope s_Schema_eq) := fsc
abbrev s_write_schema:Stmt := topS 21
abbrev N_write_schema:List Str := ["schema","lines","name","owner","behind","start","end"]
abbrev ps_write_schema:List Str := ["schema"]
theorem sc_write_schema:FnScope N_write_schema ps_write_schema (defScope s_write_schema) := fsc
abbrev s_read_kind:Stmt := topS 22
abbrev N_read_kind:List Str := ["words","word"]
abbrev ps_read_kind:List Str := ["words"]
theorem sc_read_kind:FnScope N_read_kind ps_read_kind (defScope s_read_kind) := fsc
abbrev s_read_link:Stmt := topS 23
abbrev N_read_link:List Str := ["words","word"]
abbrev ps_read_link:List Str := ["words"]
theorem sc_read_link:FnScope N_read_link ps_read_link (defScope s_read_link) := fsc
abbrev s_read_guard:Stmt := topS 24
abbrev N_read_guard:List Str := ["words"]
abbrev ps_read_guard:List Str := ["words"]
theorem sc_read_guard:FnScope N_read_guard ps_read_guard (defScope s_read_guard) := fsc
abbrev s_read_lines:Stmt := topS 26
abbrev N_read_lines:List Str := ["text","last","entries","reached","number","line","words","group","entry"]
abbrev ps_read_lines:List Str := ["text","last"]
theorem sc_read_lines:FnScope N_read_lines ps_read_lines (defScope s_read_lines) := fsc
abbrev s_read_schema:Stmt := topS 27
abbrev N_read_schema:List Str := ["text","entries"]
abbrev ps_read_schema:List Str := ["text"]
theorem sc_read_schema:FnScope N_read_schema ps_read_schema (defScope s_read_schema) := fsc
abbrev s_law_pool:Stmt := topS 29
abbrev N_law_pool:List Str := ["_law_script","_law_greats","_law_seed","_law_cell"]
abbrev ps_law_pool:List Str := ["_law_script"]
theorem sc_law_pool:FnScope N_law_pool ps_law_pool (defScope s_law_pool) := fsc
abbrev s_law_draw:Stmt := topS 30
abbrev N_law_draw:List Str := ["_law_pool_here","_law_limit","_law_digit","_law_mixed"]
abbrev ps_law_draw:List Str := ["_law_pool_here","_law_limit"]
theorem sc_law_draw:FnScope N_law_draw ps_law_draw (defScope s_law_draw) := fsc
abbrev s_law_word:Stmt := topS 31
abbrev N_law_word:List Str := ["_law_pool_here","_law_used","_law_letters","_law_size","_law_word_here","_law_k","_law_letter"]
abbrev ps_law_word:List Str := ["_law_pool_here","_law_used"]
theorem sc_law_word:FnScope N_law_word ps_law_word (defScope s_law_word) := fsc
abbrev s_law_schema:Stmt := topS 32
abbrev N_law_schema:List Str := ["_law_pool_here","_law_most","_law_names","_law_k","_law_rules","_law_heads","_law_kinds","_law_links","_law_used","_law_name","_law_start","_law_end","_law_turn"]
abbrev ps_law_schema:List Str := ["_law_pool_here","_law_most"]
theorem sc_law_schema:FnScope N_law_schema ps_law_schema (defScope s_law_schema) := fsc
abbrev s_law_text:Stmt := topS 33
abbrev N_law_text:List Str := ["_law_kinds","_law_links","_law_lines","_law_name","_law_rule","_law_link","_law_start","_law_end"]
abbrev ps_law_text:List Str := ["_law_kinds","_law_links"]
theorem sc_law_text:FnScope N_law_text ps_law_text (defScope s_law_text) := fsc
abbrev s_law_told:Stmt := topS 34
abbrev N_law_told:List Str := ["_law_schema_here","_law_kinds","_law_links","_law_starts","_law_name","_law_start","_law_end","_law_rule","_law_link","_law_due","_law_entry"]
abbrev ps_law_told:List Str := ["_law_schema_here","_law_kinds","_law_links"]
theorem sc_law_told:FnScope N_law_told ps_law_told (defScope s_law_told) := fsc
abbrev s_law:Stmt := topS 35
abbrev N_law:List Str := ["_law_script","_law_pool_here","_law_turn","_law_kinds","_law_links","_law_text_here","_law_schema_here","_law_written","_law_back","_law_other_kinds","_law_other_links","_law_other"]
abbrev ps_law:List Str := ["_law_script"]
theorem sc_law:FnScope N_law ps_law (defScope s_law) := fsc
abbrev s_BadSchema_init:Stmt := inClass (topS 2) 0
abbrev s_Unknown_init:Stmt := inClass (topS 3) 0
abbrev s_BadPattern_init:Stmt := inClass (topS 4) 0
abbrev s_BadLine_init:Stmt := inClass (topS 5) 0
structure Txt (K:PySem.W.Frag) (mg:Str→Option Value) (w:World):Prop where
 g_is_word:mg "is_word" = some (.ref (He.ga K "is_word"))
 d_is_word:∃ fd,Fun K "is_word" "is_word" s_is_word (He.ga K "is_word") fd
 k_is_word:PySem.W.keepIn K (.ref (He.ga K "is_word"))=true
 g_check_names:mg "check_names" = some (.ref (He.ga K "check_names"))
 d_check_names:∃ fd,Fun K "check_names" "check_names" s_check_names (He.ga K "check_names") fd
 k_check_names:PySem.W.keepIn K (.ref (He.ga K "check_names"))=true
 g_check_owners:mg "check_owners" = some (.ref (He.ga K "check_owners"))
 d_check_owners:∃ fd,Fun K "check_owners" "check_owners" s_check_owners (He.ga K "check_owners") fd
 k_check_owners:PySem.W.keepIn K (.ref (He.ga K "check_owners"))=true
 d_Schema_init:∃ fd,Fun K "__init__" "Schema.__init__" s_Schema_init (He.ma K (He.ga K "Schema") "__init__") fd
 d_Schema_rule:∃ fd,Fun K "rule" "Schema.rule" s_Schema_rule (He.ma K (He.ga K "Schema") "rule") fd
 d_Schema_ends:∃ fd,Fun K "ends" "Schema.ends" s_Schema_ends (He.ma K (He.ga K "Schema") "ends") fd
 d_Schema_owner:∃ fd,Fun K "owner" "Schema.owner" s_Schema_owner (He.ma K (He.ga K "Schema") "owner") fd
 d_Schema_eq:∃ fd,Fun K "__eq__" "Schema.__eq__" s_Schema_eq (He.ma K (He.ga K "Schema") "__eq__") fd
 g_write_schema:mg "write_schema" = some (.ref (He.ga K "write_schema"))
 d_write_schema:∃ fd,Fun K "write_schema" "write_schema" s_write_schema (He.ga K "write_schema") fd
 k_write_schema:PySem.W.keepIn K (.ref (He.ga K "write_schema"))=true
 g_read_kind:mg "read_kind" = some (.ref (He.ga K "read_kind"))
 d_read_kind:∃ fd,Fun K "read_kind" "read_kind" s_read_kind (He.ga K "read_kind") fd
 k_read_kind:PySem.W.keepIn K (.ref (He.ga K "read_kind"))=true
 g_read_link:mg "read_link" = some (.ref (He.ga K "read_link"))
 d_read_link:∃ fd,Fun K "read_link" "read_link" s_read_link (He.ga K "read_link") fd
 k_read_link:PySem.W.keepIn K (.ref (He.ga K "read_link"))=true
 g_read_guard:mg "read_guard" = some (.ref (He.ga K "read_guard"))
 d_read_guard:∃ fd,Fun K "read_guard" "read_guard" s_read_guard (He.ga K "read_guard") fd
 k_read_guard:PySem.W.keepIn K (.ref (He.ga K "read_guard"))=true
 g_read_lines:mg "read_lines" = some (.ref (He.ga K "read_lines"))
 d_read_lines:∃ fd,Fun K "read_lines" "read_lines" s_read_lines (He.ga K "read_lines") fd
 k_read_lines:PySem.W.keepIn K (.ref (He.ga K "read_lines"))=true
 g_read_schema:mg "read_schema" = some (.ref (He.ga K "read_schema"))
 d_read_schema:∃ fd,Fun K "read_schema" "read_schema" s_read_schema (He.ga K "read_schema") fd
 k_read_schema:PySem.W.keepIn K (.ref (He.ga K "read_schema"))=true
 g_law_pool:mg "_law_pool" = some (.ref (He.ga K "_law_pool"))
 d_law_pool:∃ fd,Fun K "_law_pool" "_law_pool" s_law_pool (He.ga K "_law_pool") fd
 k_law_pool:PySem.W.keepIn K (.ref (He.ga K "_law_pool"))=true
 g_law_draw:mg "_law_draw" = some (.ref (He.ga K "_law_draw"))
 d_law_draw:∃ fd,Fun K "_law_draw" "_law_draw" s_law_draw (He.ga K "_law_draw") fd
 k_law_draw:PySem.W.keepIn K (.ref (He.ga K "_law_draw"))=true
 g_law_word:mg "_law_word" = some (.ref (He.ga K "_law_word"))
 d_law_word:∃ fd,Fun K "_law_word" "_law_word" s_law_word (He.ga K "_law_word") fd
 k_law_word:PySem.W.keepIn K (.ref (He.ga K "_law_word"))=true
 g_law_schema:mg "_law_schema" = some (.ref (He.ga K "_law_schema"))
 d_law_schema:∃ fd,Fun K "_law_schema" "_law_schema" s_law_schema (He.ga K "_law_schema") fd
 k_law_schema:PySem.W.keepIn K (.ref (He.ga K "_law_schema"))=true
 g_law_text:mg "_law_text" = some (.ref (He.ga K "_law_text"))
 d_law_text:∃ fd,Fun K "_law_text" "_law_text" s_law_text (He.ga K "_law_text") fd
 k_law_text:PySem.W.keepIn K (.ref (He.ga K "_law_text"))=true
 g_law_told:mg "_law_told" = some (.ref (He.ga K "_law_told"))
 d_law_told:∃ fd,Fun K "_law_told" "_law_told" s_law_told (He.ga K "_law_told") fd
 k_law_told:PySem.W.keepIn K (.ref (He.ga K "_law_told"))=true
 g_law:mg "law" = some (.ref (He.ga K "law"))
 d_law:∃ fd,Fun K "law" "law" s_law (He.ga K "law") fd
 k_law:PySem.W.keepIn K (.ref (He.ga K "law"))=true
 g_Schema:mg "Schema" = some (.ref (He.ga K "Schema"))
 c_Schema:Cls K (He.ga K "Schema")
 x_Schema:ClsX K (He.ga K "Schema")
 sf_Schema:PySem.W.selfFirst K (He.ga K "Schema")=true
 mk_Schema:Mk K (He.ga K "Schema") (He.ma K (He.ga K "Schema") "__init__")
 ne_Schema:PySem.W.findIn K (.ref (He.ga K "Schema")) "__ne__" = some (some (.builtin "object.__ne__"))
 nf_Schema:∀ t∈ts_Schema,inCs css t∧PySem.W.notFirst K (He.ga K "Schema") (t.val K)=true
 m_Schema_rule:Meth K (He.ga K "Schema") "rule" (He.ma K (He.ga K "Schema") "rule")
 o_Schema_rule:Own K (He.ga K "Schema") "rule" (He.ma K (He.ga K "Schema") "rule")
 m_Schema_ends:Meth K (He.ga K "Schema") "ends" (He.ma K (He.ga K "Schema") "ends")
 o_Schema_ends:Own K (He.ga K "Schema") "ends" (He.ma K (He.ga K "Schema") "ends")
 m_Schema_owner:Meth K (He.ga K "Schema") "owner" (He.ma K (He.ga K "Schema") "owner")
 o_Schema_owner:Own K (He.ga K "Schema") "owner" (He.ma K (He.ga K "Schema") "owner")
 m_Schema_eq:Meth K (He.ga K "Schema") "__eq__" (He.ma K (He.ga K "Schema") "__eq__")
 o_Schema_eq:Own K (He.ga K "Schema") "__eq__" (He.ma K (He.ga K "Schema") "__eq__")
 cs:CsOk K css
 f_kind_entries:∀ c∈(["Schema"]:List Str),Cls K (He.ga K c)∧NoAttr K (He.ga K c) "kind_entries"
 f_link_entries:∀ c∈(["Schema"]:List Str),Cls K (He.ga K c)∧NoAttr K (He.ga K c) "link_entries"
 f_kinds:∀ c∈(["Schema"]:List Str),Cls K (He.ga K c)∧NoAttr K (He.ga K c) "kinds"
 f_links:∀ c∈(["Schema"]:List Str),Cls K (He.ga K c)∧NoAttr K (He.ga K c) "links"
 f_rules:∀ c∈(["Schema"]:List Str),Cls K (He.ga K c)∧NoAttr K (He.ga K c) "rules"
 f_spans:∀ c∈(["Schema"]:List Str),Cls K (He.ga K c)∧NoAttr K (He.ga K c) "spans"
 f_owners:∀ c∈(["Schema"]:List Str),Cls K (He.ga K c)∧NoAttr K (He.ga K c) "owners"
 f_kind_codes:∀ c∈(["Schema"]:List Str),Cls K (He.ga K c)∧NoAttr K (He.ga K c) "kind_codes"
 f_link_codes:∀ c∈(["Schema"]:List Str),Cls K (He.ga K c)∧NoAttr K (He.ga K c) "link_codes"
 is_Schema:∀ p∈ti_Schema,inCs css p.1∧PySem.W.kitOne K (p.1.val K) (.ref (He.ga K "Schema"))=some p.2
 is_str:∀ p∈ti_str,inCs css p.1∧PySem.W.kitOne K (p.1.val K) (.type "str")=some p.2
 xf_BadLine_number:PySem.W.findIn K (.ref (He.ga K "BadLine")) "number" = some none
 xf_BadPattern_name:PySem.W.findIn K (.ref (He.ga K "BadPattern")) "name" = some none
 xf_BadSchema_at:PySem.W.findIn K (.ref (He.ga K "BadSchema")) "at" = some none
 xf_Unknown_name:PySem.W.findIn K (.ref (He.ga K "Unknown")) "name" = some none
 g_BadLine:mg "BadLine" = some (.ref (He.ga K "BadLine"))
 g_BadPattern:mg "BadPattern" = some (.ref (He.ga K "BadPattern"))
 g_BadSchema:mg "BadSchema" = some (.ref (He.ga K "BadSchema"))
 g_Unknown:mg "Unknown" = some (.ref (He.ga K "Unknown"))
 e_BadSchema : Err K PySem.Challenge.pw_foundormade_k31_schemas_written.main.file (He.ga K "BadSchema") (He.ma K (He.ga K "BadSchema") "__init__") "BadSchema.__init__" s_BadSchema_init
 e_Unknown : Err K PySem.Challenge.pw_foundormade_k31_schemas_written.main.file (He.ga K "Unknown") (He.ma K (He.ga K "Unknown") "__init__") "Unknown.__init__" s_Unknown_init
 e_BadPattern : Err K PySem.Challenge.pw_foundormade_k31_schemas_written.main.file (He.ga K "BadPattern") (He.ma K (He.ga K "BadPattern") "__init__") "BadPattern.__init__" s_BadPattern_init
 e_BadLine : Err K PySem.Challenge.pw_foundormade_k31_schemas_written.main.file (He.ga K "BadLine") (He.ma K (He.ga K "BadLine") "__init__") "BadLine.__init__" s_BadLine_init
 z_super:mg "super" = none
 z_all:mg "all" = none
 z_enumerate:mg "enumerate" = none
 z_int:mg "int" = none
 z_isinstance:mg "isinstance" = none
 z_len:mg "len" = none
 z_list:mg "list" = none
 z_range:mg "range" = none
 z_str:mg "str" = none
 z_tuple:mg "tuple" = none
 v_LETTERS:∃ t,mg "LETTERS" = some (.str "abcdefghijklmnopqrstuvwxyz" t)
 g_GROUPS:mg "GROUPS" = some (.ref (He.ga K "GROUPS"))
 kt_GROUPS:Fm.KTab K w (He.ga K "GROUPS") [("kind",0),("link",1),("find",2),("make",2),("both",2),("guard",3)]
end Lw
namespace Lw
open PySem PySem.Spec PyProof.Rows L2 Fm Am
open PySem.W (Datum Tup T3 T4)
def fa:List (PySem.W.Frag→Bool) := [fun K=>(He.Fa.glo "is_word").ok K,
 fun K=>(He.Fa.glo "check_names").ok K,
 fun K=>(He.Fa.glo "check_owners").ok K,
 fun K=>(He.Fa.glo "write_schema").ok K,
 fun K=>(He.Fa.glo "read_kind").ok K,
 fun K=>(He.Fa.glo "read_link").ok K,
 fun K=>(He.Fa.glo "read_guard").ok K,
 fun K=>(He.Fa.glo "read_lines").ok K,
 fun K=>(He.Fa.glo "read_schema").ok K,
 fun K=>(He.Fa.glo "_law_pool").ok K,
 fun K=>(He.Fa.glo "_law_draw").ok K,
 fun K=>(He.Fa.glo "_law_word").ok K,
 fun K=>(He.Fa.glo "_law_schema").ok K,
 fun K=>(He.Fa.glo "_law_text").ok K,
 fun K=>(He.Fa.glo "_law_told").ok K,
 fun K=>(He.Fa.glo "law").ok K,
 fun K=>(He.Fa.glo "Schema").ok K,
 fun K=>(He.Fa.cls "Schema").ok K,
 fun K=>clsXB K (He.ga K "Schema"),
 fun K=>PySem.W.selfFirst K (He.ga K "Schema"),
 fun K=>(He.Fa.mkr "Schema").ok K,
 fun K=>He.eqO (PySem.W.findIn K (.ref (He.ga K "Schema")) "__ne__") (some (some (.builtin "object.__ne__"))),
 fun K=>nfTab K (He.ga K "Schema") ts_Schema,
 fun K=>(He.Fa.meth "Schema" "rule").ok K,
 fun K=>(He.Fa.meth "Schema" "ends").ok K,
 fun K=>(He.Fa.meth "Schema" "owner").ok K,
 fun K=>(He.Fa.meth "Schema" "__eq__").ok K,
 fun K=>(He.Fa.noat "Schema" "kind_entries").ok K,
 fun K=>(He.Fa.noat "Schema" "link_entries").ok K,
 fun K=>(He.Fa.noat "Schema" "kinds").ok K,
 fun K=>(He.Fa.noat "Schema" "links").ok K,
 fun K=>(He.Fa.noat "Schema" "rules").ok K,
 fun K=>(He.Fa.noat "Schema" "spans").ok K,
 fun K=>(He.Fa.noat "Schema" "owners").ok K,
 fun K=>(He.Fa.noat "Schema" "kind_codes").ok K,
 fun K=>(He.Fa.noat "Schema" "link_codes").ok K,
 fun K=>isTab K (.ref (He.ga K "Schema")) ti_Schema,
 fun K=>isTab K (.type "str") ti_str,
 fun K=>He.eqO (PySem.W.findIn K (.ref (He.ga K "BadLine")) "number") (some none),
 fun K=>He.eqO (PySem.W.findIn K (.ref (He.ga K "BadPattern")) "name") (some none),
 fun K=>He.eqO (PySem.W.findIn K (.ref (He.ga K "BadSchema")) "at") (some none),
 fun K=>He.eqO (PySem.W.findIn K (.ref (He.ga K "Unknown")) "name") (some none),
 fun K=>(He.Fa.glo "BadLine").ok K,
 fun K=>(He.Fa.glo "BadPattern").ok K,
 fun K=>(He.Fa.glo "BadSchema").ok K,
 fun K=>(He.Fa.glo "Unknown").ok K,
 fun K=>(He.Fa.free "super").ok K,
 fun K=>(He.Fa.free "all").ok K,
 fun K=>(He.Fa.free "enumerate").ok K,
 fun K=>(He.Fa.free "int").ok K,
 fun K=>(He.Fa.free "isinstance").ok K,
 fun K=>(He.Fa.free "len").ok K,
 fun K=>(He.Fa.free "list").ok K,
 fun K=>(He.Fa.free "range").ok K,
 fun K=>(He.Fa.free "str").ok K,
 fun K=>(He.Fa.free "tuple").ok K,
 fun K=>(He.Fa.str "LETTERS" "abcdefghijklmnopqrstuvwxyz").ok K,
 fun K=>(He.Fa.glo "GROUPS").ok K,
 fun K=>Fm.tabIB K (He.ga K "GROUPS") [("kind",0),("link",1),("find",2),("make",2),("both",2),("guard",3)]]
def fn:List He5.DefA := [⟨fun K=>(He.ga K "is_word"),"is_word","is_word",defArgs s_is_word,defBody s_is_word,defScope s_is_word,[],[]⟩,
 ⟨fun K=>(He.ga K "check_names"),"check_names","check_names",defArgs s_check_names,defBody s_check_names,defScope s_check_names,[],[]⟩,
 ⟨fun K=>(He.ga K "check_owners"),"check_owners","check_owners",defArgs s_check_owners,defBody s_check_owners,defScope s_check_owners,[],[]⟩,
 ⟨fun K=>(He.ma K (He.ga K "Schema") "__init__"),"__init__","Schema.__init__",defArgs s_Schema_init,defBody s_Schema_init,defScope s_Schema_init,[],[]⟩,
 ⟨fun K=>(He.ma K (He.ga K "Schema") "rule"),"rule","Schema.rule",defArgs s_Schema_rule,defBody s_Schema_rule,defScope s_Schema_rule,[],[]⟩,
 ⟨fun K=>(He.ma K (He.ga K "Schema") "ends"),"ends","Schema.ends",defArgs s_Schema_ends,defBody s_Schema_ends,defScope s_Schema_ends,[],[]⟩,
 ⟨fun K=>(He.ma K (He.ga K "Schema") "owner"),"owner","Schema.owner",defArgs s_Schema_owner,defBody s_Schema_owner,defScope s_Schema_owner,[],[]⟩,
 ⟨fun K=>(He.ma K (He.ga K "Schema") "__eq__"),"__eq__","Schema.__eq__",defArgs s_Schema_eq,defBody s_Schema_eq,defScope s_Schema_eq,[],[]⟩,
 ⟨fun K=>(He.ga K "write_schema"),"write_schema","write_schema",defArgs s_write_schema,defBody s_write_schema,defScope s_write_schema,[],[]⟩,
 ⟨fun K=>(He.ga K "read_kind"),"read_kind","read_kind",defArgs s_read_kind,defBody s_read_kind,defScope s_read_kind,[],[]⟩,
 ⟨fun K=>(He.ga K "read_link"),"read_link","read_link",defArgs s_read_link,defBody s_read_link,defScope s_read_link,[],[]⟩,
 ⟨fun K=>(He.ga K "read_guard"),"read_guard","read_guard",defArgs s_read_guard,defBody s_read_guard,defScope s_read_guard,[],[]⟩,
 ⟨fun K=>(He.ga K "read_lines"),"read_lines","read_lines",defArgs s_read_lines,defBody s_read_lines,defScope s_read_lines,[],[]⟩,
 ⟨fun K=>(He.ga K "read_schema"),"read_schema","read_schema",defArgs s_read_schema,defBody s_read_schema,defScope s_read_schema,[],[]⟩,
 ⟨fun K=>(He.ga K "_law_pool"),"_law_pool","_law_pool",defArgs s_law_pool,defBody s_law_pool,defScope s_law_pool,[],[]⟩,
 ⟨fun K=>(He.ga K "_law_draw"),"_law_draw","_law_draw",defArgs s_law_draw,defBody s_law_draw,defScope s_law_draw,[],[]⟩,
 ⟨fun K=>(He.ga K "_law_word"),"_law_word","_law_word",defArgs s_law_word,defBody s_law_word,defScope s_law_word,[],[]⟩,
 ⟨fun K=>(He.ga K "_law_schema"),"_law_schema","_law_schema",defArgs s_law_schema,defBody s_law_schema,defScope s_law_schema,[],[]⟩,
 ⟨fun K=>(He.ga K "_law_text"),"_law_text","_law_text",defArgs s_law_text,defBody s_law_text,defScope s_law_text,[],[]⟩,
 ⟨fun K=>(He.ga K "_law_told"),"_law_told","_law_told",defArgs s_law_told,defBody s_law_told,defScope s_law_told,[],[]⟩,
 ⟨fun K=>(He.ga K "law"),"law","law",defArgs s_law,defBody s_law,defScope s_law,[],[]⟩]
def fe : List DefE := [⟨fun K => He.ga K "BadSchema","BadSchema.__init__",s_BadSchema_init,PySem.Challenge.pw_foundormade_k31_schemas_written.main.file⟩,
 ⟨fun K => He.ga K "Unknown","Unknown.__init__",s_Unknown_init,PySem.Challenge.pw_foundormade_k31_schemas_written.main.file⟩,
 ⟨fun K => He.ga K "BadPattern","BadPattern.__init__",s_BadPattern_init,PySem.Challenge.pw_foundormade_k31_schemas_written.main.file⟩,
 ⟨fun K => He.ga K "BadLine","BadLine.__init__",s_BadLine_init,PySem.Challenge.pw_foundormade_k31_schemas_written.main.file⟩]
abbrev R : PySem.W.OpenRow := PySem.W.OpenLaw.row PySem.Challenge.rw_foundormade_k31_schemas_written
def ts:List Fm.TabX := [(fun K=>He.ga K "GROUPS",["kind","link","find","make","both","guard"])]
abbrev hk:PySem.W.Hook := Fm.hookX 6 fa fn fe ts
def ob (s:PySem.W.SharedT):Fm.AlX := Fm.obsXG 6 fa fn fe ts (HandSHeadRun.getT s)
theorem an_t {a b:Bool} (h:a=true) (k:b=true):(a && b)=true := by rw [h,k]; rfl
theorem topK:R.wellSaid=true := by
 unfold PySem.W.OpenRow.wellSaid PySem.W.OpenRow.partSaid PySem.W.looksOpen
 repeat' (with_reducible refine an_t ?_ ?_)
 all_goals decide +kernel
theorem topW:R.prog.tablesWhole=true := by decide +kernel
theorem ob_eq (s:PySem.W.SharedT):ob s=hk.obs s.abs := Fm.obsXG_eq (HandSHeadRun.getT_eq s)
theorem topL : PySem.W.OpenLaw.wellSaid PySem.Challenge.rw_foundormade_k31_schemas_written = true := by
 unfold PySem.W.OpenLaw.wellSaid
 repeat' (with_reducible refine an_t ?_ ?_)
 ·exact topK
 all_goals decide +kernel
def names:List PySem.Str := [("FoundError":PySem.Str),("BadSchema":PySem.Str),("Unknown":PySem.Str),("BadPattern":PySem.Str),("BadLine":PySem.Str),("LETTERS":PySem.Str),("is_word":PySem.Str),("check_names":PySem.Str),("check_owners":PySem.Str),("Schema":PySem.Str),("clash":PySem.Str),("kept_ends":PySem.Str),("Pattern":PySem.Str),("Statement":PySem.Str),("GROUPS":PySem.Str),("COLUMNS":PySem.Str),("write_schema":PySem.Str),("read_kind":PySem.Str),("read_link":PySem.Str),("read_guard":PySem.Str),("read_statement":PySem.Str),("read_lines":PySem.Str),("read_schema":PySem.Str),("_law_pool":PySem.Str),("_law_draw":PySem.Str),("_law_word":PySem.Str),("_law_schema":PySem.Str),("_law_text":PySem.Str),("_law_told":PySem.Str)]
abbrev kF (s:PySem.W.SharedT):PySem.W.Frag := He.frG (HandSHeadRun.getT s) (asE (HandSHeadRun.getT s) 6)
noncomputable abbrev endX (w:World) (os:OsState):Option PySem.W.SharedT := HandSHeadRun.endF (HandSHeadRun.stepQ (HandSHeadRun.denQ HandSHeadRun.tabQ) R.prog w) 12000 R.prog w os
theorem fl_ (P:World→Prop) (h:∀ (b:Bool) (w:World),P (w.withFollow "special-get-raises" b)) (w:World):P w := by
 have := h (w.params.followText "special-get-raises") w
 rwa [World.withFollow_self] at this
theorem runA (w:World) (os:OsState):(endX w os).map (fun s=>HandSHeadRun.looksF R.prog (PySem.W.boot_heap w.params) s.abs)=some true :=
 fl_ (fun w=>∀ os:OsState,(endX w os).map (fun s=>HandSHeadRun.looksF R.prog (PySem.W.boot_heap w.params) s.abs)=some true) (fun b w os=>by cases b <;> kernel_rfl) w os
theorem runS (w:World) (os:OsState):(endX w os).map (fun s=>HandSHeadRun.seenQ (PySem.W.view R.prog [35]) names (importedModules R.prog.main.body) (fun s=>PySem.W.xlAt (PySem.W.view R.prog [35]) [] s && PySem.W.recOk R.records s) s.abs)=some (PySem.W.openGood (PySem.W.view R.prog [35]) names) :=
 fl_ (fun w=>∀ os:OsState,(endX w os).map (fun s=>HandSHeadRun.seenQ (PySem.W.view R.prog [35]) names (importedModules R.prog.main.body) (fun s=>PySem.W.xlAt (PySem.W.view R.prog [35]) [] s && PySem.W.recOk R.records s) s.abs)=some (PySem.W.openGood (PySem.W.view R.prog [35]) names)) (fun b w os=>by cases b <;> kernel_rfl) w os
theorem runB (w:World) (os:OsState):(endX w os).map (fun s=>(fa.take (fa.length / 2)).all fun f=>f (kF s))=some true :=
 fl_ (fun w=>∀ os:OsState,(endX w os).map (fun s=>(fa.take (fa.length / 2)).all fun f=>f (kF s))=some true) (fun b w os=>by cases b <;> kernel_rfl) w os
theorem runB2 (w:World) (os:OsState):(endX w os).map (fun s=>(fa.drop (fa.length / 2)).all fun f=>f (kF s))=some true :=
 fl_ (fun w=>∀ os:OsState,(endX w os).map (fun s=>(fa.drop (fa.length / 2)).all fun f=>f (kF s))=some true) (fun b w os=>by cases b <;> kernel_rfl) w os
theorem runC (w:World) (os:OsState):(endX w os).map (fun s=>(fn.take (fn.length / 2)).all fun d=>d.ok (kF s))=some true :=
 fl_ (fun w=>∀ os:OsState,(endX w os).map (fun s=>(fn.take (fn.length / 2)).all fun d=>d.ok (kF s))=some true) (fun b w os=>by cases b <;> kernel_rfl) w os
theorem runC2 (w:World) (os:OsState):(endX w os).map (fun s=>(fn.drop (fn.length / 2)).all fun d=>d.ok (kF s))=some true :=
 fl_ (fun w=>∀ os:OsState,(endX w os).map (fun s=>(fn.drop (fn.length / 2)).all fun d=>d.ok (kF s))=some true) (fun b w os=>by cases b <;> kernel_rfl) w os
theorem runE (w:World) (os:OsState):(endX w os).map (fun s=>fe.all fun d=>d.ok (kF s))=some true :=
 fl_ (fun w=>∀ os:OsState,(endX w os).map (fun s=>fe.all fun d=>d.ok (kF s))=some true) (fun b w os=>by cases b <;> kernel_rfl) w os
theorem runD (w:World) (os:OsState):(endX w os).map (fun s=>(fn.map fun d=>He5.fnA (kF s) (d.at_ (kF s))) ++ fe.map fun d=>fnE (kF s) (d.at_ (kF s)))=some (fn.map He5.DefA.val ++ fe.map DefE.val) :=
 fl_ (fun w=>∀ os:OsState,(endX w os).map (fun s=>(fn.map fun d=>He5.fnA (kF s) (d.at_ (kF s))) ++ fe.map fun d=>fnE (kF s) (d.at_ (kF s)))=some (fn.map He5.DefA.val ++ fe.map DefE.val)) (fun b w os=>by cases b <;> kernel_rfl) w os
theorem runT (w:World) (os:OsState):(endX w os).map (fun s=>ts.map fun t=>He.dicW (kF s) (t.1 (kF s)))=some (ts.map fun t=>some (He.keysIn w.params t.2)) :=
 fl_ (fun w=>∀ os:OsState,(endX w os).map (fun s=>ts.map fun t=>He.dicW (kF s) (t.1 (kF s)))=some (ts.map fun t=>some (He.keysIn w.params t.2))) (fun b w os=>by cases b <;> kernel_rfl) w os
theorem o_join {α β γ:Type} {X:Option α} {f:α→β} {g:α→γ} {x:β} {y:γ} (a:X.map f=some x) (b:X.map g=some y):X.map (fun s=>(f s,g s))=some (x,y) := by
 cases X with
 | none=>cases a
 | some s =>
  have a1:f s=x := Option.some.inj a
  have b1:g s=y := Option.some.inj b
  show some (f s,g s)=_
  rw [a1,b1]
theorem o_ob {X:Option PySem.W.SharedT} {w:World} {n m:Nat} (b1:X.map (fun s=>(fa.take n).all fun f=>f (kF s))=some true) (b2:X.map (fun s=>(fa.drop n).all fun f=>f (kF s))=some true) (c:X.map (fun s=>(fn.take m).all fun d=>d.ok (kF s))=some true) (c2:X.map (fun s=>(fn.drop m).all fun d=>d.ok (kF s))=some true) (c3:X.map (fun s=>fe.all fun d=>d.ok (kF s))=some true) (d:X.map (fun s=>(fn.map fun d=>He5.fnA (kF s) (d.at_ (kF s))) ++ fe.map fun d=>fnE (kF s) (d.at_ (kF s)))=some (fn.map He5.DefA.val ++ fe.map DefE.val)) (tt:X.map (fun s=>ts.map fun t=>He.dicW (kF s) (t.1 (kF s)))=some (ts.map fun t=>some (He.keysIn w.params t.2))):X.map ob=some (Fm.valX fn fe ts w) := by
 cases X with
 | none=>cases b1
 | some s =>
  have b1:((fa.take n).all fun f=>f (kF s))=true := Option.some.inj b1
  have b2:((fa.drop n).all fun f=>f (kF s))=true := Option.some.inj b2
  have c1:((fn.take m).all fun d=>d.ok (kF s))=true := Option.some.inj c
  have c2:((fn.drop m).all fun d=>d.ok (kF s))=true := Option.some.inj c2
  have c3:(fe.all fun d=>d.ok (kF s))=true := Option.some.inj c3
  have ef:(fn.all fun d=>d.ok (kF s))=true := by rw [← List.take_append_drop m fn,List.all_append,c1,c2]; rfl
  have d1 := Option.some.inj d
  have e:(fa.all fun f=>f (kF s))=true := by rw [← List.take_append_drop n fa,List.all_append,b1,b2]; rfl
  have t1:(ts.map fun t=>He.dicW (kF s) (t.1 (kF s)))=ts.map fun t=>some (He.keysIn w.params t.2) := Option.some.inj tt
  show some (((((fa.all fun f=>f (kF s)) && fn.all fun d=>d.ok (kF s)) && fe.all fun d=>d.ok (kF s)),(fn.map fun d=>He5.fnA (kF s) (d.at_ (kF s))) ++ fe.map fun d=>fnE (kF s) (d.at_ (kF s))),(ts.map fun t=>He.dicW (kF s) (t.1 (kF s))))=some ((true,fn.map He5.DefA.val ++ fe.map DefE.val),_)
  rw [e,ef,c3,t1]
  exact congrArg (fun z=>some ((true,z),_)) d1
theorem run (w:World):HandSHeadRun.RunEq R (PySem.W.view R.prog [35]) hk ob 12000 names w := by
 intro os
 exact o_join (runA w os) (o_join (runS w os) (o_ob (runB w os) (runB2 w os) (runC w os) (runC2 w os) (runE w os) (runD w os) (runT w os)))
open PySem.W PySem.Calls in
theorem topH (call:PySem.W.WalkO (PySem.W.view R.prog [35]) names (PySem.W.XL (PySem.W.view R.prog [35]) []) hk.says R.toRowW (HandSHeadRun.topDef R.prog 35) [] fun f vs=>PySem.call f vs):R.Holds := by
 refine HandSHeadRun.head_any (r := R) (q := PySem.W.view R.prog [35]) (H := hk) (ob := ob) (M := 12000) (loose := names) (d := HandSHeadRun.topDef R.prog 35) (kwd := []) ob_eq
  (by kernel_rfl) (fun s=>by kernel_rfl) run (by kernel_rfl) (by kernel_rfl) (by kernel_rfl) (by rfl) topK (by decide +kernel) ⟨rfl,rfl,rfl,rfl,rfl,topW⟩ ?hw call
 case hw=>w_witness2
theorem topDf:(HandSHeadRun.topDef R.prog 35).params.defaults=[] := by kernel_rfl
theorem topNm:(HandSHeadRun.topDef R.prog 35).name=("law":PySem.Str) := by kernel_rfl
theorem txt_of {K:PySem.W.Frag} {h:Heap} {mg:Str→Option Value} (X:K.In h) {w:World} (G:h.Ns mainGlobals mg) (cx:Fm.obsX fa fn fe ts K=Fm.valX fn fe ts w):Txt K mg w :=
 have ce := Fm.toX cx
 have c := toB ce
 ⟨He.glo_ok X G (factB c 0),
  defF (fun K=>(He.ga K "is_word")) c 0,
  defK (fun K=>(He.ga K "is_word")) s_is_word "is_word" "is_word" c 0,
  He.glo_ok X G (factB c 1),
  defF (fun K=>(He.ga K "check_names")) c 1,
  defK (fun K=>(He.ga K "check_names")) s_check_names "check_names" "check_names" c 1,
  He.glo_ok X G (factB c 2),
  defF (fun K=>(He.ga K "check_owners")) c 2,
  defK (fun K=>(He.ga K "check_owners")) s_check_owners "check_owners" "check_owners" c 2,
  defF (fun K=>(He.ma K (He.ga K "Schema") "__init__")) c 3,
  defF (fun K=>(He.ma K (He.ga K "Schema") "rule")) c 4,
  defF (fun K=>(He.ma K (He.ga K "Schema") "ends")) c 5,
  defF (fun K=>(He.ma K (He.ga K "Schema") "owner")) c 6,
  defF (fun K=>(He.ma K (He.ga K "Schema") "__eq__")) c 7,
  He.glo_ok X G (factB c 3),
  defF (fun K=>(He.ga K "write_schema")) c 8,
  defK (fun K=>(He.ga K "write_schema")) s_write_schema "write_schema" "write_schema" c 8,
  He.glo_ok X G (factB c 4),
  defF (fun K=>(He.ga K "read_kind")) c 9,
  defK (fun K=>(He.ga K "read_kind")) s_read_kind "read_kind" "read_kind" c 9,
  He.glo_ok X G (factB c 5),
  defF (fun K=>(He.ga K "read_link")) c 10,
  defK (fun K=>(He.ga K "read_link")) s_read_link "read_link" "read_link" c 10,
  He.glo_ok X G (factB c 6),
  defF (fun K=>(He.ga K "read_guard")) c 11,
  defK (fun K=>(He.ga K "read_guard")) s_read_guard "read_guard" "read_guard" c 11,
  He.glo_ok X G (factB c 7),
  defF (fun K=>(He.ga K "read_lines")) c 12,
  defK (fun K=>(He.ga K "read_lines")) s_read_lines "read_lines" "read_lines" c 12,
  He.glo_ok X G (factB c 8),
  defF (fun K=>(He.ga K "read_schema")) c 13,
  defK (fun K=>(He.ga K "read_schema")) s_read_schema "read_schema" "read_schema" c 13,
  He.glo_ok X G (factB c 9),
  defF (fun K=>(He.ga K "_law_pool")) c 14,
  defK (fun K=>(He.ga K "_law_pool")) s_law_pool "_law_pool" "_law_pool" c 14,
  He.glo_ok X G (factB c 10),
  defF (fun K=>(He.ga K "_law_draw")) c 15,
  defK (fun K=>(He.ga K "_law_draw")) s_law_draw "_law_draw" "_law_draw" c 15,
  He.glo_ok X G (factB c 11),
  defF (fun K=>(He.ga K "_law_word")) c 16,
  defK (fun K=>(He.ga K "_law_word")) s_law_word "_law_word" "_law_word" c 16,
  He.glo_ok X G (factB c 12),
  defF (fun K=>(He.ga K "_law_schema")) c 17,
  defK (fun K=>(He.ga K "_law_schema")) s_law_schema "_law_schema" "_law_schema" c 17,
  He.glo_ok X G (factB c 13),
  defF (fun K=>(He.ga K "_law_text")) c 18,
  defK (fun K=>(He.ga K "_law_text")) s_law_text "_law_text" "_law_text" c 18,
  He.glo_ok X G (factB c 14),
  defF (fun K=>(He.ga K "_law_told")) c 19,
  defK (fun K=>(He.ga K "_law_told")) s_law_told "_law_told" "_law_told" c 19,
  He.glo_ok X G (factB c 15),
  defF (fun K=>(He.ga K "law")) c 20,
  defK (fun K=>(He.ga K "law")) s_law "law" "law" c 20,
  He.glo_ok X G (factB c 16),
  He.cls_ok (factB c 17),
  clsXB_ok (factB c 18),
  factB c 19,
  He.mkr_ok (factB c 20),
  He.eqO_ok (factB c 21),
  nfTab_ok (cs := css) (by decide +kernel) (factB c 22),
  He.meth_ok (factB c 23),
  own_of (He.meth_ok (factB c 23)),
  He.meth_ok (factB c 24),
  own_of (He.meth_ok (factB c 24)),
  He.meth_ok (factB c 25),
  own_of (He.meth_ok (factB c 25)),
  He.meth_ok (factB c 26),
  own_of (He.meth_ok (factB c 26)),
  (List.forall_mem_cons.mpr ⟨⟨He.cls_ok (factB c 17),clsXB_ok (factB c 18)⟩,(fun c hc=>nomatch hc)⟩),
  (List.forall_mem_cons.mpr ⟨⟨He.cls_ok (factB c 17),He.noat_ok (factB c 27)⟩,(fun c hc=>nomatch hc)⟩),
  (List.forall_mem_cons.mpr ⟨⟨He.cls_ok (factB c 17),He.noat_ok (factB c 28)⟩,(fun c hc=>nomatch hc)⟩),
  (List.forall_mem_cons.mpr ⟨⟨He.cls_ok (factB c 17),He.noat_ok (factB c 29)⟩,(fun c hc=>nomatch hc)⟩),
  (List.forall_mem_cons.mpr ⟨⟨He.cls_ok (factB c 17),He.noat_ok (factB c 30)⟩,(fun c hc=>nomatch hc)⟩),
  (List.forall_mem_cons.mpr ⟨⟨He.cls_ok (factB c 17),He.noat_ok (factB c 31)⟩,(fun c hc=>nomatch hc)⟩),
  (List.forall_mem_cons.mpr ⟨⟨He.cls_ok (factB c 17),He.noat_ok (factB c 32)⟩,(fun c hc=>nomatch hc)⟩),
  (List.forall_mem_cons.mpr ⟨⟨He.cls_ok (factB c 17),He.noat_ok (factB c 33)⟩,(fun c hc=>nomatch hc)⟩),
  (List.forall_mem_cons.mpr ⟨⟨He.cls_ok (factB c 17),He.noat_ok (factB c 34)⟩,(fun c hc=>nomatch hc)⟩),
  (List.forall_mem_cons.mpr ⟨⟨He.cls_ok (factB c 17),He.noat_ok (factB c 35)⟩,(fun c hc=>nomatch hc)⟩),
  isTab_ok (cs := css) (by decide +kernel) (factB c 36),
  isTab_ok (cs := css) (by decide +kernel) (factB c 37),
  He.eqO_ok (factB c 38),
  He.eqO_ok (factB c 39),
  He.eqO_ok (factB c 40),
  He.eqO_ok (factB c 41),
  He.glo_ok X G (factB c 42),
  He.glo_ok X G (factB c 43),
  He.glo_ok X G (factB c 44),
  He.glo_ok X G (factB c 45),
  toE ce 0,
  toE ce 1,
  toE ce 2,
  toE ce 3,
  He.free_ok X G (factB c 46),
  He.free_ok X G (factB c 47),
  He.free_ok X G (factB c 48),
  He.free_ok X G (factB c 49),
  He.free_ok X G (factB c 50),
  He.free_ok X G (factB c 51),
  He.free_ok X G (factB c 52),
  He.free_ok X G (factB c 53),
  He.free_ok X G (factB c 54),
  He.free_ok X G (factB c 55),
  He.str_ok X G (factB c 56),
  He.glo_ok X G (factB c 57),
  ⟨Fm.toT cx 0,factB c 58⟩⟩
end Lw
namespace Lw
open PySem PySem.Spec PyProof.Rows L2 Fm Am
open PySem.W (Datum Tup T3 T4)
section
variable {P:Program} {w:World} {K:PySem.W.Frag} {mg:Str→Option Value} {base:Heap}
theorem wk_is_word (T:Txt K mg w):WkP P w K mg base N_is_word "is_word" s_is_word (He.ga K "is_word") 0 b_is_word := wk_in fun cdv A outer s H E hr tk hx po=>by
 unfold b_is_word
 exact (pss_one (rr (ae_and (Am.PE.weak (pe_callB call_isi (by rfl) T.z_isinstance (by decide +kernel) (pa_cons (q0 0) (pa_cons (pe_bltn (v := .ty "str") (by rfl) T.z_str (by decide +kernel) rfl) pa_nil))) (c_isi T.cs (.ty _) T.is_str)) (ae_and (ae_chain op_leA op_leA os_le os_le q1 (ql T.z_len (qa (q0 0))) q1) (pe_one (Am.PE.weak (pe_callB (call_allA rfl) (by rfl) T.z_all (by decide +kernel) (qa (Am.PE.weak (pe_lc (own := [("sign",1)]) rfl sc_is_word.nd (PI.weak (pi_seq (q0 0)) c_seq) (blkOk_by (own := [("sign",1)]) (N := N_is_word) (sc := defScope s_is_word) (by decide +kernel)) (fun _ _ _ _ _=>(qg 1 sc_is_word rfl)) (fun _ _ _ _ _=>(PTs.weak pts_nil c_yes)) (fun _ _ _ _ _=>(ae_cmp (op_inP (units65 hr)) os_in (q0 1) (ae_c (fun _=>.str _) (pe_const_str T.v_LETTERS (by rfl))) rfl))) (c_lc tg_name (by decide))))) (c_cb cs_all)))))))
theorem wk_check_names (T:Txt K mg w) (G_is_word:GX P w K mg base 1 (He.ga K "is_word") m_is_word) (E_BadSchema:FnR P w K mg base CX0 1 (He.ma K (He.ga K "BadSchema") "__init__") (spE1 (He.ga K "BadSchema") "at")):WkP P w K mg base N_check_names "check_names" s_check_names (He.ga K "check_names") 2 b_check_names := wk_in fun cdv A outer s H E hr tk hx po=>by
 unfold b_check_names
 exact (rb (rs 2 sc_check_names rfl (ae_lstM aa_nil))
(ra (ps_for po rfl (PI.weak (pi_enum (by rfl) T.z_enumerate (qa (q0 0))) c_enum) (pg_tup rfl (pgs_cons (qg 3 sc_check_names rfl) (pgs_cons (pg_tup rfl (pgs_cons (qg 4 sc_check_names rfl) (pgs_cons (qg 5 sc_check_names rfl) (pgs_cons (qg 6 sc_check_names rfl) pgs_nil)))) pgs_nil))) (rb (rj (PW.pt (aw_or (at_not (at_val (qk G_is_word hx hr T.g_is_word T.k_is_word (qa (q0 4))))) (pw_or1 (at_cmp (op_inP (units65 hr)) os_in (q0 4) (q0 2) rfl)))) (pss_one (Am.PS.weak (ps_rz rfl tk T.e_BadSchema E_BadSchema (hr.mono (by decide)) (by rfl) T.g_BadSchema (pa_cons (q0 3) pa_nil)) c_rz1)))
(rb (rj (PW.pt (aw_or (at_cmp (op_notInP (units65 hr)) os_in (q0 5) (ae_tup (qc q2 q2 (qa q2))) rfl) (pw_or1 (qn hr.units (ae_cmp op_isNA os_isN (q0 6) (ae_c (fun _=>.non) pe_non) (nomark _)) (ae_cmp (op_neP hr.units) os_ne (q0 5) q2 (nomark _)))))) (pss_one (Am.PS.weak (ps_rz rfl tk T.e_BadSchema E_BadSchema (hr.mono (by decide)) (by rfl) T.g_BadSchema (pa_cons (q0 3) pa_nil)) c_rz1)))
(pss_one (rd (qp (q0 2) (qa (q0 4)))))))) (c_for (tg_tup (tgs_cons tg_name (tgs_cons (tg_tup (tgs_cons tg_name (tgs_cons tg_name (tgs_cons tg_name tgs_nil)))) tgs_nil))))
(rb (rs 7 sc_check_names rfl (Am.PE.weak (pe_callTy call_listA (by rfl) T.z_list (by decide +kernel) (qa (q0 2))) (c_cb cs_list)))
(pss_one (Am.PS.weak (ps_for po rfl (PI.weak (pi_enum (by rfl) T.z_enumerate (qa (q0 1))) c_enum) (pg_tup rfl (pgs_cons (qg 3 sc_check_names rfl) (pgs_cons (pg_tup rfl (pgs_cons (qg 4 sc_check_names rfl) (pgs_cons (qg 8 sc_check_names rfl) (pgs_cons (qg 9 sc_check_names rfl) (pgs_cons (qg 5 sc_check_names rfl) pgs_nil))))) pgs_nil))) (rb (rj (PW.pt (aw_or (at_not (at_val (qk G_is_word hx hr T.g_is_word T.k_is_word (qa (q0 4))))) (aw_or (at_cmp (op_inP (units65 hr)) os_in (q0 4) (q0 2) rfl) (pw_or1 (at_cmp (op_notInP (units65 hr)) os_in (q0 5) (ae_tup (qb q2 q2)) rfl))))) (pss_one (Am.PS.weak (ps_rz rfl tk T.e_BadSchema E_BadSchema (hr.mono (by decide)) (by rfl) T.g_BadSchema (pa_cons (ae_op op_addA os_add (ql T.z_len (qa (q0 0))) (q0 3)) pa_nil)) c_rz1)))
(rb (rj (PW.pt (aw_or (at_cmp (op_notInP (units65 hr)) os_in (q0 8) (q0 7) rfl) (pw_or1 (at_cmp (op_notInP (units65 hr)) os_in (q0 9) (q0 7) rfl)))) (pss_one (Am.PS.weak (ps_rz rfl tk T.e_BadSchema E_BadSchema (hr.mono (by decide)) (by rfl) T.g_BadSchema (pa_cons (ae_op op_addA os_add (ql T.z_len (qa (q0 0))) (q0 3)) pa_nil)) c_rz1)))
(pss_one (rd (qp (q0 2) (qa (q0 4)))))))) (c_for (tg_tup (tgs_cons tg_name (tgs_cons (tg_tup (tgs_cons tg_name (tgs_cons tg_name (tgs_cons tg_name (tgs_cons tg_name tgs_nil))))) tgs_nil)))))))))
theorem wk_check_owners (T:Txt K mg w) (E_BadSchema:FnR P w K mg base CX0 1 (He.ma K (He.ga K "BadSchema") "__init__") (spE1 (He.ga K "BadSchema") "at")):WkP P w K mg base N_check_owners "check_owners" s_check_owners (He.ga K "check_owners") 2 b_check_owners := wk_in fun cdv A outer s H E hr tk hx po=>by
 unfold b_check_owners
 exact (ra (ps_setDc (i := 2) (own := [("name",4),("rule",5),("owner",6)]) rfl sc_check_owners.nd rfl rfl (sw_trueD rfl rfl rfl (by decide +kernel)) (PI.weak (pi_seq (q0 0)) c_seq) (blkOk_by (own := [("name",4),("rule",5),("owner",6)]) (N := N_check_owners) (sc := defScope s_check_owners) (by decide +kernel)) (fun _ _ _ _ _=>(pg_tup rfl (pgs_cons (qg 4 sc_check_owners rfl) (pgs_cons (qg 5 sc_check_owners rfl) (pgs_cons (qg 6 sc_check_owners rfl) pgs_nil))))) (fun _ _ _ _ _=>(PTs.weak pts_nil c_yes)) (fun _ _ _ _ _=>(q0 4)) (fun _ _ _ _ _=>(q0 5))) (c_setX (c_dc (tg_tup (tgs_cons tg_name (tgs_cons tg_name (tgs_cons tg_name tgs_nil)))) (by decide)) tg_name)
(pss_one (Am.PS.weak (ps_for po rfl (PI.weak (pi_enum (by rfl) T.z_enumerate (qa (q0 0))) c_enum) (pg_tup rfl (pgs_cons (qg 3 sc_check_owners rfl) (pgs_cons (pg_tup rfl (pgs_cons (qg 4 sc_check_owners rfl) (pgs_cons (qg 5 sc_check_owners rfl) (pgs_cons (qg 6 sc_check_owners rfl) pgs_nil)))) pgs_nil))) (pss_one (rj (qe hr.units (q0 5) q2) (ra (ps_setLc (i := 7) (own := [("link",8),("start",9),("end",10),("how",11)]) rfl sc_check_owners.nd rfl rfl (sw_true rfl rfl rfl (by decide +kernel)) (PI.weak (pi_seq (q0 1)) c_seq) (blkOk_by (own := [("link",8),("start",9),("end",10),("how",11)]) (N := N_check_owners) (sc := defScope s_check_owners) (by decide +kernel)) (fun _ _ _ _ _=>(pg_tup rfl (pgs_cons (qg 8 sc_check_owners rfl) (pgs_cons (qg 9 sc_check_owners rfl) (pgs_cons (qg 10 sc_check_owners rfl) (pgs_cons (qg 11 sc_check_owners rfl) pgs_nil)))))) (fun _ _ _ _ _=>(pts_one (PW.pt (aw_and (qe hr.units (q0 8) (q0 6)) (pw_and1 (qe hr.units (q0 10) (q0 4))))))) (fun _ _ _ _ _=>(q0 9))) (c_setX (c_lc (tg_tup (tgs_cons tg_name (tgs_cons tg_name (tgs_cons tg_name (tgs_cons tg_name tgs_nil))))) (by decide)) tg_name)
(pss_one (rj (PW.pt (aw_or (at_not (at_tru (q0 7))) (pw_or1 (qe hr.units (Am.PE.weak (pe_dget (hu_of hr) (q0 2) (qi (q0 7) q1) (fun _ _=>rfl)) c_dget) q2)))) (pss_one (Am.PS.weak (ps_rz rfl tk T.e_BadSchema E_BadSchema (hr.mono (by decide)) (by rfl) T.g_BadSchema (pa_cons (q0 3) pa_nil)) c_rz1)))))))) (c_for (tg_tup (tgs_cons tg_name (tgs_cons (tg_tup (tgs_cons tg_name (tgs_cons tg_name (tgs_cons tg_name tgs_nil)))) tgs_nil)))))))
theorem wk_Schema_init (T:Txt K mg w) (G_check_names:GX P w K mg base 3 (He.ga K "check_names") m_check_names) (G_check_owners:GX P w K mg base 3 (He.ga K "check_owners") m_check_owners) (E_BadSchema:FnR P w K mg base CX0 1 (He.ma K (He.ga K "BadSchema") "__init__") (spE1 (He.ga K "BadSchema") "at")):WkP P w K mg base N_Schema_init "Schema.__init__" s_Schema_init (He.ma K (He.ga K "Schema") "__init__") 3 b_Schema_init := wk_in fun cdv A outer s H E hr tk hx po=>by
 unfold b_Schema_init
 exact (rb (rd (qk G_check_names hx hr T.g_check_names T.k_check_names (qb (q0 1) (q0 2))))
(rb (rj (PW.pt (aw_or (at_not (at_chain op_leA op_leA os_le os_le q1 (ql T.z_len (qa (q0 1))) q1)) (pw_or1 (at_cmp op_gtA os_gt (ql T.z_len (qa (q0 2))) q1 (nomark _))))) (pss_one (Am.PS.weak (ps_rz rfl tk T.e_BadSchema E_BadSchema (hr.mono (by decide)) (by rfl) T.g_BadSchema (pa_cons (ae_c (fun _=>.non) pe_non) pa_nil)) c_rz1)))
(rb (rd (qk G_check_owners hx hr T.g_check_owners T.k_check_owners (qb (q0 1) (q0 2))))
(ra (ps_fld (q0 0) (Am.PE.weak (pe_callTy call_tupA (by rfl) T.z_tuple (by decide +kernel) (qa (q0 1))) (c_cb cs_tup)) rfl) (c_sfld T.f_kind_entries)
(ra (ps_fld (q0 0) (Am.PE.weak (pe_callTy call_tupA (by rfl) T.z_tuple (by decide +kernel) (qa (q0 2))) (c_cb cs_tup)) rfl) (c_sfld T.f_link_entries)
(ra (ps_fld (q0 0) (Am.PE.weak (pe_callTy call_tupA (by rfl) T.z_tuple (by decide +kernel) (qa (Am.PE.weak (pe_lc (own := [("name",3),("rule",6),("owner",7)]) rfl sc_Schema_init.nd (PI.weak (pi_seq (q0 1)) c_seq) (blkOk_by (own := [("name",3),("rule",6),("owner",7)]) (N := N_Schema_init) (sc := defScope s_Schema_init) (by decide +kernel)) (fun _ _ _ _ _=>(pg_tup rfl (pgs_cons (qg 3 sc_Schema_init rfl) (pgs_cons (qg 6 sc_Schema_init rfl) (pgs_cons (qg 7 sc_Schema_init rfl) pgs_nil))))) (fun _ _ _ _ _=>(PTs.weak pts_nil c_yes)) (fun _ _ _ _ _=>(q0 3))) (c_lc (tg_tup (tgs_cons tg_name (tgs_cons tg_name (tgs_cons tg_name tgs_nil)))) (by decide))))) (c_cb cs_tup)) rfl) (c_sfld T.f_kinds)
(ra (ps_fld (q0 0) (Am.PE.weak (pe_callTy call_tupA (by rfl) T.z_tuple (by decide +kernel) (qa (Am.PE.weak (pe_lc (own := [("name",3),("start",4),("end",5),("rule",6)]) rfl sc_Schema_init.nd (PI.weak (pi_seq (q0 2)) c_seq) (blkOk_by (own := [("name",3),("start",4),("end",5),("rule",6)]) (N := N_Schema_init) (sc := defScope s_Schema_init) (by decide +kernel)) (fun _ _ _ _ _=>(pg_tup rfl (pgs_cons (qg 3 sc_Schema_init rfl) (pgs_cons (qg 4 sc_Schema_init rfl) (pgs_cons (qg 5 sc_Schema_init rfl) (pgs_cons (qg 6 sc_Schema_init rfl) pgs_nil)))))) (fun _ _ _ _ _=>(PTs.weak pts_nil c_yes)) (fun _ _ _ _ _=>(q0 3))) (c_lc (tg_tup (tgs_cons tg_name (tgs_cons tg_name (tgs_cons tg_name (tgs_cons tg_name tgs_nil))))) (by decide))))) (c_cb cs_tup)) rfl) (c_sfld T.f_links)
(ra (ps_fld (q0 0) (Am.PE.weak (pe_dc (own := [("name",3),("rule",6),("owner",7)]) rfl sc_Schema_init.nd (PI.weak (pi_seq (q0 1)) c_seq) (blkOk_by (own := [("name",3),("rule",6),("owner",7)]) (N := N_Schema_init) (sc := defScope s_Schema_init) (by decide +kernel)) (fun _ _ _ _ _=>(pg_tup rfl (pgs_cons (qg 3 sc_Schema_init rfl) (pgs_cons (qg 6 sc_Schema_init rfl) (pgs_cons (qg 7 sc_Schema_init rfl) pgs_nil))))) (fun _ _ _ _ _=>(PTs.weak pts_nil c_yes)) (fun _ _ _ _ _=>(q0 3)) (fun _ _ _ _ _=>(q0 6))) (c_dcM (tg_tup (tgs_cons tg_name (tgs_cons tg_name (tgs_cons tg_name tgs_nil)))) (by decide))) rfl) (c_sfld T.f_rules)
(ra (ps_fld (q0 0) (Am.PE.weak pe_dnewK c_dnewK) rfl) (c_sfld T.f_spans)
(ra (ps_for po rfl (PI.weak (pi_seq (q0 2)) c_seq) (pg_tup rfl (pgs_cons (qg 3 sc_Schema_init rfl) (pgs_cons (qg 4 sc_Schema_init rfl) (pgs_cons (qg 5 sc_Schema_init rfl) (pgs_cons (qg 6 sc_Schema_init rfl) pgs_nil))))) (ra (ps_dput (hu_of hr) (qf (q0 0) T.f_rules) (q0 3) (q0 6) rfl) c_dput
(pss_one (Am.PS.weak (ps_dput (hu_of hr) (qf (q0 0) T.f_spans) (q0 3) (ae_tup (qb (q0 4) (q0 5))) rfl) c_dput)))) (c_for (tg_tup (tgs_cons tg_name (tgs_cons tg_name (tgs_cons tg_name (tgs_cons tg_name tgs_nil))))))
(ra (ps_fld (q0 0) (Am.PE.weak pe_dnewK c_dnewK) rfl) (c_sfld T.f_owners)
(ra (ps_for po rfl (PI.weak (pi_seq (q0 1)) c_seq) (pg_tup rfl (pgs_cons (qg 3 sc_Schema_init rfl) (pgs_cons (qg 6 sc_Schema_init rfl) (pgs_cons (qg 7 sc_Schema_init rfl) pgs_nil)))) (pss_one (Am.PS.weak (ps_dput (hu_of hr) (qf (q0 0) T.f_owners) (q0 3) (ae_ifExp (at_cmp op_isNA os_isN (q0 7) (ae_c (fun _=>.non) pe_non) (nomark _)) (ae_c (fun _=>.non) pe_non) (ae_tup (qb (q0 7) (qi (Am.PE.weak (pe_dget (hu_of hr) (qf (q0 0) T.f_spans) (q0 7) (fun _ _=>rfl)) c_dget) q1)))) rfl) c_dput))) (c_for (tg_tup (tgs_cons tg_name (tgs_cons tg_name (tgs_cons tg_name tgs_nil)))))
(ra (ps_fld (q0 0) (Am.PE.weak (pe_dc (own := [("at",8),("name",3)]) rfl sc_Schema_init.nd (PI.weak (pi_enumT (by rfl) T.z_enumerate (qa (qf (q0 0) T.f_kinds))) c_enumT) (blkOk_by (own := [("at",8),("name",3)]) (N := N_Schema_init) (sc := defScope s_Schema_init) (by decide +kernel)) (fun _ _ _ _ _=>(pg_tup rfl (pgs_cons (qg 8 sc_Schema_init rfl) (pgs_cons (qg 3 sc_Schema_init rfl) pgs_nil)))) (fun _ _ _ _ _=>(PTs.weak pts_nil c_yes)) (fun _ _ _ _ _=>(q0 3)) (fun _ _ _ _ _=>(q0 8))) (c_dc (tg_tup (tgs_cons tg_name (tgs_cons tg_name tgs_nil))) (by decide))) rfl) (c_sfld T.f_kind_codes)
(pss_one (Am.PS.weak (ps_fld (q0 0) (Am.PE.weak (pe_dc (own := [("at",8),("name",3)]) rfl sc_Schema_init.nd (PI.weak (pi_enumT (by rfl) T.z_enumerate (qa (qf (q0 0) T.f_links))) c_enumT) (blkOk_by (own := [("at",8),("name",3)]) (N := N_Schema_init) (sc := defScope s_Schema_init) (by decide +kernel)) (fun _ _ _ _ _=>(pg_tup rfl (pgs_cons (qg 8 sc_Schema_init rfl) (pgs_cons (qg 3 sc_Schema_init rfl) pgs_nil)))) (fun _ _ _ _ _=>(PTs.weak pts_nil c_yes)) (fun _ _ _ _ _=>(q0 3)) (fun _ _ _ _ _=>(q0 8))) (c_dc (tg_tup (tgs_cons tg_name (tgs_cons tg_name tgs_nil))) (by decide))) rfl) (c_sfld T.f_link_codes))))))))))))))))
theorem wk_Schema_rule (T:Txt K mg w) (E_Unknown:FnR P w K mg base CX0 1 (He.ma K (He.ga K "Unknown") "__init__") (spE1 (He.ga K "Unknown") "name")):WkP P w K mg base N_Schema_rule "Schema.rule" s_Schema_rule (He.ma K (He.ga K "Schema") "rule") 2 b_Schema_rule := wk_in fun cdv A outer s H E hr tk hx po=>by
 unfold b_Schema_rule
 exact (rb (rj (at_pc (pt_cmp (pc_dnotin (hu_of hr) (q0 1) (qf (q0 0) T.f_rules)) rfl) c_dnotin) (pss_one (Am.PS.weak (ps_rz rfl tk T.e_Unknown E_Unknown (hr.mono (by decide)) (by rfl) T.g_Unknown (pa_cons (q0 1) pa_nil)) c_rz1)))
(pss_one (rr (Am.PE.weak (pe_dget (hu_of hr) (qf (q0 0) T.f_rules) (q0 1) (fun _ _=>rfl)) c_dget))))
theorem wk_Schema_ends (T:Txt K mg w) (E_Unknown:FnR P w K mg base CX0 1 (He.ma K (He.ga K "Unknown") "__init__") (spE1 (He.ga K "Unknown") "name")):WkP P w K mg base N_Schema_ends "Schema.ends" s_Schema_ends (He.ma K (He.ga K "Schema") "ends") 2 b_Schema_ends := wk_in fun cdv A outer s H E hr tk hx po=>by
 unfold b_Schema_ends
 exact (rb (rj (at_pc (pt_cmp (pc_dnotin (hu_of hr) (q0 1) (qf (q0 0) T.f_spans)) rfl) c_dnotin) (pss_one (Am.PS.weak (ps_rz rfl tk T.e_Unknown E_Unknown (hr.mono (by decide)) (by rfl) T.g_Unknown (pa_cons (q0 1) pa_nil)) c_rz1)))
(pss_one (rr (Am.PE.weak (pe_dget (hu_of hr) (qf (q0 0) T.f_spans) (q0 1) (fun _ _=>rfl)) c_dget))))
theorem wk_Schema_owner (T:Txt K mg w) (E_Unknown:FnR P w K mg base CX0 1 (He.ma K (He.ga K "Unknown") "__init__") (spE1 (He.ga K "Unknown") "name")):WkP P w K mg base N_Schema_owner "Schema.owner" s_Schema_owner (He.ma K (He.ga K "Schema") "owner") 2 b_Schema_owner := wk_in fun cdv A outer s H E hr tk hx po=>by
 unfold b_Schema_owner
 exact (rb (rj (at_pc (pt_cmp (pc_dnotin (hu_of hr) (q0 1) (qf (q0 0) T.f_owners)) rfl) c_dnotin) (pss_one (Am.PS.weak (ps_rz rfl tk T.e_Unknown E_Unknown (hr.mono (by decide)) (by rfl) T.g_Unknown (pa_cons (q0 1) pa_nil)) c_rz1)))
(pss_one (rr (Am.PE.weak (pe_dget (hu_of hr) (qf (q0 0) T.f_owners) (q0 1) (fun _ _=>rfl)) c_dget))))
theorem wk_Schema_eq (T:Txt K mg w):WkP P w K mg base N_Schema_eq "Schema.__eq__" s_Schema_eq (He.ma K (He.ga K "Schema") "__eq__") 0 b_Schema_eq := wk_in fun cdv A outer s H E hr tk hx po=>by
 unfold b_Schema_eq
 exact (pss_one (rr (ae_and (Am.PE.weak (pe_callB call_isi (by rfl) T.z_isinstance (by decide +kernel) (pa_cons (q0 1) (pa_cons (pe_glob (v := .ref (He.ga K "Schema")) (by rfl) T.g_Schema rfl) pa_nil))) (c_isi T.cs (.own _) T.is_Schema)) (ae_and (ae_cmp (op_eqP hr.units) os_eq (qf (q0 0) T.f_kind_entries) (qf (q0 1) T.f_kind_entries) (nomark _)) (pe_one (ae_cmp (op_eqP hr.units) os_eq (qf (q0 0) T.f_link_entries) (qf (q0 1) T.f_link_entries) (nomark _)))))))
theorem wk_write_schema (T:Txt K mg w) (G_Schema_ends:GX P w K mg base 3 (He.ma K (He.ga K "Schema") "ends") m_Schema_ends) (G_Schema_owner:GX P w K mg base 3 (He.ma K (He.ga K "Schema") "owner") m_Schema_owner) (G_Schema_rule:GX P w K mg base 3 (He.ma K (He.ga K "Schema") "rule") m_Schema_rule):WkP P w K mg base N_write_schema "write_schema" s_write_schema (He.ga K "write_schema") 3 b_write_schema := wk_in fun cdv A outer s H E hr tk hx po=>by
 unfold b_write_schema
 exact (rb (rs 1 sc_write_schema rfl (ae_lstM aa_nil))
(ra (ps_for po rfl (PI.weak (pi_seq (qf (q0 0) T.f_kinds)) c_seq) (qg 2 sc_write_schema rfl) (rb (rs 3 sc_write_schema rfl (Am.PE.weak (pe_mtS (q0 0) T.c_Schema T.m_Schema_owner G_Schema_owner (hr.mono (by decide)) hx (qa (q0 2))) c_meth))
(rb (rs 4 sc_write_schema rfl (ae_ifExp (at_cmp op_isNA os_isN (q0 3) (ae_c (fun _=>.non) pe_non) (nomark _)) q2 (ae_op op_addA os_add q2 (qi (q0 3) q1))))
(pss_one (rd (qp (q0 1) (qa (Am.PE.weak (pe_joined (L2.PJ.cons q2 (L2.PJ.cons (Am.PE.weak (pe_fmt (q0 2)) c_fmt) (L2.PJ.cons q2 (L2.PJ.cons (Am.PE.weak (pe_fmt (Am.PE.weak (pe_mtS (q0 0) T.c_Schema T.m_Schema_rule G_Schema_rule (hr.mono (by decide)) hx (qa (q0 2))) c_meth)) c_fmt) (L2.PJ.cons (Am.PE.weak (pe_fmt (q0 4)) c_fmt) L2.PJ.nil)))))) (c_js (ms := [(mC (.str "kind ")),(mFmt (mVar 2)),(mC (.str " ")),(mFmt (mMeth "Schema" "rule" m_Schema_rule (mVar 0) (mCons (mVar 2) mNil))),(mFmt (mVar 4))])))))))))) (c_for tg_name)
(ra (ps_for po rfl (PI.weak (pi_seq (qf (q0 0) T.f_links)) c_seq) (qg 2 sc_write_schema rfl) (ra (ps_asg (Am.PE.weak (pe_mtS (q0 0) T.c_Schema T.m_Schema_ends G_Schema_ends (hr.mono (by decide)) hx (qa (q0 2))) c_meth) (pg_tup rfl (pgs_cons (qg 5 sc_write_schema rfl) (pgs_cons (qg 6 sc_write_schema rfl) pgs_nil)))) (c_set (tg_tup (tgs_cons tg_name (tgs_cons tg_name tgs_nil))))
(pss_one (rd (qp (q0 1) (qa (Am.PE.weak (pe_joined (L2.PJ.cons q2 (L2.PJ.cons (Am.PE.weak (pe_fmt (q0 2)) c_fmt) (L2.PJ.cons q2 (L2.PJ.cons (Am.PE.weak (pe_fmt (q0 5)) c_fmt) (L2.PJ.cons q2 (L2.PJ.cons (Am.PE.weak (pe_fmt (q0 6)) c_fmt) (L2.PJ.cons q2 (L2.PJ.cons (Am.PE.weak (pe_fmt (Am.PE.weak (pe_mtS (q0 0) T.c_Schema T.m_Schema_rule G_Schema_rule (hr.mono (by decide)) hx (qa (q0 2))) c_meth)) c_fmt) L2.PJ.nil))))))))) (c_js (ms := [(mC (.str "link ")),(mFmt (mVar 2)),(mC (.str " ")),(mFmt (mVar 5)),(mC (.str " ")),(mFmt (mVar 6)),(mC (.str " ")),(mFmt (mMeth "Schema" "rule" m_Schema_rule (mVar 0) (mCons (mVar 2) mNil)))]))))))))) (c_for tg_name)
(pss_one (rr (Am.PE.weak (pe_joinA q2 (q0 1)) c_join))))))
theorem wk_read_kind (T:Txt K mg w) (G_is_word:GX P w K mg base 1 (He.ga K "is_word") m_is_word):WkP P w K mg base N_read_kind "read_kind" s_read_kind (He.ga K "read_kind") 1 b_read_kind := wk_in fun cdv A outer s H E hr tk hx po=>by
 unfold b_read_kind
 exact (rb (rj (at_not (at_val (Am.PE.weak (pe_callB (call_allA rfl) (by rfl) T.z_all (by decide +kernel) (qa (Am.PE.weak (pe_lc (own := [("word",1)]) rfl sc_read_kind.nd (PI.weak (pi_seq (q0 0)) c_seq) (blkOk_by (own := [("word",1)]) (N := N_read_kind) (sc := defScope s_read_kind) (by decide +kernel)) (fun _ _ _ _ _=>(qg 1 sc_read_kind rfl)) (fun _ _ _ _ _=>(PTs.weak pts_nil c_yes)) (fun _ _ _ _ _=>(qk G_is_word passF hr T.g_is_word T.k_is_word (qa (q0 1))))) (c_lc tg_name (by decide))))) (c_cb cs_all)))) (pss_one (rr (ae_c (fun _=>.non) pe_non))))
(rb (rj (PW.pt (aw_and (qe hr.units (ql T.z_len (qa (q0 0))) q1) (pw_and1 (at_cmp (op_inP (units65 hr)) os_in (qi (q0 0) q1) (ae_tup (qb q2 q2)) rfl)))) (pss_one (rr (ae_tup (qc (qi (q0 0) q1) (qi (q0 0) q1) (qa (ae_c (fun _=>.non) pe_non)))))))
(rb (rj (PW.pt (aw_and (qe hr.units (ql T.z_len (qa (q0 0))) q1) (pw_and1 (qe hr.units (qi (q0 0) q1) q2)))) (pss_one (rr (ae_tup (qc (qi (q0 0) q1) (qi (q0 0) q1) (qa (qi (q0 0) q1)))))))
(pss_one (rr (ae_c (fun _=>.non) pe_non))))))
theorem wk_read_link (T:Txt K mg w) (G_is_word:GX P w K mg base 1 (He.ga K "is_word") m_is_word):WkP P w K mg base N_read_link "read_link" s_read_link (He.ga K "read_link") 1 b_read_link := wk_in fun cdv A outer s H E hr tk hx po=>by
 unfold b_read_link
 exact (rb (rj (PW.pt (aw_or (qn hr.units (ql T.z_len (qa (q0 0))) q1) (aw_or (at_not (at_val (Am.PE.weak (pe_callB (call_allA rfl) (by rfl) T.z_all (by decide +kernel) (qa (Am.PE.weak (pe_lc (own := [("word",1)]) rfl sc_read_link.nd (PI.weak (pi_seq (q0 0)) c_seq) (blkOk_by (own := [("word",1)]) (N := N_read_link) (sc := defScope s_read_link) (by decide +kernel)) (fun _ _ _ _ _=>(qg 1 sc_read_link rfl)) (fun _ _ _ _ _=>(PTs.weak pts_nil c_yes)) (fun _ _ _ _ _=>(qk G_is_word passF hr T.g_is_word T.k_is_word (qa (q0 1))))) (c_lc tg_name (by decide))))) (c_cb cs_all)))) (pw_or1 (at_cmp (op_notInP (units65 hr)) os_in (qi (q0 0) q1) (ae_tup (qb q2 q2)) rfl))))) (pss_one (rr (ae_c (fun _=>.non) pe_non))))
(pss_one (rr (ae_tup (qc (qi (q0 0) q1) (qi (q0 0) q1) (qb (qi (q0 0) q1) (qi (q0 0) q1)))))))
theorem wk_read_guard (T:Txt K mg w) (G_is_word:GX P w K mg base 1 (He.ga K "is_word") m_is_word):WkP P w K mg base N_read_guard "read_guard" s_read_guard (He.ga K "read_guard") 1 b_read_guard := wk_in fun cdv A outer s H E hr tk hx po=>by
 unfold b_read_guard
 exact (rb (rj (PW.pt (aw_or (qn hr.units (ql T.z_len (qa (q0 0))) q1) (pw_or1 (at_not (at_val (qk G_is_word hx hr T.g_is_word T.k_is_word (qa (qi (q0 0) q1)))))))) (pss_one (rr (ae_c (fun _=>.non) pe_non))))
(pss_one (rr (qi (q0 0) q1))))
theorem wk_read_lines (T:Txt K mg w) (G_read_guard:GX P w K mg base 2 (He.ga K "read_guard") m_read_guard) (G_read_kind:GX P w K mg base 2 (He.ga K "read_kind") m_read_kind) (G_read_link:GX P w K mg base 2 (He.ga K "read_link") m_read_link) (E_BadLine:FnR P w K mg base CX0 1 (He.ma K (He.ga K "BadLine") "__init__") (spE1 (He.ga K "BadLine") "number")):WkP P w K mg base N_read_lines "read_lines" s_read_lines (He.ga K "read_lines") 2 b_read_lines := wk_in fun cdv A outer s H E hr tk hx po=>by
 unfold b_read_lines
 exact (rb (rs 2 sc_read_lines rfl (ae_lstM (qc (ae_lstM aa_nil) (ae_lstM aa_nil) (qb (ae_lstM aa_nil) (ae_lstM aa_nil)))))
(rb (rs 3 sc_read_lines rfl q1)
(ra (ps_for po rfl (PI.weak (Fm.pi_enumS (k := 1) (by rfl) T.z_enumerate (qa (Am.PE.weak (pe_split (q0 0) q2) c_split)) pe_int (by decide)) c_enumS) (pg_tup rfl (pgs_cons (qg 4 sc_read_lines rfl) (pgs_cons (qg 5 sc_read_lines rfl) pgs_nil))) (rb (rs 6 sc_read_lines rfl (Am.PE.weak (pe_split (q0 5) q2) c_split))
(rb (rs 7 sc_read_lines rfl (Am.PE.weak (Fm.pe_kget T.kt_GROUPS (pe_glob (v := .ref (He.ga K "GROUPS")) (by rfl) T.g_GROUPS rfl) (qi (q0 6) q1) (ae_un un_negA us_neg q1) ⟨rfl,rfl,rfl,rfl⟩) c_kget))
(rb (rj (at_not (at_chain op_leA op_leA os_le os_le (q0 3) (q0 7) (q0 1))) (pss_one (Am.PS.weak (ps_rz rfl tk T.e_BadLine E_BadLine (hr.mono (by decide)) (by rfl) T.g_BadLine (pa_cons (q0 4) pa_nil)) c_rz1)))
(rb (rs 3 sc_read_lines rfl (q0 7))
(rb (ri (qe hr.units (q0 7) q1) (pss_one (Am.PS.weak ps_never c_never)) (pss_one (ri (qe hr.units (q0 7) q1) (pss_one (rs 8 sc_read_lines rfl (qk G_read_kind hx hr T.g_read_kind T.k_read_kind (qa (q0 6))))) (pss_one (rs 8 sc_read_lines rfl (ae_ifExp (qe hr.units (q0 7) q1) (qk G_read_link hx hr T.g_read_link T.k_read_link (qa (q0 6))) (qk G_read_guard hx hr T.g_read_guard T.k_read_guard (qa (q0 6)))))))))
(rb (rj (at_cmp op_isNA os_isN (q0 8) (ae_c (fun _=>.non) pe_non) (nomark _)) (pss_one (Am.PS.weak (ps_rz rfl tk T.e_BadLine E_BadLine (hr.mono (by decide)) (by rfl) T.g_BadLine (pa_cons (q0 4) pa_nil)) c_rz1)))
(pss_one (rd (qp (qi (q0 2) (q0 7)) (qa (q0 8)))))))))))) (c_for (tg_tup (tgs_cons tg_name (tgs_cons tg_name tgs_nil))))
(pss_one (rr (q0 2))))))
theorem wk_read_schema (T:Txt K mg w) (G_Schema_init:GX P w K mg base 4 (He.ma K (He.ga K "Schema") "__init__") m_Schema_init) (G_read_lines:GX P w K mg base 3 (He.ga K "read_lines") m_read_lines):WkP P w K mg base N_read_schema "read_schema" s_read_schema (He.ga K "read_schema") 5 b_read_schema := wk_in fun cdv A outer s H E hr tk hx po=>by
 unfold b_read_schema
 exact (rb (rs 1 sc_read_schema rfl (qk G_read_lines hx hr T.g_read_lines T.k_read_lines (qb (q0 0) q1)))
(pss_one (rr (Am.PE.weak (pe_makeS T.mk_Schema G_Schema_init (hr.mono (by decide)) (by rfl) T.g_Schema hx (qb (qi (q0 1) q1) (qi (q0 1) q1))) c_makeD))))
def t_law_pool (K:PySem.W.Frag):TS :=
 (tSeq (tAsg (tLc (iSeq K (tSl (Fm.rSlA K) (tVar 0) tNoPart (tPart (tC (.int 63))))) (gName 3) (tTest (tOp rGeA (tVar 3) (tOp rPowA (tC (.int 10)) (tC (.int 18))))) (tCB rInt1 (tCons (tVar 3) tNil)) [3]) (gName 1))
  (tSeq (tAsg (tC (.int 7)) (gName 2))
  (tSeq (tFor (iSeq K (tSl (Fm.rSlA K) (tVar 0) tNoPart (tPart (tC (.int 63))))) (gName 3) (tAsg (tOp rModA (tCB rInt1 (tCons (tOp rAddA (tOp rAddA (tOp rMulA (tVar 2) (tC (.int 31))) (tOp rModA (tCB rInt1 (tCons (tVar 3) tNil)) (tC (.int 1000003)))) (tC (.int 1))) tNil)) (tC (.int 2147483629))) (gName 2)))
  (tRet (tLst (tCons (tVar 1) (tCons (tC (.int 0)) (tCons (tVar 2) (tCons (tC (.int 0)) tNil)))))))))
theorem wk_law_pool {P:Program} {w:World} {K:PySem.W.Frag} {mg:Str→Option Value} {base:Heap} (T:Txt K mg w) (cdv:Value) (A:Around) (outer:List Env) (s:Shared) (H:Hp) (E:XK) (hr:Room 0 (A.deeper (envOfC "_law_pool" (defScope s_law_pool) s.heap.objs.size (He.ga K "_law_pool") cdv))) :
  PSs (cxOf CX0 P w K mg base N_law_pool "_law_pool" (defScope s_law_pool) (He.ga K "_law_pool") cdv A outer s H E).nox (defBody s_law_pool) (t_law_pool K) := by
 unfold t_law_pool
 exact (pss_cons (ps_setLc (i := 1) (own := [("_law_cell",3)]) rfl sc_law_pool.nd rfl rfl (sw_true rfl rfl rfl (by decide +kernel)) (pi_seq (pe_slice sl_any (pv 0) po_none (po_some pe_int))) (blkOk_by (own := [("_law_cell",3)]) (N := N_law_pool) (sc := defScope s_law_pool) (by decide +kernel)) (fun _ _ _ _ _=>(qg 3 sc_law_pool rfl)) (fun _ _ _ _ _=>(pts_one (pt_cmpR op_geA (pv 3) (pe_op op_powA pe_int pe_int) (nomark _)))) (fun _ _ _ _ _=>(pe_callTy call_intA (by rfl) T.z_int (by decide +kernel) (pa_cons (pv 3) pa_nil)))) (pss_cons (ps_set (i := 2) sc_law_pool.nd rfl (.inl rfl) pe_int) (pss_cons (ps_for PassesOwn.never rfl (pi_seq (pe_slice sl_any (pv 0) po_none (po_some pe_int))) (qg 3 sc_law_pool rfl) (pss_one (ps_set (i := 2) sc_law_pool.nd rfl (.inl rfl) (pe_op op_modA (pe_callTy call_intA (by rfl) T.z_int (by decide +kernel) (pa_cons (pe_op op_addA (pe_op op_addA (pe_op op_mulA (pv 2) pe_int) (pe_op op_modA (pe_callTy call_intA (by rfl) T.z_int (by decide +kernel) (pa_cons (pv 3) pa_nil)) pe_int)) pe_int) pa_nil)) pe_int)))) (pss_one (ps_ret (pe_lst (pa_cons (pv 1) (pa_cons pe_int (pa_cons (pv 2) (pa_cons pe_int pa_nil))))))))))
def t_law_draw (K:PySem.W.Frag):TS :=
 (tSeq (tAugS (tVar 0) (tC (.int 3)) (tC (.int 1)) rGetL (ipI (· + ·)) rSetL)
  (tSeq (tIfS (tAnd (tTest (tOp (rEqP K) (tOp (rIx K) (tVar 0) (tC (.int 1))) (tC (.int 0)))) (tTest (tOp (rNeP K) (tOp (rIx K) (tVar 0) (tC (.int 0))) (tLst tNil)))) (tSeq (tAsg (tOp (rIx K) (tOp (rIx K) (tVar 0) (tC (.int 0))) (tC (.int 0))) (gSub (tVar 0) (tC (.int 1)) rSetL))
  (tAsg (tSl (Fm.rSlA K) (tOp (rIx K) (tVar 0) (tC (.int 0))) (tPart (tC (.int 1))) tNoPart) (gSub (tVar 0) (tC (.int 0)) rSetL))) tNext)
  (tSeq (tIfS (tTest (tOp rGtA (tOp (rIx K) (tVar 0) (tC (.int 1))) (tC (.int 0)))) (tSeq (tAsg (tOp rModA (tCB rInt1 (tCons (tOp (rIx K) (tVar 0) (tC (.int 1))) tNil)) (tVar 1)) (gName 2))
  (tSeq (tAsg (tOp rDivA (tOp (rIx K) (tVar 0) (tC (.int 1))) (tVar 1)) (gSub (tVar 0) (tC (.int 1)) rSetL))
  (tRet (tVar 2)))) tNext)
  (tSeq (tAsg (tOp rModA (tCB rInt1 (tCons (tOp rAddA (tOp rMulA (tOp (rIx K) (tVar 0) (tC (.int 2))) (tC (.int 48271))) (tOp rMulA (tOp (rIx K) (tVar 0) (tC (.int 3))) (tC (.int 69621)))) tNil)) (tC (.int 2147483647))) (gName 3))
  (tSeq (tAsg (tOp rModA (tCB rInt1 (tCons (tOp rAddA (tOp rMulA (tVar 3) (tOp rAddA (tOp rDivA (tVar 3) (tC (.int 7))) (tC (.int 40692)))) (tOp rMulA (tOp (rIx K) (tVar 0) (tC (.int 3))) (tC (.int 16807)))) tNil)) (tC (.int 2147483399))) (gName 3))
  (tRet (tOp rModA (tOp rDivA (tVar 3) (tC (.int 5))) (tVar 1))))))))
theorem wk_law_draw {P:Program} {w:World} {K:PySem.W.Frag} {mg:Str→Option Value} {base:Heap} (T:Txt K mg w) (cdv:Value) (A:Around) (outer:List Env) (s:Shared) (H:Hp) (E:XK) (hr:Room 0 (A.deeper (envOfC "_law_draw" (defScope s_law_draw) s.heap.objs.size (He.ga K "_law_draw") cdv))) :
  PSs (cxOf CX0 P w K mg base N_law_draw "_law_draw" (defScope s_law_draw) (He.ga K "_law_draw") cdv A outer s H E).nox (defBody s_law_draw) (t_law_draw K) := by
 unfold t_law_draw
 exact (pss_cons (ps_augS (pv 0) pe_int get_list pe_int ip_add set_list) (pss_cons (ps_if (PW.pt (pw_and (pt_cmpR (op_eqP hr.units) (pe_ix ix_seq (pv 0) pe_int (fun _ _=>rfl)) pe_int (nomark _)) (pw_and1 (pt_cmpR (op_neP hr.units) (pe_ix ix_seq (pv 0) pe_int (fun _ _=>rfl)) (pe_lst pa_nil) (nomark _))))) (pss_cons (ps_asg (pe_ix ix_seq (pe_ix ix_seq (pv 0) pe_int (fun _ _=>rfl)) pe_int (fun _ _=>rfl)) (pg_sub (pv 0) pe_int set_list)) (pss_one (ps_asg (pe_slice sl_any (pe_ix ix_seq (pv 0) pe_int (fun _ _=>rfl)) (po_some pe_int) po_none) (pg_sub (pv 0) pe_int set_list)))) pss_nil) (pss_cons (ps_if (pt_cmpR op_gtA (pe_ix ix_seq (pv 0) pe_int (fun _ _=>rfl)) pe_int (nomark _)) (pss_cons (ps_set (i := 2) sc_law_draw.nd rfl (.inl rfl) (pe_op op_modA (pe_callTy call_intA (by rfl) T.z_int (by decide +kernel) (pa_cons (pe_ix ix_seq (pv 0) pe_int (fun _ _=>rfl)) pa_nil)) (pv 1))) (pss_cons (ps_asg (pe_op op_divA (pe_ix ix_seq (pv 0) pe_int (fun _ _=>rfl)) (pv 1)) (pg_sub (pv 0) pe_int set_list)) (pss_one (ps_ret (pv 2))))) pss_nil) (pss_cons (ps_set (i := 3) sc_law_draw.nd rfl (.inl rfl) (pe_op op_modA (pe_callTy call_intA (by rfl) T.z_int (by decide +kernel) (pa_cons (pe_op op_addA (pe_op op_mulA (pe_ix ix_seq (pv 0) pe_int (fun _ _=>rfl)) pe_int) (pe_op op_mulA (pe_ix ix_seq (pv 0) pe_int (fun _ _=>rfl)) pe_int)) pa_nil)) pe_int)) (pss_cons (ps_set (i := 3) sc_law_draw.nd rfl (.inl rfl) (pe_op op_modA (pe_callTy call_intA (by rfl) T.z_int (by decide +kernel) (pa_cons (pe_op op_addA (pe_op op_mulA (pv 3) (pe_op op_addA (pe_op op_divA (pv 3) pe_int) pe_int)) (pe_op op_mulA (pe_ix ix_seq (pv 0) pe_int (fun _ _=>rfl)) pe_int)) pa_nil)) pe_int)) (pss_one (ps_ret (pe_op op_modA (pe_op op_divA (pv 3) pe_int) (pv 1)))))))))
theorem wk_law_word (T:Txt K mg w) (G_law_draw:GX P w K mg base 1 (He.ga K "_law_draw") m_law_draw):WkP P w K mg base N_law_word "_law_word" s_law_word (He.ga K "_law_word") 1 b_law_word := wk_in fun cdv A outer s H E hr tk hx po=>by
 unfold b_law_word
 exact (rb (rs 2 sc_law_word rfl q2)
(rb (rs 3 sc_law_word rfl (ae_op op_addA os_add q1 (qk G_law_draw hx hr T.g_law_draw T.k_law_draw (qb (q0 0) q1))))
(rb (rs 4 sc_law_word rfl (Am.PE.weak (pe_joinA q2 (Am.PE.weak (pe_lc (own := [("_law_k",5)]) rfl sc_law_word.nd (PI.weak (pi_range1 (by rfl) T.z_range (qa (q0 3))) c_rng1) (blkOk_by (own := [("_law_k",5)]) (N := N_law_word) (sc := defScope s_law_word) (by decide +kernel)) (fun _ _ _ _ _=>(qg 5 sc_law_word rfl)) (fun _ _ _ _ _=>(PTs.weak pts_nil c_yes)) (fun _ _ _ _ _=>(qi (q0 2) (qk G_law_draw passF hr T.g_law_draw T.k_law_draw (qb (q0 0) q1))))) (c_lc tg_name (by decide)))) c_join))
(rb (rj (at_cmp (op_inP (units65 hr)) os_in (q0 4) (q0 1) rfl) (pss_one (rs 4 sc_law_word rfl (qi (Am.PE.weak (pe_lc (own := [("_law_letter",6)]) rfl sc_law_word.nd (PI.weak (pi_seq (q0 2)) c_seq) (blkOk_by (own := [("_law_letter",6)]) (N := N_law_word) (sc := defScope s_law_word) (by decide +kernel)) (fun _ _ _ _ _=>(qg 6 sc_law_word rfl)) (fun _ _ _ _ _=>(pts_one (at_cmp (op_notInP (units65 hr)) os_in (ae_op op_addA os_add (Am.PE.weak (pe_slice sl_any (q0 4) (PO.weak po_none c_noPart) (PO.weak (po_some q1) c_part)) c_sl) (q0 6)) (q0 1) rfl))) (fun _ _ _ _ _=>(ae_op op_addA os_add (Am.PE.weak (pe_slice sl_any (q0 4) (PO.weak po_none c_noPart) (PO.weak (po_some q1) c_part)) c_sl) (q0 6)))) (c_lc tg_name (by decide))) q1))))
(pss_one (rr (q0 4)))))))
theorem wk_law_schema (T:Txt K mg w) (G_law_draw:GX P w K mg base 1 (He.ga K "_law_draw") m_law_draw) (G_law_word:GX P w K mg base 2 (He.ga K "_law_word") m_law_word):WkP P w K mg base N_law_schema "_law_schema" s_law_schema (He.ga K "_law_schema") 2 b_law_schema := wk_in fun cdv A outer s H E hr tk hx po=>by
 unfold b_law_schema
 exact (rb (rs 2 sc_law_schema rfl (ae_lstM aa_nil))
(ra (ps_for po rfl (PI.weak (pi_range1 (by rfl) T.z_range (qa (ae_op op_addA os_add q1 (qk G_law_draw hx hr T.g_law_draw T.k_law_draw (qb (q0 0) (q0 1)))))) c_rng1) (qg 3 sc_law_schema rfl) (pss_one (rd (qp (q0 2) (qa (qk G_law_word hx hr T.g_law_word T.k_law_word (qb (q0 0) (q0 2)))))))) (c_for tg_name)
(rb (rs 4 sc_law_schema rfl (Am.PE.weak (pe_lc (own := [("_law_name",9)]) rfl sc_law_schema.nd (PI.weak (pi_seq (q0 2)) c_seq) (blkOk_by (own := [("_law_name",9)]) (N := N_law_schema) (sc := defScope s_law_schema) (by decide +kernel)) (fun _ _ _ _ _=>(qg 9 sc_law_schema rfl)) (fun _ _ _ _ _=>(PTs.weak pts_nil c_yes)) (fun _ _ _ _ _=>(qi (ae_lst (qc q2 q2 (qa q2))) (qk G_law_draw passF hr T.g_law_draw T.k_law_draw (qb (q0 0) q1))))) (c_lcM tg_name (by decide))))
(rb (rj (PW.pt (aw_and (at_cmp (op_notInP (units65 hr)) os_in q2 (q0 4) rfl) (pw_and1 (at_cmp (op_notInP (units65 hr)) os_in q2 (q0 4) rfl)))) (pss_one (Am.PS.weak (ps_asg (qi (ae_lst (qb q2 q2)) (qk G_law_draw hx hr T.g_law_draw T.k_law_draw (qb (q0 0) q1))) (pg_sub (q0 4) (qk G_law_draw hx hr T.g_law_draw T.k_law_draw (qb (q0 0) (ql T.z_len (qa (q0 4))))) set_list)) c_lput)))
(ra (ps_setLc (i := 5) (own := [("_law_k",3),("_law_name",9)]) rfl sc_law_schema.nd rfl rfl (sw_true rfl rfl rfl (by decide +kernel)) (PI.weak (pi_enum (by rfl) T.z_enumerate (qa (q0 2))) c_enum) (blkOk_by (own := [("_law_k",3),("_law_name",9)]) (N := N_law_schema) (sc := defScope s_law_schema) (by decide +kernel)) (fun _ _ _ _ _=>(pg_tup rfl (pgs_cons (qg 3 sc_law_schema rfl) (pgs_cons (qg 9 sc_law_schema rfl) pgs_nil)))) (fun _ _ _ _ _=>(pts_one (qn hr.units (qi (q0 4) (q0 3)) q2))) (fun _ _ _ _ _=>(q0 9))) (c_setX (c_lc (tg_tup (tgs_cons tg_name (tgs_cons tg_name tgs_nil))) (by decide)) tg_name)
(rb (rs 6 sc_law_schema rfl (ae_lstM aa_nil))
(rb (rs 7 sc_law_schema rfl (ae_lstM aa_nil))
(rb (rs 8 sc_law_schema rfl (Am.PE.weak (pe_callTy call_listA (by rfl) T.z_list (by decide +kernel) (qa (q0 2))) (c_cb cs_listM)))
(ra (ps_for po rfl (PI.weak (pi_enum (by rfl) T.z_enumerate (qa (q0 2))) c_enum) (pg_tup rfl (pgs_cons (qg 3 sc_law_schema rfl) (pgs_cons (qg 9 sc_law_schema rfl) pgs_nil))) (pss_one (ri (qe hr.units (qi (q0 4) (q0 3)) q2) (rb (rd (qp (q0 8) (qa (qk G_law_word hx hr T.g_law_word T.k_law_word (qb (q0 0) (q0 8))))))
(rb (rd (qp (q0 7) (qa (ae_tup (qc (qi (q0 8) (ae_un un_negA us_neg q1)) (qi (q0 5) (qk G_law_draw hx hr T.g_law_draw T.k_law_draw (qb (q0 0) (ql T.z_len (qa (q0 5)))))) (qb (q0 9) (qi (ae_lst (qb q2 q2)) (qk G_law_draw hx hr T.g_law_draw T.k_law_draw (qb (q0 0) q1)))))))))
(pss_one (rd (qp (q0 6) (qa (ae_tup (qc (q0 9) q2 (qa (qi (q0 8) (ae_un un_negA us_neg q1))))))))))) (pss_one (rd (qp (q0 6) (qa (ae_tup (qc (q0 9) (qi (q0 4) (q0 3)) (qa (ae_c (fun _=>.non) pe_non))))))))))) (c_for (tg_tup (tgs_cons tg_name (tgs_cons tg_name tgs_nil))))
(ra (ps_for po rfl (PI.weak (pi_range1 (by rfl) T.z_range (qa (qk G_law_draw hx hr T.g_law_draw T.k_law_draw (qb (q0 0) (ae_op op_subI os_sub q1 (ql T.z_len (qa (q0 7)))))))) c_rng1) (qg 3 sc_law_schema rfl) (rb (rd (qp (q0 8) (qa (qk G_law_word hx hr T.g_law_word T.k_law_word (qb (q0 0) (q0 8))))))
(rb (rs 10 sc_law_schema rfl (qi (q0 2) (qk G_law_draw hx hr T.g_law_draw T.k_law_draw (qb (q0 0) (ql T.z_len (qa (q0 2)))))))
(rb (rs 11 sc_law_schema rfl (qi (q0 2) (qk G_law_draw hx hr T.g_law_draw T.k_law_draw (qb (q0 0) (ql T.z_len (qa (q0 2)))))))
(pss_one (rd (qp (q0 7) (qa (ae_tup (qc (qi (q0 8) (ae_un un_negA us_neg q1)) (q0 10) (qb (q0 11) (qi (ae_lst (qb q2 q2)) (qk G_law_draw hx hr T.g_law_draw T.k_law_draw (qb (q0 0) q1)))))))))))))) (c_for tg_name)
(rb (rs 12 sc_law_schema rfl (qk G_law_draw hx hr T.g_law_draw T.k_law_draw (qb (q0 0) (ae_op op_addA os_add (ql T.z_len (qa (q0 7))) q1))))
(pss_one (rr (ae_tup (qb (Am.PE.weak (q0 6) c_fz) (ae_op op_addA os_add (Am.PE.weak (pe_slice sl_any (q0 7) (PO.weak (po_some (q0 12)) c_part) (PO.weak po_none c_noPart)) c_sl) (Am.PE.weak (pe_slice sl_any (q0 7) (PO.weak po_none c_noPart) (PO.weak (po_some (q0 12)) c_part)) c_sl)))))))))))))))))
theorem wk_law_text (T:Txt K mg w):WkP P w K mg base N_law_text "_law_text" s_law_text (He.ga K "_law_text") 0 b_law_text := wk_in fun cdv A outer s H E hr tk hx po=>by
 unfold b_law_text
 exact (rb (rs 2 sc_law_text rfl (ae_lstM aa_nil))
(ra (ps_for po rfl (PI.weak (pi_seq (q0 0)) c_seq) (pg_tup rfl (pgs_cons (qg 3 sc_law_text rfl) (pgs_cons (qg 4 sc_law_text rfl) (pgs_cons (qg 5 sc_law_text rfl) pgs_nil)))) (pss_one (rd (qp (q0 2) (qa (ae_op op_addA os_add (ae_op op_addA os_add (ae_op op_addA os_add (ae_op op_addA os_add q2 (q0 3)) q2) (q0 4)) (ae_ifExp (at_cmp op_isNA os_isN (q0 5) (ae_c (fun _=>.non) pe_non) (nomark _)) q2 (ae_op op_addA os_add q2 (q0 5))))))))) (c_for (tg_tup (tgs_cons tg_name (tgs_cons tg_name (tgs_cons tg_name tgs_nil)))))
(ra (ps_for po rfl (PI.weak (pi_seq (q0 1)) c_seq) (pg_tup rfl (pgs_cons (qg 3 sc_law_text rfl) (pgs_cons (qg 6 sc_law_text rfl) (pgs_cons (qg 7 sc_law_text rfl) (pgs_cons (qg 4 sc_law_text rfl) pgs_nil))))) (pss_one (rd (qp (q0 2) (qa (ae_op op_addA os_add (ae_op op_addA os_add (ae_op op_addA os_add (ae_op op_addA os_add (ae_op op_addA os_add (ae_op op_addA os_add (ae_op op_addA os_add q2 (q0 3)) q2) (q0 6)) q2) (q0 7)) q2) (q0 4))))))) (c_for (tg_tup (tgs_cons tg_name (tgs_cons tg_name (tgs_cons tg_name (tgs_cons tg_name tgs_nil))))))
(pss_one (rr (Am.PE.weak (pe_joinA q2 (q0 2)) c_join))))))
theorem wk_law_told (T:Txt K mg w) (G_Schema_ends:GX P w K mg base 3 (He.ma K (He.ga K "Schema") "ends") m_Schema_ends) (G_Schema_owner:GX P w K mg base 3 (He.ma K (He.ga K "Schema") "owner") m_Schema_owner) (G_Schema_rule:GX P w K mg base 3 (He.ma K (He.ga K "Schema") "rule") m_Schema_rule):WkP P w K mg base N_law_told "_law_told" s_law_told (He.ga K "_law_told") 3 b_law_told := wk_in fun cdv A outer s H E hr tk hx po=>by
 unfold b_law_told
 exact (rb (rj (PW.pt (aw_or (qn hr.units (qf (q0 0) T.f_kinds) (Am.PE.weak (pe_callTy call_tupA (by rfl) T.z_tuple (by decide +kernel) (qa (Am.PE.weak (pe_lc (own := [("_law_entry",10)]) rfl sc_law_told.nd (PI.weak (pi_seq (q0 1)) c_seq) (blkOk_by (own := [("_law_entry",10)]) (N := N_law_told) (sc := defScope s_law_told) (by decide +kernel)) (fun _ _ _ _ _=>(qg 10 sc_law_told rfl)) (fun _ _ _ _ _=>(PTs.weak pts_nil c_yes)) (fun _ _ _ _ _=>(qi (q0 10) q1))) (c_lc tg_name (by decide))))) (c_cb cs_tup))) (pw_or1 (qn hr.units (qf (q0 0) T.f_links) (Am.PE.weak (pe_callTy call_tupA (by rfl) T.z_tuple (by decide +kernel) (qa (Am.PE.weak (pe_lc (own := [("_law_entry",10)]) rfl sc_law_told.nd (PI.weak (pi_seq (q0 2)) c_seq) (blkOk_by (own := [("_law_entry",10)]) (N := N_law_told) (sc := defScope s_law_told) (by decide +kernel)) (fun _ _ _ _ _=>(qg 10 sc_law_told rfl)) (fun _ _ _ _ _=>(PTs.weak pts_nil c_yes)) (fun _ _ _ _ _=>(qi (q0 10) q1))) (c_lc tg_name (by decide))))) (c_cb cs_tup)))))) (pss_one (rr (ae_c (fun _=>.bl _) pe_bl))))
(rb (rs 3 sc_law_told rfl (Am.PE.weak pe_dnewK c_dnewK))
(ra (ps_for po rfl (PI.weak (pi_seq (q0 2)) c_seq) (pg_tup rfl (pgs_cons (qg 4 sc_law_told rfl) (pgs_cons (qg 5 sc_law_told rfl) (pgs_cons (qg 6 sc_law_told rfl) (pgs_cons (qg 7 sc_law_told rfl) pgs_nil))))) (ra (ps_dput (hu_of hr) (q0 3) (q0 4) (q0 5) rfl) c_dput
(pss_one (rj (PW.pt (aw_or (qn hr.units (Am.PE.weak (pe_mtS (q0 0) T.c_Schema T.m_Schema_rule G_Schema_rule (hr.mono (by decide)) hx (qa (q0 4))) c_meth) (q0 7)) (pw_or1 (qn hr.units (Am.PE.weak (pe_mtS (q0 0) T.c_Schema T.m_Schema_ends G_Schema_ends (hr.mono (by decide)) hx (qa (q0 4))) c_meth) (ae_tup (qb (q0 5) (q0 6))))))) (pss_one (rr (ae_c (fun _=>.bl _) pe_bl))))))) (c_for (tg_tup (tgs_cons tg_name (tgs_cons tg_name (tgs_cons tg_name (tgs_cons tg_name tgs_nil))))))
(ra (ps_for po rfl (PI.weak (pi_seq (q0 1)) c_seq) (pg_tup rfl (pgs_cons (qg 4 sc_law_told rfl) (pgs_cons (qg 7 sc_law_told rfl) (pgs_cons (qg 8 sc_law_told rfl) pgs_nil)))) (rb (rs 9 sc_law_told rfl (ae_ifExp (at_cmp op_isNA os_isN (q0 8) (ae_c (fun _=>.non) pe_non) (nomark _)) (ae_c (fun _=>.non) pe_non) (ae_tup (qb (q0 8) (Am.PE.weak (pe_dget (hu_of hr) (q0 3) (q0 8) (fun _ _=>rfl)) c_dget)))))
(pss_one (rj (PW.pt (aw_or (qn hr.units (Am.PE.weak (pe_mtS (q0 0) T.c_Schema T.m_Schema_rule G_Schema_rule (hr.mono (by decide)) hx (qa (q0 4))) c_meth) (q0 7)) (pw_or1 (qn hr.units (Am.PE.weak (pe_mtS (q0 0) T.c_Schema T.m_Schema_owner G_Schema_owner (hr.mono (by decide)) hx (qa (q0 4))) c_meth) (q0 9))))) (pss_one (rr (ae_c (fun _=>.bl _) pe_bl))))))) (c_for (tg_tup (tgs_cons tg_name (tgs_cons tg_name (tgs_cons tg_name tgs_nil)))))
(pss_one (rr (ae_c (fun _=>.bl _) pe_bl)))))))
theorem wk_law {P:Program} {w:World} {K:PySem.W.Frag} {mg:Str→Option Value} {base:Heap} (T:Txt K mg w) (G_Schema_eq:FnR P w K mg base (L2.CX P w) 1 (He.ma K (He.ga K "Schema") "__eq__") (spM K m_Schema_eq)) (G_Schema_init:FnR P w K mg base (L2.CX P w) 4 (He.ma K (He.ga K "Schema") "__init__") (spM K m_Schema_init)) (G_law_pool:FnR P w K mg base (L2.CX P w) 1 (He.ga K "_law_pool") (spM K m_law_pool)) (G_law_schema:FnR P w K mg base (L2.CX P w) 3 (He.ga K "_law_schema") (spM K m_law_schema)) (G_law_text:FnR P w K mg base (L2.CX P w) 1 (He.ga K "_law_text") (spM K m_law_text)) (G_law_told:FnR P w K mg base (L2.CX P w) 4 (He.ga K "_law_told") (spM K m_law_told)) (G_read_schema:FnR P w K mg base (L2.CX P w) 6 (He.ga K "read_schema") (spM K m_read_schema)) (G_write_schema:FnR P w K mg base (L2.CX P w) 4 (He.ga K "write_schema") (spM K m_write_schema)) (cdv:Value) (A:Around) (outer:List Env) (s:Shared) (H:Hp) (E:XK) (hr:Room 6 (A.deeper (envOfC "law" (defScope s_law) s.heap.objs.size (He.ga K "law") cdv))) :
  PSs (cxOf CX0 P w K mg base N_law "law" (defScope s_law) (He.ga K "law") cdv A outer s H E).nox (defBody s_law) (cS K WF b_law) := by
 unfold b_law
 exact (rb (rs 1 sc_law rfl (qk G_law_pool passF hr T.g_law_pool T.k_law_pool (qa (q0 0))))
(ra (ps_for PassesOwn.never rfl (PI.weak (pi_range1 (by rfl) T.z_range (qa q1)) c_rng1) (qg 2 sc_law rfl) (ra (ps_asg (qk G_law_schema passF hr T.g_law_schema T.k_law_schema (qb (q0 1) q1)) (pg_tup rfl (pgs_cons (qg 3 sc_law rfl) (pgs_cons (qg 4 sc_law rfl) pgs_nil)))) (c_set (tg_tup (tgs_cons tg_name (tgs_cons tg_name tgs_nil))))
(rb (rs 5 sc_law rfl (qk G_law_text passF hr T.g_law_text T.k_law_text (qb (q0 3) (q0 4))))
(rb (rs 6 sc_law rfl (Am.PE.weak (pe_makeS T.mk_Schema G_Schema_init (hr.mono (by decide)) (by rfl) T.g_Schema passF (qb (q0 3) (q0 4))) c_makeD))
(rb (rs 7 sc_law rfl (qk G_write_schema passF hr T.g_write_schema T.k_write_schema (qa (q0 6))))
(rb (rj (PW.pt (aw_or (at_not (at_val (Am.PE.weak (pe_callB call_isi (by rfl) T.z_isinstance (by decide +kernel) (pa_cons (q0 7) (pa_cons (pe_bltn (v := .ty "str") (by rfl) T.z_str (by decide +kernel) rfl) pa_nil))) (c_isi T.cs (.ty _) T.is_str)))) (pw_or1 (qn hr.units (q0 7) (q0 5))))) (pss_one (rr (ae_c (fun _=>.bl _) pe_bl))))
(rb (rs 8 sc_law rfl (qk G_read_schema passF hr T.g_read_schema T.k_read_schema (qa (q0 5))))
(rb (rj (PW.pt (aw_or (at_not (at_cmpX (pt_cmpR (op_eqO T.o_Schema_eq G_Schema_eq (hr.mono (by decide)) passF0) (q0 8) (q0 6) (nomark _)) (c_ownEq T.cs T.nf_Schema))) (aw_or (at_not (at_val (qk G_law_told passF hr T.g_law_told T.k_law_told (qc (q0 8) (q0 3) (qa (q0 4)))))) (pw_or1 (qn hr.units (qk G_write_schema passF hr T.g_write_schema T.k_write_schema (qa (q0 8))) (q0 5)))))) (pss_one (rr (ae_c (fun _=>.bl _) pe_bl))))
(pss_one (Am.PS.weak (ps_for PassesOwn.never rfl (PI.weak (pi_seq (ae_lst (qb (ae_tup (qb (ae_op op_addA os_add (Am.PE.weak (pe_slice sl_any (q0 3) (PO.weak (po_some q1) c_part) (PO.weak po_none c_noPart)) c_sl) (Am.PE.weak (pe_slice sl_any (q0 3) (PO.weak po_none c_noPart) (PO.weak (po_some q1) c_part)) c_sl)) (q0 4))) (ae_tup (qb (q0 3) (ae_op op_addA os_add (Am.PE.weak (pe_slice sl_any (q0 4) (PO.weak (po_some q1) c_part) (PO.weak po_none c_noPart)) c_sl) (Am.PE.weak (pe_slice sl_any (q0 4) (PO.weak po_none c_noPart) (PO.weak (po_some q1) c_part)) c_sl))))))) c_seq) (pg_tup rfl (pgs_cons (qg 9 sc_law rfl) (pgs_cons (qg 10 sc_law rfl) pgs_nil))) (rb (rs 11 sc_law rfl (qk G_read_schema passF hr T.g_read_schema T.k_read_schema (qa (qk G_law_text passF hr T.g_law_text T.k_law_text (qb (q0 9) (q0 10))))))
(rb (rj (at_not (at_val (qk G_law_told passF hr T.g_law_told T.k_law_told (qc (q0 11) (q0 9) (qa (q0 10)))))) (pss_one (rr (ae_c (fun _=>.bl _) pe_bl))))
(pss_one (rj (qn hr.units (Am.PE.weak (pe_cmpR (op_eqO T.o_Schema_eq G_Schema_eq (hr.mono (by decide)) passF0) (q0 11) (q0 6) (nomark _)) (c_ownEq T.cs T.nf_Schema)) (ae_and (ae_cmp (op_eqP hr.units) os_eq (q0 9) (q0 3) (nomark _)) (pe_one (ae_cmp (op_eqP hr.units) os_eq (q0 10) (q0 4) (nomark _))))) (pss_one (rr (ae_c (fun _=>.bl _) pe_bl)))))))) (c_for (tg_tup (tgs_cons tg_name (tgs_cons tg_name tgs_nil)))))))))))))) (c_for tg_name)
(pss_one (rr (ae_c (fun _=>.bl _) pe_bl)))))
end
end Lw
namespace Lw
open PySem PySem.Spec PyProof.Rows L2 Fm
open Am (spM fDraw fPool Wr Sg AH Stp put put_same put_ne Rep Reps Post Sub Lk)
open PySem.W (Datum Tup T3 T4)
structure PD (T H:Hp) (p g:Addr) (gs:List Int) (c sd n:Int):Prop where
 st:Same T H
 tp:T p=none
 hp:H p=some (.lst [.ref g, .int c, .int sd, .int n])
 hg:H g=some (.lst (gs.map V.int))
 lo:0≤sd
 hi:sd < 2147483648
theorem PD.ne {T H:Hp} {p g:Addr} {gs:List Int} {c sd n:Int} (h:PD T H p g gs c sd n):g≠p := fun e=>by
 have h1 := h.hp
 rw [← e,h.hg] at h1
 cases gs with
 | nil=>cases h1
 | cons a r=>cases h1
theorem PD.keep {T H H':Hp} {p g:Addr} {gs:List Int} {c sd n:Int} (h:PD T H p g gs c sd n) (e:Same H H'):PD T H' p g gs c sd n := ⟨h.st.trans e,h.tp,e _ _ h.hp,e _ _ h.hg,h.lo,h.hi⟩
theorem PD.put {T H:Hp} {p g:Addr} {gs:List Int} {c sd n c' n':Int} (h:PD T H p g gs c sd n):PD T (upd H p (.lst [.ref g, .int c', .int sd, .int n'])) p g gs c' sd n' :=
 ⟨same_upd h.st h.tp,h.tp,upd_same,by rw [upd_ne h.ne]; exact h.hg,h.lo,h.hi⟩
theorem mod_small {a m:Int} (h:0 < m):0≤a % m∧a % m < m := ⟨Int.emod_nonneg _ (by omega),Int.emod_lt_of_pos _ h⟩
theorem pure_law_draw (K : PySem.W.Frag) (H : Hp) (vs : List V) (Q : VK) (E : XK) (h : spM K fDraw vs H Q E) : t_law_draw K { nx := fun _ H' => Q .non H', rt := Q } (start N_law_draw vs) H := by
  obtain ⟨g0, A, ds, Qa, Ea, w, rv, ⟨nn, n, e0, hA, hn, hl, hq⟩, po, _⟩ := h
  subst e0
  obtain ⟨p, hi, hS, gs, c, sd, m, g, hp, hg', h0, h1⟩ := w.nd nn _ hA
  have hg : H g = some (.lst (gs.map V.int)) := w.sub.at_ hg' (by constructor <;> intro _ z <;> cases z)
  have evs : vs = [.ref p, .int n] := by
    cases rv with
    | cons r1 rv => cases rv with
      | cons r2 rv =>
        cases rv
        rw [r2.int_]
        cases r1 with
        | ref z => rw [hi] at z; cases z; rfl
  subst evs
  obtain ⟨T, eT⟩ : ∃ T : Hp, T = fun a => if a = p then none else H a := ⟨_, rfl⟩
  have nTp : T p = none := by rw [eT]; exact if_pos rfl
  have sTH : Same T H := fun b x e => by
    rw [eT] at e
    by_cases hb : b = p
    · simp only [hb, if_true] at e; cases e
    · simp only [hb, if_false] at e; exact e
  have d0 : PD T H p g gs c sd m := ⟨sTH, nTp, hp, hg, h0, h1⟩
  have fin : ∀ H' g1 gs c m r, (g1 = g ∨ H g1 = none) → PD T H' p g1 gs c sd m → 0 ≤ r → r < n → Q (.int r) H' := fun H' g1 gs1 c m r hg1 d a b => by
    have keep : ∀ b x, H b = some x → b ≠ p → H' b = some x := fun b x e hb => d.st b x (by rw [eT]; simp only [hb, if_false]; exact e)
    have hSg : ∀ x, g0.S g1 = some x → H' g1 = some x ∧ x = .lst (gs1.map V.int) := fun x e => by
      have e1 := w.sub g1 x e
      rcases hg1 with z | z
      · subst z
        rw [hg'] at e; cases e
        have k1 := keep g1 _ hg (ne_of_none hg' hS)
        exact ⟨k1, by rw [d.hg] at k1; exact (Option.some.inj k1).symm⟩
      · obtain ⟨o', e2, _⟩ := e1; rw [z] at e2; cases e2
    have le : g0.le ⟨upd g0.S g1 (.lst (gs1.map V.int)), g0.i⟩ := ⟨fun b x e => by
      show upd g0.S g1 (.lst (gs1.map V.int)) b = some x
      by_cases hb : b = g1
      · subst hb; rw [upd_same, ← (hSg x e).2]
      · rw [upd_ne hb]; exact e, fun _ _ h => h⟩
    have ng1 : g1 ≠ p := d.ne
    have nnode : ∀ k a, g0.i k = some a → A k ≠ none → a ≠ g1 := fun k a e hk z => by
      cases q : A k with
      | none => exact hk q
      | some x =>
        obtain ⟨a', k1, k2, k3⟩ := w.nd k x q
        rw [e] at k1; cases k1
        rcases hg1 with y | y
        · rw [z, y] at k2; rw [hg'] at k2; cases k2
        · exact w.ex k a e (by rw [z]; exact y)
    have w' : Wr K ⟨upd g0.S g1 (.lst (gs1.map V.int)), g0.i⟩ A H' := by
      refine ⟨fun b o e => ?_, w.inj, fun k a e => ?_, w.fin, fun k x e => ?_⟩
      · have e' : upd g0.S g1 (.lst (gs1.map V.int)) b = some o := e
        by_cases hb : b = g1
        · subst hb; rw [upd_same] at e'; cases e'; exact ⟨_, d.hg, .inl rfl⟩
        · rw [upd_ne hb] at e'
          obtain ⟨o', e2, lk⟩ := w.sub b o e'
          have hbp : b ≠ p := fun z => by rw [z, hS] at e'; cases e'
          exact ⟨o', keep b o' e2 hbp, lk⟩
      · by_cases ha : a = p
        · rw [ha, d.hp]; simp
        · cases q : H a with
          | none => exact absurd q (w.ex k a e)
          | some x => rw [keep a x q ha]; simp
      · obtain ⟨a, k1, k2, k3⟩ := w.nd k x e
        by_cases hk : k = nn
        · subst hk
          rw [hA] at e; cases e
          rw [hi] at k1; cases k1
          exact ⟨p, hi, by show upd g0.S g1 _ p = none; rw [upd_ne (Ne.symm ng1)]; exact hS, gs1, c, sd, m, g1, d.hp, upd_same, h0, h1⟩
        · have ha : a ≠ p := fun z => hk (w.inj k nn p (by rw [← z]; exact k1) hi)
          refine ⟨a, k1, ?_, k3.mono le ?_⟩
          · show upd g0.S g1 _ a = none
            rw [upd_ne (nnode k a k1 (by rw [e]; simp))]; exact k2
          · cases q : H a with
            | none => exact absurd q (w.ex k a k1)
            | some y => exact keep a y q ha
    refine po _ _ _ _ _ ⟨le, fun b o e nb => keep b o e (fun z => nb ⟨nn, _, hA, by rw [z]; exact hi⟩), fun b h => .inl h, fun b hb => ?_, fun b o hb _ hs _ => ?_, fun _ _ h => .inl h⟩ w' (.int r) (hq r a b)
    · by_cases z : b = p
      · rw [z, d.hp]; simp
      · cases q : H b with
        | none => exact absurd q hb
        | some x => rw [keep b x q z]; simp
    · show upd g0.S g1 _ b = none
      by_cases z : b = g1
      · rcases hg1 with y | y
        · rw [z, y, hg'] at hs; cases hs
        · rw [z, y] at hb; cases hb
      · rw [upd_ne z]; exact hs
  have ng : g = g ∨ H g = none := .inl rfl
  clear hg
  refine ⟨_, rfl, ⟨p, _, 3, .int m, rfl, rfl, by decide, hp, rfl, ⟨m, 1, rfl, rfl, ⟨p, _, 3, 3, rfl, rfl, hp, rfl, ?_⟩⟩⟩⟩
  have d1 := d0.put (c' := c) (n' := m + 1)
  show tSeq _ _ _ _ (upd H p (.lst [.ref g, .int c, .int sd, .int (m + 1)]))
  generalize upd H p (.lst [.ref g, .int c, .int sd, .int (m + 1)]) = H1 at d1
  clear d0 hp
  have tail : ∀ H1 g1 gs c, (g1 = g ∨ H g1 = none) → PD T H1 p g1 gs c sd (m + 1) → (tSeq (tIfS (tTest (tOp rGtA (tOp (rIx K) (tVar 0) (tC (.int 1))) (tC (.int 0)))) (tSeq (tAsg (tOp rModA (tCB rInt1 (tCons (tOp (rIx K) (tVar 0) (tC (.int 1))) tNil)) (tVar 1)) (gName 2))
    (tSeq (tAsg (tOp rDivA (tOp (rIx K) (tVar 0) (tC (.int 1))) (tVar 1)) (gSub (tVar 0) (tC (.int 1)) rSetL))
    (tRet (tVar 2)))) tNext)
    (tSeq (tAsg (tOp rModA (tCB rInt1 (tCons (tOp rAddA (tOp rMulA (tOp (rIx K) (tVar 0) (tC (.int 2))) (tC (.int 48271))) (tOp rMulA (tOp (rIx K) (tVar 0) (tC (.int 3))) (tC (.int 69621)))) tNil)) (tC (.int 2147483647))) (gName 3))
    (tSeq (tAsg (tOp rModA (tCB rInt1 (tCons (tOp rAddA (tOp rMulA (tVar 3) (tOp rAddA (tOp rDivA (tVar 3) (tC (.int 7))) (tC (.int 40692)))) (tOp rMulA (tOp (rIx K) (tVar 0) (tC (.int 3))) (tC (.int 16807)))) tNil)) (tC (.int 2147483399))) (gName 3))
    (tRet (tOp rModA (tOp rDivA (tVar 3) (tC (.int 5))) (tVar 1)))))) { nx := fun _ H' => Q .non H', rt := Q } [some (.ref p), some (.int n), none, none] H1 := by
    intro H1 g1 gs c ng d
    refine q_if (M := W0) (S := H1) (T := H1) (b := decide (0 < c)) (ev_test (K := K) (ev_gt (ev_at rfl d.hp rfl rfl is_int) ev_ic)) (Same.refl _) (Same.refl _) (fun S2 T2 H2 st w2 hb => ?_) (fun S2 T2 H2 st w2 hb => ?_)
    · have d2 := d.keep (st.tt.trans w2)
      refine q_set (M := W0) (S := H2) (T := H2) (P := Is K (c % n)) (ev_mod (ev_int (ev_at rfl d2.hp rfl rfl is_int)) (ev_iv rfl) hn) (Same.refl _) (Same.refl _) fun S3 T3 H3 v st3 w3 hv => ?_
      have d3 := d2.keep (st3.tt.trans w3)
      rw [hv.int]
      refine (ev_div (M := W0) (K := K) (S := H3) (a := c) (b := n) (ev_at rfl d3.hp rfl rfl is_int) (ev_iv rfl) ⟨hn, hl⟩) H3 H3 (Same.refl _) (Same.refl _) _ fun S4 T4 H4 v st4 w4 hv => ?_
      have d4 := d3.keep (st4.tt.trans w4)
      rw [hv.int]
      refine ⟨_, rfl, ⟨p, _, 1, 1, rfl, rfl, d4.hp, rfl, ?_⟩⟩
      have d5 := d4.put (c' := c / n) (n' := m + 1)
      exact ⟨_, rfl, fin _ _ _ _ _ _ ng d5 (mod_small hn).1 (mod_small hn).2⟩
    · have d2 := d.keep (st.tt.trans w2)
      refine q_set (M := W0) (S := H2) (T := H2) (ev_mod (K := K) (ev_int (ev_add (ev_mul (ev_at rfl d2.hp rfl rfl is_int) ev_ic (.inr ⟨by decide, by decide⟩)) (ev_mul (ev_at rfl d2.hp rfl rfl is_int) ev_ic (.inr ⟨by decide, by decide⟩)))) ev_ic (by decide)) (Same.refl _) (Same.refl _) fun S3 T3 H3 v st3 w3 hv => ?_
      have d3 := d2.keep (st3.tt.trans w3)
      have hv' := hv.int
      obtain ⟨b1, b2⟩ := mod_small (a := sd * 48271 + (m + 1) * 69621) (m := 2147483647) (by decide)
      generalize (sd * 48271 + (m + 1) * 69621) % 2147483647 = x at hv' b1 b2
      subst hv'
      refine q_set (M := W0) (S := H3) (T := H3) (ev_mod (K := K) (ev_int (ev_add (ev_mul (ev_iv rfl) (ev_add (ev_div (ev_iv rfl) ev_ic ⟨by decide, by decide⟩) ev_ic) (.inl ⟨by omega, by omega⟩)) (ev_mul (ev_at rfl d3.hp rfl rfl is_int) ev_ic (.inr ⟨by decide, by decide⟩)))) ev_ic (by decide)) (Same.refl _) (Same.refl _) fun S4 T4 H4 v st4 w4 hv => ?_
      have d4 := d3.keep (st4.tt.trans w4)
      have hv' := hv.int
      subst hv'
      refine q_ret (M := W0) (S := H4) (T := H4) (ev_mod (K := K) (ev_div (ev_iv rfl) ev_ic ⟨by decide, by decide⟩) (ev_iv rfl) hn) (Same.refl _) (Same.refl _) fun S5 T5 H5 v st5 w5 hv => ?_
      have d5 := d4.keep (st5.tt.trans w5)
      rw [hv.int]
      exact fin _ _ _ _ _ _ ng d5 (mod_small hn).1 (mod_small hn).2
  have e0 : Is K gs H1 (.ref g) := is_lst (.inl d1.hg) isAll_ints
  refine q_if (M := W0) (S := H1) (T := H1) (b := decide (c = 0) && !decide (gs = [])) (ev_and (ev_test (K := K) (ev_eq (ev_at rfl d1.hp rfl rfl is_int) ev_ic)) (fun _ => ev_test (K := K) (ev_ne (a := gs) (b := []) (ev_at rfl d1.hp rfl rfl e0) ev_l0))) (Same.refl _) (Same.refl _) (fun S2 T2 H2 st w2 hb => ?_) (fun S2 T2 H2 st w2 hb => ?_)
  · have d2 := d1.keep (st.tt.trans w2)
    have hg : gs ≠ [] := fun z => by rw [z] at hb; simp at hb
    obtain ⟨g0', gr, rfl⟩ : ∃ g0' gr, gs = g0' :: gr := by
      cases gs with
      | nil => exact absurd rfl hg
      | cons a r => exact ⟨a, r, rfl⟩
    have e2 : Is K (g0' :: gr) H2 (.ref g) := is_lst (.inl d2.hg) isAll_ints
    refine (ev_ix (M := W0) (K := K) (S := H2) (xs := g0' :: gr) (i := 0) (a := g0') (ev_at rfl d2.hp rfl rfl e2) ev_ic rfl rfl) H2 H2 (Same.refl _) (Same.refl _) _ fun S3 T3 H3 v st3 w3 hv => ?_
    have d3 := d2.keep (st3.tt.trans w3)
    rw [hv.int]
    refine ⟨_, rfl, ⟨p, _, 1, 1, rfl, rfl, d3.hp, rfl, ?_⟩⟩
    have d4 : PD T (upd H3 p (HO.lst ([V.ref g, V.int c, V.int sd, V.int (m + 1)].set 1 (V.int g0')))) p g (g0' :: gr) g0' sd (m + 1) := d3.put (c' := g0') (n' := m + 1)
    dsimp only
    generalize upd H3 p (HO.lst ([V.ref g, V.int c, V.int sd, V.int (m + 1)].set 1 (V.int g0'))) = H4 at d4 ⊢
    have e4 : Is K (g0' :: gr) H4 (.ref g) := is_lst (.inl d4.hg) isAll_ints
    refine ⟨.ref p, rfl, .inl ⟨p, _, 0, .ref g, rfl, rfl, SqL.of d4.hp, rfl, 1, rfl, .inl ⟨g, (g0' :: gr).map V.int, rfl, SqL.of d4.hg, fun l nl => ?_⟩⟩⟩
    have hlp : p ≠ l := ne_of_none d4.hp nl
    refine ⟨_, rfl, ⟨p, _, 0, 0, rfl, rfl, by rw [upd_ne hlp]; exact d4.hp, rfl, ?_⟩⟩
    refine tail _ l gr g0' (.inr ?_) ⟨same_upd (d4.st.trans (same_new nl)) d4.tp, d4.tp, upd_same, ?_, d4.lo, d4.hi⟩
    · have := d4.st.free nl
      rw [eT] at this
      simpa [Ne.symm hlp] using this
    rw [upd_ne (Ne.symm hlp), upd_same]
    show some (HO.lst (cutV (V.int g0' :: gr.map V.int) (some 1) none)) = _
    have e : cutV (V.int g0' :: gr.map V.int) (some 1) none = gr.map V.int := by
      unfold cutV
      rw [show HT.sIx (V.int g0' :: gr.map V.int).length 0 (some 1) = min 1 (V.int g0' :: gr.map V.int).length from HT.sIx_nat _ 0 1, HT.sIx_none]
      rw [show min 1 (V.int g0' :: gr.map V.int).length = 1 by rw [List.length_cons]; omega]
      show List.take ((V.int g0' :: gr.map V.int).length - 1) (gr.map V.int) = gr.map V.int
      rw [List.length_cons, Nat.add_sub_cancel]
      exact List.take_length
    rw [e]
  · exact tail H2 g gs c ng (d1.keep (st.tt.trans w2))
end Lw
namespace Lw
open PySem PySem.Spec PyProof.Rows L2 Fm
open PySem.W (Datum Tup T3 T4)
open Am (spM fDraw fPool Wr Sg AH Stp put put_same put_ne Rep Reps Post Sub Lk)
theorem small1 {n:Nat} (h:n≤1000):n≤sizeLine := small_size h
section
variable {K:PySem.W.Frag}
theorem len_law_draw {vs:List V} {H:Hp} {Q:VK} {E:XK} (h:spM K fDraw vs H Q E):vs.length=2 := by
 obtain ⟨g0,A,ds,Qa,Ea,w,rv,⟨nn,n,e0,_⟩,po,_⟩ := h
 rw [rv.len,e0]; rfl
theorem len_law_pool {vs:List V} {H:Hp} {Q:VK} {E:XK} (h:spM K fPool vs H Q E):vs.length=1 := by
 obtain ⟨g0,A,ds,Qa,Ea,w,rv,⟨nn,e0,_⟩,po,_⟩ := h
 rw [rv.len,e0]; rfl
theorem pool_laid {g0 : Sg} {A : AH} {H H' : Hp} {Qa : Am.QE} {Q : VK} {p g : Addr} {gs : List Int} {c sd n : Int} (w : Wr K g0 A H) (s : Same H H') (np : H p = none) (ng : H g = none) (hp : H' p = some (.lst [.ref g, .int c, .int sd, .int n])) (hg : H' g = some (.lst (gs.map V.int))) (h0 : 0 ≤ sd) (h1 : sd < 2147483648)
    (hq : ∀ n, A n = none → Qa (.ref n) (put A n .pool)) (po : Post K g0 A H Qa Q) : Q (.ref p) H' := by
  have hne : g ≠ p := fun e => by
    rw [e, hp] at hg
    cases gs with
    | nil => cases hg
    | cons a r => cases hg
  obtain ⟨N, hN⟩ := w.fin
  have hi : g0.i N = none := hN N (Nat.le_refl _)
  have hA : A N = none := by
    cases e : A N with
    | none => rfl
    | some x => obtain ⟨a, h, _⟩ := w.nd N x e; rw [hi] at h; cases h
  have nS : g0.S g = none := w.sub.free ng
  have le : g0.le ⟨upd g0.S g (.lst (gs.map V.int)), fun m => if m = N then some p else g0.i m⟩ := ⟨same_new nS, fun m a h => by
    have : m ≠ N := fun e => by rw [e, hi] at h; cases h
    show (if m = N then some p else g0.i m) = some a
    rw [if_neg this]; exact h⟩
  have old : ∀ m a, (if m = N then some p else g0.i m) = some a → (m = N ∧ a = p) ∨ (m ≠ N ∧ g0.i m = some a ∧ a ≠ p) := fun m a h => by
    by_cases e : m = N
    · rw [if_pos e] at h; exact .inl ⟨e, (Option.some.inj h).symm⟩
    · rw [if_neg e] at h; exact .inr ⟨e, h, fun z => w.ex m a h (by rw [z]; exact np)⟩
  have kp : ∀ a o, H a = some o → H' a = some o := s
  refine po ⟨upd g0.S g (.lst (gs.map V.int)), fun m => if m = N then some p else g0.i m⟩ (put A N .pool) H' (.ref p) (.ref N) ⟨le, fun a o h _ => kp a o h, fun a h => ?_, fun a h => ?_, fun a o h _ hs _ => ?_, fun m a h => ?_⟩ ⟨fun b o e => ?_, fun m k a h1 h2 => ?_, fun m a h => ?_, ⟨N + 1, fun m h => ?_⟩, fun m y h => ?_⟩ (.ref (if_pos rfl)) (hq N hA)
  · obtain ⟨m, y, h1, h2⟩ := h
    rcases old m a h2 with ⟨e1, e2⟩ | ⟨e1, e2, e3⟩
    · exact .inr (by rw [e2]; exact np)
    · rw [put_ne e1] at h1; exact .inl ⟨m, y, h1, e2⟩
  · cases q : H a with
    | none => exact absurd q h
    | some o => rw [kp a o q]; simp
  · show upd g0.S g _ a = none
    rw [upd_ne (ne_of_none h ng)]; exact hs
  · rcases old m a h with ⟨e1, e2⟩ | ⟨e1, e2, e3⟩
    · exact .inr (by rw [e2]; exact np)
    · exact .inl e2
  · have e' : upd g0.S g (.lst (gs.map V.int)) b = some o := e
    by_cases hb : b = g
    · subst hb; rw [upd_same] at e'; cases e'; exact ⟨_, hg, .inl rfl⟩
    · rw [upd_ne hb] at e'
      obtain ⟨o', e2, lk⟩ := w.sub b o e'
      exact ⟨o', kp _ _ e2, lk⟩
  · rcases old m a h1 with ⟨e1, e2⟩ | ⟨e1, e2, e3⟩ <;> rcases old k a h2 with ⟨f1, f2⟩ | ⟨f1, f2, f3⟩
    · rw [e1, f1]
    · exact absurd e2 f3
    · exact absurd f2 e3
    · exact w.inj m k a e2 f2
  · rcases old m a h with ⟨e1, e2⟩ | ⟨e1, e2, e3⟩
    · rw [e2, hp]; simp
    · cases q : H a with
      | none => exact absurd q (w.ex m a e2)
      | some o => rw [kp a o q]; simp
  · show (if m = N then some p else g0.i m) = none
    rw [if_neg (by omega)]; exact hN m (by omega)
  · by_cases e : m = N
    · subst e
      rw [put_same] at h; cases h
      exact ⟨p, if_pos rfl, by show upd g0.S g _ p = none; rw [upd_ne (Ne.symm hne)]; exact w.sub.free np, gs, c, sd, n, g, hp, upd_same, h0, h1⟩
    · rw [put_ne e] at h
      obtain ⟨a, k1, k2, k3⟩ := w.nd m y h
      have hag : a ≠ g := fun z => w.ex m a k1 (by rw [z]; exact ng)
      refine ⟨a, by show (if m = N then some p else g0.i m) = some a; rw [if_neg e]; exact k1, by show upd g0.S g _ a = none; rw [upd_ne hag]; exact k2, k3.mono le ?_⟩
      cases q : H a with
      | none => exact absurd q (w.ex m a k1)
      | some o => exact kp a o q
theorem pure_law_pool (K:PySem.W.Frag) (H:Hp) (vs:List V) (Q:VK) (E:XK) (h:spM K fPool vs H Q E):t_law_pool K { nx := fun _ H'=>Q .non H',rt := Q } (start N_law_pool vs) H := by
 obtain ⟨g0,A,ds,Qa,Ea,w0,rv,⟨ns,e0,hl,hq⟩,po,_⟩ := h
 subst e0
 obtain ⟨a,rfl,hr⟩:∃ a,vs=[.ref a]∧SqL K H a (ns.map V.int) := by
  cases rv with
  | cons r1 rv =>
   cases rv
   cases r1 with
   | scr z=>exact ⟨_,rfl,w0.sub.sql z⟩
 have hcut:∀ {σ:L2.St} {S:Hp},Same H S→σ[0]? = some (some (.ref a))→EvI W0 (iSeq K (tSl (Fm.rSlA K) (tVar 0) tNoPart (tPart (tC (.int 63))))) σ S (cutL ns none (some 63)).length (Itm K (cutL ns none (some 63))) := fun e h0=>evi_list (ev_cutQ h0 (Same.sql e hr) isAll_ints evo_none (evo_some (K := K) ev_ic))
 have hcl:(cutL ns none (some 63)).length≤1000 := by
  rw [show (63:Int)=((63:Nat):Int) from rfl,cutL_to]
  have := List.length_take_le 63 ns
  omega
 have hg:Ev W0 (tLc (iSeq K (tSl (Fm.rSlA K) (tVar 0) tNoPart (tPart (tC (.int 63))))) (gName 3) (tTest (tOp rGeA (tVar 3) (tOp rPowA (tC (.int 10)) (tC (.int 18))))) (tCB rInt1 (tCons (tVar 3) tNil)) [3]) (start N_law_pool [.ref a]) H (fun S' v=>∃ (g:Addr) (gs:List Int),v = .ref g∧H g=none∧S' g=some (.lst (gs.map V.int))) := by
  generalize hxs:cutL ns none (some 63)=xs at *
  refine (ev_lcN (p := fun i=>decide (10 ^ 18≤xs.getD i 0)) (E := fun i=>Is K (xs.getD i 0)) (hcut (Same.refl _) rfl) itm_mono (fun i=>is_mono) (small1 hcl) fun i S1 v hi e ⟨x,h1,h2⟩=>?_).imp fun S' v e ⟨g,ws,h1,h2,h3,h4⟩=>?_
  ·have ex:xs.getD i 0=x := by rw [List.getD_eq_getElem?_getD,h1]; rfl
   rw [ex]
   exact ⟨_,fun H s Q q=>q,wipe1,ev_test (K := K) (ev_ge (ev_var rfl h2) (ev_pow (a := 10) (b := 18) ev_ic ev_ic ⟨by decide,by decide,by decide⟩)),fun _=>ev_int (ev_var rfl h2)⟩
  ·have := paired_is (K := K) (xs := ([]:List Int)) h4
   have e2 := this.ints
   exact ⟨g,_,h1,h2,by rw [h3,e2]⟩
 refine q_set (M := W0) (S := H) (T := H) hg (Same.refl _) (Same.refl _) fun S1 T1 H1 v1 st1 w1 p1=>?_
 obtain ⟨g,gs,rfl,ng,hg1⟩ := p1
 dsimp only
 refine q_set (M := W0) (S := S1) (T := T1) (P := Is K (7:Int)) ev_ic w1 st1.st fun S2 T2 H2 v2 st2 w2 p2=>?_
 rw [p2.int]
 have e2 := st1.ss.trans st2.ss
 refine for_ev (M := W0) (S := S2) (T := T2) (hcut e2 rfl) itm_mono w2 st2.st (fun i σ S T=>∃ sd x,σ=[some (.ref a),some (.ref g),some (.int sd),x]∧0≤sd∧sd < 2147483648) (fun _ _ _=>⟨7,none,rfl,by decide,by decide⟩) (fun i v σ2 S3 T3 H3 hi st3 w3 hJ ⟨x,hx,hv⟩=>?_) (fun σ2 S3 T3 H3 st3 w3 hJ=>?_)
 ·obtain ⟨sd,x0,rfl,h0,h1⟩ := hJ
  refine q_set (M := W0) (S := S3) (T := T3) (ev_mod (K := K) (ev_int (ev_add (ev_add (ev_mul (ev_iv (z := sd) rfl) ev_ic (.inr ⟨by decide,by decide⟩)) (ev_mod (ev_int (ev_var rfl hv)) ev_ic (by decide))) ev_ic)) ev_ic (by decide)) w3 st3.st fun S4 T4 H4 v4 st4 w4 p4=>?_
  refine ⟨S4,T4,st3.trans st4,w4,st4.ss,_,some v,by rw [p4.int]; rfl,(mod_small (by decide)).1, ?_⟩
  have := (mod_small (a := sd * 31 + x % 1000003 + 1) (m := 2147483629) (by decide)).2
  omega
 ·obtain ⟨sd,x0,rfl,h0,h1⟩ := hJ
  refine ⟨.ref g,rfl, .int sd,rfl,small_size (by simp),fun p np=>?_⟩
  have sH:Same H H3 := (st1.tt.trans (st2.tt.trans st3.tt)).trans w3
  have hg3:H3 g=some (.lst (gs.map V.int)) := w3 _ _ (st3.st _ _ (st3.ss _ _ (st2.ss _ _ hg1)))
  have hpg:g≠p := ne_of_none hg3 np
  exact pool_laid w0 (sH.trans (same_new np)) (sH.free np) ng upd_same (by rw [upd_ne hpg]; exact hg3) h0 h1 hq po
end
end Lw
namespace Lw
open PySem PySem.Spec PyProof.Rows L2 Am
open PySem.W (Datum Tup T3 T4)
open TL (tl tl_append tl_join joinL join_eq)
abbrev lawE:AEnds := { nx := fun _ _=>False,rt := fun d _=>d = .bl true,bk := fun _ _=>False,ct := fun _ _=>False,ex := fun _ _ _=>False }
def abc:Str := "abcdefghijklmnopqrstuvwxyz"
def isW (z:Str):Bool := (decide ((1:Int)≤z.length) && decide ((z.length:Int)≤8)) && z.cps.toList.all fun c=>decide (c∈abc.cps.toList)
theorem word_len {z:Str} (h:isW z=true):z.length≤8∧1≤z.length := by
 unfold isW at h
 simp only [Bool.and_eq_true,decide_eq_true_eq] at h
 omega
section
variable {s:Sl} {A:AH} {m ma mb mc:ME}
theorem filter_yes {α:Type} (xs:List α):xs.filter (fun _=>true)=xs := by simp
theorem allBD_map {α:Type} {f:α→Bool}:∀ xs:List α,allBD (xs.map fun x=>D.bl (f x))=some (xs.all f)
 | []=>rfl
 | x :: xs=>by rw [List.map_cons]; unfold allBD; rw [allBD_map xs]; rfl
theorem pv_all {α:Type} {xs:List α} {f:α→Bool} (h:Pv m s A (.lst (xs.map fun x=>.bl (f x)))):Pv (mCB fAll (mCons m mNil)) s A (.bl (xs.all f)) := pv_cb (pa_1 h) fun Q q=>⟨_,_,_,rfl,rfl,allBD_map xs,q⟩
theorem fv_is_word {z:Str} (hz:z.length≤1000):Fv m_is_word [.str z] A (.bl (isW z)) := fun Q E q=>⟨rfl,s_ret (d := .bl (isW z)) ((pv_andV (pv_isi (t := .b "str") (b := true) (pv_var rfl) rfl rfl) fun _=>pv_andV (pv_chain pv_c (pv_lenS (pv_var rfl) (sz hz)) pv_c) fun _ =>
 pv_all (f := fun c=>decide (c∈abc.cps.toList)) (xs := z.cps.toList) ((pv_lcS (p := fun _=>true) (f := fun c=>.bl (decide (c∈abc.cps.toList))) (pv_var rfl) (sz hz) fun c hc R k=>k _ pt_yes fun _=>(pv_sign (z := abc) (pv_var rfl) pv_c).is (by simp)).is (by rw [filter_yes]))).is (by rfl)) (fg q)⟩
end
section
variable {s:Sl} {A:AH} {m ma mb mc:ME} {n:Nat} {x:D} {us ws:List Str} {Q:QE} {E:QX}
theorem isW_of {z:Str} (h1:1≤(tl z).length) (h2:(tl z).length≤8) (h:∀ c∈tl z,c∈abc.cps.toList):isW z=true := by
 have e:(z.length:Int)=(tl z).length := by
  show ((z.cps.size:Nat):Int)=((z.cps.toList.length:Nat):Int)
  simp
 unfold isW
 rw [e]
 simp only [Bool.and_eq_true,decide_eq_true_eq,List.all_eq_true]
 exact ⟨⟨by omega,by omega⟩,h⟩
theorem tl_len (z:Str):(tl z).length=z.length := by
 show z.cps.toList.length=z.cps.size
 simp
theorem word_all {z:Str} (h:isW z=true):∀ c∈tl z,c∈abc.cps.toList := by
 unfold isW at h
 simp only [Bool.and_eq_true,List.all_eq_true] at h
 intro c hc
 have := h.2 c hc
 simpa using this
def Sign (y:Str):Prop := ∃ c,y=⟨#[c]⟩∧c∈abc.cps.toList
theorem join_ok:∀ {ys:List Str},(∀ y∈ys,Sign y)→(joinL [] (ys.map tl)).length=ys.length∧∀ c∈joinL [] (ys.map tl),c∈abc.cps.toList
 | [],_=>⟨rfl,fun c h=>nomatch h⟩
 | [y],h=>by
  obtain ⟨c,rfl,hc⟩ := h y (List.mem_singleton.mpr rfl)
  refine ⟨rfl,fun d hd=>?_⟩
  have:d∈[c] := hd
  rw [List.mem_singleton.mp this]
  exact hc
 | y :: z :: r,h=>by
  obtain ⟨c,rfl,hc⟩ := h y (List.mem_cons_self ..)
  obtain ⟨q1,q2⟩ := join_ok (ys := z :: r) fun w hw=>h w (List.mem_cons_of_mem _ hw)
  have e:joinL [] ((⟨#[c]⟩ :: z :: r:List Str).map tl)=c :: joinL [] ((z :: r).map tl) := rfl
  rw [e]
  refine ⟨by rw [List.length_cons,q1]; rfl,fun d hd=>?_⟩
  rcases List.mem_cons.mp hd with e | hd
  ·rw [e]; exact hc
  ·exact q2 d hd
theorem sum_ok:∀ {ys:List Str},(∀ y∈ys,Sign y)→(ys.map (·.length)).sum=ys.length
 | [],_=>rfl
 | y :: r,h=>by
  obtain ⟨c,rfl,hc⟩ := h y (List.mem_cons_self ..)
  rw [List.map_cons,List.sum_cons,sum_ok fun w hw=>h w (List.mem_cons_of_mem _ hw),List.length_cons]
  show 1 + r.length=r.length + 1
  omega
theorem join_word {ys:List Str} (h:∀ y∈ys,Sign y) (h1:1≤ys.length) (h2:ys.length≤8):isW (Txt.join "" ys)=true := by
 have e:tl (Txt.join "" ys)=joinL [] (ys.map tl) := by rw [join_eq,tl_join]; rfl
 obtain ⟨q1,q2⟩ := join_ok h
 exact isW_of (by rw [e,q1]; exact h1) (by rw [e,q1]; exact h2) (by rw [e]; exact q2)
theorem cut7 (z:Str):tl (cutS z none (some 7))=(tl z).take 7 := by
 show ((z.cps.toList.drop 0).take (HT.sIx z.length z.length (some ((7:Nat):Int)) - 0)).toArray.toList=_
 rw [HT.sIx_nat]
 show List.take (min 7 z.length) (tl z)=_
 rw [← tl_len]
 by_cases h:7≤(tl z).length
 ·rw [Nat.min_eq_left h]
 ·rw [Nat.min_eq_right (by omega),List.take_length,List.take_of_length_le (by omega)]
def cand (z:Str) (c:Nat):Str := cutS z none (some 7) ++ ⟨#[c]⟩
theorem tl_cand (z:Str) (c:Nat):tl (cand z c)=(tl z).take 7 ++ [c] := by
 unfold cand
 rw [tl_append,cut7]
theorem cand_inj {z:Str} {c d:Nat} (h:cand z c=cand z d):c=d := by
 have := congrArg tl h
 rw [tl_cand,tl_cand] at this
 simpa using this
theorem cand_word {z:Str} {c:Nat} (hz:isW z=true) (hc:c∈abc.cps.toList):isW (cand z c)=true := by
 refine isW_of (by rw [tl_cand,List.length_append]; show 1≤_ + 1; omega) (by rw [tl_cand,List.length_append]; have := List.length_take_le 7 (tl z); show _ + 1≤8; omega) fun d hd=>?_
 rw [tl_cand] at hd
 rcases List.mem_append.mp hd with h | h
 ·exact word_all hz d (List.mem_of_mem_take h)
 ·rw [List.mem_singleton.mp h]; exact hc
theorem cand_some {z:Str} {us:List Str} (h:us.length < 26):∃ c r,abc.cps.toList.filter (fun c=>!decide (cand z c∈us))=c :: r := by
 cases e:abc.cps.toList.filter (fun c=>!decide (cand z c∈us)) with
 | cons c r=>exact ⟨c,r,rfl⟩
 | nil =>
  rw [List.filter_eq_nil_iff] at e
  have hn:(abc.cps.toList.map (cand z)).Nodup := by
   unfold List.Nodup
   rw [List.pairwise_map]
   have:abc.cps.toList.Nodup := by decide +kernel
   exact this.imp fun hab e=>hab (cand_inj e)
  have := Fm.nodup_le hn (ys := us) fun x hx=>by
   obtain ⟨c,hc,rfl⟩ := List.mem_map.mp hx
   simpa using e c hc
  rw [List.length_map,show abc.cps.toList.length=26 by decide +kernel] at this
  omega
theorem abc_at {r:Int} (h0:0≤r) (h1:r < 26):∃ c,abc.cps.toList[r.toNat]? = some c∧c∈abc.cps.toList := by
 have h:r.toNat < abc.cps.toList.length := by rw [show abc.cps.toList.length=26 by decide +kernel]; omega
 exact ⟨_,List.getElem?_eq_getElem h,List.getElem_mem h⟩
theorem signs:∀ {is:List Nat} {ys:List D},Paired (fun _ d=>∃ z,d=D.str z∧Sign z) is ys→∃ zs:List Str,ys=zs.map en∧zs.length=is.length∧∀ z∈zs,Sign z
 | _,_, .nil=>⟨[],rfl,rfl,fun _ h=>nomatch h⟩
 | _,_, .cons ⟨z,e,hz⟩ r=>by
  obtain ⟨zs,h1,h2,h3⟩ := signs r
  subst e h1
  exact ⟨z :: zs,rfl,by simp [h2],fun w hw=>by
   rcases List.mem_cons.mp hw with e | h
   ·rw [e]; exact hz
   ·exact h3 w h⟩
theorem f_word (hp:A n=some .pool) (hx:LsD A x us) (hl:us.length < 26):Fx m_law_word [.ref n,x] A fun d=>∃ z,d = .str z∧isW z=true∧z ∉ us := fun Q E q=>by
 refine ⟨rfl, ?_⟩
 refine s_set (d := .str abc) pv_c ?_
 refine s_setX (px_addD (px_draw (k := 8) hp (pv_var rfl) pv_c)) fun d ⟨r,e,h0,h1⟩=>?_
 subst e
 have hj:Px (mJoin (mC (.str "")) (mLc (mRng1 (mCons (mVar 3) mNil)) (gN 5) mYes (mOp fIx (mVar 2) (mCall m_law_draw (mCons (mVar 0) (mCons (mC (.int 26)) mNil)))) [5])) [some (.ref n),some x,some (.str abc),some (.int r),none,none,none] A fun d=>∃ z,d = .str z∧isW z=true := fun Q E q=>by
  refine ⟨"",rfl,(px_lcR (j := r) (E0 := fun _ d=>∃ z,d=D.str z∧Sign z) (pv_var rfl) (by omega) (by omega) fun i hi R k=>k _ ?_) _ _ fun d ⟨ys,e,hy⟩=>?_⟩
  ·refine px_op (Pv.px (pv_var rfl)) (px_draw (k := 26) hp (pv_var rfl) pv_c) fun u v eu ⟨r2,ev,g0,g1⟩ Q q=>?_
   subst eu ev
   obtain ⟨c,hc,hm⟩ := abc_at g0 g1
   exact w_ixS (i := r2.toNat) (by omega) (by decide) hc (q _ ⟨⟨#[c]⟩,rfl,c,rfl,hm⟩)
  ·obtain ⟨zs,e1,e2,e3⟩ := signs hy
   rw [List.length_range] at e2
   subst e e1
   exact ⟨_,zs,rfl,strsOf_map zs,by rw [sum_ok e3]; show _ + _ * 0≤_; omega,q _ ⟨_,rfl,join_word e3 (by omega) (by omega)⟩⟩
 refine s_setX hj fun d ⟨z,e,hz⟩=>?_
 subst e
 have hzl := (word_len hz).1
 refine s_if (a := decide (z∈us)) ((pt_b (pv_inS (pv_var rfl) (pv_var rfl) hx.sq)).is (by simp)) (fun hb=>?_) (fun hb=>?_)
 ·obtain ⟨c,cr,hcr⟩ := cand_some (z := z) hl
  have hcs:(cutS z none (some 7)).length≤8 := Nat.le_trans (cutS_length z none (some 7)) hzl
  have hadd:∀ {d:Nat} {Z:Sl},Z[4]? = some (some (.str z))→Z[6]? = some (some (.str ⟨#[d]⟩))→Pv (mOp fAdd (mSl (mVar 4) mNoPart (mPart (mC (.int 7)))) (mVar 6)) Z A (.str (cand z d)) := fun h4 h6=>pv_addS (pv_slS (pv_var h4) po_no (po_so pv_c) (sz (by omega))) (pv_var h6) (sz (by show _ + 1≤1000; omega))
  refine s_set (d := .str (cand z c)) (pv_ix (α := Str) (xs := (c :: cr).map (cand z)) (i := 0) ((pv_lcS (z := abc) (p := fun c=>!decide (cand z c∈us)) (f := fun c=>.str (cand z c)) (pv_var rfl) (by decide) fun d hd R k=>k _ ((pt_b (pv_inS (hadd rfl rfl) (pv_var rfl) hx.sq)).is (by simp)) fun _=>hadd rfl rfl).is rfl) pv_c ?_ rfl rfl) ?_
  ·rw [hcr]
   show some _=some _
   rw [List.map_map]
   rfl
  ·have hc:c∈abc.cps.toList.filter (fun c=>!decide (cand z c∈us)) := by rw [hcr]; exact List.mem_cons_self ..
   rw [List.mem_filter] at hc
   exact s_ret (pv_var rfl) (fg (q _ ⟨_,rfl,cand_word hz hc.1,by simpa using hc.2⟩))
 ·exact s_ret (pv_var rfl) (fg (q _ ⟨z,rfl,hz,by simpa using hb⟩))
end
end Lw
namespace Lw
open PySem PySem.Spec PyProof.Rows L2 Am
open PySem.W (Datum Tup T3 T4)
abbrev Kd := T3 Str Str (Option Str)
abbrev Lk := T4 Str Str Str Str
theorem fw_word {A:AH} {n:Nat} {x:D} {us:List Str} {Q:QE} {E:QX} (hp:A n=some .pool) (hx:ItL A x us en) (hl:us.length < 26) (q:∀ r,(isW r=true∧r ∉ us)→Q (.str r) A):m_law_word [.ref n,x] A Q E := f_word hp hx hl Q E fun d ⟨z,e,h1,h2⟩=>e ▸ q z ⟨h1,h2⟩
def W_check_names (a0:(List (T3 Str Str (Option Str)))) (a1:(List (T4 Str Str Str Str))) (Q:(Unit)→Prop) (E:Exv→Prop):Prop :=
 (forW (enu a0) (([]:List Str):(List Str)) (fun (x3:(Int × (T3 Str Str (Option Str)))) (st25:(List Str)) N22 B23=>(((x3.2.a.length≤1000))∧(if ((!(isW x3.2.a)) || (inB x3.2.a st25))=true then E (Exv.badSchema (some x3.1)) else (if ((!inB x3.2.b ([("loose":Str),("once":Str),("under":Str)]:List Str)) || (!eqB (Option.isNone x3.2.c) (!eqB x3.2.b ("under":Str))))=true then E (Exv.badSchema (some x3.1)) else (((Sz ((st25).length + 1)))∧N22 (st25 ++ [x3.2.a])))))) (fun (st45:(List Str))=>(forW (enu a1) (st45:(List Str)) (fun (x51:(Int × (T4 Str Str Str Str))) (st76:(List Str)) N73 B74=>(((x51.2.a.length≤1000))∧(if ((!(isW x51.2.a)) || ((inB x51.2.a st76) || (!inB x51.2.d ([("loose":Str),("once":Str)]:List Str))))=true then E (Exv.badSchema (some (((a0).length:Int) + x51.1))) else (if ((!inB x51.2.b st45) || (!inB x51.2.c st45))=true then E (Exv.badSchema (some (((a0).length:Int) + x51.1))) else (((Sz ((st76).length + 1)))∧N73 (st76 ++ [x51.2.a])))))) (fun (st99:(List Str))=>Q ()))))
theorem c_check_names {A0:AH} {y0:D} {a0:(List (T3 Str Str (Option Str)))} (hx0:ItL A0 y0 a0 en) {y1:D} {a1:(List (T4 Str Str Str Str))} (hx1:ItL A0 y1 a1 en) {Q0:Unit→Prop} {E0:Exv→Prop} {Q:QE} {E:QX} (h:W_check_names a0 a1 Q0 E0) (hQ:∀ r,Q0 r→Q D.non A0) (hE:∀ x,E0 x→E (encX x) A0):m_check_names [y0,y1] A0 Q E := by
 unfold W_check_names at h
 have hc:Cells A0 [] A0 := Cells.nil_
 refine fn_in (s := [some y0,some y1,none,none,none,none,none,none,none,none]) ?_ rfl rfl
 refine s_sq ?_
 refine u_setE ?_
 refine w_nilM ?_
 intro n1 hn
 replace hc := hc.new (Nd.lst []) hn
 generalize put A0 n1 (Nd.lst [])=A2 at hc ⊢
 replace hc:Cells A0 [[(n1,(Nd.lst (List.map en ([]:List Str))))]] A2 := hc
 refine at_n (s' := [some y0,some y1,some (D.ref n1),none,none,none,none,none,none,none]) rfl ?_
 refine nx_sq ?_
 refine s_sq ?_
 refine u_forC (σ := (List Str)) (e := (eE en)) (fun st26 s27 A28=>∃ (j29 j30 j31 j32:Option D),s27=[some y0,some y1,some (D.ref n1),j29,j30,j31,j32,none,none,none]∧Cells A0 [[(n1,(Nd.lst (List.map en st26)))]] A28) (mi_enum (pv_var rfl) (hx0.les hc.le)) h ⟨_,_,_,_,rfl,hc⟩ (fun _ _ _ ⟨_,_,_,_,_,hcP⟩=>(hx0.same hc.le hcP.le)) ?_ ?_
 ·rintro x3 hx3 st25 _ A37 N22 B23 Nm24 h ⟨j33,j34,j35,j36,rfl,hc⟩ hN22 hB23
  refine ⟨[(D.int x3.1),(D.tup [(D.str x3.2.a),(D.str x3.2.b),(en x3.2.c)])], .inl rfl,rfl,_,_,rfl,_,_,rfl,⟨[(D.str x3.2.a),(D.str x3.2.b),(en x3.2.c)], .inl rfl,rfl,_,_,rfl,_,_,rfl,_,_,rfl,rfl,rfl, ?_⟩⟩
  refine at_s (s' := [some y0,some y1,some (D.ref n1),some (D.int x3.1),some (D.str x3.2.a),some (D.str x3.2.b),some (en x3.2.c),none,none,none]) rfl ?_
  refine s_sq ?_
  obtain ⟨hS39,h⟩ := h
  refine u_if (Am.pt_or (Am.pt_not (pt_b (pv_call (pa_cons' (pv_var rfl) pa_nil') (fv_is_word hS39)))) (fun hh38=>(pt_b (pv_op2 (pv_var rfl) (pv_var rfl) (q2_in (a := x3.2.a) (xs := st25) (ue_r rfl) (ItS.sq (ItL.toS (il_n (hc.at 0 rfl)))) (by decide)))))) h ?_ ?_
  ·intro hb40 h
   refine u_rz1 (pv_var rfl) ?_
   refine ex_sq ?_
   refine ex_lp ?_
   refine ex_sq ?_
   exact u_exf hc (hE _ h)
  ·intro hb40 h
   refine t_next ?_
   refine nx_sq ?_
   refine s_sq ?_
   refine u_if (Am.pt_or (pt_b (pv_op2 (pv_var rfl) (pv_tup (ds := [(D.str ("loose":Str)),(D.str ("once":Str)),(D.str ("under":Str))]) (pa_cons' pv_c (pa_cons' pv_c (pa_cons' pv_c pa_nil')))) (q2_nin (a := x3.2.b) (xs := ([("loose":Str),("once":Str),("under":Str)]:List Str)) (ue_r rfl) (ItS.sq (is_r (xs := ([("loose":Str),("once":Str),("under":Str)]:List Str)) (e := en) rfl)) (by decide)))) (fun hh41=>(pt_b (pv_op2 (pv_op2 (pv_var rfl) pv_c p2_isNO) (pv_op2 (pv_var rfl) pv_c (q2_ne (a := x3.2.b) (b := ("under":Str)) (ue_r rfl) (ue_r rfl) (by decide))) (q2_ne (a := (Option.isNone x3.2.c)) (b := (!eqB x3.2.b ("under":Str))) (ue_r rfl) (ue_r rfl) (by decide)))))) h ?_ ?_
   ·intro hb42 h
    refine u_rz1 (pv_var rfl) ?_
    refine ex_sq ?_
    refine ex_lp ?_
    refine ex_sq ?_
    exact u_exf hc (hE _ h)
   ·intro hb42 h
    refine t_next ?_
    refine nx_sq ?_
    refine u_appS ?_
    refine Pv.wp ?_ (pv_var rfl)
    refine ⟨u_it (hc.at 0 rfl), ?_⟩
    refine Pv.wp ?_ (pv_var rfl)
    obtain ⟨hS43,h⟩ := h
    refine u_app2 (xs := st25) (e := en) (v := x3.2.a) (hc.at 0 rfl) hS43 ?_
    replace hc := hc.put 0 rfl (Nd.lst (List.map en (st25 ++ [x3.2.a])))
    generalize put A37 n1 (Nd.lst (List.map en (st25 ++ [x3.2.a])))=A44 at hc ⊢
    replace hc:Cells A0 [[(n1,(Nd.lst (List.map en (st25 ++ [x3.2.a]))))]] A44 := hc
    refine nx_lp ?_
    exact hN22 _ _ _ h ⟨_,_,_,_,rfl,hc⟩
 rintro st45 _ A50 h ⟨j46,j47,j48,j49,rfl,hc⟩
 refine nx_sq ?_
 refine s_sq ?_
 refine u_set (s' := [some y0,some y1,some (D.ref n1),j46,j47,j48,j49,some (D.lst (List.map en st45)),none,none]) (pv_cbB (pa_cons' (pv_var rfl) pa_nil') (pb_listI (ItL.toS (il_n (hc.at 0 rfl))))) rfl ?_
 refine nx_sq ?_
 refine u_forC (σ := (List Str)) (e := (eE en)) (fun st77 s78 A79=>∃ (j80 j81 j82 j83 j84:Option D),s78=[some y0,some y1,some (D.ref n1),j80,j81,j82,j49,some (D.lst (List.map en st45)),j83,j84]∧Cells A0 [[(n1,(Nd.lst (List.map en st77)))]] A79) (mi_enum (pv_var rfl) (hx1.les hc.le)) h ⟨_,_,_,_,_,rfl,hc⟩ (fun _ _ _ ⟨_,_,_,_,_,_,hcP⟩=>(hx1.same hc.le hcP.le)) ?_ ?_
 ·rintro x51 hx51 st76 _ A90 N73 B74 Nm75 h ⟨j85,j86,j87,j88,j89,rfl,hc⟩ hN73 hB74
  refine ⟨[(D.int x51.1),(D.tup [(D.str x51.2.a),(D.str x51.2.b),(D.str x51.2.c),(D.str x51.2.d)])], .inl rfl,rfl,_,_,rfl,_,_,rfl,⟨[(D.str x51.2.a),(D.str x51.2.b),(D.str x51.2.c),(D.str x51.2.d)], .inl rfl,rfl,_,_,rfl,_,_,rfl,_,_,rfl,_,_,rfl,rfl,rfl, ?_⟩⟩
  refine at_s (s' := [some y0,some y1,some (D.ref n1),some (D.int x51.1),some (D.str x51.2.a),some (D.str x51.2.d),j49,some (D.lst (List.map en st45)),some (D.str x51.2.b),some (D.str x51.2.c)]) rfl ?_
  refine s_sq ?_
  obtain ⟨hS93,h⟩ := h
  refine u_if (Am.pt_or (Am.pt_not (pt_b (pv_call (pa_cons' (pv_var rfl) pa_nil') (fv_is_word hS93)))) (fun hh91=>(Am.pt_or (pt_b (pv_op2 (pv_var rfl) (pv_var rfl) (q2_in (a := x51.2.a) (xs := st76) (ue_r rfl) (ItS.sq (ItL.toS (il_n (hc.at 0 rfl)))) (by decide)))) (fun hh92=>(pt_b (pv_op2 (pv_var rfl) (pv_tup (ds := [(D.str ("loose":Str)),(D.str ("once":Str))]) (pa_cons' pv_c (pa_cons' pv_c pa_nil'))) (q2_nin (a := x51.2.d) (xs := ([("loose":Str),("once":Str)]:List Str)) (ue_r rfl) (ItS.sq (is_r (xs := ([("loose":Str),("once":Str)]:List Str)) (e := en) rfl)) (by decide)))))))) h ?_ ?_
  ·intro hb94 h
   refine u_rz1 (pv_op2 (pv_cbB (pa_cons' (pv_var rfl) pa_nil') (pb_lenI (ItL.toS (hx0.les hc.le)))) (pv_var rfl) p2_addI) ?_
   refine ex_sq ?_
   refine ex_lp ?_
   exact u_exf hc (hE _ h)
  ·intro hb94 h
   refine t_next ?_
   refine nx_sq ?_
   refine s_sq ?_
   refine u_if (Am.pt_or (pt_b (pv_op2 (pv_var rfl) (pv_var rfl) (q2_nin (a := x51.2.b) (xs := st45) (ue_r rfl) (ItS.sq (ItL.toS il_l)) (by decide)))) (fun hh95=>(pt_b (pv_op2 (pv_var rfl) (pv_var rfl) (q2_nin (a := x51.2.c) (xs := st45) (ue_r rfl) (ItS.sq (ItL.toS il_l)) (by decide)))))) h ?_ ?_
   ·intro hb96 h
    refine u_rz1 (pv_op2 (pv_cbB (pa_cons' (pv_var rfl) pa_nil') (pb_lenI (ItL.toS (hx0.les hc.le)))) (pv_var rfl) p2_addI) ?_
    refine ex_sq ?_
    refine ex_lp ?_
    exact u_exf hc (hE _ h)
   ·intro hb96 h
    refine t_next ?_
    refine nx_sq ?_
    refine u_appS ?_
    refine Pv.wp ?_ (pv_var rfl)
    refine ⟨u_it (hc.at 0 rfl), ?_⟩
    refine Pv.wp ?_ (pv_var rfl)
    obtain ⟨hS97,h⟩ := h
    refine u_app2 (xs := st76) (e := en) (v := x51.2.a) (hc.at 0 rfl) hS97 ?_
    replace hc := hc.put 0 rfl (Nd.lst (List.map en (st76 ++ [x51.2.a])))
    generalize put A90 n1 (Nd.lst (List.map en (st76 ++ [x51.2.a])))=A98 at hc ⊢
    replace hc:Cells A0 [[(n1,(Nd.lst (List.map en (st76 ++ [x51.2.a]))))]] A98 := hc
    refine nx_lp ?_
    exact hN73 _ _ _ h ⟨_,_,_,_,_,rfl,hc⟩
 rintro st99 _ A105 h ⟨j100,j101,j102,j103,j104,rfl,hc⟩
 refine u_nxf hc ?_
 exact hQ _ h
def W_check_owners (a0:(List (T3 Str Str (Option Str)))) (a1:(List (T4 Str Str Str Str))) (Q:(Unit)→Prop) (E:Exv→Prop):Prop :=
 (((Sz (a0).length))∧(letW (dcA (fun x1:(T3 Str Str (Option Str))=>x1.a) (fun x1:(T3 Str Str (Option Str))=>x1.b) (fun x1:(T3 Str Str (Option Str))=>true) a0) (fun (v4:(List (Str × Str)))=>(forW (enu a0) (():Unit) (fun (x5:(Int × (T3 Str Str (Option Str)))) (st32:Unit) N29 B30=>(if (eqB x5.2.b ("under":Str))=true then (((Sz (a1).length))∧(letW (List.map (fun x48:(T4 Str Str Str Str)=>x48.b) (List.filter (fun x48:(T4 Str Str Str Str)=>((eqB (some x48.a) x5.2.c) && (eqB x48.c x5.2.a))) a1)) (fun (v52:(List Str))=>((((!(!List.isEmpty v52))=false→(0≤(0:Int)∧(0:Int) < ((v52).length:Int))∧(Option.isSome (valA v4 (ixG ("":Str) v52 (0:Int)))=true)))∧(if ((!(!List.isEmpty v52)) || (eqB (Option.getD (valA v4 (ixG ("":Str) v52 (0:Int))) ("":Str)) ("under":Str)))=true then E (Exv.badSchema (some x5.1)) else N29 ()))))) else N29 ())) (fun (st56:Unit)=>Q ())))))
theorem c_check_owners {A0:AH} {y0:D} {a0:(List (T3 Str Str (Option Str)))} (hx0:ItL A0 y0 a0 en) {y1:D} {a1:(List (T4 Str Str Str Str))} (hx1:ItL A0 y1 a1 en) {Q0:Unit→Prop} {E0:Exv→Prop} {Q:QE} {E:QX} (h:W_check_owners a0 a1 Q0 E0) (hQ:∀ r,Q0 r→Q D.non A0) (hE:∀ x,E0 x→E (encX x) A0):m_check_owners [y0,y1] A0 Q E := by
 unfold W_check_owners at h
 have hc:Cells A0 [] A0 := Cells.nil_
 refine fn_in (s := [some y0,some y1,none,none,none,none,none,none,none,none,none,none]) ?_ rfl rfl
 refine s_sq ?_
 obtain ⟨hS3,h⟩ := h
 obtain ⟨v4,hv4⟩:∃ v:(List (Str × Str)),v=(dcA (fun x1:(T3 Str Str (Option Str))=>x1.a) (fun x1:(T3 Str Str (Option Str))=>x1.b) (fun x1:(T3 Str Str (Option Str))=>true) a0) := ⟨_,rfl⟩
 replace h := letW_out hv4 h
 refine u_set (s' := [some y0,some y1,some (D.dK (List.map (eD kS en) v4)),none,none,none,none,none,none,none,none,none]) (Pv.is (v_dc (e := en) (e' := en) (g := (fun x1:(T3 Str Str (Option Str))=>x1.a)) (v := (fun x1:(T3 Str Str (Option Str))=>x1.b)) (p := (fun x1:(T3 Str Str (Option Str))=>true)) (fun _ _=>kS_inj) (mi_seq (pv_var rfl) (ItL.toS (hx0.les hc.le))) rfl hS3 (fun x1 hx1=>dcb (tg_tp rfl rfl (tgz_cons (tg_n rfl) (tgz_cons (tg_n rfl) (tgz_cons (tg_n rfl) tgz_nil)))) pt_yes (fun hh2=>(pv_var rfl)) rfl (fun hh2=>(pv_var rfl)))) (congrArg (fun z:(List (Str × Str))=>(D.dK (List.map (eD kS en) z))) hv4.symm)) rfl ?_
 refine nx_sq ?_
 refine u_forC (σ := Unit) (e := (eE en)) (fun st33 s34 A35=>∃ (j36 j37 j38 j39 j40:Option D),s34=[some y0,some y1,some (D.dK (List.map (eD kS en) v4)),j36,j37,j38,j39,j40,none,none,none,none]∧Cells A0 [] A35) (mi_enum (pv_var rfl) (hx0.les hc.le)) h ⟨_,_,_,_,_,rfl,hc⟩ (fun _ _ _ ⟨_,_,_,_,_,_,hcP⟩=>(hx0.same hc.le hcP.le)) ?_ ?_
 ·rintro x5 hx5 st32 _ A46 N29 B30 Nm31 h ⟨j41,j42,j43,j44,j45,rfl,hc⟩ hN29 hB30
  refine ⟨[(D.int x5.1),(D.tup [(D.str x5.2.a),(D.str x5.2.b),(en x5.2.c)])], .inl rfl,rfl,_,_,rfl,_,_,rfl,⟨[(D.str x5.2.a),(D.str x5.2.b),(en x5.2.c)], .inl rfl,rfl,_,_,rfl,_,_,rfl,_,_,rfl,rfl,rfl, ?_⟩⟩
  refine at_s (s' := [some y0,some y1,some (D.dK (List.map (eD kS en) v4)),some (D.int x5.1),some (D.str x5.2.a),some (D.str x5.2.b),some (en x5.2.c),j45,none,none,none,none]) rfl ?_
  refine u_if (pt_b (pv_op2 (pv_var rfl) pv_c (q2_eq (a := x5.2.b) (b := ("under":Str)) (ue_r rfl) (ue_r rfl) (by decide)))) h ?_ ?_
  ·intro hb47 h
   refine s_sq ?_
   obtain ⟨hS51,h⟩ := h
   obtain ⟨v52,hv52⟩:∃ v:(List Str),v=(List.map (fun x48:(T4 Str Str Str Str)=>x48.b) (List.filter (fun x48:(T4 Str Str Str Str)=>((eqB (some x48.a) x5.2.c) && (eqB x48.c x5.2.a))) a1)) := ⟨_,rfl⟩
   replace h := letW_out hv52 h
   refine u_set (s' := [some y0,some y1,some (D.dK (List.map (eD kS en) v4)),some (D.int x5.1),some (D.str x5.2.a),some (D.str x5.2.b),some (en x5.2.c),some (D.lst (List.map en v52)),none,none,none,none]) (Pv.is (v_lcFM (e := en) (p := fun x48:(T4 Str Str Str Str)=>((eqB (some x48.a) x5.2.c) && (eqB x48.c x5.2.a))) (g := fun x48:(T4 Str Str Str Str)=>x48.b) (e' := en) (mi_seq (pv_var rfl) (ItL.toS (hx1.les hc.le))) rfl hS51 (fun x48 hx48=>lcb (tg_tp rfl rfl (tgz_cons (tg_n rfl) (tgz_cons (tg_n rfl) (tgz_cons (tg_n rfl) (tgz_cons (tg_n rfl) tgz_nil))))) (Am.pt_and (pt_b (pv_op2 (pv_var rfl) (pv_var rfl) (q2_eq (a := (some x48.a)) (b := x5.2.c) (ue_r rfl) (ue_r rfl) (by decide)))) (fun hh49=>(pt_b (pv_op2 (pv_var rfl) (pv_var rfl) (q2_eq (a := x48.c) (b := x5.2.a) (ue_r rfl) (ue_r rfl) (by decide)))))) (fun hh50=>(pv_var rfl)))) (congrArg (fun z:(List Str)=>(D.lst (List.map en z))) hv52.symm)) rfl ?_
   refine nx_sq ?_
   obtain ⟨hS54,h⟩ := h
   refine u_if (Am.pt_or (Am.pt_not (pt_truL (ι := Str) (t := ("":Str)) (pv_var rfl) (ItL.toS il_l))) (fun hh53=>(pt_b (pv_op2 (pv_getK (k := (ixG ("":Str) v52 (0:Int))) (d0 := ("":Str)) (fun _ _=>kS_inj) (pv_var rfl) (pv_op2 (pv_var rfl) pv_c (p2_ixG (d0 := ("":Str)) (ItL.toS il_l) (hS54 hh53).1)) dk_t rfl (hS54 hh53).2) pv_c (q2_eq (a := (Option.getD (valA v4 (ixG ("":Str) v52 (0:Int))) ("":Str))) (b := ("under":Str)) (ue_r rfl) (ue_r rfl) (by decide)))))) h ?_ ?_
   ·intro hb55 h
    refine u_rz1 (pv_var rfl) ?_
    refine ex_lp ?_
    exact u_exf hc (hE _ h)
   ·intro hb55 h
    refine t_next ?_
    refine nx_lp ?_
    exact hN29 _ _ _ h ⟨_,_,_,_,_,rfl,hc⟩
  ·intro hb47 h
   refine t_next ?_
   refine nx_lp ?_
   exact hN29 _ _ _ h ⟨_,_,_,_,_,rfl,hc⟩
 rintro st56 _ A62 h ⟨j57,j58,j59,j60,j61,rfl,hc⟩
 refine u_nxf hc ?_
 exact hQ _ h
structure R_Schema where
 f_kind_entries:(Tup (T3 Str Str (Option Str)))
 f_link_entries:(Tup (T4 Str Str Str Str))
 f_kinds:(Tup Str)
 f_links:(Tup Str)
 f_rules:(List (Str × Str))
 f_spans:(List (Str × (Str × Str)))
 f_owners:(List (Str × (Option (Str × Str))))
 f_kind_codes:(List (Str × Int))
 f_link_codes:(List (Str × Int))
def enc_Schema (r:R_Schema):D := .ins "Schema" [("kind_entries",(D.tup (List.map en r.f_kind_entries.1))),("link_entries",(D.tup (List.map en r.f_link_entries.1))),("kinds",(D.tup (List.map en r.f_kinds.1))),("links",(D.tup (List.map en r.f_links.1))),("rules",(D.dK (List.map (eD kS en) r.f_rules))),("spans",(D.dK (List.map (eD kS en) r.f_spans))),("owners",(D.dK (List.map (eD kS en) r.f_owners))),("kind_codes",(D.dK (List.map (eD kS en) r.f_kind_codes))),("link_codes",(D.dK (List.map (eD kS en) r.f_link_codes)))]
instance:Inhabited R_Schema := ⟨⟨⟨[]⟩,⟨[]⟩,⟨[]⟩,⟨[]⟩,[],[],[],[],[]⟩⟩
def W_Schema_init (a1:(List (T3 Str Str (Option Str)))) (a2:(List (T4 Str Str Str Str))) (Q:R_Schema→Prop) (E:Exv→Prop):Prop :=
 (W_check_names a1 a2 (fun r1=>(if ((!((decide ((1:Int)≤((a1).length:Int))) && (decide (((a1).length:Int)≤(4:Int))))) || (decide ((6:Int) < ((a2).length:Int))))=true then E (Exv.badSchema (none:(Option Int))) else (W_check_owners a1 a2 (fun r4=>(((Sz (a1).length))∧(letW (Tup.mk (List.map (fun x7:(T3 Str Str (Option Str))=>x7.a) a1)) (fun (v10:(Tup Str))=>(((Sz (a2).length))∧(letW (Tup.mk (List.map (fun x12:(T4 Str Str Str Str)=>x12.a) a2)) (fun (v15:(Tup Str))=>(((Sz (a1).length))∧(forW a2 (((dcA (fun x17:(T3 Str Str (Option Str))=>x17.a) (fun x17:(T3 Str Str (Option Str))=>x17.b) (fun x17:(T3 Str Str (Option Str))=>true) a1),([]:List (Str × (Str × Str)))):(List (Str × Str)) × (List (Str × (Str × Str)))) (fun (x26:(T4 Str Str Str Str)) (st44:(List (Str × Str)) × (List (Str × (Str × Str)))) N41 B42=>(((Sz ((st44.1).length + 1)))∧(((Sz ((st44.2).length + 1)))∧N41 ((putA st44.1 x26.a x26.d),(putA st44.2 x26.a (⟨x26.b,x26.c⟩:(Str × Str))))))) (fun (st61:(List (Str × Str)) × (List (Str × (Str × Str))))=>(forW a1 (([]:List (Str × (Option (Str × Str)))):(List (Str × (Option (Str × Str))))) (fun (x70:(T3 Str Str (Option Str))) (st87:(List (Str × (Option (Str × Str))))) N84 B85=>((((Option.isNone x70.c)=false→(Option.isSome (valA st61.2 (Option.getD x70.c ("":Str)))=true)))∧(((Sz ((st87).length + 1)))∧(letW (putA st87 x70.a (if (Option.isNone x70.c)=true then (none:(Option (Str × Str))) else (some (⟨(Option.getD x70.c ("":Str)),(Option.getD (valA st61.2 (Option.getD x70.c ("":Str))) (⟨("":Str),("":Str)⟩:(Str × Str))).1⟩:(Str × Str))))) (fun (l102:(List (Str × (Option (Str × Str)))))=>N84 l102))))) (fun (st103:(List (Str × (Option (Str × Str)))))=>(((Sz ((enu v10.1)).length))∧(letW (dcA (fun x108:(Int × Str)=>x108.2) (fun x108:(Int × Str)=>x108.1) (fun x108:(Int × Str)=>true) (enu v10.1)) (fun (v111:(List (Str × Int)))=>(((Sz ((enu v15.1)).length))∧(letW (dcA (fun x113:(Int × Str)=>x113.2) (fun x113:(Int × Str)=>x113.1) (fun x113:(Int × Str)=>true) (enu v15.1)) (fun (v116:(List (Str × Int)))=>Q (⟨(Tup.mk a1),(Tup.mk a2),v10,v15,st61.1,st61.2,st103,v111,v116⟩:R_Schema))))))))))))))))))) E))) E)
theorem c_Schema_init {A0:AH} {y1:D} {a1:(List (T3 Str Str (Option Str)))} (hx1:ItL A0 y1 a1 en) {y2:D} {a2:(List (T4 Str Str Str Str))} (hx2:ItL A0 y2 a2 en) {Q0:R_Schema→Prop} {E0:Exv→Prop} {Q:QE} {E:QX} (h:W_Schema_init a1 a2 Q0 E0) (hQ:∀ r A,Q0 r→Les A0 A→Q (enc_Schema r) A) (hE:∀ x,E0 x→E (encX x) A0):∀ m0,A0 m0=none→m_Schema_init [.ref m0,y1,y2] (put A0 m0 (.ins "Schema" [])) (fun d A2=>d = .non∧frzF A2 (.ref m0) Q) E := by
 unfold W_Schema_init at h
 intro m0 hn
 have hc:Cells A0 [] A0 := Cells.nil_
 replace hc := hc.new (Nd.ins "Schema" []) hn
 generalize put A0 m0 (Nd.ins "Schema" [])=A1 at hc ⊢
 replace hc:Cells A0 [[(m0,(Nd.ins "Schema" ([]:List (Str × D))))]] A1 := hc
 refine fn_in (s := [some (D.ref m0),some y1,some y2,none,none,none,none,none,none]) ?_ rfl rfl
 refine s_sq ?_
 refine u_dropE ?_
 refine w_callW ?_ (pa_cons' (pv_var rfl) (pa_cons' (pv_var rfl) pa_nil'))
 refine c_check_names (hx1.les hc.le) (hx2.les hc.le) h ?_ ?_
 rotate_left
 ·intro x h
  refine ex_sq ?_
  exact u_exf hc (hE _ h)
 intro r1 h
 refine nx_sq ?_
 refine s_sq ?_
 refine u_if (Am.pt_or (Am.pt_not (pt_b (pv_chainB pv_c (pv_cbB (pa_cons' (pv_var rfl) pa_nil') (pb_lenI (ItL.toS (hx1.les hc.le)))) p2_le (fun _=>pv_c) p2_le))) (fun hh2=>(pt_b (pv_op2 (pv_cbB (pa_cons' (pv_var rfl) pa_nil') (pb_lenI (ItL.toS (hx2.les hc.le)))) pv_c p2_gt)))) h ?_ ?_
 ·intro hb3 h
  refine u_rz1 pv_c ?_
  refine ex_sq ?_
  exact u_exf hc (hE _ h)
 ·intro hb3 h
  refine t_next ?_
  refine nx_sq ?_
  refine s_sq ?_
  refine u_dropE ?_
  refine w_callW ?_ (pa_cons' (pv_var rfl) (pa_cons' (pv_var rfl) pa_nil'))
  refine c_check_owners (hx1.les hc.le) (hx2.les hc.le) h ?_ ?_
  rotate_left
  ·intro x h
   refine ex_sq ?_
   exact u_exf hc (hE _ h)
  intro r4 h
  refine nx_sq ?_
  refine s_sq ?_
  refine u_sfldS ?_
  refine Pv.wp ?_ (pv_cbB (pa_cons' (pv_var rfl) pa_nil') (pb_tupI (hx1.les hc.le)))
  refine Pv.wp ?_ (pv_var rfl)
  refine u_sfld1 (fs' := ([(("kind_entries":Str),(D.tup (List.map en a1)))]:List (Str × D))) (hc.at 0 rfl) (by simp) (Nat.le_of_ble_eq_true rfl) rfl ?_
  replace hc := hc.put 0 rfl (Nd.ins "Schema" ([(("kind_entries":Str),(D.tup (List.map en a1)))]:List (Str × D)))
  generalize put A1 m0 (Nd.ins "Schema" ([(("kind_entries":Str),(D.tup (List.map en a1)))]:List (Str × D)))=A5 at hc ⊢
  replace hc:Cells A0 [[(m0,(Nd.ins "Schema" ([(("kind_entries":Str),(D.tup (List.map en a1)))]:List (Str × D))))]] A5 := hc
  refine nx_sq ?_
  refine s_sq ?_
  refine u_sfldS ?_
  refine Pv.wp ?_ (pv_cbB (pa_cons' (pv_var rfl) pa_nil') (pb_tupI (hx2.les hc.le)))
  refine Pv.wp ?_ (pv_var rfl)
  refine u_sfld1 (fs' := ([(("kind_entries":Str),(D.tup (List.map en a1))),(("link_entries":Str),(D.tup (List.map en a2)))]:List (Str × D))) (hc.at 0 rfl) (by simp) (Nat.le_of_ble_eq_true rfl) rfl ?_
  replace hc := hc.put 0 rfl (Nd.ins "Schema" ([(("kind_entries":Str),(D.tup (List.map en a1))),(("link_entries":Str),(D.tup (List.map en a2)))]:List (Str × D)))
  generalize put A5 m0 (Nd.ins "Schema" ([(("kind_entries":Str),(D.tup (List.map en a1))),(("link_entries":Str),(D.tup (List.map en a2)))]:List (Str × D)))=A6 at hc ⊢
  replace hc:Cells A0 [[(m0,(Nd.ins "Schema" ([(("kind_entries":Str),(D.tup (List.map en a1))),(("link_entries":Str),(D.tup (List.map en a2)))]:List (Str × D))))]] A6 := hc
  refine nx_sq ?_
  refine s_sq ?_
  refine u_sfldS ?_
  obtain ⟨hS9,h⟩ := h
  refine Pv.wp ?_ (pv_cbB (pa_cons' (v_lcM (e := en) (g := fun x7:(T3 Str Str (Option Str))=>x7.a) (e' := en) (mi_seq (pv_var rfl) (ItL.toS (hx1.les hc.le))) rfl hS9 (fun x7 hx7=>lcb (tg_tp rfl rfl (tgz_cons (tg_n rfl) (tgz_cons (tg_n rfl) (tgz_cons (tg_n rfl) tgz_nil)))) pt_yes (fun hh8=>(pv_var rfl)))) pa_nil') (pb_tupI il_l))
  refine Pv.wp ?_ (pv_var rfl)
  obtain ⟨v10,hv10⟩:∃ v:(Tup Str),v=(Tup.mk (List.map (fun x7:(T3 Str Str (Option Str))=>x7.a) a1)) := ⟨_,rfl⟩
  replace h := letW_out hv10 h
  rw [show (D.tup (List.map en (List.map (fun x7:(T3 Str Str (Option Str))=>x7.a) a1)))=(D.tup (List.map en v10.1)) from congrArg (fun z:(Tup Str)=>(D.tup (List.map en z.1))) hv10.symm]
  refine u_sfld1 (fs' := ([(("kind_entries":Str),(D.tup (List.map en a1))),(("link_entries":Str),(D.tup (List.map en a2))),(("kinds":Str),(D.tup (List.map en v10.1)))]:List (Str × D))) (hc.at 0 rfl) (by simp) (Nat.le_of_ble_eq_true rfl) rfl ?_
  replace hc := hc.put 0 rfl (Nd.ins "Schema" ([(("kind_entries":Str),(D.tup (List.map en a1))),(("link_entries":Str),(D.tup (List.map en a2))),(("kinds":Str),(D.tup (List.map en v10.1)))]:List (Str × D)))
  generalize put A6 m0 (Nd.ins "Schema" ([(("kind_entries":Str),(D.tup (List.map en a1))),(("link_entries":Str),(D.tup (List.map en a2))),(("kinds":Str),(D.tup (List.map en v10.1)))]:List (Str × D)))=A11 at hc ⊢
  replace hc:Cells A0 [[(m0,(Nd.ins "Schema" ([(("kind_entries":Str),(D.tup (List.map en a1))),(("link_entries":Str),(D.tup (List.map en a2))),(("kinds":Str),(D.tup (List.map en v10.1)))]:List (Str × D))))]] A11 := hc
  refine nx_sq ?_
  refine s_sq ?_
  refine u_sfldS ?_
  obtain ⟨hS14,h⟩ := h
  refine Pv.wp ?_ (pv_cbB (pa_cons' (v_lcM (e := en) (g := fun x12:(T4 Str Str Str Str)=>x12.a) (e' := en) (mi_seq (pv_var rfl) (ItL.toS (hx2.les hc.le))) rfl hS14 (fun x12 hx12=>lcb (tg_tp rfl rfl (tgz_cons (tg_n rfl) (tgz_cons (tg_n rfl) (tgz_cons (tg_n rfl) (tgz_cons (tg_n rfl) tgz_nil))))) pt_yes (fun hh13=>(pv_var rfl)))) pa_nil') (pb_tupI il_l))
  refine Pv.wp ?_ (pv_var rfl)
  obtain ⟨v15,hv15⟩:∃ v:(Tup Str),v=(Tup.mk (List.map (fun x12:(T4 Str Str Str Str)=>x12.a) a2)) := ⟨_,rfl⟩
  replace h := letW_out hv15 h
  rw [show (D.tup (List.map en (List.map (fun x12:(T4 Str Str Str Str)=>x12.a) a2)))=(D.tup (List.map en v15.1)) from congrArg (fun z:(Tup Str)=>(D.tup (List.map en z.1))) hv15.symm]
  refine u_sfld1 (fs' := ([(("kind_entries":Str),(D.tup (List.map en a1))),(("link_entries":Str),(D.tup (List.map en a2))),(("kinds":Str),(D.tup (List.map en v10.1))),(("links":Str),(D.tup (List.map en v15.1)))]:List (Str × D))) (hc.at 0 rfl) (by simp) (Nat.le_of_ble_eq_true rfl) rfl ?_
  replace hc := hc.put 0 rfl (Nd.ins "Schema" ([(("kind_entries":Str),(D.tup (List.map en a1))),(("link_entries":Str),(D.tup (List.map en a2))),(("kinds":Str),(D.tup (List.map en v10.1))),(("links":Str),(D.tup (List.map en v15.1)))]:List (Str × D)))
  generalize put A11 m0 (Nd.ins "Schema" ([(("kind_entries":Str),(D.tup (List.map en a1))),(("link_entries":Str),(D.tup (List.map en a2))),(("kinds":Str),(D.tup (List.map en v10.1))),(("links":Str),(D.tup (List.map en v15.1)))]:List (Str × D)))=A16 at hc ⊢
  replace hc:Cells A0 [[(m0,(Nd.ins "Schema" ([(("kind_entries":Str),(D.tup (List.map en a1))),(("link_entries":Str),(D.tup (List.map en a2))),(("kinds":Str),(D.tup (List.map en v10.1))),(("links":Str),(D.tup (List.map en v15.1)))]:List (Str × D))))]] A16 := hc
  refine nx_sq ?_
  refine s_sq ?_
  refine u_sfldS ?_
  obtain ⟨hS19,h⟩ := h
  refine w_dcM' (e := en) (e' := en) (g := (fun x17:(T3 Str Str (Option Str))=>x17.a)) (v := (fun x17:(T3 Str Str (Option Str))=>x17.b)) (p := (fun x17:(T3 Str Str (Option Str))=>true)) (fun _ _=>kS_inj) (mi_seq (pv_var rfl) (ItL.toS (hx1.les hc.le))) rfl hS19 (fun x17 hx17=>dcb (tg_tp rfl rfl (tgz_cons (tg_n rfl) (tgz_cons (tg_n rfl) (tgz_cons (tg_n rfl) tgz_nil)))) pt_yes (fun hh18=>(pv_var rfl)) rfl (fun hh18=>(pv_var rfl))) ?_
  intro n20 hn
  replace hc := hc.new (Nd.dK (List.map (eD kS en) (dcA (fun x17:(T3 Str Str (Option Str))=>x17.a) (fun x17:(T3 Str Str (Option Str))=>x17.b) (fun x17:(T3 Str Str (Option Str))=>true) a1))) hn
  generalize put A16 n20 (Nd.dK (List.map (eD kS en) (dcA (fun x17:(T3 Str Str (Option Str))=>x17.a) (fun x17:(T3 Str Str (Option Str))=>x17.b) (fun x17:(T3 Str Str (Option Str))=>true) a1)))=A21 at hc ⊢
  replace hc:Cells A0 [[(m0,(Nd.ins "Schema" ([(("kind_entries":Str),(D.tup (List.map en a1))),(("link_entries":Str),(D.tup (List.map en a2))),(("kinds":Str),(D.tup (List.map en v10.1))),(("links":Str),(D.tup (List.map en v15.1)))]:List (Str × D))))],[(n20,(Nd.dK (List.map (eD kS en) (dcA (fun x17:(T3 Str Str (Option Str))=>x17.a) (fun x17:(T3 Str Str (Option Str))=>x17.b) (fun x17:(T3 Str Str (Option Str))=>true) a1))))]] A21 := hc
  refine Pv.wp ?_ (pv_var rfl)
  refine u_sfld1 (fs' := ([(("kind_entries":Str),(D.tup (List.map en a1))),(("link_entries":Str),(D.tup (List.map en a2))),(("kinds":Str),(D.tup (List.map en v10.1))),(("links":Str),(D.tup (List.map en v15.1))),(("rules":Str),(D.ref n20))]:List (Str × D))) (hc.at 0 rfl) (by simp) (Nat.le_of_ble_eq_true rfl) rfl ?_
  replace hc := hc.put 0 rfl (Nd.ins "Schema" ([(("kind_entries":Str),(D.tup (List.map en a1))),(("link_entries":Str),(D.tup (List.map en a2))),(("kinds":Str),(D.tup (List.map en v10.1))),(("links":Str),(D.tup (List.map en v15.1))),(("rules":Str),(D.ref n20))]:List (Str × D)))
  generalize put A21 m0 (Nd.ins "Schema" ([(("kind_entries":Str),(D.tup (List.map en a1))),(("link_entries":Str),(D.tup (List.map en a2))),(("kinds":Str),(D.tup (List.map en v10.1))),(("links":Str),(D.tup (List.map en v15.1))),(("rules":Str),(D.ref n20))]:List (Str × D)))=A22 at hc ⊢
  replace hc:Cells A0 [[(m0,(Nd.ins "Schema" ([(("kind_entries":Str),(D.tup (List.map en a1))),(("link_entries":Str),(D.tup (List.map en a2))),(("kinds":Str),(D.tup (List.map en v10.1))),(("links":Str),(D.tup (List.map en v15.1))),(("rules":Str),(D.ref n20))]:List (Str × D))))],[(n20,(Nd.dK (List.map (eD kS en) (dcA (fun x17:(T3 Str Str (Option Str))=>x17.a) (fun x17:(T3 Str Str (Option Str))=>x17.b) (fun x17:(T3 Str Str (Option Str))=>true) a1))))]] A22 := hc
  refine nx_sq ?_
  refine s_sq ?_
  refine u_sfldS ?_
  refine w_dnK ?_
  intro n23 hn
  replace hc := hc.new (Nd.dK []) hn
  generalize put A22 n23 (Nd.dK [])=A24 at hc ⊢
  replace hc:Cells A0 [[(m0,(Nd.ins "Schema" ([(("kind_entries":Str),(D.tup (List.map en a1))),(("link_entries":Str),(D.tup (List.map en a2))),(("kinds":Str),(D.tup (List.map en v10.1))),(("links":Str),(D.tup (List.map en v15.1))),(("rules":Str),(D.ref n20))]:List (Str × D))))],[(n20,(Nd.dK (List.map (eD kS en) (dcA (fun x17:(T3 Str Str (Option Str))=>x17.a) (fun x17:(T3 Str Str (Option Str))=>x17.b) (fun x17:(T3 Str Str (Option Str))=>true) a1))))],[(n23,(Nd.dK (List.map (eD kS en) ([]:List (Str × (Str × Str))))))]] A24 := hc
  refine Pv.wp ?_ (pv_var rfl)
  refine u_sfld1 (fs' := ([(("kind_entries":Str),(D.tup (List.map en a1))),(("link_entries":Str),(D.tup (List.map en a2))),(("kinds":Str),(D.tup (List.map en v10.1))),(("links":Str),(D.tup (List.map en v15.1))),(("rules":Str),(D.ref n20)),(("spans":Str),(D.ref n23))]:List (Str × D))) (hc.at 0 rfl) (by simp) (Nat.le_of_ble_eq_true rfl) rfl ?_
  replace hc := hc.put 0 rfl (Nd.ins "Schema" ([(("kind_entries":Str),(D.tup (List.map en a1))),(("link_entries":Str),(D.tup (List.map en a2))),(("kinds":Str),(D.tup (List.map en v10.1))),(("links":Str),(D.tup (List.map en v15.1))),(("rules":Str),(D.ref n20)),(("spans":Str),(D.ref n23))]:List (Str × D)))
  generalize put A24 m0 (Nd.ins "Schema" ([(("kind_entries":Str),(D.tup (List.map en a1))),(("link_entries":Str),(D.tup (List.map en a2))),(("kinds":Str),(D.tup (List.map en v10.1))),(("links":Str),(D.tup (List.map en v15.1))),(("rules":Str),(D.ref n20)),(("spans":Str),(D.ref n23))]:List (Str × D)))=A25 at hc ⊢
  replace hc:Cells A0 [[(m0,(Nd.ins "Schema" ([(("kind_entries":Str),(D.tup (List.map en a1))),(("link_entries":Str),(D.tup (List.map en a2))),(("kinds":Str),(D.tup (List.map en v10.1))),(("links":Str),(D.tup (List.map en v15.1))),(("rules":Str),(D.ref n20)),(("spans":Str),(D.ref n23))]:List (Str × D))))],[(n20,(Nd.dK (List.map (eD kS en) (dcA (fun x17:(T3 Str Str (Option Str))=>x17.a) (fun x17:(T3 Str Str (Option Str))=>x17.b) (fun x17:(T3 Str Str (Option Str))=>true) a1))))],[(n23,(Nd.dK (List.map (eD kS en) ([]:List (Str × (Str × Str))))))]] A25 := hc
  refine nx_sq ?_
  refine s_sq ?_
  refine u_forC (σ := (List (Str × Str)) × (List (Str × (Str × Str)))) (e := en) (fun st45 s46 A47=>∃ (j48 j49 j50 j51:Option D),s46=[some (D.ref m0),some y1,some y2,j48,j49,j50,j51,none,none]∧Cells A0 [[(m0,(Nd.ins "Schema" ([(("kind_entries":Str),(D.tup (List.map en a1))),(("link_entries":Str),(D.tup (List.map en a2))),(("kinds":Str),(D.tup (List.map en v10.1))),(("links":Str),(D.tup (List.map en v15.1))),(("rules":Str),(D.ref n20)),(("spans":Str),(D.ref n23))]:List (Str × D))))],[(n20,(Nd.dK (List.map (eD kS en) st45.1)))],[(n23,(Nd.dK (List.map (eD kS en) st45.2)))]] A47) (mi_seq (pv_var rfl) (ItL.toS (hx2.les hc.le))) h ⟨_,_,_,_,rfl,hc⟩ (fun _ _ _ ⟨_,_,_,_,_,hcP⟩=>(hx2.same hc.le hcP.le)) ?_ ?_
  ·rintro x26 hx26 st44 _ A56 N41 B42 Nm43 h ⟨j52,j53,j54,j55,rfl,hc⟩ hN41 hB42
   refine ⟨[(D.str x26.a),(D.str x26.b),(D.str x26.c),(D.str x26.d)], .inl rfl,rfl,_,_,rfl,_,_,rfl,_,_,rfl,_,_,rfl,rfl, ?_⟩
   refine at_s (s' := [some (D.ref m0),some y1,some y2,some (D.str x26.a),some (D.str x26.b),some (D.str x26.c),some (D.str x26.d),none,none]) rfl ?_
   refine s_sq ?_
   refine u_dputS ?_
   refine Pv.wp ?_ (pv_var rfl)
   refine Pv.wp ?_ (pv_fld (pv_var rfl) (ins_n (hc.at 0 rfl)) (by simp) rfl)
   refine Pv.wp ?_ (pv_var rfl)
   obtain ⟨hS57,h⟩ := h
   refine u_dputK (l := st44.1) (k := x26.a) (e := en) (v := x26.d) (fun _ _=>kS_inj) (hc.at 1 rfl) rfl hS57 ?_
   replace hc := hc.put 1 rfl (Nd.dK (List.map (eD kS en) (putA st44.1 x26.a x26.d)))
   generalize put A56 n20 (Nd.dK (List.map (eD kS en) (putA st44.1 x26.a x26.d)))=A58 at hc ⊢
   replace hc:Cells A0 [[(m0,(Nd.ins "Schema" ([(("kind_entries":Str),(D.tup (List.map en a1))),(("link_entries":Str),(D.tup (List.map en a2))),(("kinds":Str),(D.tup (List.map en v10.1))),(("links":Str),(D.tup (List.map en v15.1))),(("rules":Str),(D.ref n20)),(("spans":Str),(D.ref n23))]:List (Str × D))))],[(n20,(Nd.dK (List.map (eD kS en) (putA st44.1 x26.a x26.d))))],[(n23,(Nd.dK (List.map (eD kS en) st44.2)))]] A58 := hc
   refine nx_sq ?_
   refine u_dputS ?_
   refine Pv.wp ?_ (pv_tup (ds := [(D.str x26.b),(D.str x26.c)]) (pa_cons' (pv_var rfl) (pa_cons' (pv_var rfl) pa_nil')))
   refine Pv.wp ?_ (pv_fld (pv_var rfl) (ins_n (hc.at 0 rfl)) (by simp) rfl)
   refine Pv.wp ?_ (pv_var rfl)
   obtain ⟨hS59,h⟩ := h
   refine u_dputK (l := st44.2) (k := x26.a) (e := en) (v := (⟨x26.b,x26.c⟩:(Str × Str))) (fun _ _=>kS_inj) (hc.at 2 rfl) rfl hS59 ?_
   replace hc := hc.put 2 rfl (Nd.dK (List.map (eD kS en) (putA st44.2 x26.a (⟨x26.b,x26.c⟩:(Str × Str)))))
   generalize put A58 n23 (Nd.dK (List.map (eD kS en) (putA st44.2 x26.a (⟨x26.b,x26.c⟩:(Str × Str)))))=A60 at hc ⊢
   replace hc:Cells A0 [[(m0,(Nd.ins "Schema" ([(("kind_entries":Str),(D.tup (List.map en a1))),(("link_entries":Str),(D.tup (List.map en a2))),(("kinds":Str),(D.tup (List.map en v10.1))),(("links":Str),(D.tup (List.map en v15.1))),(("rules":Str),(D.ref n20)),(("spans":Str),(D.ref n23))]:List (Str × D))))],[(n20,(Nd.dK (List.map (eD kS en) (putA st44.1 x26.a x26.d))))],[(n23,(Nd.dK (List.map (eD kS en) (putA st44.2 x26.a (⟨x26.b,x26.c⟩:(Str × Str))))))]] A60 := hc
   refine nx_lp ?_
   exact hN41 _ _ _ h ⟨_,_,_,_,rfl,hc⟩
  rintro st61 _ A66 h ⟨j62,j63,j64,j65,rfl,hc⟩
  refine nx_sq ?_
  refine s_sq ?_
  refine u_sfldS ?_
  refine w_dnK ?_
  intro n67 hn
  replace hc := hc.new (Nd.dK []) hn
  generalize put A66 n67 (Nd.dK [])=A68 at hc ⊢
  replace hc:Cells A0 [[(m0,(Nd.ins "Schema" ([(("kind_entries":Str),(D.tup (List.map en a1))),(("link_entries":Str),(D.tup (List.map en a2))),(("kinds":Str),(D.tup (List.map en v10.1))),(("links":Str),(D.tup (List.map en v15.1))),(("rules":Str),(D.ref n20)),(("spans":Str),(D.ref n23))]:List (Str × D))))],[(n20,(Nd.dK (List.map (eD kS en) st61.1)))],[(n23,(Nd.dK (List.map (eD kS en) st61.2)))],[(n67,(Nd.dK (List.map (eD kS en) ([]:List (Str × (Option (Str × Str)))))))]] A68 := hc
  refine Pv.wp ?_ (pv_var rfl)
  refine u_sfld1 (fs' := ([(("kind_entries":Str),(D.tup (List.map en a1))),(("link_entries":Str),(D.tup (List.map en a2))),(("kinds":Str),(D.tup (List.map en v10.1))),(("links":Str),(D.tup (List.map en v15.1))),(("rules":Str),(D.ref n20)),(("spans":Str),(D.ref n23)),(("owners":Str),(D.ref n67))]:List (Str × D))) (hc.at 0 rfl) (by simp) (Nat.le_of_ble_eq_true rfl) rfl ?_
  replace hc := hc.put 0 rfl (Nd.ins "Schema" ([(("kind_entries":Str),(D.tup (List.map en a1))),(("link_entries":Str),(D.tup (List.map en a2))),(("kinds":Str),(D.tup (List.map en v10.1))),(("links":Str),(D.tup (List.map en v15.1))),(("rules":Str),(D.ref n20)),(("spans":Str),(D.ref n23)),(("owners":Str),(D.ref n67))]:List (Str × D)))
  generalize put A68 m0 (Nd.ins "Schema" ([(("kind_entries":Str),(D.tup (List.map en a1))),(("link_entries":Str),(D.tup (List.map en a2))),(("kinds":Str),(D.tup (List.map en v10.1))),(("links":Str),(D.tup (List.map en v15.1))),(("rules":Str),(D.ref n20)),(("spans":Str),(D.ref n23)),(("owners":Str),(D.ref n67))]:List (Str × D)))=A69 at hc ⊢
  replace hc:Cells A0 [[(m0,(Nd.ins "Schema" ([(("kind_entries":Str),(D.tup (List.map en a1))),(("link_entries":Str),(D.tup (List.map en a2))),(("kinds":Str),(D.tup (List.map en v10.1))),(("links":Str),(D.tup (List.map en v15.1))),(("rules":Str),(D.ref n20)),(("spans":Str),(D.ref n23)),(("owners":Str),(D.ref n67))]:List (Str × D))))],[(n20,(Nd.dK (List.map (eD kS en) st61.1)))],[(n23,(Nd.dK (List.map (eD kS en) st61.2)))],[(n67,(Nd.dK (List.map (eD kS en) ([]:List (Str × (Option (Str × Str)))))))]] A69 := hc
  refine nx_sq ?_
  refine s_sq ?_
  refine u_forC (σ := (List (Str × (Option (Str × Str))))) (e := en) (fun st88 s89 A90=>∃ (j91 j92 j93:Option D),s89=[some (D.ref m0),some y1,some y2,j91,j63,j64,j92,j93,none]∧Cells A0 [[(m0,(Nd.ins "Schema" ([(("kind_entries":Str),(D.tup (List.map en a1))),(("link_entries":Str),(D.tup (List.map en a2))),(("kinds":Str),(D.tup (List.map en v10.1))),(("links":Str),(D.tup (List.map en v15.1))),(("rules":Str),(D.ref n20)),(("spans":Str),(D.ref n23)),(("owners":Str),(D.ref n67))]:List (Str × D))))],[(n20,(Nd.dK (List.map (eD kS en) st61.1)))],[(n23,(Nd.dK (List.map (eD kS en) st61.2)))],[(n67,(Nd.dK (List.map (eD kS en) st88)))]] A90) (mi_seq (pv_var rfl) (ItL.toS (hx1.les hc.le))) h ⟨_,_,_,rfl,hc⟩ (fun _ _ _ ⟨_,_,_,_,hcP⟩=>(hx1.same hc.le hcP.le)) ?_ ?_
  ·rintro x70 hx70 st87 _ A97 N84 B85 Nm86 h ⟨j94,j95,j96,rfl,hc⟩ hN84 hB85
   refine ⟨[(D.str x70.a),(D.str x70.b),(en x70.c)], .inl rfl,rfl,_,_,rfl,_,_,rfl,_,_,rfl,rfl, ?_⟩
   refine at_s (s' := [some (D.ref m0),some y1,some y2,some (D.str x70.a),j63,j64,some (D.str x70.b),some (en x70.c),none]) rfl ?_
   refine u_dputS ?_
   obtain ⟨hS99,h⟩ := h
   refine Pv.wp ?_ (pv_ifG (f := fun z:(Option (Str × Str))=>(en z)) (p := (none:(Option (Str × Str)))) (q := (some (⟨(Option.getD x70.c ("":Str)),(Option.getD (valA st61.2 (Option.getD x70.c ("":Str))) (⟨("":Str),("":Str)⟩:(Str × Str))).1⟩:(Str × Str)))) (pt_b (pv_op2 (pv_var rfl) pv_c p2_isNO)) (fun hh98=>pv_c) (fun hh98=>(pv_tup (ds := [(D.str (Option.getD x70.c ("":Str))),(D.str (Option.getD (valA st61.2 (Option.getD x70.c ("":Str))) (⟨("":Str),("":Str)⟩:(Str × Str))).1)]) (pa_cons' (Pv.is (pv_var rfl) (en_optS hh98)) (pa_cons' (pv_op2 (pv_getK (k := (Option.getD x70.c ("":Str))) (d0 := (⟨("":Str),("":Str)⟩:(Str × Str))) (fun _ _=>kS_inj) (pv_fld (pv_var rfl) (ins_n (hc.at 0 rfl)) (by simp) rfl) (Pv.is (pv_var rfl) (en_optS hh98)) (dk_n (hc.at 2 rfl)) rfl (hS99 hh98)) pv_c (p2_ixT (ds := [(D.str (Option.getD (valA st61.2 (Option.getD x70.c ("":Str))) (⟨("":Str),("":Str)⟩:(Str × Str))).1),(D.str (Option.getD (valA st61.2 (Option.getD x70.c ("":Str))) (⟨("":Str),("":Str)⟩:(Str × Str))).2)]) (d := (D.str (Option.getD (valA st61.2 (Option.getD x70.c ("":Str))) (⟨("":Str),("":Str)⟩:(Str × Str))).1)) rfl rfl)) pa_nil')))))
   refine Pv.wp ?_ (pv_fld (pv_var rfl) (ins_n (hc.at 0 rfl)) (by simp) rfl)
   refine Pv.wp ?_ (pv_var rfl)
   obtain ⟨hS100,h⟩ := h
   refine u_dputK (l := st87) (k := x70.a) (e := en) (v := (if (Option.isNone x70.c)=true then (none:(Option (Str × Str))) else (some (⟨(Option.getD x70.c ("":Str)),(Option.getD (valA st61.2 (Option.getD x70.c ("":Str))) (⟨("":Str),("":Str)⟩:(Str × Str))).1⟩:(Str × Str))))) (fun _ _=>kS_inj) (hc.at 3 rfl) rfl hS100 ?_
   replace hc := hc.put 3 rfl (Nd.dK (List.map (eD kS en) (putA st87 x70.a (if (Option.isNone x70.c)=true then (none:(Option (Str × Str))) else (some (⟨(Option.getD x70.c ("":Str)),(Option.getD (valA st61.2 (Option.getD x70.c ("":Str))) (⟨("":Str),("":Str)⟩:(Str × Str))).1⟩:(Str × Str)))))))
   generalize put A97 n67 (Nd.dK (List.map (eD kS en) (putA st87 x70.a (if (Option.isNone x70.c)=true then (none:(Option (Str × Str))) else (some (⟨(Option.getD x70.c ("":Str)),(Option.getD (valA st61.2 (Option.getD x70.c ("":Str))) (⟨("":Str),("":Str)⟩:(Str × Str))).1⟩:(Str × Str)))))))=A101 at hc ⊢
   replace hc:Cells A0 [[(m0,(Nd.ins "Schema" ([(("kind_entries":Str),(D.tup (List.map en a1))),(("link_entries":Str),(D.tup (List.map en a2))),(("kinds":Str),(D.tup (List.map en v10.1))),(("links":Str),(D.tup (List.map en v15.1))),(("rules":Str),(D.ref n20)),(("spans":Str),(D.ref n23)),(("owners":Str),(D.ref n67))]:List (Str × D))))],[(n20,(Nd.dK (List.map (eD kS en) st61.1)))],[(n23,(Nd.dK (List.map (eD kS en) st61.2)))],[(n67,(Nd.dK (List.map (eD kS en) (putA st87 x70.a (if (Option.isNone x70.c)=true then (none:(Option (Str × Str))) else (some (⟨(Option.getD x70.c ("":Str)),(Option.getD (valA st61.2 (Option.getD x70.c ("":Str))) (⟨("":Str),("":Str)⟩:(Str × Str))).1⟩:(Str × Str))))))))]] A101 := hc
   obtain ⟨l102,hl102⟩:∃ v:(List (Str × (Option (Str × Str)))),v=(putA st87 x70.a (if (Option.isNone x70.c)=true then (none:(Option (Str × Str))) else (some (⟨(Option.getD x70.c ("":Str)),(Option.getD (valA st61.2 (Option.getD x70.c ("":Str))) (⟨("":Str),("":Str)⟩:(Str × Str))).1⟩:(Str × Str))))) := ⟨_,rfl⟩
   replace h := letW_out hl102 h
   replace hc:Cells A0 [[(m0,(Nd.ins "Schema" ([(("kind_entries":Str),(D.tup (List.map en a1))),(("link_entries":Str),(D.tup (List.map en a2))),(("kinds":Str),(D.tup (List.map en v10.1))),(("links":Str),(D.tup (List.map en v15.1))),(("rules":Str),(D.ref n20)),(("spans":Str),(D.ref n23)),(("owners":Str),(D.ref n67))]:List (Str × D))))],[(n20,(Nd.dK (List.map (eD kS en) st61.1)))],[(n23,(Nd.dK (List.map (eD kS en) st61.2)))],[(n67,(Nd.dK (List.map (eD kS en) l102)))]] A101 := by rw [hl102]; exact hc
   refine nx_lp ?_
   exact hN84 _ _ _ h ⟨_,_,_,rfl,hc⟩
  rintro st103 _ A107 h ⟨j104,j105,j106,rfl,hc⟩
  refine nx_sq ?_
  refine s_sq ?_
  refine u_sfldS ?_
  obtain ⟨hS110,h⟩ := h
  refine Pv.wp ?_ (v_dc (e := (eE en)) (e' := en) (g := (fun x108:(Int × Str)=>x108.2)) (v := (fun x108:(Int × Str)=>x108.1)) (p := (fun x108:(Int × Str)=>true)) (fun _ _=>kS_inj) (mi_enumT (pv_fld (pv_var rfl) (ins_n (hc.at 0 rfl)) (by simp) rfl)) rfl hS110 (fun x108 hx108=>dcb (tg_tp rfl rfl (tgz_cons (tg_n rfl) (tgz_cons (tg_n rfl) tgz_nil))) pt_yes (fun hh109=>(pv_var rfl)) rfl (fun hh109=>(pv_var rfl))))
  refine Pv.wp ?_ (pv_var rfl)
  obtain ⟨v111,hv111⟩:∃ v:(List (Str × Int)),v=(dcA (fun x108:(Int × Str)=>x108.2) (fun x108:(Int × Str)=>x108.1) (fun x108:(Int × Str)=>true) (enu v10.1)) := ⟨_,rfl⟩
  replace h := letW_out hv111 h
  rw [show (D.dK (List.map (eD kS en) (dcA (fun x108:(Int × Str)=>x108.2) (fun x108:(Int × Str)=>x108.1) (fun x108:(Int × Str)=>true) (enu v10.1))))=(D.dK (List.map (eD kS en) v111)) from congrArg (fun z:(List (Str × Int))=>(D.dK (List.map (eD kS en) z))) hv111.symm]
  refine u_sfld1 (fs' := ([(("kind_entries":Str),(D.tup (List.map en a1))),(("link_entries":Str),(D.tup (List.map en a2))),(("kinds":Str),(D.tup (List.map en v10.1))),(("links":Str),(D.tup (List.map en v15.1))),(("rules":Str),(D.ref n20)),(("spans":Str),(D.ref n23)),(("owners":Str),(D.ref n67)),(("kind_codes":Str),(D.dK (List.map (eD kS en) v111)))]:List (Str × D))) (hc.at 0 rfl) (by simp) (Nat.le_of_ble_eq_true rfl) rfl ?_
  replace hc := hc.put 0 rfl (Nd.ins "Schema" ([(("kind_entries":Str),(D.tup (List.map en a1))),(("link_entries":Str),(D.tup (List.map en a2))),(("kinds":Str),(D.tup (List.map en v10.1))),(("links":Str),(D.tup (List.map en v15.1))),(("rules":Str),(D.ref n20)),(("spans":Str),(D.ref n23)),(("owners":Str),(D.ref n67)),(("kind_codes":Str),(D.dK (List.map (eD kS en) v111)))]:List (Str × D)))
  generalize put A107 m0 (Nd.ins "Schema" ([(("kind_entries":Str),(D.tup (List.map en a1))),(("link_entries":Str),(D.tup (List.map en a2))),(("kinds":Str),(D.tup (List.map en v10.1))),(("links":Str),(D.tup (List.map en v15.1))),(("rules":Str),(D.ref n20)),(("spans":Str),(D.ref n23)),(("owners":Str),(D.ref n67)),(("kind_codes":Str),(D.dK (List.map (eD kS en) v111)))]:List (Str × D)))=A112 at hc ⊢
  replace hc:Cells A0 [[(m0,(Nd.ins "Schema" ([(("kind_entries":Str),(D.tup (List.map en a1))),(("link_entries":Str),(D.tup (List.map en a2))),(("kinds":Str),(D.tup (List.map en v10.1))),(("links":Str),(D.tup (List.map en v15.1))),(("rules":Str),(D.ref n20)),(("spans":Str),(D.ref n23)),(("owners":Str),(D.ref n67)),(("kind_codes":Str),(D.dK (List.map (eD kS en) v111)))]:List (Str × D))))],[(n20,(Nd.dK (List.map (eD kS en) st61.1)))],[(n23,(Nd.dK (List.map (eD kS en) st61.2)))],[(n67,(Nd.dK (List.map (eD kS en) st103)))]] A112 := hc
  refine nx_sq ?_
  refine u_sfldS ?_
  obtain ⟨hS115,h⟩ := h
  refine Pv.wp ?_ (v_dc (e := (eE en)) (e' := en) (g := (fun x113:(Int × Str)=>x113.2)) (v := (fun x113:(Int × Str)=>x113.1)) (p := (fun x113:(Int × Str)=>true)) (fun _ _=>kS_inj) (mi_enumT (pv_fld (pv_var rfl) (ins_n (hc.at 0 rfl)) (by simp) rfl)) rfl hS115 (fun x113 hx113=>dcb (tg_tp rfl rfl (tgz_cons (tg_n rfl) (tgz_cons (tg_n rfl) tgz_nil))) pt_yes (fun hh114=>(pv_var rfl)) rfl (fun hh114=>(pv_var rfl))))
  refine Pv.wp ?_ (pv_var rfl)
  obtain ⟨v116,hv116⟩:∃ v:(List (Str × Int)),v=(dcA (fun x113:(Int × Str)=>x113.2) (fun x113:(Int × Str)=>x113.1) (fun x113:(Int × Str)=>true) (enu v15.1)) := ⟨_,rfl⟩
  replace h := letW_out hv116 h
  rw [show (D.dK (List.map (eD kS en) (dcA (fun x113:(Int × Str)=>x113.2) (fun x113:(Int × Str)=>x113.1) (fun x113:(Int × Str)=>true) (enu v15.1))))=(D.dK (List.map (eD kS en) v116)) from congrArg (fun z:(List (Str × Int))=>(D.dK (List.map (eD kS en) z))) hv116.symm]
  refine u_sfld1 (fs' := ([(("kind_entries":Str),(D.tup (List.map en a1))),(("link_entries":Str),(D.tup (List.map en a2))),(("kinds":Str),(D.tup (List.map en v10.1))),(("links":Str),(D.tup (List.map en v15.1))),(("rules":Str),(D.ref n20)),(("spans":Str),(D.ref n23)),(("owners":Str),(D.ref n67)),(("kind_codes":Str),(D.dK (List.map (eD kS en) v111))),(("link_codes":Str),(D.dK (List.map (eD kS en) v116)))]:List (Str × D))) (hc.at 0 rfl) (by simp) (Nat.le_of_ble_eq_true rfl) rfl ?_
  replace hc := hc.put 0 rfl (Nd.ins "Schema" ([(("kind_entries":Str),(D.tup (List.map en a1))),(("link_entries":Str),(D.tup (List.map en a2))),(("kinds":Str),(D.tup (List.map en v10.1))),(("links":Str),(D.tup (List.map en v15.1))),(("rules":Str),(D.ref n20)),(("spans":Str),(D.ref n23)),(("owners":Str),(D.ref n67)),(("kind_codes":Str),(D.dK (List.map (eD kS en) v111))),(("link_codes":Str),(D.dK (List.map (eD kS en) v116)))]:List (Str × D)))
  generalize put A112 m0 (Nd.ins "Schema" ([(("kind_entries":Str),(D.tup (List.map en a1))),(("link_entries":Str),(D.tup (List.map en a2))),(("kinds":Str),(D.tup (List.map en v10.1))),(("links":Str),(D.tup (List.map en v15.1))),(("rules":Str),(D.ref n20)),(("spans":Str),(D.ref n23)),(("owners":Str),(D.ref n67)),(("kind_codes":Str),(D.dK (List.map (eD kS en) v111))),(("link_codes":Str),(D.dK (List.map (eD kS en) v116)))]:List (Str × D)))=A117 at hc ⊢
  replace hc:Cells A0 [[(m0,(Nd.ins "Schema" ([(("kind_entries":Str),(D.tup (List.map en a1))),(("link_entries":Str),(D.tup (List.map en a2))),(("kinds":Str),(D.tup (List.map en v10.1))),(("links":Str),(D.tup (List.map en v15.1))),(("rules":Str),(D.ref n20)),(("spans":Str),(D.ref n23)),(("owners":Str),(D.ref n67)),(("kind_codes":Str),(D.dK (List.map (eD kS en) v111))),(("link_codes":Str),(D.dK (List.map (eD kS en) v116)))]:List (Str × D))))],[(n20,(Nd.dK (List.map (eD kS en) st61.1)))],[(n23,(Nd.dK (List.map (eD kS en) st61.2)))],[(n67,(Nd.dK (List.map (eD kS en) st103)))]] A117 := hc
  refine u_nxi ?_
  refine frz_ins (hc.at 0 rfl) ?_
  replace hc := hc.cut 0 rfl
  generalize rem A117 m0=A118 at hc ⊢
  refine frzL_cons ?_
  refine frz_tre (fun n e=>by cases e) ?_
  refine frzL_cons ?_
  refine frz_tre (fun n e=>by cases e) ?_
  refine frzL_cons ?_
  refine frz_tre (fun n e=>by cases e) ?_
  refine frzL_cons ?_
  refine frz_tre (fun n e=>by cases e) ?_
  refine frzL_cons ?_
  refine frz_dK (hc.at 0 rfl) (tre_eD (fun _=>tre_en _)) ?_
  replace hc := hc.cut 0 rfl
  generalize rem A118 n20=A119 at hc ⊢
  refine frzL_cons ?_
  refine frz_dK (hc.at 0 rfl) (tre_eD (fun _=>tre_en _)) ?_
  replace hc := hc.cut 0 rfl
  generalize rem A119 n23=A120 at hc ⊢
  refine frzL_cons ?_
  refine frz_dK (hc.at 0 rfl) (tre_eD (fun _=>tre_en _)) ?_
  replace hc := hc.cut 0 rfl
  generalize rem A120 n67=A121 at hc ⊢
  refine frzL_cons ?_
  refine frz_tre (fun n e=>by cases e) ?_
  refine frzL_cons ?_
  refine frz_tre (fun n e=>by cases e) ?_
  refine frzL_nil ?_
  exact hQ _ _ h hc.le
def W_Schema_rule (a0:R_Schema) (a1:Str) (Q:(Str)→Prop) (E:Exv→Prop):Prop :=
 (if (!(Option.isSome (valA a0.f_rules a1)))=true then E (Exv.unknown a1) else (((Option.isSome (valA a0.f_rules a1)=true))∧Q (Option.getD (valA a0.f_rules a1) ("":Str))))
theorem c_Schema_rule {A0:AH} {a0:R_Schema} {a1:Str} {Q0:Str→Prop} {E0:Exv→Prop} {Q:QE} {E:QX} (h:W_Schema_rule a0 a1 Q0 E0) (hQ:∀ r,Q0 r→Q (D.str r) A0) (hE:∀ x,E0 x→E (encX x) A0):m_Schema_rule [(enc_Schema a0),(D.str a1)] A0 Q E := by
 unfold W_Schema_rule at h
 have hc:Cells A0 [] A0 := Cells.nil_
 refine fn_in (s := [some (enc_Schema a0),some (D.str a1)]) ?_ rfl rfl
 refine s_sq ?_
 refine u_if (pt_b (pv_inK1 (k := a1) (fun _ _=>kS_inj) (pv_var rfl) (pv_fld (pv_var rfl) rfl (by simp) rfl) dk_t rfl)) h ?_ ?_
 ·intro hb1 h
  refine u_rz1 (pv_var rfl) ?_
  refine ex_sq ?_
  exact u_exf hc (hE _ h)
 ·intro hb1 h
  refine t_next ?_
  refine nx_sq ?_
  obtain ⟨hS2,h⟩ := h
  refine u_ret (pv_getK (k := a1) (d0 := ("":Str)) (fun _ _=>kS_inj) (pv_fld (pv_var rfl) rfl (by simp) rfl) (pv_var rfl) dk_t rfl hS2) ?_
  refine u_rt hc ?_
  exact hQ _ h
def W_Schema_ends (a0:R_Schema) (a1:Str) (Q:((Str × Str))→Prop) (E:Exv→Prop):Prop :=
 (if (!(Option.isSome (valA a0.f_spans a1)))=true then E (Exv.unknown a1) else (((Option.isSome (valA a0.f_spans a1)=true))∧Q (Option.getD (valA a0.f_spans a1) (⟨("":Str),("":Str)⟩:(Str × Str)))))
theorem c_Schema_ends {A0:AH} {a0:R_Schema} {a1:Str} {Q0:(Str × Str)→Prop} {E0:Exv→Prop} {Q:QE} {E:QX} (h:W_Schema_ends a0 a1 Q0 E0) (hQ:∀ r,Q0 r→Q (D.tup [(D.str r.1),(D.str r.2)]) A0) (hE:∀ x,E0 x→E (encX x) A0):m_Schema_ends [(enc_Schema a0),(D.str a1)] A0 Q E := by
 unfold W_Schema_ends at h
 have hc:Cells A0 [] A0 := Cells.nil_
 refine fn_in (s := [some (enc_Schema a0),some (D.str a1)]) ?_ rfl rfl
 refine s_sq ?_
 refine u_if (pt_b (pv_inK1 (k := a1) (fun _ _=>kS_inj) (pv_var rfl) (pv_fld (pv_var rfl) rfl (by simp) rfl) dk_t rfl)) h ?_ ?_
 ·intro hb1 h
  refine u_rz1 (pv_var rfl) ?_
  refine ex_sq ?_
  exact u_exf hc (hE _ h)
 ·intro hb1 h
  refine t_next ?_
  refine nx_sq ?_
  obtain ⟨hS2,h⟩ := h
  refine u_ret (pv_getK (k := a1) (d0 := (⟨("":Str),("":Str)⟩:(Str × Str))) (fun _ _=>kS_inj) (pv_fld (pv_var rfl) rfl (by simp) rfl) (pv_var rfl) dk_t rfl hS2) ?_
  refine u_rt hc ?_
  exact hQ _ h
def W_Schema_owner (a0:R_Schema) (a1:Str) (Q:((Option (Str × Str)))→Prop) (E:Exv→Prop):Prop :=
 (if (!(Option.isSome (valA a0.f_owners a1)))=true then E (Exv.unknown a1) else (((Option.isSome (valA a0.f_owners a1)=true))∧Q (Option.getD (valA a0.f_owners a1) none)))
theorem c_Schema_owner {A0:AH} {a0:R_Schema} {a1:Str} {Q0:(Option (Str × Str))→Prop} {E0:Exv→Prop} {Q:QE} {E:QX} (h:W_Schema_owner a0 a1 Q0 E0) (hQ:∀ r,Q0 r→Q (en r) A0) (hE:∀ x,E0 x→E (encX x) A0):m_Schema_owner [(enc_Schema a0),(D.str a1)] A0 Q E := by
 unfold W_Schema_owner at h
 have hc:Cells A0 [] A0 := Cells.nil_
 refine fn_in (s := [some (enc_Schema a0),some (D.str a1)]) ?_ rfl rfl
 refine s_sq ?_
 refine u_if (pt_b (pv_inK1 (k := a1) (fun _ _=>kS_inj) (pv_var rfl) (pv_fld (pv_var rfl) rfl (by simp) rfl) dk_t rfl)) h ?_ ?_
 ·intro hb1 h
  refine u_rz1 (pv_var rfl) ?_
  refine ex_sq ?_
  exact u_exf hc (hE _ h)
 ·intro hb1 h
  refine t_next ?_
  refine nx_sq ?_
  obtain ⟨hS2,h⟩ := h
  refine u_ret (pv_getK (k := a1) (d0 := none) (fun _ _=>kS_inj) (pv_fld (pv_var rfl) rfl (by simp) rfl) (pv_var rfl) dk_t rfl hS2) ?_
  refine u_rt hc ?_
  exact hQ _ h
def W_law_schema (a1:Int) (Q:(((List (T3 Str Str (Option Str))) × (List (T4 Str Str Str Str))))→Prop) (E:Exv→Prop):Prop :=
 (((0 < a1∧a1≤1000000000))∧(∀ r4:Int,0≤r4→r4 < a1→(((-(2 ^ 62)≤((1:Int) + r4)∧((1:Int) + r4) < 2 ^ 62))∧(forW (rng ((1:Int) + r4)) (([]:List Str):(List Str)) (fun (x6:Int) (st19:(List Str)) N16 B17=>(((st19.length < 26))∧(∀ r27:Str,(isW r27=true∧r27 ∉ st19)→(((Sz ((st19).length + 1)))∧N16 (st19 ++ [r27]))))) (fun (st30:(List Str))=>(((Sz (st30).length))∧(lcW st30 (fun (x34:Str) (N35:Option Str→Prop)=>(∀ r37:Int,0≤r37→r37 < (3:Int)→(((0≤r37∧r37 < ((([("loose":Str),("once":Str),("under":Str)]:List Str)).length:Int)))∧N35 (some (ixG ("":Str) ([("loose":Str),("once":Str),("under":Str)]:List Str) r37))))) (fun (ys36:List Str)=>(joinW (σ := (List Str)) (fun N50=>(if ((!inB ("loose":Str) ys36) && (!inB ("once":Str) ys36))=true then (∀ r57:Int,0≤r57→r57 < (2:Int)→(((0≤r57∧r57 < ((([("loose":Str),("once":Str)]:List Str)).length:Int)))∧(((0 < ((ys36).length:Int)∧((ys36).length:Int)≤1000000000))∧(∀ r60:Int,0≤r60→r60 < ((ys36).length:Int)→(((0≤r60∧r60 < ((ys36).length:Int)))∧(letW (List.set ys36 r60.toNat (ixG ("":Str) ([("loose":Str),("once":Str)]:List Str) r57)) (fun (l63:(List Str))=>N50 l63))))))) else N50 ys36)) (fun (st51:(List Str))=>(((∀ x66∈(enu st30),(0≤x66.1∧x66.1 < ((st51).length:Int)))∧(Sz ((enu st30)).length))∧(letW (List.map (fun x66:(Int × Str)=>x66.2) (List.filter (fun x66:(Int × Str)=>(!eqB (ixG ("":Str) st51 x66.1) ("under":Str))) (enu st30))) (fun (v69:(List Str))=>(forW (enu st30) ((([]:List (T3 Str Str (Option Str))),([]:List (T4 Str Str Str Str)),st30):(List (T3 Str Str (Option Str))) × (List (T4 Str Str Str Str)) × (List Str)) (fun (x76:(Int × Str)) (st128:(List (T3 Str Str (Option Str))) × (List (T4 Str Str Str Str)) × (List Str)) N125 B126=>(((0≤x76.1∧x76.1 < ((st51).length:Int)))∧(if (eqB (ixG ("":Str) st51 x76.1) ("under":Str))=true then (((st128.2.2.length < 26))∧(∀ r140:Str,(isW r140=true∧r140 ∉ st128.2.2)→(((Sz ((st128.2.2).length + 1)))∧((((st128.2.2 ++ [r140])≠[]))∧(((0 < ((v69).length:Int)∧((v69).length:Int)≤1000000000))∧(∀ r145:Int,0≤r145→r145 < ((v69).length:Int)→(((0≤r145∧r145 < ((v69).length:Int)))∧(∀ r147:Int,0≤r147→r147 < (2:Int)→(((0≤r147∧r147 < ((([("loose":Str),("once":Str)]:List Str)).length:Int)))∧(((Sz ((st128.2.1).length + 1)))∧(letW (st128.2.1 ++ [(⟨((List.getLast? (st128.2.2 ++ [r140])).getD ("":Str)),(ixG ("":Str) v69 r145),x76.2,(ixG ("":Str) ([("loose":Str),("once":Str)]:List Str) r147)⟩:(T4 Str Str Str Str))]) (fun (l151:(List (T4 Str Str Str Str)))=>((((st128.2.2 ++ [r140])≠[]))∧(((Sz ((st128.1).length + 1)))∧(letW (st128.1 ++ [(⟨x76.2,("under":Str),(some ((List.getLast? (st128.2.2 ++ [r140])).getD ("":Str)))⟩:(T3 Str Str (Option Str)))]) (fun (l155:(List (T3 Str Str (Option Str))))=>N125 (l155,l151,(st128.2.2 ++ [r140])))))))))))))))))) else (((0≤x76.1∧x76.1 < ((st51).length:Int)))∧(((Sz ((st128.1).length + 1)))∧(letW (st128.1 ++ [(⟨x76.2,(ixG ("":Str) st51 x76.1),(none:(Option Str))⟩:(T3 Str Str (Option Str)))]) (fun (l159:(List (T3 Str Str (Option Str))))=>N125 (l159,st128.2.1,st128.2.2)))))))) (fun (st160:(List (T3 Str Str (Option Str))) × (List (T4 Str Str Str Str)) × (List Str))=>(((0 < ((7:Int) - ((st160.2.1).length:Int))∧((7:Int) - ((st160.2.1).length:Int))≤1000000000))∧(∀ r165:Int,0≤r165→r165 < ((7:Int) - ((st160.2.1).length:Int))→(((-(2 ^ 62)≤r165∧r165 < 2 ^ 62))∧(forW (rng r165) ((st160.2.1,st160.2.2):(List (T4 Str Str Str Str)) × (List Str)) (fun (x167:Int) (st206:(List (T4 Str Str Str Str)) × (List Str)) N203 B204=>(((st206.2.length < 26))∧(∀ r218:Str,(isW r218=true∧r218 ∉ st206.2)→(((Sz ((st206.2).length + 1)))∧(((0 < ((st30).length:Int)∧((st30).length:Int)≤1000000000))∧(∀ r222:Int,0≤r222→r222 < ((st30).length:Int)→(((0≤r222∧r222 < ((st30).length:Int)))∧(((0 < ((st30).length:Int)∧((st30).length:Int)≤1000000000))∧(∀ r225:Int,0≤r225→r225 < ((st30).length:Int)→(((0≤r225∧r225 < ((st30).length:Int)))∧((((st206.2 ++ [r218])≠[]))∧(∀ r228:Int,0≤r228→r228 < (2:Int)→(((0≤r228∧r228 < ((([("loose":Str),("once":Str)]:List Str)).length:Int)))∧(((Sz ((st206.1).length + 1)))∧(letW (st206.1 ++ [(⟨((List.getLast? (st206.2 ++ [r218])).getD ("":Str)),(ixG ("":Str) st30 r222),(ixG ("":Str) st30 r225),(ixG ("":Str) ([("loose":Str),("once":Str)]:List Str) r228)⟩:(T4 Str Str Str Str))]) (fun (l232:(List (T4 Str Str Str Str)))=>N203 (l232,(st206.2 ++ [r218])))))))))))))))))) (fun (st233:(List (T4 Str Str Str Str)) × (List Str))=>(((0 < (((st233.1).length:Int) + (1:Int))∧(((st233.1).length:Int) + (1:Int))≤1000000000))∧(∀ r239:Int,0≤r239→r239 < (((st233.1).length:Int) + (1:Int))→(((Sz (((cutL st233.1 (some r239) none)).length + ((cutL st233.1 none (some r239))).length)))∧Q (⟨st160.1,((cutL st233.1 (some r239) none) ++ (cutL st233.1 none (some r239)))⟩:((List (T3 Str Str (Option Str))) × (List (T4 Str Str Str Str)))))))))))))))))))))))))))
theorem c_law_schema {A0:AH} {n0:Nat} (hp:A0 n0=some .pool) {a1:Int} {Q0:((List (T3 Str Str (Option Str))) × (List (T4 Str Str Str Str)))→Prop} {E0:Exv→Prop} {Q:QE} {E:QX} (h:W_law_schema a1 Q0 E0) (hQ:∀ r,Q0 r→Q (D.tup [(D.lst (List.map en r.1)),(D.lst (List.map en r.2))]) A0) (hE:∀ x,E0 x→E (encX x) A0):m_law_schema [.ref n0,(D.int a1)] A0 Q E := by
 unfold W_law_schema at h
 have hc:Cells A0 [] A0 := Cells.nil_
 refine fn_in (s := [some (D.ref n0),some (D.int a1),none,none,none,none,none,none,none,none,none,none,none]) ?_ rfl rfl
 refine s_sq ?_
 refine u_setE ?_
 refine w_nilM ?_
 intro n1 hn
 replace hc := hc.new (Nd.lst []) hn
 generalize put A0 n1 (Nd.lst [])=A2 at hc ⊢
 replace hc:Cells A0 [[(n1,(Nd.lst (List.map en ([]:List Str))))]] A2 := hc
 refine at_n (s' := [some (D.ref n0),some (D.int a1),some (D.ref n1),none,none,none,none,none,none,none,none,none,none]) rfl ?_
 refine nx_sq ?_
 refine s_sq ?_
 refine u_rngE ?_
 refine w_opW ?_
 refine Pv.wp ?_ pv_c
 obtain ⟨hS3,h⟩ := h
 refine w_drawA (pa_cons' (pv_var rfl) (pa_cons' (pv_var rfl) pa_nil')) (hc.le _ _ hp) (hS3).1 (dr_small hS3) ?_
 intro r4 h0r4 h1r4
 replace h := h r4 h0r4 h1r4
 refine P2.wp ?_ p2_addI
 obtain ⟨hS5,h⟩ := h
 refine ⟨_,rfl,(hS5).1,(hS5).2, ?_⟩
 rw [intsD_rng]
 refine for_corr (σ := (List Str)) (e := en) (fun st20 s21 A22=>∃ (j23:Option D),s21=[some (D.ref n0),some (D.int a1),some (D.ref n1),j23,none,none,none,none,none,none,none,none,none]∧Cells A0 [[(n1,(Nd.lst (List.map en st20)))]] A22) h ⟨_,rfl,hc⟩ (fun _ _ _ ⟨_,_,hcP⟩=>True.intro) ?_ ?_
 ·rintro x6 hx6 st19 _ A25 N16 B17 Nm18 h ⟨j24,rfl,hc⟩ hN16 hB17
  refine at_s (s' := [some (D.ref n0),some (D.int a1),some (D.ref n1),some (D.int x6),none,none,none,none,none,none,none,none,none]) rfl ?_
  refine u_appS ?_
  refine Pv.wp ?_ (pv_var rfl)
  refine ⟨u_it (hc.at 0 rfl), ?_⟩
  obtain ⟨hS26,h⟩ := h
  refine w_callW ?_ (pa_cons' (pv_var rfl) (pa_cons' (pv_var rfl) pa_nil'))
  refine fw_word (hc.le _ _ hp) (il_n (hc.at 0 rfl)) hS26 ?_
  intro r27 hr27
  replace h := h r27 hr27
  obtain ⟨hS28,h⟩ := h
  refine u_app2 (xs := st19) (e := en) (v := r27) (hc.at 0 rfl) hS28 ?_
  replace hc := hc.put 0 rfl (Nd.lst (List.map en (st19 ++ [r27])))
  generalize put A25 n1 (Nd.lst (List.map en (st19 ++ [r27])))=A29 at hc ⊢
  replace hc:Cells A0 [[(n1,(Nd.lst (List.map en (st19 ++ [r27]))))]] A29 := hc
  refine nx_lp ?_
  exact hN16 _ _ _ h ⟨_,rfl,hc⟩
 rintro st30 _ A32 h ⟨j31,rfl,hc⟩
 refine nx_sq ?_
 refine s_sq ?_
 refine u_setE ?_
 obtain ⟨hS33,h⟩ := h
 refine u_lcM (e := en) (f := en) (s' := [some (D.ref n0),some (D.int a1),some (D.ref n1),j31,none,none,none,none,none,none,none,none,none]) (mi_seq (pv_var rfl) (ItL.toS (il_n (hc.at 0 rfl)))) rfl hS33 h ?_ ?_
 ·intro x34 hx34 N35 R R2 h hR hR2
  refine u_gN (s' := [some (D.ref n0),some (D.int a1),some (D.ref n1),j31,none,none,none,none,none,some (D.str x34),none,none,none]) rfl ?_
  refine lc_yes ?_
  refine w_opW ?_
  refine Pv.wp ?_ (pv_lst (pa_cons' pv_c (pa_cons' pv_c (pa_cons' pv_c pa_nil'))))
  refine w_drawA (pa_cons' (pv_var rfl) (pa_cons' pv_c pa_nil')) (hc.le _ _ hp) (by decide) (by decide) ?_
  intro r37 h0r37 h1r37
  replace h := h r37 h0r37 h1r37
  obtain ⟨hS38,h⟩ := h
  refine P2.wp ?_ (p2_ixG (d0 := ("":Str)) (ItL.toS (il_r (xs := ([("loose":Str),("once":Str),("under":Str)]:List Str)) (e := en) rfl)) hS38)
  exact hR _ h
 intro ys36 h
 intro n39 hn
 replace hc := hc.new (Nd.lst (List.map en ys36)) hn
 generalize put A32 n39 (Nd.lst (List.map en ys36))=A40 at hc ⊢
 replace hc:Cells A0 [[(n1,(Nd.lst (List.map en st30)))],[(n39,(Nd.lst (List.map en ys36)))]] A40 := hc
 refine at_n (s' := [some (D.ref n0),some (D.int a1),some (D.ref n1),j31,some (D.ref n39),none,none,none,none,none,none,none,none]) rfl ?_
 refine nx_sq ?_
 refine u_join (σ := (List Str)) (fun st52 s53 A54=>s53=[some (D.ref n0),some (D.int a1),some (D.ref n1),j31,some (D.ref n39),none,none,none,none,none,none,none,none]∧Cells A0 [[(n1,(Nd.lst (List.map en st30)))],[(n39,(Nd.lst (List.map en st52)))]] A54) h ?_ ?_
 ·intro N50 h hN50
  refine u_if (Am.pt_and (pt_b (pv_op2 pv_c (pv_var rfl) (q2_nin (a := ("loose":Str)) (xs := ys36) (ue_r rfl) (ItS.sq (ItL.toS (il_n (hc.at 1 rfl)))) (by decide)))) (fun hh55=>(pt_b (pv_op2 pv_c (pv_var rfl) (q2_nin (a := ("once":Str)) (xs := ys36) (ue_r rfl) (ItS.sq (ItL.toS (il_n (hc.at 1 rfl)))) (by decide)))))) h ?_ ?_
  ·intro hb56 h
   refine u_lputS ?_
   refine w_opW ?_
   refine Pv.wp ?_ (pv_lst (pa_cons' pv_c (pa_cons' pv_c pa_nil')))
   refine w_drawA (pa_cons' (pv_var rfl) (pa_cons' pv_c pa_nil')) (hc.le _ _ hp) (by decide) (by decide) ?_
   intro r57 h0r57 h1r57
   replace h := h r57 h0r57 h1r57
   obtain ⟨hS58,h⟩ := h
   refine P2.wp ?_ (p2_ixG (d0 := ("":Str)) (ItL.toS (il_r (xs := ([("loose":Str),("once":Str)]:List Str)) (e := en) rfl)) hS58)
   refine Pv.wp ?_ (pv_var rfl)
   obtain ⟨hS59,h⟩ := h
   refine w_drawA (pa_cons' (pv_var rfl) (pa_cons' (pv_cbB (pa_cons' (pv_var rfl) pa_nil') (pb_lenI (ItL.toS (il_n (hc.at 1 rfl))))) pa_nil')) (hc.le _ _ hp) (hS59).1 (dr_small hS59) ?_
   intro r60 h0r60 h1r60
   replace h := h r60 h0r60 h1r60
   obtain ⟨hS61,h⟩ := h
   refine u_lput1 (xs := ys36) (e := en) (v := (ixG ("":Str) ([("loose":Str),("once":Str)]:List Str) r57)) (hc.at 1 rfl) hS61 ?_
   replace hc := hc.put 1 rfl (Nd.lst (List.map en (List.set ys36 r60.toNat (ixG ("":Str) ([("loose":Str),("once":Str)]:List Str) r57))))
   generalize put A40 n39 (Nd.lst (List.map en (List.set ys36 r60.toNat (ixG ("":Str) ([("loose":Str),("once":Str)]:List Str) r57))))=A62 at hc ⊢
   replace hc:Cells A0 [[(n1,(Nd.lst (List.map en st30)))],[(n39,(Nd.lst (List.map en (List.set ys36 r60.toNat (ixG ("":Str) ([("loose":Str),("once":Str)]:List Str) r57)))))]] A62 := hc
   obtain ⟨l63,hl63⟩:∃ v:(List Str),v=(List.set ys36 r60.toNat (ixG ("":Str) ([("loose":Str),("once":Str)]:List Str) r57)) := ⟨_,rfl⟩
   replace h := letW_out hl63 h
   replace hc:Cells A0 [[(n1,(Nd.lst (List.map en st30)))],[(n39,(Nd.lst (List.map en l63)))]] A62 := by rw [hl63]; exact hc
   refine nx_sq ?_
   exact hN50 _ _ _ h ⟨rfl,hc⟩
  ·intro hb56 h
   refine t_next ?_
   refine nx_sq ?_
   exact hN50 _ _ _ h ⟨rfl,hc⟩
 rintro st51 s65 A64 h ⟨rfl,hc⟩
 refine s_sq ?_
 obtain ⟨hS68,h⟩ := h
 obtain ⟨v69,hv69⟩:∃ v:(List Str),v=(List.map (fun x66:(Int × Str)=>x66.2) (List.filter (fun x66:(Int × Str)=>(!eqB (ixG ("":Str) st51 x66.1) ("under":Str))) (enu st30))) := ⟨_,rfl⟩
 replace h := letW_out hv69 h
 refine u_set (s' := [some (D.ref n0),some (D.int a1),some (D.ref n1),j31,some (D.ref n39),some (D.lst (List.map en v69)),none,none,none,none,none,none,none]) (Pv.is (v_lcFM (e := (eE en)) (p := fun x66:(Int × Str)=>(!eqB (ixG ("":Str) st51 x66.1) ("under":Str))) (g := fun x66:(Int × Str)=>x66.2) (e' := en) (mi_enum (pv_var rfl) (il_n (hc.at 0 rfl))) rfl hS68.2 (fun x66 hx66=>lcb (tg_tp rfl rfl (tgz_cons (tg_n rfl) (tgz_cons (tg_n rfl) tgz_nil))) (pt_b (pv_op2 (pv_op2 (pv_var rfl) (pv_var rfl) (p2_ixG (d0 := ("":Str)) (ItL.toS (il_n (hc.at 1 rfl))) (hS68.1 x66 hx66))) pv_c (q2_ne (a := (ixG ("":Str) st51 x66.1)) (b := ("under":Str)) (ue_r rfl) (ue_r rfl) (by decide)))) (fun hh67=>(pv_var rfl)))) (congrArg (fun z:(List Str)=>(D.lst (List.map en z))) hv69.symm)) rfl ?_
 refine nx_sq ?_
 refine s_sq ?_
 refine u_setE ?_
 refine w_nilM ?_
 intro n70 hn
 replace hc := hc.new (Nd.lst []) hn
 generalize put A64 n70 (Nd.lst [])=A71 at hc ⊢
 replace hc:Cells A0 [[(n1,(Nd.lst (List.map en st30)))],[(n39,(Nd.lst (List.map en st51)))],[(n70,(Nd.lst (List.map en ([]:List (T3 Str Str (Option Str))))))]] A71 := hc
 refine at_n (s' := [some (D.ref n0),some (D.int a1),some (D.ref n1),j31,some (D.ref n39),some (D.lst (List.map en v69)),some (D.ref n70),none,none,none,none,none,none]) rfl ?_
 refine nx_sq ?_
 refine s_sq ?_
 refine u_setE ?_
 refine w_nilM ?_
 intro n72 hn
 replace hc := hc.new (Nd.lst []) hn
 generalize put A71 n72 (Nd.lst [])=A73 at hc ⊢
 replace hc:Cells A0 [[(n1,(Nd.lst (List.map en st30)))],[(n39,(Nd.lst (List.map en st51)))],[(n70,(Nd.lst (List.map en ([]:List (T3 Str Str (Option Str))))))],[(n72,(Nd.lst (List.map en ([]:List (T4 Str Str Str Str)))))]] A73 := hc
 refine at_n (s' := [some (D.ref n0),some (D.int a1),some (D.ref n1),j31,some (D.ref n39),some (D.lst (List.map en v69)),some (D.ref n70),some (D.ref n72),none,none,none,none,none]) rfl ?_
 refine nx_sq ?_
 refine s_sq ?_
 refine u_setE ?_
 refine w_listM (pv_var rfl) (ItL.toS (il_n (hc.at 0 rfl))) ?_
 intro n74 hn
 replace hc := hc.new (Nd.lst (List.map en st30)) hn
 generalize put A73 n74 (Nd.lst (List.map en st30))=A75 at hc ⊢
 replace hc:Cells A0 [[(n1,(Nd.lst (List.map en st30)))],[(n39,(Nd.lst (List.map en st51)))],[(n70,(Nd.lst (List.map en ([]:List (T3 Str Str (Option Str))))))],[(n72,(Nd.lst (List.map en ([]:List (T4 Str Str Str Str)))))],[(n74,(Nd.lst (List.map en st30)))]] A75 := hc
 refine at_n (s' := [some (D.ref n0),some (D.int a1),some (D.ref n1),j31,some (D.ref n39),some (D.lst (List.map en v69)),some (D.ref n70),some (D.ref n72),some (D.ref n74),none,none,none,none]) rfl ?_
 refine nx_sq ?_
 refine s_sq ?_
 refine u_forC (σ := (List (T3 Str Str (Option Str))) × (List (T4 Str Str Str Str)) × (List Str)) (e := (eE en)) (fun st129 s130 A131=>∃ (j132 j133:Option D),s130=[some (D.ref n0),some (D.int a1),some (D.ref n1),j132,some (D.ref n39),some (D.lst (List.map en v69)),some (D.ref n70),some (D.ref n72),some (D.ref n74),j133,none,none,none]∧Cells A0 [[(n1,(Nd.lst (List.map en st30)))],[(n39,(Nd.lst (List.map en st51)))],[(n70,(Nd.lst (List.map en st129.1)))],[(n72,(Nd.lst (List.map en st129.2.1)))],[(n74,(Nd.lst (List.map en st129.2.2)))]] A131) (mi_enum (pv_var rfl) (il_n (hc.at 0 rfl))) h ⟨_,_,rfl,hc⟩ (fun _ _ _ ⟨_,_,_,hcP⟩=>(fun n e=>by cases e; exact (hcP.at 0 rfl).trans (hc.at 0 rfl).symm)) ?_ ?_
 ·rintro x76 hx76 st128 _ A136 N125 B126 Nm127 h ⟨j134,j135,rfl,hc⟩ hN125 hB126
  refine ⟨[(D.int x76.1),(D.str x76.2)], .inl rfl,rfl,_,_,rfl,_,_,rfl,rfl, ?_⟩
  refine at_s (s' := [some (D.ref n0),some (D.int a1),some (D.ref n1),some (D.int x76.1),some (D.ref n39),some (D.lst (List.map en v69)),some (D.ref n70),some (D.ref n72),some (D.ref n74),some (D.str x76.2),none,none,none]) rfl ?_
  obtain ⟨hS137,h⟩ := h
  refine u_if (pt_b (pv_op2 (pv_op2 (pv_var rfl) (pv_var rfl) (p2_ixG (d0 := ("":Str)) (ItL.toS (il_n (hc.at 1 rfl))) hS137)) pv_c (q2_eq (a := (ixG ("":Str) st51 x76.1)) (b := ("under":Str)) (ue_r rfl) (ue_r rfl) (by decide)))) h ?_ ?_
  ·intro hb138 h
   refine s_sq ?_
   refine u_appS ?_
   refine Pv.wp ?_ (pv_var rfl)
   refine ⟨u_it (hc.at 4 rfl), ?_⟩
   obtain ⟨hS139,h⟩ := h
   refine w_callW ?_ (pa_cons' (pv_var rfl) (pa_cons' (pv_var rfl) pa_nil'))
   refine fw_word (hc.le _ _ hp) (il_n (hc.at 4 rfl)) hS139 ?_
   intro r140 hr140
   replace h := h r140 hr140
   obtain ⟨hS141,h⟩ := h
   refine u_app2 (xs := st128.2.2) (e := en) (v := r140) (hc.at 4 rfl) hS141 ?_
   replace hc := hc.put 4 rfl (Nd.lst (List.map en (st128.2.2 ++ [r140])))
   generalize put A136 n74 (Nd.lst (List.map en (st128.2.2 ++ [r140])))=A142 at hc ⊢
   replace hc:Cells A0 [[(n1,(Nd.lst (List.map en st30)))],[(n39,(Nd.lst (List.map en st51)))],[(n70,(Nd.lst (List.map en st128.1)))],[(n72,(Nd.lst (List.map en st128.2.1)))],[(n74,(Nd.lst (List.map en (st128.2.2 ++ [r140]))))]] A142 := hc
   refine nx_sq ?_
   refine s_sq ?_
   refine u_appS ?_
   refine Pv.wp ?_ (pv_var rfl)
   refine ⟨u_it (hc.at 3 rfl), ?_⟩
   refine w_tupX ?_
   refine w_consX ?_
   obtain ⟨hS143,h⟩ := h
   refine Pv.wp ?_ (pv_op2 (pv_var rfl) (pv_un1 pv_c p1_neg) (p2_ixL (d0 := ("":Str)) (ItL.toS (il_n (hc.at 4 rfl))) hS143))
   refine w_consX ?_
   refine w_opW ?_
   refine Pv.wp ?_ (pv_var rfl)
   obtain ⟨hS144,h⟩ := h
   refine w_drawA (pa_cons' (pv_var rfl) (pa_cons' (pv_cbB (pa_cons' (pv_var rfl) pa_nil') (pb_lenI (ItL.toS il_l))) pa_nil')) (hc.le _ _ hp) (hS144).1 (dr_small hS144) ?_
   intro r145 h0r145 h1r145
   replace h := h r145 h0r145 h1r145
   obtain ⟨hS146,h⟩ := h
   refine P2.wp ?_ (p2_ixG (d0 := ("":Str)) (ItL.toS il_l) hS146)
   refine w_consX ?_
   refine Pv.wp ?_ (pv_var rfl)
   refine w_consX ?_
   refine w_opW ?_
   refine Pv.wp ?_ (pv_lst (pa_cons' pv_c (pa_cons' pv_c pa_nil')))
   refine w_drawA (pa_cons' (pv_var rfl) (pa_cons' pv_c pa_nil')) (hc.le _ _ hp) (by decide) (by decide) ?_
   intro r147 h0r147 h1r147
   replace h := h r147 h0r147 h1r147
   obtain ⟨hS148,h⟩ := h
   refine P2.wp ?_ (p2_ixG (d0 := ("":Str)) (ItL.toS (il_r (xs := ([("loose":Str),("once":Str)]:List Str)) (e := en) rfl)) hS148)
   refine w_nilX ?_
   refine ⟨sz (Nat.le_of_ble_eq_true rfl), ?_⟩
   obtain ⟨hS149,h⟩ := h
   refine u_app2 (xs := st128.2.1) (e := en) (v := (⟨((List.getLast? (st128.2.2 ++ [r140])).getD ("":Str)),(ixG ("":Str) v69 r145),x76.2,(ixG ("":Str) ([("loose":Str),("once":Str)]:List Str) r147)⟩:(T4 Str Str Str Str))) (hc.at 3 rfl) hS149 ?_
   replace hc := hc.put 3 rfl (Nd.lst (List.map en (st128.2.1 ++ [(⟨((List.getLast? (st128.2.2 ++ [r140])).getD ("":Str)),(ixG ("":Str) v69 r145),x76.2,(ixG ("":Str) ([("loose":Str),("once":Str)]:List Str) r147)⟩:(T4 Str Str Str Str))])))
   generalize put A142 n72 (Nd.lst (List.map en (st128.2.1 ++ [(⟨((List.getLast? (st128.2.2 ++ [r140])).getD ("":Str)),(ixG ("":Str) v69 r145),x76.2,(ixG ("":Str) ([("loose":Str),("once":Str)]:List Str) r147)⟩:(T4 Str Str Str Str))])))=A150 at hc ⊢
   replace hc:Cells A0 [[(n1,(Nd.lst (List.map en st30)))],[(n39,(Nd.lst (List.map en st51)))],[(n70,(Nd.lst (List.map en st128.1)))],[(n72,(Nd.lst (List.map en (st128.2.1 ++ [(⟨((List.getLast? (st128.2.2 ++ [r140])).getD ("":Str)),(ixG ("":Str) v69 r145),x76.2,(ixG ("":Str) ([("loose":Str),("once":Str)]:List Str) r147)⟩:(T4 Str Str Str Str))]))))],[(n74,(Nd.lst (List.map en (st128.2.2 ++ [r140]))))]] A150 := hc
   obtain ⟨l151,hl151⟩:∃ v:(List (T4 Str Str Str Str)),v=(st128.2.1 ++ [(⟨((List.getLast? (st128.2.2 ++ [r140])).getD ("":Str)),(ixG ("":Str) v69 r145),x76.2,(ixG ("":Str) ([("loose":Str),("once":Str)]:List Str) r147)⟩:(T4 Str Str Str Str))]) := ⟨_,rfl⟩
   replace h := letW_out hl151 h
   replace hc:Cells A0 [[(n1,(Nd.lst (List.map en st30)))],[(n39,(Nd.lst (List.map en st51)))],[(n70,(Nd.lst (List.map en st128.1)))],[(n72,(Nd.lst (List.map en l151)))],[(n74,(Nd.lst (List.map en (st128.2.2 ++ [r140]))))]] A150 := by rw [hl151]; exact hc
   refine nx_sq ?_
   refine u_appS ?_
   refine Pv.wp ?_ (pv_var rfl)
   refine ⟨u_it (hc.at 2 rfl), ?_⟩
   obtain ⟨hS152,h⟩ := h
   refine Pv.wp ?_ (pv_tup (ds := [(D.str x76.2),(D.str ("under":Str)),(D.str ((List.getLast? (st128.2.2 ++ [r140])).getD ("":Str)))]) (pa_cons' (pv_var rfl) (pa_cons' pv_c (pa_cons' (pv_op2 (pv_var rfl) (pv_un1 pv_c p1_neg) (p2_ixL (d0 := ("":Str)) (ItL.toS (il_n (hc.at 4 rfl))) hS152)) pa_nil'))))
   obtain ⟨hS153,h⟩ := h
   refine u_app2 (xs := st128.1) (e := en) (v := (⟨x76.2,("under":Str),(some ((List.getLast? (st128.2.2 ++ [r140])).getD ("":Str)))⟩:(T3 Str Str (Option Str)))) (hc.at 2 rfl) hS153 ?_
   replace hc := hc.put 2 rfl (Nd.lst (List.map en (st128.1 ++ [(⟨x76.2,("under":Str),(some ((List.getLast? (st128.2.2 ++ [r140])).getD ("":Str)))⟩:(T3 Str Str (Option Str)))])))
   generalize put A150 n70 (Nd.lst (List.map en (st128.1 ++ [(⟨x76.2,("under":Str),(some ((List.getLast? (st128.2.2 ++ [r140])).getD ("":Str)))⟩:(T3 Str Str (Option Str)))])))=A154 at hc ⊢
   replace hc:Cells A0 [[(n1,(Nd.lst (List.map en st30)))],[(n39,(Nd.lst (List.map en st51)))],[(n70,(Nd.lst (List.map en (st128.1 ++ [(⟨x76.2,("under":Str),(some ((List.getLast? (st128.2.2 ++ [r140])).getD ("":Str)))⟩:(T3 Str Str (Option Str)))]))))],[(n72,(Nd.lst (List.map en l151)))],[(n74,(Nd.lst (List.map en (st128.2.2 ++ [r140]))))]] A154 := hc
   obtain ⟨l155,hl155⟩:∃ v:(List (T3 Str Str (Option Str))),v=(st128.1 ++ [(⟨x76.2,("under":Str),(some ((List.getLast? (st128.2.2 ++ [r140])).getD ("":Str)))⟩:(T3 Str Str (Option Str)))]) := ⟨_,rfl⟩
   replace h := letW_out hl155 h
   replace hc:Cells A0 [[(n1,(Nd.lst (List.map en st30)))],[(n39,(Nd.lst (List.map en st51)))],[(n70,(Nd.lst (List.map en l155)))],[(n72,(Nd.lst (List.map en l151)))],[(n74,(Nd.lst (List.map en (st128.2.2 ++ [r140]))))]] A154 := by rw [hl155]; exact hc
   refine nx_lp ?_
   exact hN125 _ _ _ h ⟨_,_,rfl,hc⟩
  ·intro hb138 h
   refine u_appS ?_
   refine Pv.wp ?_ (pv_var rfl)
   refine ⟨u_it (hc.at 2 rfl), ?_⟩
   obtain ⟨hS156,h⟩ := h
   refine Pv.wp ?_ (pv_tup (ds := [(D.str x76.2),(D.str (ixG ("":Str) st51 x76.1)),D.non]) (pa_cons' (pv_var rfl) (pa_cons' (pv_op2 (pv_var rfl) (pv_var rfl) (p2_ixG (d0 := ("":Str)) (ItL.toS (il_n (hc.at 1 rfl))) hS156)) (pa_cons' pv_c pa_nil'))))
   obtain ⟨hS157,h⟩ := h
   refine u_app2 (xs := st128.1) (e := en) (v := (⟨x76.2,(ixG ("":Str) st51 x76.1),(none:(Option Str))⟩:(T3 Str Str (Option Str)))) (hc.at 2 rfl) hS157 ?_
   replace hc := hc.put 2 rfl (Nd.lst (List.map en (st128.1 ++ [(⟨x76.2,(ixG ("":Str) st51 x76.1),(none:(Option Str))⟩:(T3 Str Str (Option Str)))])))
   generalize put A136 n70 (Nd.lst (List.map en (st128.1 ++ [(⟨x76.2,(ixG ("":Str) st51 x76.1),(none:(Option Str))⟩:(T3 Str Str (Option Str)))])))=A158 at hc ⊢
   replace hc:Cells A0 [[(n1,(Nd.lst (List.map en st30)))],[(n39,(Nd.lst (List.map en st51)))],[(n70,(Nd.lst (List.map en (st128.1 ++ [(⟨x76.2,(ixG ("":Str) st51 x76.1),(none:(Option Str))⟩:(T3 Str Str (Option Str)))]))))],[(n72,(Nd.lst (List.map en st128.2.1)))],[(n74,(Nd.lst (List.map en st128.2.2)))]] A158 := hc
   obtain ⟨l159,hl159⟩:∃ v:(List (T3 Str Str (Option Str))),v=(st128.1 ++ [(⟨x76.2,(ixG ("":Str) st51 x76.1),(none:(Option Str))⟩:(T3 Str Str (Option Str)))]) := ⟨_,rfl⟩
   replace h := letW_out hl159 h
   replace hc:Cells A0 [[(n1,(Nd.lst (List.map en st30)))],[(n39,(Nd.lst (List.map en st51)))],[(n70,(Nd.lst (List.map en l159)))],[(n72,(Nd.lst (List.map en st128.2.1)))],[(n74,(Nd.lst (List.map en st128.2.2)))]] A158 := by rw [hl159]; exact hc
   refine nx_lp ?_
   exact hN125 _ _ _ h ⟨_,_,rfl,hc⟩
 rintro st160 _ A163 h ⟨j161,j162,rfl,hc⟩
 refine nx_sq ?_
 refine s_sq ?_
 refine u_rngE ?_
 obtain ⟨hS164,h⟩ := h
 refine w_drawA (pa_cons' (pv_var rfl) (pa_cons' (pv_op2 pv_c (pv_cbB (pa_cons' (pv_var rfl) pa_nil') (pb_lenI (ItL.toS (il_n (hc.at 3 rfl))))) p2_subI) pa_nil')) (hc.le _ _ hp) (hS164).1 (dr_small hS164) ?_
 intro r165 h0r165 h1r165
 replace h := h r165 h0r165 h1r165
 obtain ⟨hS166,h⟩ := h
 refine ⟨_,rfl,(hS166).1,(hS166).2, ?_⟩
 rw [intsD_rng]
 refine for_corr (σ := (List (T4 Str Str Str Str)) × (List Str)) (e := en) (fun st207 s208 A209=>∃ (j210 j211 j212:Option D),s208=[some (D.ref n0),some (D.int a1),some (D.ref n1),j210,some (D.ref n39),some (D.lst (List.map en v69)),some (D.ref n70),some (D.ref n72),some (D.ref n74),j162,j211,j212,none]∧Cells A0 [[(n1,(Nd.lst (List.map en st30)))],[(n39,(Nd.lst (List.map en st51)))],[(n70,(Nd.lst (List.map en st160.1)))],[(n72,(Nd.lst (List.map en st207.1)))],[(n74,(Nd.lst (List.map en st207.2)))]] A209) h ⟨_,_,_,rfl,hc⟩ (fun _ _ _ ⟨_,_,_,_,hcP⟩=>True.intro) ?_ ?_
 ·rintro x167 hx167 st206 _ A216 N203 B204 Nm205 h ⟨j213,j214,j215,rfl,hc⟩ hN203 hB204
  refine at_s (s' := [some (D.ref n0),some (D.int a1),some (D.ref n1),some (D.int x167),some (D.ref n39),some (D.lst (List.map en v69)),some (D.ref n70),some (D.ref n72),some (D.ref n74),j162,j214,j215,none]) rfl ?_
  refine s_sq ?_
  refine u_appS ?_
  refine Pv.wp ?_ (pv_var rfl)
  refine ⟨u_it (hc.at 4 rfl), ?_⟩
  obtain ⟨hS217,h⟩ := h
  refine w_callW ?_ (pa_cons' (pv_var rfl) (pa_cons' (pv_var rfl) pa_nil'))
  refine fw_word (hc.le _ _ hp) (il_n (hc.at 4 rfl)) hS217 ?_
  intro r218 hr218
  replace h := h r218 hr218
  obtain ⟨hS219,h⟩ := h
  refine u_app2 (xs := st206.2) (e := en) (v := r218) (hc.at 4 rfl) hS219 ?_
  replace hc := hc.put 4 rfl (Nd.lst (List.map en (st206.2 ++ [r218])))
  generalize put A216 n74 (Nd.lst (List.map en (st206.2 ++ [r218])))=A220 at hc ⊢
  replace hc:Cells A0 [[(n1,(Nd.lst (List.map en st30)))],[(n39,(Nd.lst (List.map en st51)))],[(n70,(Nd.lst (List.map en st160.1)))],[(n72,(Nd.lst (List.map en st206.1)))],[(n74,(Nd.lst (List.map en (st206.2 ++ [r218]))))]] A220 := hc
  refine nx_sq ?_
  refine s_sq ?_
  refine u_setE ?_
  refine w_opW ?_
  refine Pv.wp ?_ (pv_var rfl)
  obtain ⟨hS221,h⟩ := h
  refine w_drawA (pa_cons' (pv_var rfl) (pa_cons' (pv_cbB (pa_cons' (pv_var rfl) pa_nil') (pb_lenI (ItL.toS (il_n (hc.at 0 rfl))))) pa_nil')) (hc.le _ _ hp) (hS221).1 (dr_small hS221) ?_
  intro r222 h0r222 h1r222
  replace h := h r222 h0r222 h1r222
  obtain ⟨hS223,h⟩ := h
  refine P2.wp ?_ (p2_ixG (d0 := ("":Str)) (ItL.toS (il_n (hc.at 0 rfl))) hS223)
  refine at_n (s' := [some (D.ref n0),some (D.int a1),some (D.ref n1),some (D.int x167),some (D.ref n39),some (D.lst (List.map en v69)),some (D.ref n70),some (D.ref n72),some (D.ref n74),j162,some (D.str (ixG ("":Str) st30 r222)),j215,none]) rfl ?_
  refine nx_sq ?_
  refine s_sq ?_
  refine u_setE ?_
  refine w_opW ?_
  refine Pv.wp ?_ (pv_var rfl)
  obtain ⟨hS224,h⟩ := h
  refine w_drawA (pa_cons' (pv_var rfl) (pa_cons' (pv_cbB (pa_cons' (pv_var rfl) pa_nil') (pb_lenI (ItL.toS (il_n (hc.at 0 rfl))))) pa_nil')) (hc.le _ _ hp) (hS224).1 (dr_small hS224) ?_
  intro r225 h0r225 h1r225
  replace h := h r225 h0r225 h1r225
  obtain ⟨hS226,h⟩ := h
  refine P2.wp ?_ (p2_ixG (d0 := ("":Str)) (ItL.toS (il_n (hc.at 0 rfl))) hS226)
  refine at_n (s' := [some (D.ref n0),some (D.int a1),some (D.ref n1),some (D.int x167),some (D.ref n39),some (D.lst (List.map en v69)),some (D.ref n70),some (D.ref n72),some (D.ref n74),j162,some (D.str (ixG ("":Str) st30 r222)),some (D.str (ixG ("":Str) st30 r225)),none]) rfl ?_
  refine nx_sq ?_
  refine u_appS ?_
  refine Pv.wp ?_ (pv_var rfl)
  refine ⟨u_it (hc.at 3 rfl), ?_⟩
  refine w_tupX ?_
  refine w_consX ?_
  obtain ⟨hS227,h⟩ := h
  refine Pv.wp ?_ (pv_op2 (pv_var rfl) (pv_un1 pv_c p1_neg) (p2_ixL (d0 := ("":Str)) (ItL.toS (il_n (hc.at 4 rfl))) hS227))
  refine w_consX ?_
  refine Pv.wp ?_ (pv_var rfl)
  refine w_consX ?_
  refine Pv.wp ?_ (pv_var rfl)
  refine w_consX ?_
  refine w_opW ?_
  refine Pv.wp ?_ (pv_lst (pa_cons' pv_c (pa_cons' pv_c pa_nil')))
  refine w_drawA (pa_cons' (pv_var rfl) (pa_cons' pv_c pa_nil')) (hc.le _ _ hp) (by decide) (by decide) ?_
  intro r228 h0r228 h1r228
  replace h := h r228 h0r228 h1r228
  obtain ⟨hS229,h⟩ := h
  refine P2.wp ?_ (p2_ixG (d0 := ("":Str)) (ItL.toS (il_r (xs := ([("loose":Str),("once":Str)]:List Str)) (e := en) rfl)) hS229)
  refine w_nilX ?_
  refine ⟨sz (Nat.le_of_ble_eq_true rfl), ?_⟩
  obtain ⟨hS230,h⟩ := h
  refine u_app2 (xs := st206.1) (e := en) (v := (⟨((List.getLast? (st206.2 ++ [r218])).getD ("":Str)),(ixG ("":Str) st30 r222),(ixG ("":Str) st30 r225),(ixG ("":Str) ([("loose":Str),("once":Str)]:List Str) r228)⟩:(T4 Str Str Str Str))) (hc.at 3 rfl) hS230 ?_
  replace hc := hc.put 3 rfl (Nd.lst (List.map en (st206.1 ++ [(⟨((List.getLast? (st206.2 ++ [r218])).getD ("":Str)),(ixG ("":Str) st30 r222),(ixG ("":Str) st30 r225),(ixG ("":Str) ([("loose":Str),("once":Str)]:List Str) r228)⟩:(T4 Str Str Str Str))])))
  generalize put A220 n72 (Nd.lst (List.map en (st206.1 ++ [(⟨((List.getLast? (st206.2 ++ [r218])).getD ("":Str)),(ixG ("":Str) st30 r222),(ixG ("":Str) st30 r225),(ixG ("":Str) ([("loose":Str),("once":Str)]:List Str) r228)⟩:(T4 Str Str Str Str))])))=A231 at hc ⊢
  replace hc:Cells A0 [[(n1,(Nd.lst (List.map en st30)))],[(n39,(Nd.lst (List.map en st51)))],[(n70,(Nd.lst (List.map en st160.1)))],[(n72,(Nd.lst (List.map en (st206.1 ++ [(⟨((List.getLast? (st206.2 ++ [r218])).getD ("":Str)),(ixG ("":Str) st30 r222),(ixG ("":Str) st30 r225),(ixG ("":Str) ([("loose":Str),("once":Str)]:List Str) r228)⟩:(T4 Str Str Str Str))]))))],[(n74,(Nd.lst (List.map en (st206.2 ++ [r218]))))]] A231 := hc
  obtain ⟨l232,hl232⟩:∃ v:(List (T4 Str Str Str Str)),v=(st206.1 ++ [(⟨((List.getLast? (st206.2 ++ [r218])).getD ("":Str)),(ixG ("":Str) st30 r222),(ixG ("":Str) st30 r225),(ixG ("":Str) ([("loose":Str),("once":Str)]:List Str) r228)⟩:(T4 Str Str Str Str))]) := ⟨_,rfl⟩
  replace h := letW_out hl232 h
  replace hc:Cells A0 [[(n1,(Nd.lst (List.map en st30)))],[(n39,(Nd.lst (List.map en st51)))],[(n70,(Nd.lst (List.map en st160.1)))],[(n72,(Nd.lst (List.map en l232)))],[(n74,(Nd.lst (List.map en (st206.2 ++ [r218]))))]] A231 := by rw [hl232]; exact hc
  refine nx_lp ?_
  exact hN203 _ _ _ h ⟨_,_,_,rfl,hc⟩
 rintro st233 _ A237 h ⟨j234,j235,j236,rfl,hc⟩
 refine nx_sq ?_
 refine s_sq ?_
 refine u_setE ?_
 obtain ⟨hS238,h⟩ := h
 refine w_drawA (pa_cons' (pv_var rfl) (pa_cons' (pv_op2 (pv_cbB (pa_cons' (pv_var rfl) pa_nil') (pb_lenI (ItL.toS (il_n (hc.at 3 rfl))))) pv_c p2_addI) pa_nil')) (hc.le _ _ hp) (hS238).1 (dr_small hS238) ?_
 intro r239 h0r239 h1r239
 replace h := h r239 h0r239 h1r239
 refine at_n (s' := [some (D.ref n0),some (D.int a1),some (D.ref n1),j234,some (D.ref n39),some (D.lst (List.map en v69)),some (D.ref n70),some (D.ref n72),some (D.ref n74),j162,j235,j236,some (D.int r239)]) rfl ?_
 refine nx_sq ?_
 refine u_retE ?_
 refine w_tupX ?_
 refine w_consX ?_
 refine w_fzL (n := n70) rfl (hc.at 2 rfl) ?_
 replace hc := hc.cut 2 rfl
 generalize rem A237 n70=A240 at hc ⊢
 refine w_consX ?_
 obtain ⟨hS241,h⟩ := h
 refine Pv.wp ?_ (pv_op2 (pv_slG (pv_var rfl) (po_so (pv_var rfl)) po_no (il_n (hc.at 2 rfl))) (pv_slG (pv_var rfl) po_no (po_so (pv_var rfl)) (il_n (hc.at 2 rfl))) (p2_addLI il_l il_l hS241))
 refine w_nilX ?_
 refine ⟨sz (Nat.le_of_ble_eq_true rfl), ?_⟩
 refine u_rt hc ?_
 exact hQ _ h
end Lw
namespace Lw
open PySem PySem.Spec PyProof.Rows L2 Am
open PySem.W (Datum Tup T3 T4)
section
variable {α β:Type} {xs ys:List α} {d a:α} {i:Int}
theorem ixG_at (h:0≤i∧i < (xs.length:Int)):xs[i.toNat]? = some (ixG d xs i) := by
 have:i.toNat < xs.length := by omega
 unfold ixG
 rw [List.getElem?_eq_getElem this]
 rfl
theorem ixG_mem (h:0≤i∧i < (xs.length:Int)):ixG d xs i∈xs := List.mem_of_getElem? (ixG_at h)
theorem ixG_eq (h:xs[i.toNat]? = some a):ixG d xs i=a := by unfold ixG; rw [h]; rfl
theorem enu_mem {p:Int × α} (h:p∈enu xs):0≤p.1∧p.1 < (xs.length:Int)∧xs[p.1.toNat]? = some p.2 := by
 unfold enu at h
 obtain ⟨q,hq,e⟩ := List.mem_map.mp h
 have := List.mem_zipIdx_iff_getElem?.mp hq
 subst e
 have hl := (List.getElem?_eq_some_iff.mp this).1
 refine ⟨by simp,by simp; omega,by simpa using this⟩
theorem enu_len:(enu xs).length=xs.length := by unfold enu; simp
theorem enu_pre {pre post:List (Int × α)} {x:Int × α} (h:enu xs=pre ++ x :: post):x.1=(pre.length:Int)∧xs[pre.length]? = some x.2∧pre=enu (xs.take pre.length) := by
 have hx:(enu xs)[pre.length]? = some x := by rw [h]; simp
 unfold enu at hx
 rw [List.getElem?_map,List.getElem?_zipIdx] at hx
 cases e:xs[pre.length]? with
 | none=>rw [e] at hx; cases hx
 | some y =>
  rw [e] at hx
  simp at hx
  subst hx
  refine ⟨by simp,rfl, ?_⟩
  have h2:pre=(enu xs).take pre.length := by rw [h]; simp
  conv=>lhs; rw [h2]
  unfold enu
  rw [← List.map_take]
  congr 1
  apply List.ext_getElem?
  intro j
  rw [List.getElem?_take,List.getElem?_zipIdx,List.getElem?_zipIdx,List.getElem?_take]
  split
  ·rfl
  ·rfl
theorem rng_len {j:Int}:(rng j).length=j.toNat := by unfold rng; simp
theorem rng_pre {j x:Int} {pre post:List Int} (h:rng j=pre ++ x :: post):x=(pre.length:Int)∧(pre.length:Int) < j := by
 have hx:(rng j)[pre.length]? = some x := by rw [h]; simp
 have hl:pre.length < (rng j).length := by rw [h]; simp
 rw [rng_len] at hl
 unfold rng at hx
 rw [List.getElem?_map,List.getElem?_range hl] at hx
 simp at hx
 exact ⟨hx.symm,by omega⟩
theorem cutL_to {n:Int} (h:0≤n):cutL xs none (some n)=xs.take n.toNat := by
 obtain ⟨k,rfl⟩:∃ k:Nat,n=k := ⟨n.toNat,by omega⟩
 unfold cutL
 rw [HT.sIx_none,HT.sIx_nat,List.drop_zero,Nat.sub_zero,Int.toNat_natCast]
 by_cases h:k≤xs.length
 ·rw [Nat.min_eq_left h]
 ·rw [Nat.min_eq_right (by omega),List.take_of_length_le (Nat.le_refl _),List.take_of_length_le (by omega)]
theorem cutL_from {n:Int} (h:0≤n):cutL xs (some n) none=xs.drop n.toNat := by
 obtain ⟨k,rfl⟩:∃ k:Nat,n=k := ⟨n.toNat,by omega⟩
 unfold cutL
 rw [HT.sIx_none,HT.sIx_nat,Int.toNat_natCast]
 by_cases h:k≤xs.length
 ·rw [Nat.min_eq_left h,List.take_of_length_le (by rw [List.length_drop]; exact Nat.le_refl _)]
 ·rw [Nat.min_eq_right (by omega),List.drop_of_length_le (Nat.le_refl _),List.drop_of_length_le (by omega)]; simp
theorem getLast_app {x:α}:((xs ++ [x]).getLast?).getD d=x := by simp
theorem mem_set_or {x y:α} {j:Nat} (h:y∈xs.set j x):y=x∨y∈xs := by
 rcases List.mem_or_eq_of_mem_set h with h | h
 ·exact .inr h
 ·exact .inl h
end
theorem paired_map {α:Type} {P:α→Prop} {ι:Type}:∀ {is:List ι} {ys:List α},Paired (fun _ y=>P y) is ys→ys.length=is.length∧∀ y∈ys,P y
 | _,_, .nil=>⟨rfl,fun _ h=>nomatch h⟩
 | _,_, .cons h r=>by
  obtain ⟨h1,h2⟩ := paired_map r
  exact ⟨by simp [h1],fun y hy=>by
   rcases List.mem_cons.mp hy with e | hy
   ·rw [e]; exact h
   ·exact h2 y hy⟩
theorem three_lit {r:Int} {a b c d:Str} (h0:0≤r) (h1:r < 3):ixG d [a,b,c] r=a∨ixG d [a,b,c] r=b∨ixG d [a,b,c] r=c := by
 have:r=0∨r=1∨r=2 := by omega
 rcases this with e | e | e <;> subst e
 ·exact .inl rfl
 ·exact .inr (.inl rfl)
 ·exact .inr (.inr rfl)
theorem two_lit {r:Int} {a b d:Str} (h0:0≤r) (h1:r < 2):ixG d [a,b] r=a∨ixG d [a,b] r=b := by
 have:r=0∨r=1 := by omega
 rcases this with e | e <;> subst e
 ·exact .inl rfl
 ·exact .inr rfl
end Lw
namespace Lw
open PySem PySem.Spec PyProof.Rows L2 Am
open PySem.W (Datum Tup T3 T4)
section
variable {ks:List Kd} {ls ls':List Lk}
def okRule (k:Kd):Prop := (k.b = "under" ∧ ∃ o,k.c=some o)∨((k.b = "loose" ∨ k.b = "once")∧k.c=none)
structure Sch (ks:List Kd) (ls:List Lk):Prop where
 nd:(ks.map (·.a) ++ ls.map (·.a)).Nodup
 kw:∀ k∈ks,isW k.a=true
 kr:∀ k∈ks,okRule k
 lw:∀ l∈ls,isW l.a=true∧l.b∈ks.map (·.a)∧l.c∈ks.map (·.a)∧(l.d = "loose" ∨ l.d = "once")
 ow:∀ k∈ks,∀ o,k.c=some o→∃ l∈ls,l.a=o∧l.c=k.a∧∃ h∈ks,h.a=l.b∧h.b ≠ "under"
 k1:1≤ks.length
 k4:ks.length≤4
 l6:ls.length≤6
theorem sch_perm (g:Sch ks ls) (h:ls'.Perm ls):Sch ks ls' where
 nd := ((List.Perm.refl (ks.map (·.a))).append (h.map (·.a))).nodup_iff.mpr g.nd
 kw := g.kw
 kr := g.kr
 lw := fun l hl=>g.lw l (h.mem_iff.mp hl)
 ow := fun k hk o ho=>by
  obtain ⟨l,hl,r⟩ := g.ow k hk o ho
  exact ⟨l,h.mem_iff.mpr hl,r⟩
 k1 := g.k1
 k4 := g.k4
 l6 := by rw [h.length_eq]; exact g.l6
theorem turn_perm (ls:List Lk) (n:Nat):(ls.drop n ++ ls.take n).Perm ls := by
 have := List.perm_append_comm (l₁ := ls.drop n) (l₂ := ls.take n)
 rw [List.take_append_drop] at this
 exact this
end
def R3 (y:Str):Prop := y = "loose" ∨ y = "once" ∨ y = "under"
theorem nodup_snoc {α:Type} {xs:List α} {x:α} (h:xs.Nodup) (n:x ∉ xs):(xs ++ [x]).Nodup := by
 rw [List.nodup_append]
 refine ⟨h,by simp,fun a ha b hb=>?_⟩
 rw [List.mem_singleton.mp hb]
 exact fun e=>n (e ▸ ha)
theorem take_succ' {α:Type} {xs:List α} {i:Nat} {x:α} (h:xs[i]? = some x):xs.take (i + 1)=xs.take i ++ [x] := by rw [List.take_succ,h]; rfl
structure St2 (ns rs hs:List Str) (i:Nat) (ks:List Kd) (ls:List Lk) (us:List Str):Prop where
 ka:ks.map (·.a)=ns.take i
 eu:us=ns ++ ls.map (·.a)
 nd:us.Nodup
 ll:ls.length≤i
 lw:∀ l∈ls,isW l.a=true∧l.b∈hs∧l.c∈ns∧(l.d = "loose" ∨ l.d = "once")
 kr:∀ k∈ks,okRule k
 ko:∀ k∈ks,∀ o,k.c=some o→∃ l∈ls,l.a=o∧l.c=k.a∧l.b∈hs
 kb:ks.map (·.b)=rs.take i
theorem spec_schema {m:Int} (hm:1≤m∧m≤4) {Q:(List Kd × List Lk)→Prop} {E:Exv→Prop} (q:∀ ks ls,Sch ks ls→Q (ks,ls)):W_law_schema m Q E := by
 unfold W_law_schema
 refine ⟨by omega,fun r h0 h1=>⟨by omega, ?_⟩⟩
 refine forW_inv (fun pre (ns:List Str)=>ns.length=pre.length∧ns.Nodup∧∀ w∈ns,isW w=true) ⟨rfl, .nil,fun _ h=>nomatch h⟩ (fun pre x post ns N e ⟨j1,j2,j3⟩ hN=>?_) (fun ns ⟨j1,j2,j3⟩=>?_)
 ·obtain ⟨_,hl⟩ := rng_pre e
  exact ⟨by omega,fun w ⟨w1,w2⟩=>⟨Sz.of (by omega),hN _ ⟨by simp [j1],nodup_snoc j2 w2,fun v hv=>by
   rcases List.mem_append.mp hv with h | h
   ·exact j3 v h
   ·rw [List.mem_singleton.mp h]; exact w1⟩⟩⟩
 rw [rng_len] at j1
 have n1:1≤ns.length := by omega
 have n4:ns.length≤4 := by omega
 refine ⟨Sz.of (by omega),lcW_all (fun _ y=>R3 y) (fun x hx N hN s0 s1 s2=>⟨⟨s1,by simpa using s2⟩,hN _ (three_lit s1 s2)⟩) fun ys hys=>?_⟩
 obtain ⟨yl,yr⟩ := paired_map hys
 clear hys
 refine joinW_by (J := fun rs:List Str=>rs.length=ns.length∧(∀ y∈rs,R3 y)∧∃ y∈rs,y ≠ "under") (fun rs ⟨k1,k2,k3⟩=>?_) (fun N hN=>?_)
 rotate_left
 ·split
  ·intro s0 s1 s2
   refine ⟨⟨s1,by simpa using s2⟩,by omega,fun t t0 t1=>⟨⟨t0,t1⟩,letW_in fun v hv=>hN v ?_⟩⟩
   have hz:ixG ("":Str) ["loose","once"] s0 = "loose" ∨ ixG ("":Str) ["loose","once"] s0 = "once" := two_lit s1 s2
   subst hv
   refine ⟨by simpa using yl,fun y hy=>?_,ixG ("":Str) ["loose","once"] s0, ?_, ?_⟩
   ·rcases mem_set_or hy with e | h
    ·rw [e]; rcases hz with e | e <;> rw [e]
     ·exact .inl rfl
     ·exact .inr (.inl rfl)
    ·exact yr y h
   ·exact List.mem_set (by omega) _
   ·rcases hz with e | e <;> rw [e] <;> decide +kernel
  ·rename_i hno
   refine hN ys ⟨yl,yr, ?_⟩
   simp only [Bool.and_eq_true,Bool.not_eq_true',inB_no,not_and,Classical.not_not] at hno
   by_cases hm:("loose":Str)∈ys
   ·exact ⟨_,hm,by decide +kernel⟩
   ·exact ⟨_,hno hm,by decide +kernel⟩
 refine ⟨⟨fun x hx=>?_,Sz.of (by rw [enu_len]; omega)⟩,letW_in fun hs ehs=>?_⟩
 ·obtain ⟨e1,e2,_⟩ := enu_mem hx
  omega
 have hsn:∀ h∈hs,∃ i:Nat,ns[i]? = some h∧∃ y,rs[i]? = some y∧y ≠ "under" := fun h hh=>by
  rw [ehs] at hh
  obtain ⟨p,hp,e⟩ := List.mem_map.mp hh
  obtain ⟨hp,hq⟩ := List.mem_filter.mp hp
  obtain ⟨e1,e2,e3⟩ := enu_mem hp
  subst e
  refine ⟨_,e3,_,ixG_at (xs := rs) (d := ("":Str)) ⟨e1,by omega⟩, ?_⟩
  simpa [eqB] using hq
 have hs1:0 < hs.length := by
  obtain ⟨y,hy,hyn⟩ := k3
  obtain ⟨i,hi,ei⟩ := List.getElem_of_mem hy
  have hin:i < ns.length := by omega
  have:ns[i]∈hs := by
   rw [ehs]
   refine List.mem_map.mpr ⟨((i:Int),ns[i]),List.mem_filter.mpr ⟨?_, ?_⟩,rfl⟩
   ·unfold enu
    exact List.mem_map.mpr ⟨(ns[i],i),List.mem_zipIdx_iff_getElem?.mpr (List.getElem?_eq_getElem hin),rfl⟩
   ·have:ixG ("":Str) rs (i:Int)=y := ixG_eq (by simpa using (List.getElem?_eq_getElem hi).trans (congrArg some ei))
    simp only [this,Bool.not_eq_true',eqB_no]
    exact hyn
  exact List.length_pos_of_mem this
 have hs4:hs.length≤4 := by
  rw [ehs,List.length_map]
  exact Nat.le_trans (List.length_filter_le _ _) (by rw [enu_len]; exact n4)
 clear ehs k3
 refine forW_inv (fun pre (st:List Kd × List Lk × List Str)=>St2 ns rs hs pre.length st.1 st.2.1 st.2.2) ⟨rfl,by simp,j2,Nat.le_refl _,fun _ h=>(nomatch h),fun _ h=>(nomatch h),fun _ h=>(nomatch h),rfl⟩ (fun pre x post st N e g hN=>?_) (fun st g=>?_)
 ·obtain ⟨ks,ls,us⟩ := st
  obtain ⟨ex,ea,_⟩ := enu_pre e
  have hi := (List.getElem?_eq_some_iff.mp ea).1
  have hb:0≤x.1∧x.1 < (rs.length:Int) := by omega
  have er:rs[pre.length]? = some (ixG ("":Str) rs x.1) := by rw [show pre.length=x.1.toNat by omega]; exact ixG_at hb
  have hR:R3 (ixG ("":Str) rs x.1) := k2 _ (ixG_mem hb)
  have hkl:ks.length=pre.length := by have := congrArg List.length g.ka; simpa [Nat.min_eq_left (Nat.le_of_lt hi)] using this
  have hlen:(pre ++ [x]).length=pre.length + 1 := by simp
  refine ⟨hb, ?_⟩
  dsimp only at g ⊢
  have ul:us.length < 26 := by rw [g.eu,List.length_append,List.length_map]; have := g.ll; omega
  have lll := g.ll
  split
  ·rename_i hu
   have hu := eqB_iff.mp hu
   refine ⟨ul,fun w ⟨w1,w2⟩=>⟨Sz.of (by omega),by simp,by omega,fun t t0 t1=>⟨⟨t0,t1⟩,fun z z0 z1=>⟨⟨z0,by simpa using z1⟩,Sz.of (by omega),letW_in fun l1 e1=>⟨by simp,Sz.of (by omega),letW_in fun l2 e2=>hN _ ?_⟩⟩⟩⟩⟩
   subst e1 e2
   have hm:ixG ("":Str) hs t∈hs := ixG_mem ⟨t0,t1⟩
   rw [hlen]
   simp only [getLast_app]
   refine ⟨?_, ?_,nodup_snoc g.nd w2, ?_, ?_, ?_, ?_, ?_⟩
   ·simp only [List.map_append,List.map_cons,List.map_nil]
    rw [g.ka,take_succ' ea]
   ·simp only [List.map_append,List.map_cons,List.map_nil]
    rw [g.eu,List.append_assoc]
   ·simp; omega
   ·intro l hl
    rcases List.mem_append.mp hl with h | h
    ·exact g.lw l h
    ·rw [List.mem_singleton.mp h]
     exact ⟨w1,hm,List.mem_of_getElem? ea,two_lit z0 z1⟩
   ·intro k hk
    rcases List.mem_append.mp hk with h | h
    ·exact g.kr k h
    ·rw [List.mem_singleton.mp h]
     exact .inl ⟨rfl,_,rfl⟩
   ·intro k hk o ho
    rcases List.mem_append.mp hk with h | h
    ·obtain ⟨l,hl,r⟩ := g.ko k h o ho
     exact ⟨l,List.mem_append.mpr (.inl hl),r⟩
    ·rw [List.mem_singleton.mp h] at ho ⊢
     refine ⟨_,List.mem_append.mpr (.inr (List.mem_singleton.mpr rfl)),Option.some.inj ho,rfl,hm⟩
   ·simp only [List.map_append,List.map_cons,List.map_nil]
    rw [g.kb,take_succ' er,hu]
  ·rename_i hu
   have hu:ixG ("":Str) rs x.1 ≠ "under" := fun e=>hu (eqB_iff.mpr e)
   refine ⟨hb,Sz.of (by omega),letW_in fun l2 e2=>hN _ ?_⟩
   subst e2
   rw [hlen]
   refine ⟨?_,g.eu,g.nd,(by show ls.length≤_; omega),g.lw, ?_, ?_, ?_⟩
   ·simp only [List.map_append,List.map_cons,List.map_nil]
    rw [g.ka,take_succ' ea]
   ·intro k hk
    rcases List.mem_append.mp hk with h | h
    ·exact g.kr k h
    ·rw [List.mem_singleton.mp h]
     refine .inr ⟨?_,rfl⟩
     rcases hR with e | e | e
     ·exact .inl e
     ·exact .inr e
     ·exact absurd e hu
   ·intro k hk o ho
    rcases List.mem_append.mp hk with h | h
    ·exact g.ko k h o ho
    ·rw [List.mem_singleton.mp h] at ho; cases ho
   ·simp only [List.map_append,List.map_cons,List.map_nil]
    rw [g.kb,take_succ' er]
 obtain ⟨ks,l0,u0⟩ := st
 dsimp only at g ⊢
 rw [enu_len] at g
 have gka:ks.map (·.a)=ns := by rw [g.ka,List.take_length]
 have hkl:ks.length=ns.length := by rw [← gka,List.length_map]
 have l4 := g.ll
 have hkb:ks.map (·.b)=rs := by rw [g.kb,← k1,List.take_length]
 have hhd:∀ h∈hs,∃ k∈ks,k.a=h∧k.b ≠ "under" := fun h hh=>by
  obtain ⟨i,e1,y,e2,e3⟩ := hsn h hh
  rw [← gka,List.getElem?_map] at e1
  rw [← hkb,List.getElem?_map] at e2
  obtain ⟨k,hk,ek⟩ := Option.map_eq_some_iff.mp e1
  rw [hk] at e2
  exact ⟨k,List.mem_of_getElem? hk,ek,by rw [show k.b=y from Option.some.inj e2]; exact e3⟩
 have hsub:∀ h∈hs,h∈ns := fun h hh=>by
  obtain ⟨i,e1,_⟩ := hsn h hh
  exact List.mem_of_getElem? e1
 refine ⟨by omega,fun m m0 m1=>⟨by omega, ?_⟩⟩
 refine forW_inv (fun pre (st:List Lk × List Str)=>st.2=ns ++ st.1.map (·.a)∧st.2.Nodup∧st.1.length=l0.length + pre.length∧(∀ l∈l0,l∈st.1)∧∀ l∈st.1,isW l.a=true∧l.b∈ns∧l.c∈ns∧(l.d = "loose" ∨ l.d = "once")) ⟨g.eu,g.nd,by simp,fun l h=>h,fun l hl=>?_⟩ (fun pre x post st N e ⟨a1,a2,a3,a4,a5⟩ hN=>?_) (fun st ⟨a1,a2,a3,a4,a5⟩=>?_)
 ·obtain ⟨b1,b2,b3,b4⟩ := g.lw l hl
  exact ⟨b1,hsub _ b2,b3,b4⟩
 ·obtain ⟨ls,us⟩ := st
  obtain ⟨_,hl⟩ := rng_pre e
  dsimp only at a1 a2 a3 a4 a5 ⊢
  have ul:us.length < 26 := by rw [a1,List.length_append,List.length_map]; omega
  refine ⟨ul,fun w ⟨w1,w2⟩=>⟨Sz.of (by omega),by omega,fun s s0 s1=>⟨⟨s0,s1⟩,by omega,fun t t0 t1=>⟨⟨t0,t1⟩,by simp,fun z z0 z1=>⟨⟨z0,by simpa using z1⟩,Sz.of (by omega),letW_in fun l1 e1=>hN _ ?_⟩⟩⟩⟩⟩
  subst e1
  simp only [getLast_app]
  refine ⟨?_,nodup_snoc a2 w2, ?_,fun l hl=>List.mem_append.mpr (.inl (a4 l hl)),fun l hl=>?_⟩
  ·simp only [List.map_append,List.map_cons,List.map_nil]
   rw [a1,List.append_assoc]
  ·simp; omega
  ·rcases List.mem_append.mp hl with h | h
   ·exact a5 l h
   ·rw [List.mem_singleton.mp h]
    exact ⟨w1,ixG_mem ⟨s0,s1⟩,ixG_mem ⟨t0,t1⟩,two_lit z0 z1⟩
 obtain ⟨ls,us⟩ := st
 dsimp only at a1 a2 a3 a4 a5 ⊢
 rw [rng_len] at a3
 have hl6:ls.length≤6 := by omega
 refine ⟨by omega,fun t t0 t1=>?_⟩
 rw [cutL_from t0,cutL_to t0]
 refine ⟨Sz.of (by rw [List.length_drop,List.length_take]; omega),q _ _ (sch_perm ?_ (turn_perm ls _))⟩
 refine ⟨by rw [gka,← a1]; exact a2,fun k hk=>j3 _ (by rw [← gka]; exact List.mem_map.mpr ⟨k,hk,rfl⟩),g.kr,fun l hl=>by rw [gka]; exact a5 l hl,fun k hk o ho=>?_,by omega,by omega,hl6⟩
 obtain ⟨l,hl,c1,c2,c3⟩ := g.ko k hk o ho
 obtain ⟨h,hh,c4,c5⟩ := hhd _ c3
 exact ⟨l,a4 l hl,c1,c2,h,hh,c4,c5⟩
end Lw
namespace Lw
open PySem PySem.Spec PyProof.Rows L2 Am
open PySem.W (Datum Tup T3 T4)
section
variable {α β κ:Type} [DecidableEq κ]
def enuF:Int→List α→List (Int × α)
 | _,[]=>[]
 | i,x :: xs=>(i,x) :: enuF (i + 1) xs
theorem enuF_zip:∀ (xs:List α) (n:Nat),enuF (n:Int) xs=(xs.zipIdx n).map fun p=>((p.2:Int),p.1)
 | [],_=>rfl
 | x :: xs,n=>by
  rw [enuF,List.zipIdx_cons,List.map_cons,← enuF_zip xs (n + 1)]
  rfl
theorem enu_eq (xs:List α):enu xs=enuF 0 xs := by
 have := enuF_zip xs 0
 exact this.symm
theorem dcA_fold {g:α→κ} {v:α→β}:∀ {xs:List α} {acc:List (κ × β)},(acc.map (·.1) ++ xs.map g).Nodup→xs.foldl (fun acc x=>putA acc (g x) (v x)) acc=acc ++ xs.map fun x=>(g x,v x)
 | [],acc,_=>by simp
 | x :: xs,acc,h=>by
  rw [List.foldl_cons]
  have hx:g x ∉ acc.map (·.1) := fun e=>(List.nodup_append.mp h).2.2 _ e _ (List.mem_cons_self ..) rfl
  rw [putA_new hx,dcA_fold (by simpa using h)]
  simp
theorem dcA_nodup {g:α→κ} {v:α→β} {xs:List α} (h:(xs.map g).Nodup):dcA g v (fun _=>true) xs=xs.map fun x=>(g x,v x) := by
 unfold dcA
 rw [List.filter_eq_self.mpr (fun _ _=>rfl),dcA_fold (by simpa using h)]
 rfl
theorem valA_map {g:α→κ} {v:α→β} {xs:List α} {k:κ}:valA (xs.map fun x=>(g x,v x)) k=(xs.find? fun x=>decide (g x=k)).map v := by
 unfold valA
 rw [List.find?_map,Option.map_map]
 rfl
theorem valA_app {l r:List (κ × β)} {k:κ}:valA (l ++ r) k=(valA l k).or (valA r k) := by
 unfold valA
 rw [List.find?_append]
 cases l.find? (fun p=>decide (p.1=k)) <;> rfl
theorem valA_some {l:List (κ × β)} {k:κ}:(valA l k).isSome=true↔k∈l.map (·.1) := by
 cases e:valA l k with
 | none=>simp [valA_none.mp e]
 | some v =>
  simp only [Option.isSome_some,true_iff]
  exact Classical.byContradiction fun h=>by rw [valA_none.mpr h] at e; cases e
end
def badK (kn:List Str) (k:Kd):Bool := (!isW k.a || inB k.a kn) || (!inB k.b [("loose":Str),("once":Str),("under":Str)] || !eqB k.c.isNone (!eqB k.b ("under":Str)))
def badL (ns kn:List Str) (l:Lk):Bool := (!isW l.a || (inB l.a kn || !inB l.d [("loose":Str),("once":Str)])) || (!inB l.b ns || !inB l.c ns)
def cnK:List Kd→Int→List Str→Int ⊕ List Str
 | [],_,kn=>.inr kn
 | k :: ks,i,kn=>if badK kn k=true then .inl i else cnK ks (i + 1) (kn ++ [k.a])
def cnL (ns:List Str):List Lk→Int→List Str→Option Int
 | [],_,_=>none
 | l :: ls,i,kn=>if badL ns kn l=true then some i else cnL ns ls (i + 1) (kn ++ [l.a])
def cn (ks:List Kd) (ls:List Lk):Option Int := match cnK ks 0 [] with
 | .inl i=>some i
 | .inr kn=>cnL kn ls ks.length kn
def starts (ls:List Lk) (k:Kd):List Str := (ls.filter fun l=>eqB (some l.a) k.c && eqB l.c k.a).map (·.b)
def badO (ks:List Kd) (ls:List Lk) (k:Kd):Bool := eqB k.b ("under":Str) && (match starts ls k with
 | []=>true
 | z :: _=>eqB (((ks.find? fun h:Kd=>decide (h.a=z)).map (fun h:Kd=>h.b)).getD ("":Str)) ("under":Str))
def co (ks:List Kd) (ls:List Lk):List Kd→Int→Option Int
 | [],_=>none
 | k :: r,i=>if badO ks ls k=true then some i else co ks ls r (i + 1)
section
variable {ks:List Kd} {ls:List Lk}
theorem w_names {Q:Unit→Prop} {E:Exv→Prop} (hk:∀ k∈ks,k.a.length≤1000) (hl:∀ l∈ls,l.a.length≤1000) (hz:ks.length + ls.length≤1000) (h:match cn ks ls with
  | some i=>E (.badSchema (some i))
  | none=>Q ()):W_check_names ks ls Q E := by
 unfold W_check_names
 rw [enu_eq,enu_eq]
 unfold cn at h
 have main:∀ (r:List Kd) (i:Int) (kn:List Str),(∀ k∈r,k.a.length≤1000)→kn.length + r.length≤1000→∀ K:List Str→Prop,(match cnK r i kn with
   | .inl j=>E (.badSchema (some j))
   | .inr kn=>K kn)→forW (enuF i r) kn (fun (x3:Int × Kd) (st25:List Str) N22 (B23:List Str→Prop)=>x3.2.a.length≤1000∧if (!isW x3.2.a || inB x3.2.a st25)=true then E (Exv.badSchema (some x3.1)) else if (!inB x3.2.b [("loose":Str),"once","under"] || !eqB x3.2.c.isNone (!eqB x3.2.b ("under":Str)))=true then E (Exv.badSchema (some x3.1)) else Sz (st25.length + 1)∧N22 (st25 ++ [x3.2.a])) K := by
  intro r
  induction r with
  | nil=>intro i kn _ _ K h; exact h
  | cons k r ih =>
   intro i kn hw hz K h
   unfold cnK badK at h
   refine ⟨hw k (List.mem_cons_self ..), ?_⟩
   dsimp only
   split
   ·rename_i c
    rw [c] at h
    exact h
   ·rename_i c
    rw [Bool.not_eq_true] at c
    rw [c,Bool.false_or] at h
    split
    ·rename_i c2
     rw [c2] at h
     exact h
    ·rename_i c2
     rw [if_neg c2] at h
     simp only [List.length_cons] at hz
     exact ⟨Sz.of (by omega),ih _ _ (fun k hk=>hw k (List.mem_cons_of_mem _ hk)) (by simp; omega) K h⟩
 refine main ks 0 [] hk (by simp; omega) _ ?_
 cases e:cnK ks 0 [] with
 | inl i=>rw [e] at h; exact h
 | inr ns =>
  rw [e] at h
  dsimp only at h ⊢
  have nl:∀ (r:List Kd) (i:Int) (kn ns:List Str),cnK r i kn = .inr ns→ns.length=kn.length + r.length := by
   intro r
   induction r with
   | nil=>intro i kn ns e; cases e; rfl
   | cons k r ih =>
    intro i kn ns e
    unfold cnK at e
    split at e
    ·cases e
    ·have := ih _ _ _ e
     simp at this ⊢
     omega
  have hns := nl _ _ _ _ e
  simp at hns
  have main2:∀ (r:List Lk) (i:Int) (kn:List Str),(∀ k∈r,k.a.length≤1000)→kn.length + r.length≤1000→(match cnL ns r (ks.length + i) kn with
    | some j=>E (.badSchema (some j))
    | none=>Q ())→forW (enuF i r) kn (fun (x51:Int × Lk) (st76:List Str) N73 (B74:List Str→Prop)=>x51.2.a.length≤1000∧if (!isW x51.2.a || (inB x51.2.a st76 || !inB x51.2.d [("loose":Str),"once"]))=true then E (Exv.badSchema (some (↑ks.length + x51.1))) else if (!inB x51.2.b ns || !inB x51.2.c ns)=true then E (Exv.badSchema (some (↑ks.length + x51.1))) else Sz (st76.length + 1)∧N73 (st76 ++ [x51.2.a])) fun _=>Q () := by
   intro r
   induction r with
   | nil=>intro i kn _ _ h; exact h
   | cons k r ih =>
    intro i kn hw hz h
    unfold cnL badL at h
    refine ⟨hw k (List.mem_cons_self ..), ?_⟩
    dsimp only
    split
    ·rename_i c
     rw [c] at h
     exact h
    ·rename_i c
     rw [Bool.not_eq_true] at c
     rw [c,Bool.false_or] at h
     split
     ·rename_i c2
      rw [c2] at h
      exact h
     ·rename_i c2
      rw [if_neg c2] at h
      simp only [List.length_cons] at hz
      exact ⟨Sz.of (by omega),ih _ _ (fun k hk=>hw k (List.mem_cons_of_mem _ hk)) (by simp; omega) (by rw [Int.add_assoc] at h; exact h)⟩
  refine main2 ls 0 ns hl (by omega) (by rw [Int.add_zero]; exact h)
theorem cnK_ok:∀ {r:List Kd} {i:Int} {kn ns:List Str},cnK r i kn = .inr ns→ns=kn ++ r.map (·.a)∧(kn.Nodup→ns.Nodup)∧∀ k∈r,isW k.a=true∧okRule k
 | [],_,_,_,e=>by cases e; exact ⟨by simp,id,fun _ h=>nomatch h⟩
 | k :: r,i,kn,ns,e=>by
  unfold cnK at e
  split at e
  ·cases e
  ·rename_i c
   obtain ⟨h1,h2,h3⟩ := cnK_ok e
   have c := Bool.eq_false_iff.mpr c
   unfold badK at c
   simp only [Bool.or_eq_false_iff,Bool.not_eq_false',inB_no,inB_iff,eqB_iff,List.mem_cons,List.not_mem_nil,or_false] at c
   obtain ⟨⟨c1,c2⟩,c3,c4⟩ := c
   refine ⟨by rw [h1]; simp,fun h=>h2 (nodup_snoc h c2),fun m hm=>?_⟩
   rcases List.mem_cons.mp hm with e | hm
   ·rw [e]
    refine ⟨c1, ?_⟩
    cases hc:k.c with
    | none =>
     rw [hc] at c4
     have:k.b ≠ "under" := fun e2=>by rw [e2] at c4; exact absurd c4 (by decide +kernel)
     rcases c3 with e2 | e2 | e2
     ·exact .inr ⟨.inl e2,hc⟩
     ·exact .inr ⟨.inr e2,hc⟩
     ·exact absurd e2 this
    | some o =>
     rw [hc] at c4
     have:k.b = "under" := eqB_iff.mp (by simpa using c4)
     exact .inl ⟨this,o,hc⟩
   ·exact h3 m hm
theorem cnL_ok {ns:List Str}:∀ {r:List Lk} {i:Int} {kn:List Str},cnL ns r i kn=none→(kn.Nodup→(kn ++ r.map (·.a)).Nodup)∧∀ l∈r,isW l.a=true∧l.b∈ns∧l.c∈ns∧(l.d = "loose" ∨ l.d = "once")
 | [],_,_,_=>⟨fun h=>by simpa using h,fun _ h=>nomatch h⟩
 | l :: r,i,kn,e=>by
  unfold cnL at e
  split at e
  ·cases e
  ·rename_i c
   obtain ⟨h2,h3⟩ := cnL_ok e
   have c := Bool.eq_false_iff.mpr c
   unfold badL at c
   simp only [Bool.or_eq_false_iff,Bool.not_eq_false',inB_no,inB_iff,List.mem_cons,List.not_mem_nil,or_false] at c
   obtain ⟨⟨c1,c2,c3⟩,c4,c5⟩ := c
   refine ⟨fun h=>by have := h2 (nodup_snoc h c2); simpa using this,fun m hm=>?_⟩
   rcases List.mem_cons.mp hm with e | hm
   ·rw [e]; exact ⟨c1,c4,c5,c3⟩
   ·exact h3 m hm
theorem co_ok {r:List Kd} {i:Int} (e:co ks ls r i=none):∀ k∈r,badO ks ls k=false := by
 induction r generalizing i with
 | nil=>exact fun _ h=>nomatch h
 | cons k r ih =>
  unfold co at e
  split at e
  ·cases e
  ·rename_i c
   intro m hm
   rcases List.mem_cons.mp hm with e2 | hm
   ·rw [e2]; simpa using c
   ·exact ih e m hm
structure Nm (ks:List Kd) (ls:List Lk):Prop where
 nd:(ks.map (·.a) ++ ls.map (·.a)).Nodup
 kw:∀ k∈ks,isW k.a=true∧okRule k
 lw:∀ l∈ls,isW l.a=true∧l.b∈ks.map (·.a)∧l.c∈ks.map (·.a)∧(l.d = "loose" ∨ l.d = "once")
theorem nm_of (e:cn ks ls=none):Nm ks ls := by
 unfold cn at e
 split at e
 ·cases e
 ·rename_i kn e1
  obtain ⟨h1,h2,h3⟩ := cnK_ok e1
  rw [List.nil_append] at h1
  obtain ⟨h4,h5⟩ := cnL_ok e
  rw [h1] at h4 h5 h2
  exact ⟨h4 (h2 .nil),h3,h5⟩
theorem find_name (nd:(ks.map (·.a)).Nodup) {k:Kd} (hk:k∈ks):(ks.find? fun h=>decide (h.a=k.a))=some k := by
 induction ks with
 | nil=>cases hk
 | cons h r ih =>
  rw [List.find?_cons]
  rw [List.map_cons,List.nodup_cons] at nd
  rcases List.mem_cons.mp hk with e | hk
  ·subst e; simp
  ·have:h.a≠k.a := fun e=>nd.1 (e ▸ List.mem_map.mpr ⟨k,hk,rfl⟩)
   simp only [this,decide_false]
   exact ih nd.2 hk
theorem find_link (nd:(ls.map (·.a)).Nodup) {k:Lk} (hk:k∈ls):(ls.find? fun h=>decide (h.a=k.a))=some k := by
 induction ls with
 | nil=>cases hk
 | cons h r ih =>
  rw [List.find?_cons]
  rw [List.map_cons,List.nodup_cons] at nd
  rcases List.mem_cons.mp hk with e | hk
  ·subst e; simp
  ·have:h.a≠k.a := fun e=>nd.1 (e ▸ List.mem_map.mpr ⟨k,hk,rfl⟩)
   simp only [this,decide_false]
   exact ih nd.2 hk
theorem sch_of (n:Nm ks ls) (k1:1≤ks.length) (k4:ks.length≤4) (l6:ls.length≤6) (e:co ks ls ks 0=none):Sch ks ls := by
 refine ⟨n.nd,fun k hk=>(n.kw k hk).1,fun k hk=>(n.kw k hk).2,n.lw,fun k hk o ho=>?_,k1,k4,l6⟩
 have nd1 := (List.nodup_append.mp n.nd).1
 have hb := co_ok e k hk
 have hu:k.b = "under" := by
  rcases (n.kw k hk).2 with ⟨h,_⟩ | ⟨_,h⟩
  ·exact h
  ·rw [ho] at h; cases h
 unfold badO at hb
 rw [eqB_iff.mpr hu,Bool.true_and] at hb
 split at hb
 ·cases hb
 ·rename_i z r es
  have hz:z∈starts ls k := by rw [es]; exact List.mem_cons_self ..
  unfold starts at hz
  obtain ⟨l,hl,ez⟩ := List.mem_map.mp hz
  obtain ⟨hl,hp⟩ := List.mem_filter.mp hl
  simp only [Bool.and_eq_true,eqB_iff] at hp
  obtain ⟨_,hb',_,_⟩ := n.lw l hl
  obtain ⟨h,hh,eh⟩ := List.mem_map.mp hb'
  refine ⟨l,hl,by rw [ho] at hp; exact Option.some.inj hp.1,hp.2,h,hh,eh, ?_⟩
  rw [← ez,← eh,find_name nd1 hh] at hb
  simpa [eqB] using hb
theorem cn_sch (g:Sch ks ls):cn ks ls=none := by
 have nd := g.nd
 have a1:∀ (r:List Kd) (i:Int) (kn:List Str),(∀ k∈r,isW k.a=true∧okRule k)→(kn ++ r.map (·.a)).Nodup→cnK r i kn = .inr (kn ++ r.map (·.a)) := by
  intro r
  induction r with
  | nil=>intro i kn _ _; simp [cnK]
  | cons k r ih =>
   intro i kn h1 h2
   obtain ⟨w,ok⟩ := h1 k (List.mem_cons_self ..)
   have hn:k.a ∉ kn := fun h=>(List.nodup_append.mp h2).2.2 _ h _ (by simp) rfl
   unfold cnK
   have:badK kn k=false := by
    unfold badK
    rw [w,inB_no.mpr hn]
    rcases ok with ⟨e,o,eo⟩ | ⟨e | e,eo⟩
    ·rw [e,eo,show (some o).isNone=false from rfl]; decide +kernel
    ·rw [e,eo]; decide +kernel
    ·rw [e,eo]; decide +kernel
   rw [this,if_neg (by decide),ih _ _ (fun m hm=>h1 m (List.mem_cons_of_mem _ hm)) (by simpa using h2)]
   simp
 have a2:∀ (r:List Lk) (i:Int) (kn:List Str),(∀ l∈r,isW l.a=true∧l.b∈ks.map (·.a)∧l.c∈ks.map (·.a)∧(l.d = "loose" ∨ l.d = "once"))→(kn ++ r.map (·.a)).Nodup→cnL (ks.map (·.a)) r i kn=none := by
  intro r
  induction r with
  | nil=>intro i kn _ _; rfl
  | cons l r ih =>
   intro i kn h1 h2
   obtain ⟨w,hb,hc,hd⟩ := h1 l (List.mem_cons_self ..)
   have hn:l.a ∉ kn := fun h=>(List.nodup_append.mp h2).2.2 _ h _ (by simp) rfl
   unfold cnL
   have:badL (ks.map (·.a)) kn l=false := by
    unfold badL
    rw [w,inB_no.mpr hn,inB_iff.mpr hb,inB_iff.mpr hc]
    rcases hd with e | e <;> (rw [e]; decide +kernel)
   rw [this,if_neg (by decide),ih _ _ (fun m hm=>h1 m (List.mem_cons_of_mem _ hm)) (by simpa using h2)]
 unfold cn
 rw [a1 ks 0 [] (fun k hk=>⟨g.kw k hk,g.kr k hk⟩) (by simpa using (List.nodup_append.mp nd).1)]
 rw [List.nil_append]
 exact a2 ls _ _ g.lw nd
theorem co_sch (g:Sch ks ls):co ks ls ks 0=none := by
 have nd1 := (List.nodup_append.mp g.nd).1
 have nd2 := (List.nodup_append.mp g.nd).2.1
 have all:∀ k∈ks,badO ks ls k=false := fun k hk=>by
  unfold badO
  by_cases hu:k.b = "under"
  ·rw [eqB_iff.mpr hu,Bool.true_and]
   have ho:∃ o,k.c=some o := by
    rcases g.kr k hk with ⟨_,h⟩ | ⟨h | h,_⟩
    ·exact h
    ·rw [h] at hu; exact absurd hu (by decide +kernel)
    ·rw [h] at hu; exact absurd hu (by decide +kernel)
   obtain ⟨o,ho⟩ := ho
   obtain ⟨l,hl,c1,c2,h,hh,c3,c4⟩ := g.ow k hk o ho
   have only:∀ m∈ls,eqB (some m.a) k.c=true→m=l := fun m hm e=>by
    rw [eqB_iff,ho] at e
    have e1 := find_link nd2 hm
    have e2 := find_link nd2 hl
    rw [show m.a=l.a by rw [c1]; exact Option.some.inj e] at e1
    rw [e1] at e2
    exact Option.some.inj e2
   cases es:starts ls k with
   | nil =>
    have:l.b∈starts ls k := List.mem_map.mpr ⟨l,List.mem_filter.mpr ⟨hl,by simp only [Bool.and_eq_true,eqB_iff]; exact ⟨by rw [ho,c1],c2⟩⟩,rfl⟩
    rw [es] at this; cases this
   | cons z r =>
    have hz:z∈starts ls k := by rw [es]; exact List.mem_cons_self ..
    unfold starts at hz
    obtain ⟨m,hm,ez⟩ := List.mem_map.mp hz
    obtain ⟨hm,hp⟩ := List.mem_filter.mp hm
    rw [Bool.and_eq_true] at hp
    have := only m hm hp.1
    subst this
    show eqB (((ks.find? fun h:Kd=>decide (h.a=z)).map (fun h:Kd=>h.b)).getD ("":Str)) ("under":Str)=false
    rw [← ez,← c3,find_name nd1 hh]
    exact eqB_no.mpr c4
  ·rw [eqB_no.mpr hu]; rfl
 have go:∀ (r:List Kd) (i:Int),(∀ k∈r,badO ks ls k=false)→co ks ls r i=none := by
  intro r
  induction r with
  | nil=>intro i _; rfl
  | cons k r ih=>intro i h; unfold co; rw [h k (List.mem_cons_self ..),if_neg (by decide)]; exact ih _ fun m hm=>h m (List.mem_cons_of_mem _ hm)
 exact go ks 0 all
theorem w_owners {Q:Unit→Prop} {E:Exv→Prop} (n:Nm ks ls) (hz:ks.length≤1000) (hz2:ls.length≤1000) (h:match co ks ls ks 0 with
  | some i=>E (.badSchema (some i))
  | none=>Q ()):W_check_owners ks ls Q E := by
 unfold W_check_owners
 have nd1 := (List.nodup_append.mp n.nd).1
 refine ⟨Sz.of (by omega),letW_in fun v ev=>?_⟩
 rw [dcA_nodup nd1] at ev
 rw [enu_eq]
 have main:∀ (r:List Kd) (i:Int),(match co ks ls r i with
   | some i=>E (.badSchema (some i))
   | none=>Q ())→forW (enuF i r) () (fun (x5:Int × Kd) (st32:Unit) N29 (B30:Unit→Prop)=>if eqB x5.2.b ("under":Str)=true then Sz ls.length∧letW (List.map (fun x48:Lk=>x48.b) (List.filter (fun x48:Lk=>eqB (some x48.a) x5.2.c && eqB x48.c x5.2.a) ls)) fun v52=>((!!v52.isEmpty)=false→(0≤(0:Int)∧(0:Int) < ↑v52.length)∧(valA v (ixG ("":Str) v52 0)).isSome=true)∧if (!!v52.isEmpty || eqB ((valA v (ixG ("":Str) v52 0)).getD ("":Str)) ("under":Str))=true then E (Exv.badSchema (some x5.1)) else N29 () else N29 ()) fun _=>Q () := by
  intro r
  induction r with
  | nil=>intro i h; exact h
  | cons k r ih =>
   intro i h
   unfold co badO at h
   show (if eqB k.b ("under":Str)=true then _ else _)
   split
   ·rename_i hu
    rw [hu,Bool.true_and] at h
    refine ⟨Sz.of (by omega),letW_in fun s es=>?_⟩
    have es':s=starts ls k := es
    cases hs:s with
    | nil =>
     rw [← es',hs] at h
     exact ⟨fun h=>(nomatch h),h⟩
    | cons z q =>
     rw [← es',hs] at h
     have hz:z∈starts ls k := by rw [← es',hs]; exact List.mem_cons_self ..
     unfold starts at hz
     obtain ⟨m,hm,ez⟩ := List.mem_map.mp hz
     obtain ⟨hm,_⟩ := List.mem_filter.mp hm
     have hin:z∈ks.map (·.a) := by rw [← ez]; exact (n.lw m hm).2.1
     have e0:ixG ("":Str) (z :: q) 0=z := rfl
     have e1:valA v z=(ks.find? fun h:Kd=>decide (h.a=z)).map (fun h:Kd=>h.b) := by rw [ev,valA_map]
     refine ⟨fun _=>⟨⟨by decide,by simp⟩, ?_⟩, ?_⟩
     ·rw [e0,valA_some,ev,List.map_map]; exact hin
     ·rw [e0,e1]
      simp only [List.isEmpty_cons,Bool.not_false,Bool.not_true,Bool.false_or]
      dsimp only at h
      cases c:eqB (((ks.find? fun h:Kd=>decide (h.a=z)).map (fun h:Kd=>h.b)).getD ("":Str)) ("under":Str) with
      | true=>simp only [c,if_true] at h; exact h
      | false=>simp only [c,if_false,Bool.false_eq_true] at h; exact ih _ h
   ·rename_i hu
    rw [Bool.not_eq_true] at hu
    rw [hu,Bool.false_and,if_neg (by decide)] at h
    exact ih _ h
 exact main ks 0 h
def ownerOf (ls:List Lk) (k:Kd):Option (Str × Str) := k.c.map fun o=>(o,((ls.find? fun l:Lk=>decide (l.a=o)).map (fun l:Lk=>l.b)).getD ("":Str))
def mkSch (ks:List Kd) (ls:List Lk):R_Schema := ⟨⟨ks⟩,⟨ls⟩,⟨ks.map (·.a)⟩,⟨ls.map (·.a)⟩,(ks.map fun k=>(k.a,k.b)) ++ ls.map fun l=>(l.a,l.d),ls.map fun l=>(l.a,(l.b,l.c)),ks.map fun k=>(k.a,ownerOf ls k),(enu (ks.map (·.a))).map fun p=>(p.2,p.1),(enu (ls.map (·.a))).map fun p=>(p.2,p.1)⟩
theorem enu_snd {α:Type} (xs:List α):(enu xs).map (·.2)=xs := by
 rw [enu_eq]
 have:∀ (xs:List α) (i:Int),(enuF i xs).map (·.2)=xs := by
  intro xs
  induction xs with
  | nil=>intro i; rfl
  | cons x xs ih=>intro i; rw [enuF,List.map_cons,ih]
 exact this xs 0
theorem w_init {Q:R_Schema→Prop} {E:Exv→Prop} (hk:∀ k∈ks,k.a.length≤1000) (hl:∀ l∈ls,l.a.length≤1000) (hz:ks.length + ls.length≤1000) (h:match cn ks ls with
  | some i=>E (.badSchema (some i))
  | none=>if (1≤ks.length∧ks.length≤4)∧ls.length≤6 then (match co ks ls ks 0 with
   | some i=>E (.badSchema (some i))
   | none=>Q (mkSch ks ls)) else E (.badSchema none)):W_Schema_init ks ls Q E := by
 unfold W_Schema_init
 refine w_names hk hl hz ?_
 cases e:cn ks ls with
 | some i=>rw [e] at h; exact h
 | none =>
  rw [e] at h
  dsimp only at h ⊢
  have n := nm_of e
  have nd1 := (List.nodup_append.mp n.nd).1
  have nd2 := (List.nodup_append.mp n.nd).2.1
  by_cases hs:(1≤ks.length∧ks.length≤4)∧ls.length≤6
  rotate_left
  ·rw [if_neg hs] at h
   rw [if_pos]
   ·exact h
   ·simp only [Bool.or_eq_true,Bool.not_eq_true',Bool.and_eq_false_iff,decide_eq_false_iff_not,decide_eq_true_eq]
    omega
  rw [if_pos hs] at h
  rw [if_neg (by simp only [Bool.or_eq_true,Bool.not_eq_true',Bool.and_eq_false_iff,decide_eq_false_iff_not,decide_eq_true_eq]; omega)]
  refine w_owners n (by omega) (by omega) ?_
  cases e2:co ks ls ks 0 with
  | some i=>rw [e2] at h; exact h
  | none =>
   rw [e2] at h
   dsimp only at h ⊢
   have g := sch_of n hs.1.1 hs.1.2 hs.2 e2
   refine ⟨Sz.of (by omega),letW_in fun v10 e10=>⟨Sz.of (by omega),letW_in fun v15 e15=>⟨Sz.of (by omega), ?_⟩⟩⟩
   subst e10 e15
   rw [dcA_nodup nd1]
   refine forW_inv (fun pre (st:List (Str × Str) × List (Str × (Str × Str)))=>st.1=(ks.map fun k=>(k.a,k.b)) ++ pre.map (fun l:Lk=>(l.a,l.d))∧st.2=pre.map fun l:Lk=>(l.a,(l.b,l.c))) ⟨by simp,rfl⟩ (fun pre x post st N eq ⟨j1,j2⟩ hN=>?_) (fun st ⟨j1,j2⟩=>?_)
   ·obtain ⟨s1,s2⟩ := st
    dsimp only at j1 j2 ⊢
    have nd := n.nd
    rw [eq,List.map_append,List.map_cons] at nd
    have hn1:x.a ∉ s1.map (·.1) := by
     rw [j1,List.map_append,List.map_map,List.map_map]
     rw [← List.append_assoc] at nd
     have := (List.nodup_append.mp nd).2.2
     exact fun hm=>this x.a hm x.a (by simp) rfl
    have hn2:x.a ∉ s2.map (·.1) := by
     rw [j2,List.map_map]
     rw [← List.append_assoc] at nd
     have := (List.nodup_append.mp nd).2.2
     exact fun hm=>this x.a (List.mem_append.mpr (.inr hm)) x.a (by simp) rfl
    have pl:pre.length≤ls.length := by rw [eq]; simp
    refine ⟨Sz.of (by rw [j1]; simp; omega),Sz.of (by rw [j2]; simp; omega),hN _ ⟨?_, ?_⟩⟩
    ·rw [putA_new hn1,j1]; simp
    ·rw [putA_new hn2,j2]; simp
   obtain ⟨s1,s2⟩ := st
   dsimp only at j1 j2 ⊢
   subst j1 j2
   refine forW_inv (fun pre (st:List (Str × Option (Str × Str)))=>st=pre.map fun k:Kd=>(k.a,ownerOf ls k)) rfl (fun pre x post st N eq j hN=>?_) (fun st j=>?_)
   ·have hx:x∈ks := by rw [eq]; simp
    have nd := nd1
    rw [eq,List.map_append,List.map_cons] at nd
    have hn1:x.a ∉ st.map (·.1) := by
     rw [j,List.map_map]
     have := (List.nodup_append.mp nd).2.2
     exact fun hm=>this x.a hm x.a (by simp) rfl
    have pl:pre.length≤ks.length := by rw [eq]; simp
    refine ⟨fun hc=>?_,Sz.of (by rw [j]; simp; omega),letW_in fun v ev=>hN _ ?_⟩
    ·cases ho:x.c with
     | none=>rw [ho] at hc; cases hc
     | some o =>
      obtain ⟨l,hl,c1,_⟩ := g.ow x hx o ho
      rw [valA_some,List.map_map]
      exact List.mem_map.mpr ⟨l,hl,c1⟩
    ·rw [ev,putA_new hn1,j,List.map_append]
     congr 1
     show [(x.a,_)]=[(x.a,_)]
     congr 2
     unfold ownerOf
     cases ho:x.c with
     | none=>rfl
     | some o =>
      obtain ⟨l,hl,c1,_⟩ := g.ow x hx o ho
      show (if false=true then none else some (o,((valA (ls.map fun l:Lk=>(l.a,(l.b,l.c))) o).getD (("":Str),("":Str))).1))=_
      rw [if_neg (by decide),valA_map,← c1,find_link nd2 hl]
      show some (l.a,l.b)=some (l.a,((ls.find? fun m:Lk=>decide (m.a=l.a)).map (fun l:Lk=>l.b)).getD ("":Str))
      rw [find_link nd2 hl]
      rfl
   subst j
   refine ⟨Sz.of (by rw [enu_len]; simp; omega),letW_in fun v ev=>⟨Sz.of (by rw [enu_len]; simp; omega),letW_in fun w ew=>?_⟩⟩
   rw [dcA_nodup (by rw [enu_snd]; exact nd1)] at ev
   rw [dcA_nodup (by rw [enu_snd]; exact nd2)] at ew
   subst ev ew
   exact h
theorem spec_init {Q:R_Schema→Prop} {E:Exv→Prop} (g:Sch ks ls) (q:Q (mkSch ks ls)):W_Schema_init ks ls Q E := by
 have k4 := g.k4
 have l6 := g.l6
 refine w_init (fun k hk=>Nat.le_trans (word_len (g.kw k hk)).1 (by decide)) (fun l hl=>Nat.le_trans (word_len (g.lw l hl).1).1 (by decide)) (by omega) ?_
 rw [cn_sch g]
 dsimp only
 rw [if_pos ⟨⟨g.k1,g.k4⟩,g.l6⟩,co_sch g]
 exact q
end
end Lw
namespace Lw
open PySem PySem.Spec PyProof.Rows L2 Am
open PySem.W (Datum Tup T3 T4)
section
variable {z:Str} {ks:List Kd} {ls:List Lk}
theorem ruleK (g:Sch ks ls) {k:Kd} (hk:k∈ks):valA (mkSch ks ls).f_rules k.a=some k.b := by
 show valA ((ks.map fun k=>(k.a,k.b)) ++ ls.map fun l=>(l.a,l.d)) k.a=_
 rw [valA_app,valA_map,find_name (List.nodup_append.mp g.nd).1 hk]
 rfl
theorem ruleL (g:Sch ks ls) {l:Lk} (hl:l∈ls):valA (mkSch ks ls).f_rules l.a=some l.d := by
 show valA ((ks.map fun k=>(k.a,k.b)) ++ ls.map fun l=>(l.a,l.d)) l.a=_
 have:valA (ks.map fun k=>(k.a,k.b)) l.a=none := by
  rw [valA_none,List.map_map]
  intro h
  exact (List.nodup_append.mp g.nd).2.2 _ h _ (List.mem_map.mpr ⟨l,hl,rfl⟩) rfl
 rw [valA_app,this,valA_map,find_link (List.nodup_append.mp g.nd).2.1 hl]
 rfl
theorem spanL (g:Sch ks ls) {l:Lk} (hl:l∈ls):valA (mkSch ks ls).f_spans l.a=some (l.b,l.c) := by
 show valA (ls.map fun l=>(l.a,(l.b,l.c))) l.a=_
 rw [valA_map,find_link (List.nodup_append.mp g.nd).2.1 hl]
 rfl
theorem ownK (g:Sch ks ls) {k:Kd} (hk:k∈ks):valA (mkSch ks ls).f_owners k.a=some (ownerOf ls k) := by
 show valA (ks.map fun k=>(k.a,ownerOf ls k)) k.a=_
 rw [valA_map,find_name (List.nodup_append.mp g.nd).1 hk]
 rfl
end
end Lw
namespace Lw
open PySem PySem.Spec PyProof.Rows L2 Am
open PySem.W (Datum Tup T3 T4)
section
variable {ks:List Kd} {ls:List Lk} {ws:List Str} {z:Str} {a b:Str}
theorem tl_sp:TL.tl (" ":Str)=[32] := by decide +kernel
theorem tl_nl:TL.tl ("\n":Str)=[10] := by decide +kernel
theorem tl_jn {y:Str}:TL.tl (Txt.join y ws)=TL.joinL (TL.tl y) (ws.map TL.tl) := by rw [TL.join_eq,TL.tl_join]
theorem mem_joinL {S:List Nat} {x:Nat}:∀ {ps:List (List Nat)},x∈TL.joinL S ps→x∈S∨∃ p∈ps,x∈p
 | [],h=>by cases h
 | [p],h=>.inr ⟨p,List.mem_singleton.mpr rfl,h⟩
 | p :: q :: r,h=>by
  unfold TL.joinL at h
  rcases List.mem_append.mp h with h | h
  ·exact .inr ⟨p,List.mem_cons_self ..,h⟩
  ·rcases List.mem_append.mp h with h | h
   ·exact .inl h
   ·rcases mem_joinL h with h | ⟨z,hz,h⟩
    ·exact .inl h
    ·exact .inr ⟨z,List.mem_cons_of_mem _ hz,h⟩
def noSp (z:Str):Prop := ∀ c∈TL.tl z,c≠32∧c≠10
theorem word_noSp (h:isW z=true):noSp z := fun c hc=>by
 have h1 := word_all h c hc
 have:∀ c∈abc.cps.toList,c≠32∧c≠10 := by decide +kernel
 exact this c h1
theorem split_line (hne:ws≠[]) (h:∀ z∈ws,noSp z):Txt.split (Txt.join " " ws) " " = ws := TL.split_join tl_sp (by decide +kernel) hne fun p hp hm=>(h p hp 32 hm).1 rfl
theorem line_nl (h:∀ z∈ws,noSp z):10 ∉ TL.tl (Txt.join " " ws) := fun hm=>by
 rw [tl_jn,tl_sp] at hm
 rcases mem_joinL hm with h1 | ⟨p,hp,h1⟩
 ·cases List.mem_singleton.mp h1
 ·obtain ⟨z,hz,e⟩ := List.mem_map.mp hp
  rw [← e] at h1
  exact (h z hz 10 h1).2 rfl
theorem split_text {lns:List Str} (hne:lns≠[]) (h:∀ z∈lns,10 ∉ TL.tl z):Txt.split (Txt.join "\n" lns) "\n" = lns := TL.split_join tl_nl (by decide +kernel) hne h
theorem jn_len {y:Str} (hy:y.length=1) {n:Nat}:∀ {ws:List Str},(∀ z∈ws,z.length≤n)→(Txt.join y ws).length≤ws.length * (n + 1)
 | [],_=>by rw [TL.len_tl,tl_jn]; exact Nat.zero_le _
 | [p],h=>by
  rw [TL.len_tl,tl_jn]
  show (TL.tl p).length≤_
  rw [← TL.len_tl]
  have := h p (List.mem_cons_self ..)
  simp
  omega
 | p :: q :: r,h=>by
  have h1 := jn_len hy (ws := q :: r) fun z hz=>h z (List.mem_cons_of_mem _ hz)
  have h2 := h p (List.mem_cons_self ..)
  rw [TL.len_tl,tl_jn] at h1 ⊢
  show (TL.tl p ++ (TL.tl y ++ TL.joinL (TL.tl y) ((q :: r).map TL.tl))).length≤_
  rw [List.length_append,List.length_append,← TL.len_tl,← TL.len_tl,hy]
  rw [List.length_cons (a := p),Nat.succ_mul]
  omega
theorem len_sum {n:Nat}:∀ {ws:List Str},(∀ z∈ws,z.length≤n)→(ws.map (·.length)).sum≤ws.length * n
 | [],_=>Nat.zero_le _
 | p :: r,h=>by
  have h1 := len_sum (ws := r) fun z hz=>h z (List.mem_cons_of_mem _ hz)
  have h2 := h p (List.mem_cons_self ..)
  rw [List.map_cons,List.sum_cons,List.length_cons,Nat.succ_mul]
  omega
theorem jn_1:Txt.join " " [a]=a := TL.ext_tl (by rw [tl_jn]; rfl)
theorem jn_c:Txt.join " " (a :: b :: ws)=a ++ " " ++ Txt.join " " (b :: ws) := TL.ext_tl (by
 rw [tl_jn,TL.tl_append,TL.tl_append,tl_jn]
 show TL.tl a ++ (TL.tl " " ++ TL.joinL (TL.tl " ") ((b :: ws).map TL.tl))=_
 rw [List.append_assoc])
theorem app_as {x y z:Str}:x ++ y ++ z=x ++ (y ++ z) := TL.ext_tl (by rw [TL.tl_append,TL.tl_append,TL.tl_append,TL.tl_append,List.append_assoc])
theorem emp_app {x:Str}:Str.empty ++ x=x := TL.ext_tl (by rw [TL.tl_append]; rfl)
theorem app_emp {x:Str}:x ++ ("":Str)=x := TL.ext_tl (by rw [TL.tl_append]; show TL.tl x ++ []=_; rw [List.append_nil])
def wsK (k:Kd):List Str := "kind" :: k.a :: k.b :: k.c.toList
def wsL (l:Lk):List Str := ["link",l.a,l.b,l.c,l.d]
def lnK (k:Kd):Str := Txt.join " " (wsK k)
def lnL (l:Lk):Str := Txt.join " " (wsL l)
def lnS (ks:List Kd) (ls:List Lk):List Str := ks.map lnK ++ ls.map lnL
def txS (ks:List Kd) (ls:List Lk):Str := Txt.join "\n" (lnS ks ls)
theorem lit_kind:("kind ":Str) = "kind" ++ " " := by decide +kernel
theorem lit_link:("link ":Str) = "link" ++ " " := by decide +kernel
theorem lnK_n {a b:Str}:lnK ⟨a,b,none⟩ = "kind " ++ a ++ " " ++ b := by
 show Txt.join " " ["kind",a,b]=_
 rw [jn_c,jn_c,jn_1,lit_kind]
 simp only [app_as]
theorem lnK_s {a b c:Str}:lnK ⟨a,b,some c⟩ = "kind " ++ a ++ " " ++ b ++ (" " ++ c) := by
 show Txt.join " " ["kind",a,b,c]=_
 rw [jn_c,jn_c,jn_c,jn_1,lit_kind]
 simp only [app_as]
theorem lnL_is {a b c d:Str}:lnL ⟨a,b,c,d⟩ = "link " ++ a ++ " " ++ b ++ " " ++ c ++ " " ++ d := by
 show Txt.join " " ["link",a,b,c,d]=_
 rw [jn_c,jn_c,jn_c,jn_c,jn_1,lit_link]
 simp only [app_as]
theorem ws_lit:isW "kind" = true∧isW "link" = true∧isW "loose" = true∧isW "once" = true∧isW "under" = true∧isW "find" = true∧isW "make" = true∧isW "both" = true∧isW "guard" = true := by decide +kernel
theorem okR_w {k:Kd} (h:okRule k):isW k.b=true∧(k.c=none∧(k.b = "loose" ∨ k.b = "once")∨∃ o,k.c=some o∧k.b = "under") := by
 rcases h with ⟨e,o,c⟩ | ⟨e,c⟩
 ·rw [e]
  exact ⟨ws_lit.2.2.2.2.1, .inr ⟨o,c,rfl⟩⟩
 ·refine ⟨?_, .inl ⟨c,e⟩⟩
  rcases e with e | e <;> rw [e]
  ·exact ws_lit.2.2.1
  ·exact ws_lit.2.2.2.1
theorem kd_words (g:Sch ks ls) {k:Kd} (hk:k∈ks):∀ z∈wsK k,isW z=true := fun z hz=>by
 obtain ⟨h1,h2⟩ := okR_w (g.kr k hk)
 unfold wsK at hz
 rcases List.mem_cons.mp hz with e | hz
 ·rw [e]; exact ws_lit.1
 ·rcases List.mem_cons.mp hz with e | hz
  ·rw [e]; exact g.kw k hk
  ·rcases List.mem_cons.mp hz with e | hz
   ·rw [e]; exact h1
   ·rcases h2 with ⟨e,_⟩ | ⟨o,e,_⟩
    ·rw [e] at hz; cases hz
    ·rw [e] at hz
     rw [List.mem_singleton.mp hz]
     obtain ⟨l,hl,e2,_⟩ := g.ow k hk o e
     rw [← e2]
     exact (g.lw l hl).1
theorem lk_words (g:Sch ks ls) {l:Lk} (hl:l∈ls):∀ z∈wsL l,isW z=true := fun z hz=>by
 obtain ⟨h1,h2,h3,h4⟩ := g.lw l hl
 have kn:∀ z∈ks.map (·.a),isW z=true := fun z hz=>by
  obtain ⟨k,hk,e⟩ := List.mem_map.mp hz
  rw [← e]
  exact g.kw k hk
 unfold wsL at hz
 simp only [List.mem_cons,List.not_mem_nil,or_false] at hz
 rcases hz with e | e | e | e | e
 ·rw [e]; exact ws_lit.2.1
 ·rw [e]; exact h1
 ·rw [e]; exact kn _ h2
 ·rw [e]; exact kn _ h3
 ·rw [e]
  rcases h4 with e | e <;> rw [e]
  ·exact ws_lit.2.2.1
  ·exact ws_lit.2.2.2.1
theorem word8 (h:isW z=true):z.length≤8 := (word_len h).1
theorem wsK_len {k:Kd}:(wsK k).length≤4 := by unfold wsK; cases k.c <;> simp
theorem lnK_len (g:Sch ks ls) {k:Kd} (hk:k∈ks):(lnK k).length≤36 := Nat.le_trans (jn_len (n := 8) (by decide +kernel) fun z hz=>word8 (kd_words g hk z hz)) (Nat.mul_le_mul_right 9 wsK_len)
theorem lnL_len (g:Sch ks ls) {l:Lk} (hl:l∈ls):(lnL l).length≤45 := jn_len (n := 8) (by decide +kernel) fun z hz=>word8 (lk_words g hl z hz)
theorem lnS_len (g:Sch ks ls):(lnS ks ls).length≤10 := by
 unfold lnS
 rw [List.length_append,List.length_map,List.length_map]
 have := g.k4
 have := g.l6
 omega
theorem lnS_each (g:Sch ks ls):∀ z∈lnS ks ls,z.length≤45∧10 ∉ TL.tl z := fun z hz=>by
 rcases List.mem_append.mp hz with h | h
 ·obtain ⟨k,hk,e⟩ := List.mem_map.mp h
  rw [← e]
  exact ⟨Nat.le_trans (lnK_len g hk) (by decide),line_nl fun z hz=>word_noSp (kd_words g hk z hz)⟩
 ·obtain ⟨l,hl,e⟩ := List.mem_map.mp h
  rw [← e]
  exact ⟨lnL_len g hl,line_nl fun z hz=>word_noSp (lk_words g hl z hz)⟩
theorem lnS_ne (g:Sch ks ls):lnS ks ls≠[] := fun e=>by
 have h := congrArg List.length e
 unfold lnS at h
 rw [List.length_append,List.length_map,List.length_map] at h
 have := g.k1
 rw [List.length_nil] at h
 omega
theorem txS_split (g:Sch ks ls):Txt.split (txS ks ls) "\n" = lnS ks ls := split_text (lnS_ne g) fun z hz=>(lnS_each g z hz).2
theorem txS_len (g:Sch ks ls):(txS ks ls).length≤460 := Nat.le_trans (jn_len (n := 45) (by decide +kernel) fun z hz=>(lnS_each g z hz).1) (Nat.mul_le_mul_right 46 (lnS_len g))
theorem lnK_split (g:Sch ks ls) {k:Kd} (hk:k∈ks):Txt.split (lnK k) " " = wsK k := split_line (by unfold wsK; simp) fun z hz=>word_noSp (kd_words g hk z hz)
theorem lnL_split (g:Sch ks ls) {l:Lk} (hl:l∈ls):Txt.split (lnL l) " " = wsL l := split_line (by unfold wsL; simp) fun z hz=>word_noSp (lk_words g hl z hz)
end
end Lw
namespace Lw
open PySem PySem.Spec PyProof.Rows L2 Am
open PySem.W (Datum Tup T3 T4)
section
variable {A A':AH} {s:Sl} {ks:List Kd} {ls:List Lk} {ws:List Str} {z:Str} {a b:Str} {Q:QE} {E:QX} {r:R_Schema} {ι:Type} {D0:AEnds} {m:ME}
theorem for_xsT {xs:List ι} {e:ι→D} {ck:AH→Prop} {tg:MG} {tb:MS} (J:Nat→Sl→AH→Prop) (h0:J 0 s A) (hck:∀ i s A,J i s A→ck A)
  (step:∀ i x s A (N:Sl→AH→Prop),xs[i]? = some x→J i s A→(∀ s' A',J (i + 1) s' A'→N s' A')→tg (e x) s A fun s1 A1=>tb { D0 with nx := N,ct := N,bk := D0.nx } s1 A1)
  (fin:∀ s A,J xs.length s A→D0.nx s A):forL ck tg tb (xs.map e) D0 s A := by
 refine for_inv (xs.map e) J h0 hck (fun i d s A N hd hJ hN=>?_) (fun s A h=>fin s A (by rw [List.length_map] at h; exact h))
 rw [List.getElem?_map] at hd
 cases hx:xs[i]? with
 | none=>rw [hx] at hd; cases hd
 | some x =>
  rw [hx] at hd
  cases hd
  exact step i x s A N hx hJ hN
theorem take_snT {l:List ι} {i:Nat} {x:ι} (h:l[i]? = some x):l.take (i + 1)=l.take i ++ [x] := by rw [List.take_add_one,h]; rfl
theorem fvx_rule (h:valA r.f_rules z=some a):Fv m_Schema_rule [enc_Schema r, .str z] A (.str a) := fun Q E q =>
 c_Schema_rule (Q0 := fun v=>v=a) (E0 := fun _=>False) (by unfold W_Schema_rule; rw [h]; exact ⟨rfl,rfl⟩) (fun v e=>by subst e; exact q) fun _ h=>h.elim
theorem fvx_ends (h:valA r.f_spans z=some (a,b)):Fv m_Schema_ends [enc_Schema r, .str z] A (.tup [.str a, .str b]) := fun Q E q =>
 c_Schema_ends (Q0 := fun v=>v=(a,b)) (E0 := fun _=>False) (by unfold W_Schema_ends; rw [h]; exact ⟨rfl,rfl⟩) (fun v e=>by subst e; exact q) fun _ h=>h.elim
theorem fvx_owner {o:Option (Str × Str)} (h:valA r.f_owners z=some o):Fv m_Schema_owner [enc_Schema r, .str z] A (en o) := fun Q E q =>
 c_Schema_owner (Q0 := fun v=>v=o) (E0 := fun _=>False) (by unfold W_Schema_owner; rw [h]; exact ⟨rfl,rfl⟩) (fun v e=>by subst e; exact q) fun _ h=>h.elim
theorem ins_sch:insOf A (enc_Schema r)=some (("Schema":Str),(match enc_Schema r with | .ins _ fs=>fs | _=>[])) := rfl
theorem names_at {α:Type} {f:α→Str} {xs:List α} {i:Nat} {z:Str} (h:(xs.map f)[i]? = some z):∃ x,xs[i]? = some x∧f x=z := by
 rw [List.getElem?_map] at h
 exact Option.map_eq_some_iff.mp h
theorem sz8 (h:isW z=true):z.length≤sizeLine := Nat.le_trans (word8 h) (by decide)
theorem fv_write_schema (g:Sch ks ls):Fv m_write_schema [enc_Schema (mkSch ks ls)] A (.str (txS ks ls)) := by
 have k4 := g.k4
 have l6 := g.l6
 refine fv_in (s := [some (enc_Schema (mkSch ks ls)),none,none,none,none,none,none]) (fun Q E q=>?_) rfl rfl
 refine s_sq (u_setE (w_nilM fun n hn=>?_))
 have hc0:Cells A [[(n, .lst (((ks.take 0).map lnK).map en))]] (put A n (.lst [])) := Cells.nil_.new _ hn
 show (sqE _ _).nx _ (put A n (.lst []))
 generalize put A n (.lst [])=A1 at hc0 ⊢
 refine at_n (s' := [some (enc_Schema (mkSch ks ls)),some (.ref n),none,none,none,none,none]) rfl (nx_sq (s_sq ?_))
 refine u_for (xs := ks.map (·.a)) (e := en) (mi_seq (pv_fld (c := ("Schema":Str)) (pv_var rfl) ins_sch (by simp) rfl) it_t) (Wb := True) fun ck hck hP=>?_
 refine for_xsT (xs := ks.map (·.a)) (fun i s A'=>∃ (j2 j3 j4:Option D),s=[some (enc_Schema (mkSch ks ls)),some (.ref n),j2,j3,j4,none,none]∧Cells A [[(n, .lst (((ks.take i).map lnK).map en))]] A') ⟨_,_,_,rfl,hc0⟩ (fun _ _ A' _=>hP A' fun m e=>nomatch e) ?_ ?_
 ·clear hc0
  rintro i z s A2 N hz ⟨j2,j3,j4,rfl,hc⟩ hN
  obtain ⟨k,hk,rfl⟩ := names_at hz
  have hkm := List.mem_of_getElem? hk
  have hi := (List.getElem?_eq_some_iff.mp hk).1
  obtain ⟨wr,hr⟩ := okR_w (g.kr k hkm)
  have wa := g.kw k hkm
  refine u_gN (s' := [some (enc_Schema (mkSch ks ls)),some (.ref n),some (.str k.a),j3,j4,none,none]) rfl ?_
  refine s_sq (u_set (s' := [some (enc_Schema (mkSch ks ls)),some (.ref n),some (.str k.a),some (en (ownerOf ls k)),j4,none,none]) (pv_meth (pv_var rfl) ins_sch rfl (pa_1 (pv_var rfl)) (fvx_owner (ownK g hkm))) rfl (nx_sq ?_))
  have fin:∀ (D1:AEnds) (bh:Str) (od:D),(∀ s A,N s A→D1.nx s A)→bh.length≤10 → "kind " ++ k.a ++ " " ++ k.b ++ bh=lnK k→mDrop (mBM fAppend (mVar 1) (mCons (mJs [(mC (.str "kind ")),(mFmt (mVar 2)),(mC (.str " ")),(mFmt (mMeth "Schema" "rule" m_Schema_rule (mVar 0) (mCons (mVar 2) mNil))),(mFmt (mVar 4))]) mNil)) D1 [some (enc_Schema (mkSch ks ls)),some (.ref n),some (.str k.a),some od,some (.str bh),none,none] A2 := by
   intro D1 bh od hD hb e
   have cat:catS Str.empty ["kind ",k.a," ",k.b,bh]=lnK k := by
    rw [← e]
    show Str.empty ++ "kind " ++ k.a ++ " " ++ k.b ++ bh=_
    rw [emp_app]
   refine u_app (n := n) (ys := ((ks.take i).map lnK).map en) (pv_var rfl) (hc.at 0 rfl) ((pv_js (zs := ["kind ",k.a," ",k.b,bh]) (.cons pv_c (.cons (pv_fmtS (pv_var rfl) (sz8 wa)) (.cons pv_c (.cons (pv_fmtS (pv_meth (pv_var rfl) ins_sch rfl (pa_1 (pv_var rfl)) (fvx_rule (ruleK g hkm))) (sz8 wr)) (.cons (pv_fmtS (pv_var rfl) (Nat.le_trans hb (by decide))) .nil))))) (by rw [cat]; exact Nat.le_trans (lnK_len g hkm) (by decide))).is (congrArg D.str cat)) (Sz.of (by rw [List.length_map,List.length_map,List.length_take]; omega)) (hD _ _ (hN _ _ ⟨_,_,_,rfl, ?_⟩))
   have eM:((ks.take (i + 1)).map lnK).map en=((ks.take i).map lnK).map en ++ [D.str (lnK k)] := by rw [take_snT hk,List.map_append,List.map_append]; rfl
   rw [eM]
   exact hc.put 0 rfl _
  rcases hr with ⟨ec,hb⟩ | ⟨o,ec,hb⟩
  ·have eo:ownerOf ls k=none := by unfold ownerOf; rw [ec]; rfl
   rw [eo]
   refine s_sq (u_set (s' := [some (enc_Schema (mkSch ks ls)),some (.ref n),some (.str k.a),some .non,some (.str ""),none,none]) (pv_if (a := true) (pt_b (pv_op2 (pv_var (d := .non) rfl) pv_c p2_isNy)) (fun _=>pv_c) (fun h=>by cases h)) rfl (nx_sq ?_))
   refine fin _ "" .non (fun _ _ h=>h) (by decide) ?_
   rw [app_emp]
   obtain ⟨a,b,c⟩ := k
   subst ec
   exact lnK_n.symm
  ·obtain ⟨x,eo⟩:∃ x,ownerOf ls k=some (o,x) := by unfold ownerOf; rw [ec]; exact ⟨_,rfl⟩
   have wo:isW o=true := kd_words g hkm o (by unfold wsK; rw [ec]; simp)
   rw [eo]
   refine s_sq (u_set (s' := [some (enc_Schema (mkSch ks ls)),some (.ref n),some (.str k.a),some (.tup [.str o, .str x]),some (.str (" " ++ o)),none,none]) (pv_if (a := false) (Pt.is (pt_b (pv_op2 (pv_var (d := .tup [.str o, .str x]) rfl) pv_c p2_isN)) rfl) (fun h=>by cases h) (fun _=>pv_op2 pv_c (pv_op2 (pv_var (d := .tup [.str o, .str x]) rfl) pv_c (p2_ixT rfl rfl)) (p2_addS (by have := word8 wo; show 1 + o.length≤_; exact Nat.le_trans (show 1 + o.length≤9 by omega) (by decide))))) rfl (nx_sq ?_))
   refine fin _ (" " ++ o) _ (fun _ _ h=>h) (by rw [Str.length_append]; have := word8 wo; show 1 + o.length≤10; omega) ?_
   obtain ⟨a,b,c⟩ := k
   subst ec
   exact lnK_s.symm
 ·rintro s A2 ⟨j2,j3,j4,rfl,hc⟩
  rw [List.length_map,List.take_length] at hc
  refine nx_sq (s_sq ?_)
  replace hc:Cells A [[(n, .lst ((ks.map lnK ++ (ls.take 0).map lnL).map en))]] A2 := by
   rw [List.take_zero,List.map_nil,List.append_nil]
   exact hc
  refine u_for (xs := ls.map (·.a)) (e := en) (mi_seq (pv_fld (c := ("Schema":Str)) (pv_var rfl) ins_sch (by simp) rfl) it_t) (Wb := True) fun ck hck hP=>?_
  refine for_xsT (xs := ls.map (·.a)) (fun i s A'=>∃ (j2 j5 j6:Option D),s=[some (enc_Schema (mkSch ks ls)),some (.ref n),j2,j3,j4,j5,j6]∧Cells A [[(n, .lst ((ks.map lnK ++ (ls.take i).map lnL).map en))]] A') ⟨_,_,_,rfl,hc⟩ (fun _ _ A' _=>hP A' fun m e=>nomatch e) ?_ ?_
  ·clear hc
   rintro i z s A3 N hz ⟨j2,j5,j6,rfl,hc⟩ hN
   obtain ⟨l,hl,rfl⟩ := names_at hz
   have hlm := List.mem_of_getElem? hl
   have hi := (List.getElem?_eq_some_iff.mp hl).1
   have ww := lk_words g hlm
   unfold wsL at ww
   refine u_gN (s' := [some (enc_Schema (mkSch ks ls)),some (.ref n),some (.str l.a),j3,j4,j5,j6]) rfl ?_
   refine s_sq (u_setG (pv_meth (pv_var rfl) ins_sch rfl (pa_1 (pv_var rfl)) (fvx_ends (spanL g hlm))) ⟨[.str l.b, .str l.c], .inl rfl,rfl,_,_,rfl,_,_,rfl,rfl, ?_⟩)
   refine at_n (s' := [some (enc_Schema (mkSch ks ls)),some (.ref n),some (.str l.a),j3,j4,some (.str l.b),some (.str l.c)]) rfl (nx_sq ?_)
   have cat:catS Str.empty ["link ",l.a," ",l.b," ",l.c," ",l.d]=lnL l := by
    show Str.empty ++ "link " ++ l.a ++ " " ++ l.b ++ " " ++ l.c ++ " " ++ l.d=_
    rw [emp_app]
    exact lnL_is.symm
   refine u_app (n := n) (ys := (ks.map lnK ++ (ls.take i).map lnL).map en) (pv_var rfl) (hc.at 0 rfl) ((pv_js (zs := ["link ",l.a," ",l.b," ",l.c," ",l.d]) (.cons pv_c (.cons (pv_fmtS (pv_var rfl) (sz8 (ww _ (by simp)))) (.cons pv_c (.cons (pv_fmtS (pv_var rfl) (sz8 (ww _ (by simp)))) (.cons pv_c (.cons (pv_fmtS (pv_var rfl) (sz8 (ww _ (by simp)))) (.cons pv_c (.cons (pv_fmtS (pv_meth (pv_var rfl) ins_sch rfl (pa_1 (pv_var rfl)) (fvx_rule (ruleL g hlm))) (sz8 (ww _ (by simp)))) .nil)))))))) (by rw [cat]; exact Nat.le_trans (lnL_len g hlm) (by decide))).is (congrArg D.str cat)) (Sz.of (by rw [List.length_map,List.length_append,List.length_map,List.length_map,List.length_take]; omega)) (hN _ _ ⟨_,_,_,rfl, ?_⟩)
   have eM:(ks.map lnK ++ (ls.take (i + 1)).map lnL).map en=(ks.map lnK ++ (ls.take i).map lnL).map en ++ [D.str (lnL l)] := by rw [take_snT hl,List.map_append (l₁ := ls.take i),← List.append_assoc,List.map_append (l₂ := [l].map lnL)]; rfl
   rw [eM]
   exact hc.put 0 rfl _
  ·rintro s A3 ⟨j2,j5,j6,rfl,hc⟩
   rw [List.length_map,List.take_length] at hc
   have hs:((lnS ks ls).map (·.length)).sum≤450 := Nat.le_trans (len_sum (n := 45) fun z hz=>(lnS_each g z hz).1) (Nat.mul_le_mul_right 45 (lnS_len g))
   have hl2 := lnS_len g
   refine nx_sq (u_ret (pv_join (zs := lnS ks ls) pv_c (pv_var rfl) (itS_ref (hc.at 0 rfl)) (strsOf_map _) (by show _ + _ * 1≤_; omega)) ⟨A,hc.le,q⟩)
theorem pv_words (h:Pv m s A (.lst (ws.map en))) {s1:Sl} (hw:wipeD s [1]=s1) (hs:∀ z,s1.set 1 (some (D.str z))=s1.set 1 (some (D.str z))) (hz:ws.length≤1000) (h8:∀ z∈ws,isW z=true) (h1:∀ z,(s1.set 1 (some (D.str z)))[1]? = some (some (D.str z))):Pv (mCB fAll (mCons (mLc (mSeq m) (gN 1) mYes (mCall m_is_word (mCons (mVar 1) mNil)) [1]) mNil)) s A (.bl true) :=
 (pv_cbB (pa_1 ((v_lcM (xs := ws) (e := en) (g := isW) (e' := fun b=>.bl b) (mi_seq h it_l) hw (Sz.of (by omega)) fun z hz=>lcb (s' := s1.set 1 (some (D.str z))) (tg_n rfl) pt_yes fun _=>pv_call (pa_1 (pv_var (h1 z))) (fv_is_word (Nat.le_trans (word8 (h8 z hz)) (by decide)))).is (by rw [List.map_map]; rfl))) (pb_all (f := fun z:Str=>isW z) (zs := ws))).is (by rw [List.all_eq_true.mpr h8])
theorem fv_read_kind (g:Sch ks ls) {k:Kd} (hk:k∈ks):Fv m_read_kind [.lst ((wsK k).map en)] A (en k) := by
 have ww := kd_words g hk
 have wl := wsK_len (k := k)
 obtain ⟨wr,hr⟩ := okR_w (g.kr k hk)
 refine fv_in (s := [some (.lst ((wsK k).map en)),none]) (fun Q E q=>?_) rfl rfl
 refine s_sq (s_ifF (Pt.is (pt_not (pt_b (pv_words (pv_var rfl) rfl (fun _=>rfl) (by omega) ww (fun _=>rfl)))) rfl) (nx_sq ?_))
 obtain ⟨a,b,c⟩ := k
 rcases hr with ⟨ec,hb⟩ | ⟨o,ec,hb⟩
 ·cases ec
  refine s_sq (s_ifT (Pt.is (pt_and (pt_b (pv_op2 (pv_cbB (pa_1 (pv_var rfl)) (pb_lenI (ItL.toS (il_l (xs := (["kind",a,b]:List Str)) (e := en))))) pv_c (q2_eq (a := (3:Int)) (b := (3:Int)) (ue_r rfl) (ue_r rfl) (by decide)))) fun _=>pt_b (pv_op2 (pv_op2 (pv_var rfl) pv_c (p2_ixG (d0 := ("":Str)) (xs := (["kind",a,b]:List Str)) (e := en) (j := 2) it_l ⟨by decide,by show (2:Int) < 3; decide⟩)) (pv_tup (pa_2 pv_c pv_c)) (q2_in (a := b) (xs := (["loose","once"]:List Str)) (ue_r rfl) (show SqD A (D.tup ((["loose","once"]:List Str).map en)) (["loose","once"]:List Str) from ItS.sq it_t) (by decide)))) (by rcases hb with e | e <;> (dsimp only at e; rw [e]; decide +kernel))) ?_)
  exact u_ret (pv_tup (ds := [.str a, .str b, .non]) (pa_3 (pv_op2 (pv_var rfl) pv_c (p2_ixG (d0 := ("":Str)) (xs := (["kind",a,b]:List Str)) (e := en) (j := 1) it_l ⟨by decide,by show (1:Int) < 3; decide⟩)) (pv_op2 (pv_var rfl) pv_c (p2_ixG (d0 := ("":Str)) (xs := (["kind",a,b]:List Str)) (e := en) (j := 2) it_l ⟨by decide,by show (2:Int) < 3; decide⟩)) pv_c)) ⟨A,Les.refl,q⟩
 ·cases ec
  cases hb
  refine s_sq (s_ifF (Pt.is (pt_and (a := false) (b := false) (Pt.is (pt_b (pv_op2 (pv_cbB (pa_1 (pv_var rfl)) (pb_lenI (ItL.toS (il_l (xs := (["kind",a,"under",o]:List Str)) (e := en))))) pv_c (q2_eq (a := (4:Int)) (b := (3:Int)) (ue_r rfl) (ue_r rfl) (by decide)))) (by decide)) fun h=>by cases h) rfl) (nx_sq ?_))
  refine s_sq (s_ifT (Pt.is (pt_and (pt_b (pv_op2 (pv_cbB (pa_1 (pv_var rfl)) (pb_lenI (ItL.toS (il_l (xs := (["kind",a,"under",o]:List Str)) (e := en))))) pv_c (q2_eq (a := (4:Int)) (b := (4:Int)) (ue_r rfl) (ue_r rfl) (by decide)))) fun _=>pt_b (pv_op2 (pv_op2 (pv_var rfl) pv_c (p2_ixG (d0 := ("":Str)) (xs := (["kind",a,"under",o]:List Str)) (e := en) (j := 2) it_l ⟨by decide,by show (2:Int) < 4; decide⟩)) pv_c (q2_eq (a := ("under":Str)) (b := ("under":Str)) (ue_r rfl) (ue_r rfl) (by decide)))) (by decide +kernel)) ?_)
  exact u_ret (pv_tup (ds := [.str a, .str "under", .str o]) (pa_3 (pv_op2 (pv_var rfl) pv_c (p2_ixG (d0 := ("":Str)) (xs := (["kind",a,"under",o]:List Str)) (e := en) (j := 1) it_l ⟨by decide,by show (1:Int) < 4; decide⟩)) (pv_op2 (pv_var rfl) pv_c (p2_ixG (d0 := ("":Str)) (xs := (["kind",a,"under",o]:List Str)) (e := en) (j := 2) it_l ⟨by decide,by show (2:Int) < 4; decide⟩)) (pv_op2 (pv_var rfl) pv_c (p2_ixG (d0 := ("":Str)) (xs := (["kind",a,"under",o]:List Str)) (e := en) (j := 3) it_l ⟨by decide,by show (3:Int) < 4; decide⟩)))) ⟨A,Les.refl,q⟩
theorem fv_read_link (g:Sch ks ls) {l:Lk} (hl:l∈ls):Fv m_read_link [.lst ((wsL l).map en)] A (en l) := by
 have ww := lk_words g hl
 have hr := (g.lw l hl).2.2.2
 obtain ⟨a,b,c,d⟩ := l
 refine fv_in (s := [some (.lst ((["link",a,b,c,d]:List Str).map en)),none]) (fun Q E q=>?_) rfl rfl
 have ix:∀ {s:Sl} {i:Nat} {z:Str},s[0]? = some (some (.lst ((["link",a,b,c,d]:List Str).map en)))→(["link",a,b,c,d]:List Str)[i]? = some z→Pv (mOp fIx (mVar 0) (mC (.int (i:Int)))) s A (.str z) := fun {s i z} h0 h=>(pv_op2 (pv_var h0) pv_c (p2_ixG (d0 := ("":Str)) (xs := (["link",a,b,c,d]:List Str)) (e := en) (j := (i:Int)) it_l ⟨by omega,by have := (List.getElem?_eq_some_iff.mp h).1; omega⟩)).is (by unfold ixG; rw [Int.toNat_natCast,h]; rfl)
 refine s_sq (s_ifF (Pt.is (pt_or (a := false) (b := false) (Pt.is (pt_b (pv_op2 (pv_cbB (pa_1 (pv_var rfl)) (pb_lenI (ItL.toS (il_l (xs := (["link",a,b,c,d]:List Str)) (e := en))))) pv_c (q2_ne (a := (5:Int)) (b := (5:Int)) (ue_r rfl) (ue_r rfl) (by decide)))) (by decide)) fun _=>Pt.is (pt_or (a := false) (b := false) (Pt.is (pt_not (pt_b (pv_words (ws := (["link",a,b,c,d]:List Str)) (pv_var rfl) rfl (fun _=>rfl) (by show 5≤1000; decide) ww (fun _=>rfl)))) rfl) fun _=>Pt.is (pt_b (pv_op2 (ix (i := 4) rfl rfl) (pv_tup (pa_2 pv_c pv_c)) (q2_nin (a := d) (xs := (["loose","once"]:List Str)) (ue_r rfl) (show SqD A (D.tup ((["loose","once"]:List Str).map en)) (["loose","once"]:List Str) from ItS.sq it_t) (by decide)))) (by rcases hr with e | e <;> (dsimp only at e; rw [e]; decide +kernel))) rfl) rfl) (nx_sq ?_))
 exact u_ret (pv_tup (ds := [.str a, .str b, .str c, .str d]) (pa_cons' (ix (i := 1) rfl rfl) (pa_3 (ix (i := 2) rfl rfl) (ix (i := 3) rfl rfl) (ix (i := 4) rfl rfl)))) ⟨A,Les.refl,q⟩
end
end Lw
namespace Lw
open PySem PySem.Spec PyProof.Rows L2 Am
open PySem.W (Datum Tup T3 T4)
section
variable {A A':AH} {s:Sl} {ks:List Kd} {ls:List Lk} {ws:List Str} {z:Str} {x y:Str} {Q:QE} {E:QX} {r:R_Schema} {ι:Type} {D0:AEnds} {m ma mb:ME}
theorem pv_cat (h1:Pv ma s A (.str x)) (h2:Pv mb s A (.str y)) (h:x.length + y.length≤1000):Pv (mOp fAdd ma mb) s A (.str (x ++ y)) := pv_op2 h1 h2 (p2_addS (Nat.le_trans h (by decide)))
theorem lits:("kind ":Str).length=5∧("link ":Str).length=5∧(" ":Str).length=1∧("":Str).length=0 := by decide +kernel
theorem fv_law_text (g:Sch ks ls):Fv m_law_text [.lst (ks.map en), .lst (ls.map en)] A (.str (txS ks ls)) := by
 have k4 := g.k4
 have l6 := g.l6
 obtain ⟨n1,n2,n3,n4⟩ := lits
 refine fv_in (s := [some (.lst (ks.map en)),some (.lst (ls.map en)),none,none,none,none,none,none]) (fun Q E q=>?_) rfl rfl
 refine s_sq (u_setE (w_nilM fun n hn=>?_))
 have hc0:Cells A [[(n, .lst (((ks.take 0).map lnK).map en))]] (put A n (.lst [])) := Cells.nil_.new _ hn
 show (sqE _ _).nx _ (put A n (.lst []))
 generalize put A n (.lst [])=A1 at hc0 ⊢
 refine at_n (s' := [some (.lst (ks.map en)),some (.lst (ls.map en)),some (.ref n),none,none,none,none,none]) rfl (nx_sq (s_sq ?_))
 refine u_for (xs := ks) (e := en) (mi_seq (pv_var rfl) it_l) (Wb := True) fun ck hck hP=>?_
 refine for_xsT (xs := ks) (fun i s A'=>∃ (j3 j4 j5:Option D),s=[some (.lst (ks.map en)),some (.lst (ls.map en)),some (.ref n),j3,j4,j5,none,none]∧Cells A [[(n, .lst (((ks.take i).map lnK).map en))]] A') ⟨_,_,_,rfl,hc0⟩ (fun _ _ A' _=>hP A' fun m e=>nomatch e) ?_ ?_
 ·clear hc0
  rintro i k s A2 N hk ⟨j3,j4,j5,rfl,hc⟩ hN
  have hkm := List.mem_of_getElem? hk
  have hi := (List.getElem?_eq_some_iff.mp hk).1
  obtain ⟨wr,hr⟩ := okR_w (g.kr k hkm)
  have wa := word8 (g.kw k hkm)
  replace wr := word8 wr
  refine ⟨[.str k.a, .str k.b,en k.c], .inl rfl,rfl,_,_,rfl,_,_,rfl,_,_,rfl,rfl, ?_⟩
  refine at_s (s' := [some (.lst (ks.map en)),some (.lst (ls.map en)),some (.ref n),some (.str k.a),some (.str k.b),some (en k.c),none,none]) rfl ?_
  have pre:∀ {D1:AEnds} {bh:Str},(∀ s A,N s A→D1.nx s A)→Pv (mIf (mB (mOp fIsN (mVar 5) (mC .non))) (mC (.str "")) (mOp fAdd (mC (.str " ")) (mVar 5))) [some (.lst (ks.map en)),some (.lst (ls.map en)),some (.ref n),some (.str k.a),some (.str k.b),some (en k.c),none,none] A2 (.str bh)→bh.length≤10 → "kind " ++ k.a ++ " " ++ k.b ++ bh=lnK k→mDrop (mBM fAppend (mVar 2) (mCons (mOp fAdd (mOp fAdd (mOp fAdd (mOp fAdd (mC (.str "kind ")) (mVar 3)) (mC (.str " "))) (mVar 4)) (mIf (mB (mOp fIsN (mVar 5) (mC .non))) (mC (.str "")) (mOp fAdd (mC (.str " ")) (mVar 5)))) mNil)) D1 [some (.lst (ks.map en)),some (.lst (ls.map en)),some (.ref n),some (.str k.a),some (.str k.b),some (en k.c),none,none] A2 := by
   intro D1 bh hD hb h1 h2
   refine u_app (n := n) (ys := ((ks.take i).map lnK).map en) (pv_var rfl) (hc.at 0 rfl) ((pv_cat (pv_cat (pv_cat (pv_cat pv_c (pv_var rfl) (by omega)) pv_c (by rw [Str.length_append]; omega)) (pv_var rfl) (by rw [Str.length_append,Str.length_append]; omega)) hb (by rw [Str.length_append,Str.length_append,Str.length_append]; omega)).is (congrArg D.str h2)) (Sz.of (by rw [List.length_map,List.length_map,List.length_take]; omega)) (hD _ _ (hN _ _ ⟨_,_,_,rfl, ?_⟩))
   have eM:((ks.take (i + 1)).map lnK).map en=((ks.take i).map lnK).map en ++ [D.str (lnK k)] := by rw [take_snT hk,List.map_append,List.map_append]; rfl
   rw [eM]
   exact hc.put 0 rfl _
  rcases hr with ⟨ec,hb⟩ | ⟨o,ec,hb⟩
  ·refine pre (bh := "") (fun _ _ h=>h) (pv_if (a := true) (pt_b (pv_op2 ((pv_var rfl).is (by rw [ec]; rfl)) pv_c p2_isNy)) (fun _=>pv_c) (fun h=>by cases h)) (by omega) ?_
   rw [app_emp]
   obtain ⟨a,b,c⟩ := k
   cases ec
   exact lnK_n.symm
  ·have wo:o.length≤8 := word8 (kd_words g hkm o (by unfold wsK; rw [ec]; simp))
   refine pre (bh := " " ++ o) (fun _ _ h=>h) (pv_if (a := false) (Pt.is (pt_b (pv_op2 ((pv_var rfl).is (y := .str o) (by rw [ec]; rfl)) pv_c p2_isN)) rfl) (fun h=>by cases h) (fun _=>pv_cat pv_c ((pv_var rfl).is (y := .str o) (by rw [ec]; rfl)) (by omega))) (by rw [Str.length_append]; omega) ?_
   obtain ⟨a,b,c⟩ := k
   cases ec
   exact lnK_s.symm
 ·rintro s A2 ⟨j3,j4,j5,rfl,hc⟩
  rw [List.take_length] at hc
  refine nx_sq (s_sq ?_)
  replace hc:Cells A [[(n, .lst ((ks.map lnK ++ (ls.take 0).map lnL).map en))]] A2 := by
   rw [List.take_zero,List.map_nil,List.append_nil]
   exact hc
  refine u_for (xs := ls) (e := en) (mi_seq (pv_var rfl) it_l) (Wb := True) fun ck hck hP=>?_
  refine for_xsT (xs := ls) (fun i s A'=>∃ (j3 j4 j6 j7:Option D),s=[some (.lst (ks.map en)),some (.lst (ls.map en)),some (.ref n),j3,j4,j5,j6,j7]∧Cells A [[(n, .lst ((ks.map lnK ++ (ls.take i).map lnL).map en))]] A') ⟨_,_,_,_,rfl,hc⟩ (fun _ _ A' _=>hP A' fun m e=>nomatch e) ?_ ?_
  ·clear hc
   rintro i l s A3 N hl ⟨j3,j4,j6,j7,rfl,hc⟩ hN
   have hlm := List.mem_of_getElem? hl
   have hi := (List.getElem?_eq_some_iff.mp hl).1
   have ww := lk_words g hlm
   unfold wsL at ww
   have w1 := word8 (ww l.a (by simp))
   have w2 := word8 (ww l.b (by simp))
   have w3 := word8 (ww l.c (by simp))
   have w4 := word8 (ww l.d (by simp))
   refine ⟨[.str l.a, .str l.b, .str l.c, .str l.d], .inl rfl,rfl,_,_,rfl,_,_,rfl,_,_,rfl,_,_,rfl,rfl, ?_⟩
   refine at_s (s' := [some (.lst (ks.map en)),some (.lst (ls.map en)),some (.ref n),some (.str l.a),some (.str l.d),j5,some (.str l.b),some (.str l.c)]) rfl ?_
   refine u_app (n := n) (ys := (ks.map lnK ++ (ls.take i).map lnL).map en) (pv_var rfl) (hc.at 0 rfl) ((pv_cat (pv_cat (pv_cat (pv_cat (pv_cat (pv_cat (pv_cat pv_c (pv_var rfl) (by omega)) pv_c (by rw [Str.length_append]; omega)) (pv_var rfl) (by rw [Str.length_append,Str.length_append]; omega)) pv_c (by simp only [Str.length_append]; omega)) (pv_var rfl) (by simp only [Str.length_append]; omega)) pv_c (by simp only [Str.length_append]; omega)) (pv_var rfl) (by simp only [Str.length_append]; omega)).is (congrArg D.str lnL_is.symm)) (Sz.of (by rw [List.length_map,List.length_append,List.length_map,List.length_map,List.length_take]; omega)) (hN _ _ ⟨_,_,_,_,rfl, ?_⟩)
   have eM:(ks.map lnK ++ (ls.take (i + 1)).map lnL).map en=(ks.map lnK ++ (ls.take i).map lnL).map en ++ [D.str (lnL l)] := by rw [take_snT hl,List.map_append (l₁ := ls.take i),← List.append_assoc,List.map_append (l₂ := [l].map lnL)]; rfl
   rw [eM]
   exact hc.put 0 rfl _
  ·rintro s A3 ⟨j3,j4,j6,j7,rfl,hc⟩
   rw [List.take_length] at hc
   have hs:((lnS ks ls).map (·.length)).sum≤450 := Nat.le_trans (len_sum (n := 45) fun z hz=>(lnS_each g z hz).1) (Nat.mul_le_mul_right 45 (lnS_len g))
   have hl2 := lnS_len g
   refine nx_sq (u_ret (pv_join (zs := lnS ks ls) pv_c (pv_var rfl) (itS_ref (hc.at 0 rfl)) (strsOf_map _) (by show _ + _ * 1≤_; omega)) ⟨A,hc.le,q⟩)
abbrev gtab:List (Str × Int) := [("kind",0),("link",1),("find",2),("make",2),("both",2),("guard",3)]
theorem enu_atT {α:Type} {xs:List α} {i:Nat} {p:Int × α} (h:(enu xs)[i]? = some p):p.1=i∧xs[i]? = some p.2 := by
 unfold enu at h
 rw [List.getElem?_map,List.getElem?_zipIdx] at h
 cases hx:xs[i]? with
 | none=>rw [hx] at h; cases h
 | some x =>
  rw [hx] at h
  cases h
  exact ⟨by show ((0 + i:Nat):Int)=i; rw [Nat.zero_add],rfl⟩
theorem lnS_at {i:Nat} {z:Str} (h:(lnS ks ls)[i]? = some z):(i < ks.length∧∃ k,ks[i]? = some k∧lnK k=z)∨(ks.length≤i∧∃ l,ls[i - ks.length]? = some l∧lnL l=z) := by
 unfold lnS at h
 by_cases hi:i < ks.length
 ·rw [List.getElem?_append_left (by rw [List.length_map]; exact hi)] at h
  exact .inl ⟨hi,names_at h⟩
 ·rw [List.getElem?_append_right (by rw [List.length_map]; omega),List.length_map] at h
  exact .inr ⟨by omega,names_at h⟩
theorem w_read_linesS (g:Sch ks ls) (q:∀ n e0 e1 e2 e3 A2,Cells A [[(e0, .lst (ks.map en))],[(e1, .lst (ls.map en))],[(e2, .lst [])],[(e3, .lst [])],[(n, .lst [.ref e0, .ref e1, .ref e2, .ref e3])]] A2→Q (.ref n) A2):m_read_lines [.str (txS ks ls), .int 1] A Q E := by
 have k4 := g.k4
 have l6 := g.l6
 refine fn_in (s := [some (.str (txS ks ls)),some (.int 1),none,none,none,none,none,none,none]) ?_ rfl rfl
 refine s_sq (u_setE (w_lstM (w_consX (w_nilM fun e0 h0=>w_consX (w_nilM fun e1 h1=>w_consX (w_nilM fun e2 h2=>w_consX (w_nilM fun e3 h3=>w_nilX ⟨by show 4≤_; decide,fun n hn=>?_⟩)))))))
 have hc0:Cells A [[(e0, .lst ((ks.take 0).map en))],[(e1, .lst ((ls.take (0 - ks.length)).map en))],[(e2, .lst [])],[(e3, .lst [])],[(n, .lst [.ref e0, .ref e1, .ref e2, .ref e3])]] (put (put (put (put (put A e0 (.lst [])) e1 (.lst [])) e2 (.lst [])) e3 (.lst [])) n (.lst [.ref e0, .ref e1, .ref e2, .ref e3])) := by
  rw [Nat.zero_sub]
  exact ((((Cells.nil_.new _ h0).new _ h1).new _ h2).new _ h3).new _ hn
 show (sqE _ _).nx _ (put (put (put (put (put A e0 (.lst [])) e1 (.lst [])) e2 (.lst [])) e3 (.lst [])) n (.lst [.ref e0, .ref e1, .ref e2, .ref e3]))
 generalize put (put (put (put (put A e0 (.lst [])) e1 (.lst [])) e2 (.lst [])) e3 (.lst [])) n (.lst [.ref e0, .ref e1, .ref e2, .ref e3])=A1 at hc0 ⊢
 refine at_n (s' := [some (.str (txS ks ls)),some (.int 1),some (.ref n),none,none,none,none,none,none]) rfl (nx_sq ?_)
 refine s_sq (u_set (s' := [some (.str (txS ks ls)),some (.int 1),some (.ref n),some (.int 0),none,none,none,none,none]) pv_c rfl (nx_sq (s_sq ?_)))
 have tl := txS_len g
 refine u_for (xs := enu (lnS ks ls)) (e := fun p=>.tup [.int (p.1 + ((1:Nat):Int)),D.str p.2]) (mi_enumS (k := 1) (xs := lnS ks ls) (e := D.str) ((pv_split (pv_var rfl) pv_c (by decide +kernel) (Nat.le_trans (show (txS ks ls).length + 2≤1000 by omega) (by decide))).is (by rw [txS_split g]))) (Wb := True) fun ck hck hP=>?_
 refine for_xsT (xs := enu (lnS ks ls)) (fun i s A'=>∃ (j4 j5 j6 j7 j8:Option D),s=[some (.str (txS ks ls)),some (.int 1),some (.ref n),some (.int (if i≤ks.length then 0 else 1)),j4,j5,j6,j7,j8]∧Cells A [[(e0, .lst ((ks.take i).map en))],[(e1, .lst ((ls.take (i - ks.length)).map en))],[(e2, .lst [])],[(e3, .lst [])],[(n, .lst [.ref e0, .ref e1, .ref e2, .ref e3])]] A') ⟨_,_,_,_,_,rfl,hc0⟩ (fun _ _ A' _=>hP A' True.intro) ?_ ?_
 ·clear hc0
  rintro i p s A2 N hp ⟨j4,j5,j6,j7,j8,rfl,hc⟩ hN
  obtain ⟨ep,hz⟩ := enu_atT hp
  refine ⟨[.int (p.1 + ((1:Nat):Int)), .str p.2], .inl rfl,rfl,_,_,rfl,_,_,rfl,rfl, ?_⟩
  refine at_s (s' := [some (.str (txS ks ls)),some (.int 1),some (.ref n),some (.int (if i≤ks.length then 0 else 1)),some (.int (p.1 + ((1:Nat):Int))),some (.str p.2),j6,j7,j8]) rfl ?_
  have pl := (lnS_each g p.2 (List.mem_of_getElem? hz)).1
  have spl:Pv (mSplit (mVar 5) (mC (.str " "))) [some (.str (txS ks ls)),some (.int 1),some (.ref n),some (.int (if i≤ks.length then 0 else 1)),some (.int (p.1 + ((1:Nat):Int))),some (.str p.2),j6,j7,j8] A2 (.lst ((Txt.split p.2 " ").map D.str)) := pv_split (pv_var rfl) pv_c (by decide +kernel) (Nat.le_trans (show p.2.length + 2≤1000 by omega) (by decide))
  rcases lnS_at hz with ⟨hi,k,hk,ez⟩ | ⟨hi,l,hl,ez⟩
  ·have hkm := List.mem_of_getElem? hk
   rw [← ez,lnK_split g hkm] at spl
   rw [if_pos (by omega)] at spl ⊢
   refine s_sq (u_set (s' := [some (.str (txS ks ls)),some (.int 1),some (.ref n),some (.int 0),some (.int (p.1 + ((1:Nat):Int))),some (.str (lnK k)),some (.lst ((wsK k).map D.str)),j7,j8]) (by rw [← ez]; exact spl) (by rw [ez]; rfl) (nx_sq ?_))
   refine s_sq (u_set (s' := [some (.str (txS ks ls)),some (.int 1),some (.ref n),some (.int 0),some (.int (p.1 + ((1:Nat):Int))),some (.str (lnK k)),some (.lst ((wsK k).map D.str)),some (.int 0),j8]) ((pv_kget (tab := gtab) (z := "kind") (i := -1) (pv_op2 (pv_var rfl) pv_c (p2_ixG (d0 := ("":Str)) (xs := wsK k) (e := D.str) (j := 0) it_l ⟨by decide,by unfold wsK; rw [List.length_cons]; omega⟩)) (pv_neg pv_c)).is (congrArg D.int (show (Fm.atT gtab "kind").getD (-1)=0 by decide +kernel))) rfl (nx_sq ?_))
   refine s_sq (s_ifF (Pt.is (pt_not (pt_b (pv_chain (i := 0) (j := 0) (k := 1) (pv_var rfl) (pv_var rfl) (pv_var rfl)))) rfl) (nx_sq ?_))
   refine s_sq (u_set (s' := [some (.str (txS ks ls)),some (.int 1),some (.ref n),some (.int 0),some (.int (p.1 + ((1:Nat):Int))),some (.str (lnK k)),some (.lst ((wsK k).map D.str)),some (.int 0),j8]) (pv_var rfl) rfl (nx_sq ?_))
   refine s_sq (s_if (a := false) (Pt.is (pt_b (pv_op2 (pv_var rfl) pv_c (q2_eq (a := (0:Int)) (b := (2:Int)) (ue_r rfl) (ue_r rfl) (by decide)))) (by decide)) (fun h=>by cases h) fun _=>s_if (a := true) (Pt.is (pt_b (pv_op2 (pv_var rfl) pv_c (q2_eq (a := (0:Int)) (b := (0:Int)) (ue_r rfl) (ue_r rfl) (by decide)))) (by decide)) (fun _=>?_) fun h=>by cases h)
   refine u_set (s' := [some (.str (txS ks ls)),some (.int 1),some (.ref n),some (.int 0),some (.int (p.1 + ((1:Nat):Int))),some (.str (lnK k)),some (.lst ((wsK k).map D.str)),some (.int 0),some (.tup [.str k.a, .str k.b,en k.c])]) (pv_call (pa_1 (pv_var rfl)) (fv_read_kind g hkm)) rfl (nx_sq ?_)
   refine s_sq (s_ifF (Pt.is (pt_b (pv_op2 (pv_var (d := .tup [.str k.a, .str k.b,en k.c]) rfl) pv_c p2_isN)) rfl) (nx_sq ?_))
   refine u_app (n := e0) (ys := (ks.take i).map en) (pv_op2 (pv_var rfl) (pv_var rfl) fun Q q=>⟨[.ref e0, .ref e1, .ref e2, .ref e3],0,_,itS_ref (hc.at 4 rfl),rfl,rfl,q⟩) (hc.at 0 rfl) (pv_var rfl) (Sz.of (by rw [List.length_map,List.length_take]; omega)) (hN _ _ ⟨_,_,_,_,_,by rw [if_pos (show i + 1≤ks.length by omega)], ?_⟩)
   have eM:(ks.take (i + 1)).map en=(ks.take i).map en ++ [D.tup [.str k.a, .str k.b,en k.c]] := by rw [take_snT hk,List.map_append]; rfl
   rw [eM,show i + 1 - ks.length=i - ks.length by omega]
   exact hc.put 0 rfl _
  ·have hlm := List.mem_of_getElem? hl
   rw [← ez,lnL_split g hlm] at spl
   have hr:∃ rr:Int,(if i≤ks.length then (0:Int) else 1)=rr∧rr≤1 := ⟨_,rfl,by split <;> decide⟩
   obtain ⟨rr,er,hr⟩ := hr
   rw [er] at spl ⊢
   refine s_sq (u_set (s' := [some (.str (txS ks ls)),some (.int 1),some (.ref n),some (.int rr),some (.int (p.1 + ((1:Nat):Int))),some (.str (lnL l)),some (.lst ((wsL l).map D.str)),j7,j8]) (by rw [← ez]; exact spl) (by rw [ez]; rfl) (nx_sq ?_))
   refine s_sq (u_set (s' := [some (.str (txS ks ls)),some (.int 1),some (.ref n),some (.int rr),some (.int (p.1 + ((1:Nat):Int))),some (.str (lnL l)),some (.lst ((wsL l).map D.str)),some (.int 1),j8]) ((pv_kget (tab := gtab) (z := "link") (i := -1) (pv_op2 (pv_var rfl) pv_c (p2_ixG (d0 := ("":Str)) (xs := wsL l) (e := D.str) (j := 0) it_l ⟨by decide,by unfold wsL; rw [List.length_cons]; omega⟩)) (pv_neg pv_c)).is (congrArg D.int (show (Fm.atT gtab "link").getD (-1)=1 by decide +kernel))) rfl (nx_sq ?_))
   refine s_sq (s_ifF (Pt.is (pt_not (pt_b (pv_chain (i := rr) (j := 1) (k := 1) (pv_var rfl) (pv_var rfl) (pv_var rfl)))) (by rw [decide_eq_true hr]; rfl)) (nx_sq ?_))
   refine s_sq (u_set (s' := [some (.str (txS ks ls)),some (.int 1),some (.ref n),some (.int 1),some (.int (p.1 + ((1:Nat):Int))),some (.str (lnL l)),some (.lst ((wsL l).map D.str)),some (.int 1),j8]) (pv_var rfl) rfl (nx_sq ?_))
   refine s_sq (s_if (a := false) (Pt.is (pt_b (pv_op2 (pv_var rfl) pv_c (q2_eq (a := (1:Int)) (b := (2:Int)) (ue_r rfl) (ue_r rfl) (by decide)))) (by decide)) (fun h=>by cases h) fun _=>s_if (a := false) (Pt.is (pt_b (pv_op2 (pv_var rfl) pv_c (q2_eq (a := (1:Int)) (b := (0:Int)) (ue_r rfl) (ue_r rfl) (by decide)))) (by decide)) (fun h=>by cases h) fun _=>?_)
   refine u_set (s' := [some (.str (txS ks ls)),some (.int 1),some (.ref n),some (.int 1),some (.int (p.1 + ((1:Nat):Int))),some (.str (lnL l)),some (.lst ((wsL l).map D.str)),some (.int 1),some (.tup [.str l.a, .str l.b, .str l.c, .str l.d])]) (pv_if (a := true) (Pt.is (pt_b (pv_op2 (pv_var rfl) pv_c (q2_eq (a := (1:Int)) (b := (1:Int)) (ue_r rfl) (ue_r rfl) (by decide)))) (by decide)) (fun _=>pv_call (pa_1 (pv_var rfl)) (fv_read_link g hlm)) (fun h=>by cases h)) rfl (nx_sq ?_)
   refine s_sq (s_ifF (Pt.is (pt_b (pv_op2 (pv_var (d := .tup [.str l.a, .str l.b, .str l.c, .str l.d]) rfl) pv_c p2_isN)) rfl) (nx_sq ?_))
   refine u_app (n := e1) (ys := (ls.take (i - ks.length)).map en) (pv_op2 (pv_var rfl) (pv_var rfl) fun Q q=>⟨[.ref e0, .ref e1, .ref e2, .ref e3],1,_,itS_ref (hc.at 4 rfl),rfl,rfl,q⟩) (hc.at 1 rfl) (pv_var rfl) (Sz.of (by rw [List.length_map,List.length_take]; omega)) (hN _ _ ⟨_,_,_,_,_,by rw [if_neg (show ¬ i + 1≤ks.length by omega)], ?_⟩)
   have eM:(ls.take (i + 1 - ks.length)).map en=(ls.take (i - ks.length)).map en ++ [D.tup [.str l.a, .str l.b, .str l.c, .str l.d]] := by rw [show i + 1 - ks.length=i - ks.length + 1 by omega,take_snT hl,List.map_append]; rfl
   rw [eM,show ks.take (i + 1)=ks.take i by rw [List.take_of_length_le (by omega),List.take_of_length_le (by omega)]]
   exact hc.put 1 rfl _
 ·rintro s A2 ⟨j4,j5,j6,j7,j8,rfl,hc⟩
  have el:(enu (lnS ks ls)).length=ks.length + ls.length := by unfold enu lnS; simp
  rw [el,List.take_of_length_le (show ks.length≤ks.length + ls.length by omega),List.take_of_length_le (show ls.length≤ks.length + ls.length - ks.length by omega)] at hc
  exact nx_sq (u_ret (pv_var rfl) ⟨A2,Les.refl,q n e0 e1 e2 e3 A2 hc⟩)
theorem fv_read_schema (g:Sch ks ls):Fv m_read_schema [.str (txS ks ls)] A (enc_Schema (mkSch ks ls)) := by
 refine fv_in (s := [some (.str (txS ks ls)),none]) (fun Q E q=>?_) rfl rfl
 refine s_sq (u_setE ((pa_2 (pv_var rfl) pv_c) _ _ (w_read_linesS g fun n e0 e1 e2 e3 A2 hc=>?_)))
 refine at_n (s' := [some (.str (txS ks ls)),some (.ref n)]) rfl (nx_sq ?_)
 have ix:∀ {i:Int} {d:D},L2.atI [.ref e0, .ref e1, .ref e2, .ref e3] i=some d→Pv (mOp fIx (mVar 1) (mC (.int i))) [some (.str (txS ks ls)),some (.ref n)] A2 d := fun {i d} h=>pv_op2 (pv_var rfl) pv_c fun Q q=>⟨[.ref e0, .ref e1, .ref e2, .ref e3],i,_,itS_ref (hc.at 4 rfl),rfl,h,q⟩
 refine u_retE (w_makeD (pa_2 (ix rfl) (ix rfl)) ?_)
 refine c_Schema_init (il_n (hc.at 0 rfl)) (il_n (hc.at 1 rfl)) (Q0 := fun r=>r=mkSch ks ls) (E0 := fun _=>False) (spec_init g rfl) ?_ fun _ h=>h.elim
 intro r2 A3 e3 hle
 subst e3
 exact ⟨A,hc.le.trans hle,q⟩
end
end Lw
namespace Lw
open PySem PySem.Spec PyProof.Rows L2 Am
open PySem.W (Datum Tup T3 T4)
section
variable {A:AH} {r:R_Schema} {z:Str} {w:Int} {ks:List Kd} {ls:List Lk}
theorem fvm_rule (h:Option.isSome (valA r.f_rules z)=true):Fv m_Schema_rule [enc_Schema r, .str z] A (.str (Option.getD (valA r.f_rules z) ("":Str))) := fun Q E q =>
 c_Schema_rule (Q0 := fun v=>v=Option.getD (valA r.f_rules z) ("":Str)) (E0 := fun _=>False) (by unfold W_Schema_rule; rw [h]; exact ⟨rfl,rfl⟩) (fun v e=>by subst e; exact q) fun _ h=>h.elim
theorem fvm_ends (h:Option.isSome (valA r.f_spans z)=true):Fv m_Schema_ends [enc_Schema r, .str z] A (.tup [.str (Option.getD (valA r.f_spans z) (("":Str),("":Str))).1, .str (Option.getD (valA r.f_spans z) (("":Str),("":Str))).2]) := fun Q E q =>
 c_Schema_ends (Q0 := fun v=>v=Option.getD (valA r.f_spans z) (("":Str),("":Str))) (E0 := fun _=>False) (by unfold W_Schema_ends; rw [h]; exact ⟨rfl,rfl⟩) (fun v e=>by subst e; exact q) fun _ h=>h.elim
theorem fvm_owner (h:Option.isSome (valA r.f_owners z)=true):Fv m_Schema_owner [enc_Schema r, .str z] A (en (Option.getD (valA r.f_owners z) none)) := fun Q E q =>
 c_Schema_owner (Q0 := fun v=>v=Option.getD (valA r.f_owners z) none) (E0 := fun _=>False) (by unfold W_Schema_owner; rw [h]; exact ⟨rfl,rfl⟩) (fun v e=>by subst e; exact q) fun _ h=>h.elim
end
end Lw
namespace Lw
open PySem PySem.Spec PyProof.Rows L2 Am
open PySem.W (Datum Tup T3 T4)
def W_law_told (a0:R_Schema) (a1:(List (T3 Str Str (Option Str)))) (a2:(List (T4 Str Str Str Str))) (Q:(Bool)→Prop) (E:Exv→Prop):Prop :=
 (((Sz (a1).length)∧((!eqB a0.f_kinds (Tup.mk (List.map (fun x1:(T3 Str Str (Option Str))=>x1.a) a1)))=false→(Sz (a2).length)))∧(if ((!eqB a0.f_kinds (Tup.mk (List.map (fun x1:(T3 Str Str (Option Str))=>x1.a) a1))) || (!eqB a0.f_links (Tup.mk (List.map (fun x4:(T4 Str Str Str Str)=>x4.a) a2))))=true then Q false else (forW a2 (([]:List (Str × Str)):(List (Str × Str))) (fun (x10:(T4 Str Str Str Str)) (st28:(List (Str × Str))) N25 B26=>(((Sz ((st28).length + 1)))∧(((Option.isSome (valA a0.f_rules x10.a)=true)∧((!eqB (Option.getD (valA a0.f_rules x10.a) ("":Str)) x10.d)=false→(Option.isSome (valA a0.f_spans x10.a)=true)))∧(if ((!eqB (Option.getD (valA a0.f_rules x10.a) ("":Str)) x10.d) || (!eqB (Option.getD (valA a0.f_spans x10.a) (("":Str),("":Str))) (⟨x10.b,x10.c⟩:(Str × Str))))=true then Q false else N25 (putA st28 x10.a x10.b))))) (fun (st46:(List (Str × Str)))=>(forW a1 (():Unit) (fun (x52:(T3 Str Str (Option Str))) (st72:Unit) N69 B70=>((((Option.isNone x52.c)=false→(Option.isSome (valA st46 (Option.getD x52.c ("":Str)))=true)))∧(letW (if (Option.isNone x52.c)=true then (none:(Option (Str × Str))) else (some (⟨(Option.getD x52.c ("":Str)),(Option.getD (valA st46 (Option.getD x52.c ("":Str))) ("":Str))⟩:(Str × Str)))) (fun (v87:(Option (Str × Str)))=>(((Option.isSome (valA a0.f_rules x52.a)=true)∧((!eqB (Option.getD (valA a0.f_rules x52.a) ("":Str)) x52.b)=false→(Option.isSome (valA a0.f_owners x52.a)=true)))∧(if ((!eqB (Option.getD (valA a0.f_rules x52.a) ("":Str)) x52.b) || (!eqB (Option.getD (valA a0.f_owners x52.a) none) v87))=true then Q false else N69 ())))))) (fun (st91:Unit)=>Q true))))))
theorem c_law_told {A0:AH} {a0:R_Schema} {y1:D} {a1:(List (T3 Str Str (Option Str)))} (hx1:ItL A0 y1 a1 en) {y2:D} {a2:(List (T4 Str Str Str Str))} (hx2:ItL A0 y2 a2 en) {Q0:Bool→Prop} {E0:Exv→Prop} {Q:QE} {E:QX} (h:W_law_told a0 a1 a2 Q0 E0) (hQ:∀ r,Q0 r→Q (D.bl r) A0) (hE:∀ x,E0 x→E (encX x) A0):m_law_told [(enc_Schema a0),y1,y2] A0 Q E := by
 unfold W_law_told at h
 have hc:Cells A0 [] A0 := Cells.nil_
 refine fn_in (s := [some (enc_Schema a0),some y1,some y2,none,none,none,none,none,none,none,none]) ?_ rfl rfl
 refine s_sq ?_
 obtain ⟨hS6,h⟩ := h
 refine u_if (Am.pt_or (pt_b (pv_op2 (pv_fld (pv_var rfl) rfl (by simp) rfl) (pv_cbB (pa_cons' (v_lcM (e := en) (g := fun x1:(T3 Str Str (Option Str))=>x1.a) (e' := en) (mi_seq (pv_var rfl) (ItL.toS (hx1.les hc.le))) rfl hS6.1 (fun x1 hx1=>lcb (tg_n rfl) pt_yes (fun hh2=>(pv_op2 (pv_var rfl) pv_c (p2_ixT (ds := [(D.str x1.a),(D.str x1.b),(en x1.c)]) (d := (D.str x1.a)) rfl rfl))))) pa_nil') (pb_tupI il_l)) (q2_ne (a := a0.f_kinds) (b := (Tup.mk (List.map (fun x1:(T3 Str Str (Option Str))=>x1.a) a1))) ue_t ue_t (by decide)))) (fun hh3=>(pt_b (pv_op2 (pv_fld (pv_var rfl) rfl (by simp) rfl) (pv_cbB (pa_cons' (v_lcM (e := en) (g := fun x4:(T4 Str Str Str Str)=>x4.a) (e' := en) (mi_seq (pv_var rfl) (ItL.toS (hx2.les hc.le))) rfl (hS6.2 hh3) (fun x4 hx4=>lcb (tg_n rfl) pt_yes (fun hh5=>(pv_op2 (pv_var rfl) pv_c (p2_ixT (ds := [(D.str x4.a),(D.str x4.b),(D.str x4.c),(D.str x4.d)]) (d := (D.str x4.a)) rfl rfl))))) pa_nil') (pb_tupI il_l)) (q2_ne (a := a0.f_links) (b := (Tup.mk (List.map (fun x4:(T4 Str Str Str Str)=>x4.a) a2))) ue_t ue_t (by decide)))))) h ?_ ?_
 ·intro hb7 h
  refine u_ret pv_c ?_
  refine rt_sq ?_
  refine u_rt hc ?_
  exact hQ _ h
 ·intro hb7 h
  refine t_next ?_
  refine nx_sq ?_
  refine s_sq ?_
  refine u_setE ?_
  refine w_dnK ?_
  intro n8 hn
  replace hc := hc.new (Nd.dK []) hn
  generalize put A0 n8 (Nd.dK [])=A9 at hc ⊢
  replace hc:Cells A0 [[(n8,(Nd.dK (List.map (eD kS en) ([]:List (Str × Str)))))]] A9 := hc
  refine at_n (s' := [some (enc_Schema a0),some y1,some y2,some (D.ref n8),none,none,none,none,none,none,none]) rfl ?_
  refine nx_sq ?_
  refine s_sq ?_
  refine u_forC (σ := (List (Str × Str))) (e := en) (fun st29 s30 A31=>∃ (j32 j33 j34 j35:Option D),s30=[some (enc_Schema a0),some y1,some y2,some (D.ref n8),j32,j33,j34,j35,none,none,none]∧Cells A0 [[(n8,(Nd.dK (List.map (eD kS en) st29)))]] A31) (mi_seq (pv_var rfl) (ItL.toS (hx2.les hc.le))) h ⟨_,_,_,_,rfl,hc⟩ (fun _ _ _ ⟨_,_,_,_,_,hcP⟩=>(hx2.same hc.le hcP.le)) ?_ ?_
  ·rintro x10 hx10 st28 _ A40 N25 B26 Nm27 h ⟨j36,j37,j38,j39,rfl,hc⟩ hN25 hB26
   refine ⟨[(D.str x10.a),(D.str x10.b),(D.str x10.c),(D.str x10.d)], .inl rfl,rfl,_,_,rfl,_,_,rfl,_,_,rfl,_,_,rfl,rfl, ?_⟩
   refine at_s (s' := [some (enc_Schema a0),some y1,some y2,some (D.ref n8),some (D.str x10.a),some (D.str x10.b),some (D.str x10.c),some (D.str x10.d),none,none,none]) rfl ?_
   refine s_sq ?_
   refine u_dputS ?_
   refine Pv.wp ?_ (pv_var rfl)
   refine Pv.wp ?_ (pv_var rfl)
   refine Pv.wp ?_ (pv_var rfl)
   obtain ⟨hS41,h⟩ := h
   refine u_dputK (l := st28) (k := x10.a) (e := en) (v := x10.b) (fun _ _=>kS_inj) (hc.at 0 rfl) rfl hS41 ?_
   replace hc := hc.put 0 rfl (Nd.dK (List.map (eD kS en) (putA st28 x10.a x10.b)))
   generalize put A40 n8 (Nd.dK (List.map (eD kS en) (putA st28 x10.a x10.b)))=A42 at hc ⊢
   replace hc:Cells A0 [[(n8,(Nd.dK (List.map (eD kS en) (putA st28 x10.a x10.b))))]] A42 := hc
   refine nx_sq ?_
   obtain ⟨hS44,h⟩ := h
   refine u_if (Am.pt_or (pt_b (pv_op2 (pv_meth (pv_var rfl) rfl rfl (pa_cons' (pv_var rfl) pa_nil') (fvm_rule hS44.1)) (pv_var rfl) (q2_ne (a := (Option.getD (valA a0.f_rules x10.a) ("":Str))) (b := x10.d) (ue_r rfl) (ue_r rfl) (by decide)))) (fun hh43=>(pt_b (pv_op2 (pv_meth (pv_var rfl) rfl rfl (pa_cons' (pv_var rfl) pa_nil') (fvm_ends (hS44.2 hh43))) (pv_tup (ds := [(D.str x10.b),(D.str x10.c)]) (pa_cons' (pv_var rfl) (pa_cons' (pv_var rfl) pa_nil'))) (q2_ne (a := (Option.getD (valA a0.f_spans x10.a) (("":Str),("":Str)))) (b := (⟨x10.b,x10.c⟩:(Str × Str))) (ue_r rfl) (ue_r rfl) (by decide)))))) h ?_ ?_
   ·intro hb45 h
    refine u_ret pv_c ?_
    refine rt_lp ?_
    refine rt_sq ?_
    refine u_rt hc ?_
    exact hQ _ h
   ·intro hb45 h
    refine t_next ?_
    refine nx_lp ?_
    exact hN25 _ _ _ h ⟨_,_,_,_,rfl,hc⟩
  rintro st46 _ A51 h ⟨j47,j48,j49,j50,rfl,hc⟩
  refine nx_sq ?_
  refine s_sq ?_
  refine u_forC (σ := Unit) (e := en) (fun st73 s74 A75=>∃ (j76 j77 j78 j79:Option D),s74=[some (enc_Schema a0),some y1,some y2,some (D.ref n8),j76,j48,j49,j77,j78,j79,none]∧Cells A0 [[(n8,(Nd.dK (List.map (eD kS en) st46)))]] A75) (mi_seq (pv_var rfl) (ItL.toS (hx1.les hc.le))) h ⟨_,_,_,_,rfl,hc⟩ (fun _ _ _ ⟨_,_,_,_,_,hcP⟩=>(hx1.same hc.le hcP.le)) ?_ ?_
  ·rintro x52 hx52 st72 _ A84 N69 B70 Nm71 h ⟨j80,j81,j82,j83,rfl,hc⟩ hN69 hB70
   refine ⟨[(D.str x52.a),(D.str x52.b),(en x52.c)], .inl rfl,rfl,_,_,rfl,_,_,rfl,_,_,rfl,rfl, ?_⟩
   refine at_s (s' := [some (enc_Schema a0),some y1,some y2,some (D.ref n8),some (D.str x52.a),j48,j49,some (D.str x52.b),some (en x52.c),j83,none]) rfl ?_
   refine s_sq ?_
   obtain ⟨hS86,h⟩ := h
   obtain ⟨v87,hv87⟩:∃ v:(Option (Str × Str)),v=(if (Option.isNone x52.c)=true then (none:(Option (Str × Str))) else (some (⟨(Option.getD x52.c ("":Str)),(Option.getD (valA st46 (Option.getD x52.c ("":Str))) ("":Str))⟩:(Str × Str)))) := ⟨_,rfl⟩
   replace h := letW_out hv87 h
   refine u_set (s' := [some (enc_Schema a0),some y1,some y2,some (D.ref n8),some (D.str x52.a),j48,j49,some (D.str x52.b),some (en x52.c),some (en v87),none]) (Pv.is (pv_ifG (f := fun z:(Option (Str × Str))=>(en z)) (p := (none:(Option (Str × Str)))) (q := (some (⟨(Option.getD x52.c ("":Str)),(Option.getD (valA st46 (Option.getD x52.c ("":Str))) ("":Str))⟩:(Str × Str)))) (pt_b (pv_op2 (pv_var rfl) pv_c p2_isNO)) (fun hh85=>pv_c) (fun hh85=>(pv_tup (ds := [(D.str (Option.getD x52.c ("":Str))),(D.str (Option.getD (valA st46 (Option.getD x52.c ("":Str))) ("":Str)))]) (pa_cons' (Pv.is (pv_var rfl) (en_optS hh85)) (pa_cons' (pv_getK (k := (Option.getD x52.c ("":Str))) (d0 := ("":Str)) (fun _ _=>kS_inj) (pv_var rfl) (Pv.is (pv_var rfl) (en_optS hh85)) (dk_n (hc.at 0 rfl)) rfl (hS86 hh85)) pa_nil'))))) (congrArg (fun z:(Option (Str × Str))=>(en z)) hv87.symm)) rfl ?_
   refine nx_sq ?_
   obtain ⟨hS89,h⟩ := h
   refine u_if (Am.pt_or (pt_b (pv_op2 (pv_meth (pv_var rfl) rfl rfl (pa_cons' (pv_var rfl) pa_nil') (fvm_rule hS89.1)) (pv_var rfl) (q2_ne (a := (Option.getD (valA a0.f_rules x52.a) ("":Str))) (b := x52.b) (ue_r rfl) (ue_r rfl) (by decide)))) (fun hh88=>(pt_b (pv_op2 (pv_meth (pv_var rfl) rfl rfl (pa_cons' (pv_var rfl) pa_nil') (fvm_owner (hS89.2 hh88))) (pv_var rfl) (q2_ne (a := (Option.getD (valA a0.f_owners x52.a) none)) (b := v87) (ue_r rfl) (ue_r rfl) (by decide)))))) h ?_ ?_
   ·intro hb90 h
    refine u_ret pv_c ?_
    refine rt_lp ?_
    refine rt_sq ?_
    refine u_rt hc ?_
    exact hQ _ h
   ·intro hb90 h
    refine t_next ?_
    refine nx_lp ?_
    exact hN69 _ _ _ h ⟨_,_,_,_,rfl,hc⟩
  rintro st91 _ A96 h ⟨j92,j93,j94,j95,rfl,hc⟩
  refine nx_sq ?_
  refine u_ret pv_c ?_
  refine u_rt hc ?_
  exact hQ _ h
end Lw
namespace Lw
open PySem PySem.Spec PyProof.Rows L2 Am
open PySem.W (Datum Tup T3 T4)
section
variable {A:AH} {ks ks':List Kd} {ls ls':List Lk} {ma mb:ME} {s:Sl} {Q:QE} {E:QX}
theorem scx_eq (sc sc2:R_Schema):Fv m_Schema_eq [enc_Schema sc,enc_Schema sc2] A (.bl (eqB sc.f_kind_entries sc2.f_kind_entries && eqB sc.f_link_entries sc2.f_link_entries)) := by
 refine fv_in (s := [some (enc_Schema sc),some (enc_Schema sc2)]) (fun Q E q=>?_) rfl rfl
 exact u_ret ((pv_andV (a := true) (b := eqB sc.f_kind_entries sc2.f_kind_entries && eqB sc.f_link_entries sc2.f_link_entries) (pv_isi (t := .c "Schema") (pv_var rfl) rfl rfl) fun _=>pv_andV (pv_op2 (pv_fld (pv_var rfl) rfl (by simp) rfl) (pv_fld (pv_var rfl) rfl (by simp) rfl) (q2_eq (a := sc.f_kind_entries) (b := sc2.f_kind_entries) ue_t ue_t (by decide)))
  fun _=>pv_op2 (pv_fld (pv_var rfl) rfl (by simp) rfl) (pv_fld (pv_var rfl) rfl (by simp) rfl) (q2_eq (a := sc.f_link_entries) (b := sc2.f_link_entries) ue_t ue_t (by decide))).is rfl) ⟨_,Les.refl,q⟩
theorem eqB_rt {α:Type} [DecidableEq α] {a:α}:eqB a a=true := decide_eq_true rfl
theorem scx_sch:(eqB (mkSch ks' ls').f_kind_entries (mkSch ks ls).f_kind_entries && eqB (mkSch ks' ls').f_link_entries (mkSch ks ls).f_link_entries)=(eqB ks' ks && eqB ls' ls) := by
 have h1:eqB (mkSch ks' ls').f_kind_entries (mkSch ks ls).f_kind_entries=eqB ks' ks := decide_eq_decide.mpr ⟨fun e=>congrArg (fun t:Tup Kd=>t.items) e,fun e=>congrArg Tup.mk e⟩
 have h2:eqB (mkSch ks' ls').f_link_entries (mkSch ks ls).f_link_entries=eqB ls' ls := decide_eq_decide.mpr ⟨fun e=>congrArg (fun t:Tup Lk=>t.items) e,fun e=>congrArg Tup.mk e⟩
 rw [h1,h2]
theorem sch_permK (g:Sch ks ls) (h:ks'.Perm ks):Sch ks' ls where
 nd := ((h.map (·.a)).append (List.Perm.refl (ls.map (·.a)))).nodup_iff.mpr g.nd
 kw := fun k hk=>g.kw k (h.mem_iff.mp hk)
 kr := fun k hk=>g.kr k (h.mem_iff.mp hk)
 lw := fun l hl=>by
  obtain ⟨h1,h2,h3,h4⟩ := g.lw l hl
  exact ⟨h1,(h.map (·.a)).mem_iff.mpr h2,(h.map (·.a)).mem_iff.mpr h3,h4⟩
 ow := fun k hk o ho=>by
  obtain ⟨l,hl,e1,e2,hd,hh,r⟩ := g.ow k (h.mem_iff.mp hk) o ho
  exact ⟨l,hl,e1,e2,hd,h.mem_iff.mpr hh,r⟩
 k1 := by rw [h.length_eq]; exact g.k1
 k4 := by rw [h.length_eq]; exact g.k4
 l6 := g.l6
theorem spec_told (g:Sch ks ls) {Q:Bool→Prop} {E:Exv→Prop} (q:Q true):W_law_told (mkSch ks ls) ks ls Q E := by
 have k4 := g.k4
 have l6 := g.l6
 unfold W_law_told
 have e1:eqB (mkSch ks ls).f_kinds ⟨ks.map fun x1=>x1.a⟩=true := eqB_rt
 have e2:eqB (mkSch ks ls).f_links ⟨ls.map fun x1=>x1.a⟩=true := eqB_rt
 refine ⟨⟨Sz.of (by omega),fun _=>Sz.of (by omega)⟩, ?_⟩
 rw [e1,e2]
 have nd := (List.nodup_append.mp g.nd).2.1
 refine forW_inv (fun pre (st:List (Str × Str))=>st=pre.map fun l:Lk=>(l.a,l.b)) rfl (fun pre l post st N e hst hN=>?_) fun st hst=>?_
 ·have hl:l∈ls := by rw [e]; simp
  have sl:st.length≤6 := by rw [hst,List.length_map]; have := congrArg List.length e; simp at this; omega
  refine ⟨Sz.of (by omega), ?_⟩
  rw [ruleL g hl,spanL g hl]
  refine ⟨⟨rfl,fun _=>rfl⟩, ?_⟩
  rw [show eqB ((some l.d).getD ("":Str)) l.d=true from eqB_rt,show eqB ((some (l.b,l.c)).getD (("":Str),("":Str))) (⟨l.b,l.c⟩:Str × Str)=true from eqB_rt]
  refine hN _ ?_
  have hn:l.a ∉ st.map (·.1) := by
   rw [hst,List.map_map]
   rw [e,List.map_append,List.nodup_append] at nd
   exact fun h=>nd.2.2 _ h _ (List.mem_cons_self ..) rfl
  rw [putA_new hn,hst,List.map_append]
  rfl
 ·refine forW_inv (fun _ (_:Unit)=>True) True.intro (fun pre k post st2 N e _ hN=>?_) fun _ _=>q
  have hk:k∈ks := by rw [e]; simp
  rw [ruleK g hk,ownK g hk]
  refine ⟨fun hc=>?_,letW_in fun v hv=>⟨⟨rfl,fun _=>rfl⟩, ?_⟩⟩
  ·cases ec:k.c with
   | none=>rw [ec] at hc; cases hc
   | some o =>
    obtain ⟨l,hl,e1,_⟩ := g.ow k hk o ec
    rw [hst]
    refine valA_some.mpr ?_
    rw [List.map_map]
    exact List.mem_map.mpr ⟨l,hl,e1⟩
  ·have hv2:ownerOf ls k=v := by
    rw [hv]
    unfold ownerOf
    cases ec:k.c with
    | none=>rfl
    | some o =>
     show some (o,_)=some (o,_)
     rw [hst,valA_map]
     rfl
   rw [← hv2,show eqB ((some k.b).getD ("":Str)) k.b=true from eqB_rt,show eqB ((some (ownerOf ls k)).getD none) (ownerOf ls k)=true from eqB_rt]
   exact hN _ trivial
theorem fv_told (g:Sch ks ls):Fv m_law_told [enc_Schema (mkSch ks ls), .lst (ks.map en), .lst (ls.map en)] A (.bl true) := fun Q E q =>
 c_law_told il_l il_l (Q0 := fun b=>b=true) (E0 := fun _=>False) (spec_told g rfl) (fun r e=>by subst e; exact q) (fun _ h=>h.elim)
theorem w_mkSch (g:Sch ks ls) (h1:Pv ma s A (.lst (ks.map en))) (h2:Pv mb s A (.lst (ls.map en))) (q:∀ A2,Les A A2→Q (enc_Schema (mkSch ks ls)) A2):mMakeD "Schema" m_Schema_init (mCons ma (mCons mb mNil)) s A Q E := by
 refine w_makeD (pa_2 h1 h2) ?_
 refine c_Schema_init il_l il_l (Q0 := fun r=>r=mkSch ks ls) (E0 := fun _=>False) (spec_init g rfl) ?_ fun _ h=>h.elim
 intro r2 A2 e2 hle
 subst e2
 exact q A2 hle
end
end Lw
namespace Lw
open PySem PySem.Spec PyProof.Rows L2 Am
open PySem.W (Datum Tup T3 T4)
theorem law_body {ns:List Int} (hns:ns.length≤63):b_law lawE ([some (.scr ns)] ++ List.replicate (12 - 1) none) (fun _=>none) := by
 refine at_s (s' := [some (.scr ns),none,none,none,none,none,none,none,none,none,none,none]) rfl ?_
 refine s_sq (u_setE (w_poolA hns (pa_1 (pv_var rfl)) fun n0 hn=>?_))
 have hp:put (fun _=>none) n0 .pool n0=some .pool := put_same
 generalize put (fun _=>none) n0 .pool=A0 at hp ⊢
 refine at_n (s' := [some (.scr ns),some (.ref n0),none,none,none,none,none,none,none,none,none,none]) rfl (nx_sq (s_sq ?_))
 refine u_for (xs := rng 3) (e := en) (mi_rng (pv_c) (by decide)) (Wb := True) fun ck hck hP=>?_
 refine for_xsT (xs := rng 3) (fun i s A=>∃ (j2 j3 j4 j5 j6 j7 j8 j9 j10 j11:Option D),s=[some (.scr ns),some (.ref n0),j2,j3,j4,j5,j6,j7,j8,j9,j10,j11]∧A n0=some .pool) ⟨_,_,_,_,_,_,_,_,_,_,rfl,hp⟩ (fun _ _ A' _=>hP A' True.intro) ?_ ?_
 ·rintro i t s A N ht ⟨j2,j3,j4,j5,j6,j7,j8,j9,j10,j11,rfl,hp⟩ hN
  refine u_gN (s' := [some (.scr ns),some (.ref n0),some (.int t),j3,j4,j5,j6,j7,j8,j9,j10,j11]) rfl ?_
  refine s_sq (u_setGE (w_callW ?_ (pa_2 (pv_var rfl) pv_c)))
  refine c_law_schema hp (Q0 := fun r=>Sch r.1 r.2) (E0 := fun _=>False) (spec_schema (by decide) fun ks ls g=>g) ?_ fun _ h=>h.elim
  rintro ⟨ks,ls⟩ g
  dsimp only at g ⊢
  have k4 := g.k4
  have l6 := g.l6
  refine ⟨[(D.lst (List.map en ks)),(D.lst (List.map en ls))], .inl rfl,rfl,_,_,rfl,_,_,rfl,rfl, ?_⟩
  refine at_n (s' := [some (.scr ns),some (.ref n0),some (.int t),some (.lst (ks.map en)),some (.lst (ls.map en)),j5,j6,j7,j8,j9,j10,j11]) rfl (nx_sq (s_sq ?_))
  refine u_set (s' := [some (.scr ns),some (.ref n0),some (.int t),some (.lst (ks.map en)),some (.lst (ls.map en)),some (.str (txS ks ls)),j6,j7,j8,j9,j10,j11]) (pv_call (pa_2 (pv_var rfl) (pv_var rfl)) (fv_law_text g)) rfl (nx_sq (s_sq ?_))
  refine u_setE (w_mkSch g (pv_var rfl) (pv_var rfl) fun A2 l2=>?_)
  have hp2 := l2 _ _ hp
  refine at_n (s' := [some (.scr ns),some (.ref n0),some (.int t),some (.lst (ks.map en)),some (.lst (ls.map en)),some (.str (txS ks ls)),some (enc_Schema (mkSch ks ls)),j7,j8,j9,j10,j11]) rfl (nx_sq (s_sq ?_))
  refine u_set (s' := [some (.scr ns),some (.ref n0),some (.int t),some (.lst (ks.map en)),some (.lst (ls.map en)),some (.str (txS ks ls)),some (enc_Schema (mkSch ks ls)),some (.str (txS ks ls)),j8,j9,j10,j11]) (pv_call (pa_1 (pv_var rfl)) (fv_write_schema g)) rfl (nx_sq (s_sq ?_))
  refine s_ifF (Pt.is (b := false) (pt_or (a := false) (b := false) (Pt.is (pt_not (pt_b (pv_isi (t := .b "str") (b := true) (pv_var rfl) rfl rfl))) rfl) fun _=>Pt.is (pt_b (pv_op2 (pv_var rfl) (pv_var rfl) (q2_ne (a := txS ks ls) (b := txS ks ls) (ue_r rfl) (ue_r rfl) (by decide)))) (by rw [eqB_rt]; rfl)) rfl) (nx_sq (s_sq ?_))
  refine u_set (s' := [some (.scr ns),some (.ref n0),some (.int t),some (.lst (ks.map en)),some (.lst (ls.map en)),some (.str (txS ks ls)),some (enc_Schema (mkSch ks ls)),some (.str (txS ks ls)),some (enc_Schema (mkSch ks ls)),j9,j10,j11]) (pv_call (pa_1 (pv_var rfl)) (fv_read_schema g)) rfl (nx_sq (s_sq ?_))
  refine s_ifF (Pt.is (b := false) (pt_or (a := false) (b := false) (Pt.is (pt_not (pt_b (pv_ownEq (t := .c "Schema") (pv_var rfl) (pv_var rfl) rfl rfl (by decide) (scx_eq (mkSch ks ls) (mkSch ks ls))))) (by rw [eqB_rt,eqB_rt]; rfl)) fun _=>Pt.is (pt_or (a := false) (b := false) (Pt.is (pt_not (pt_b (pv_call (pa_3 (pv_var rfl) (pv_var rfl) (pv_var rfl)) (fv_told g)))) rfl) fun _=>Pt.is (pt_b (pv_op2 (pv_call (pa_1 (pv_var rfl)) (fv_write_schema g)) (pv_var rfl) (q2_ne (a := txS ks ls) (b := txS ks ls) (ue_r rfl) (ue_r rfl) (by decide)))) (by rw [eqB_rt]; rfl)) rfl) rfl) (nx_sq ?_)
  have t1:Pv (mOp fAdd (mSl (mVar 3) (mPart (mC (.int 1))) mNoPart) (mSl (mVar 3) mNoPart (mPart (mC (.int 1))))) [some (.scr ns),some (.ref n0),some (.int t),some (.lst (ks.map en)),some (.lst (ls.map en)),some (.str (txS ks ls)),some (enc_Schema (mkSch ks ls)),some (.str (txS ks ls)),some (enc_Schema (mkSch ks ls)),j9,j10,j11] A2 (.lst ((ks.drop 1 ++ ks.take 1).map en)) := (pv_op2 (pv_slG (xs := ks) (e := en) (pv_var rfl) (po_so pv_c) po_no il_l) (pv_slG (xs := ks) (e := en) (pv_var rfl) po_no (po_so pv_c) il_l) (p2_addLI il_l il_l (Sz.of (by rw [cutL_from (by decide),cutL_to (by decide),List.length_drop,List.length_take]; omega)))).is (by rw [cutL_from (by decide),cutL_to (by decide)]; rfl)
  have t2:Pv (mOp fAdd (mSl (mVar 4) (mPart (mC (.int 1))) mNoPart) (mSl (mVar 4) mNoPart (mPart (mC (.int 1))))) [some (.scr ns),some (.ref n0),some (.int t),some (.lst (ks.map en)),some (.lst (ls.map en)),some (.str (txS ks ls)),some (enc_Schema (mkSch ks ls)),some (.str (txS ks ls)),some (enc_Schema (mkSch ks ls)),j9,j10,j11] A2 (.lst ((ls.drop 1 ++ ls.take 1).map en)) := (pv_op2 (pv_slG (xs := ls) (e := en) (pv_var rfl) (po_so pv_c) po_no il_l) (pv_slG (xs := ls) (e := en) (pv_var rfl) po_no (po_so pv_c) il_l) (p2_addLI il_l il_l (Sz.of (by rw [cutL_from (by decide),cutL_to (by decide),List.length_drop,List.length_take]; omega)))).is (by rw [cutL_from (by decide),cutL_to (by decide)]; rfl)
  have pk:(ks.drop 1 ++ ks.take 1).Perm ks := by have := List.perm_append_comm (l₁ := ks.drop 1) (l₂ := ks.take 1); rwa [List.take_append_drop] at this
  have pl:(ls.drop 1 ++ ls.take 1).Perm ls := by have := List.perm_append_comm (l₁ := ls.drop 1) (l₂ := ls.take 1); rwa [List.take_append_drop] at this
  have both:∀ p∈[(ks.drop 1 ++ ks.take 1,ls),(ks,ls.drop 1 ++ ls.take 1)],Sch p.1 p.2 := fun p hp=>by
   rcases List.mem_cons.mp hp with e | hp
   ·rw [e]; exact sch_permK g pk
   ·rw [List.mem_singleton.mp hp]; exact sch_perm g pl
  refine u_for (xs := [(ks.drop 1 ++ ks.take 1,ls),(ks,ls.drop 1 ++ ls.take 1)]) (e := fun p=>.tup [.lst (p.1.map en), .lst (p.2.map en)]) (mi_seq ((pv_lst (pa_2 (pv_tup (pa_2 t1 (pv_var rfl))) (pv_tup (pa_2 (pv_var rfl) t2)))).is (y := .lst (([(ks.drop 1 ++ ks.take 1,ls),(ks,ls.drop 1 ++ ls.take 1)]:List (List Kd × List Lk)).map fun p=>D.tup [.lst (p.1.map en), .lst (p.2.map en)])) rfl) it_l) (Wb := True) fun ck2 hck2 hP2=>?_
  refine for_xsT (xs := [(ks.drop 1 ++ ks.take 1,ls),(ks,ls.drop 1 ++ ls.take 1)]) (fun i s A=>∃ (j9 j10 j11:Option D),s=[some (.scr ns),some (.ref n0),some (.int t),some (.lst (ks.map en)),some (.lst (ls.map en)),some (.str (txS ks ls)),some (enc_Schema (mkSch ks ls)),some (.str (txS ks ls)),some (enc_Schema (mkSch ks ls)),j9,j10,j11]∧A=A2) ⟨_,_,_,rfl,rfl⟩ (fun _ _ A' _=>hP2 A' fun m e=>nomatch e) ?_ ?_
  ·rintro i3 p s A3 N3 hpi ⟨j9,j10,j11,rfl,rfl⟩ hN3
   have g2 := both p (List.mem_of_getElem? hpi)
   refine ⟨[.lst (p.1.map en), .lst (p.2.map en)], .inl rfl,rfl,_,_,rfl,_,_,rfl,rfl, ?_⟩
   refine at_s (s' := [some (.scr ns),some (.ref n0),some (.int t),some (.lst (ks.map en)),some (.lst (ls.map en)),some (.str (txS ks ls)),some (enc_Schema (mkSch ks ls)),some (.str (txS ks ls)),some (enc_Schema (mkSch ks ls)),some (.lst (p.1.map en)),some (.lst (p.2.map en)),j11]) rfl ?_
   refine s_sq (u_set (s' := [some (.scr ns),some (.ref n0),some (.int t),some (.lst (ks.map en)),some (.lst (ls.map en)),some (.str (txS ks ls)),some (enc_Schema (mkSch ks ls)),some (.str (txS ks ls)),some (enc_Schema (mkSch ks ls)),some (.lst (p.1.map en)),some (.lst (p.2.map en)),some (enc_Schema (mkSch p.1 p.2))]) (pv_call (pa_1 (pv_call (pa_2 (pv_var rfl) (pv_var rfl)) (fv_law_text g2))) (fv_read_schema g2)) rfl (nx_sq (s_sq ?_)))
   refine s_ifF (Pt.is (pt_not (pt_b (pv_call (pa_3 (pv_var rfl) (pv_var rfl) (pv_var rfl)) (fv_told g2)))) rfl) (nx_sq ?_)
   have eqL:∀ {α:Type} [DecidableEq α] [Datum α] (i j:Nat) (a b:List α) (s:Sl) (A:AH),Datum.depth (List α)≤60→s[i]? = some (some (.lst (a.map en)))→s[j]? = some (some (.lst (b.map en)))→Pv (mOp (fEq false) (mVar i) (mVar j)) s A (.bl (eqB a b)) := fun i j a b s A hd h1 h2=>pv_op2 (pv_var h1) (pv_var h2) (q2_eqL (xs := a) (ys := b) il_l (il_r rfl) hd)
   refine s_ifF (Pt.is (pt_b (pv_op2 (pv_ownEq (t := .c "Schema") (pv_var rfl) (pv_var rfl) rfl rfl (by decide) (scx_eq (mkSch p.1 p.2) (mkSch ks ls))) (pv_andV (a := eqB p.1 ks) (b := eqB p.2 ls) (eqL 9 3 p.1 ks _ _ (by decide) rfl rfl) fun _=>eqL 10 4 p.2 ls _ _ (by decide) rfl rfl) (q2_ne (a := eqB (mkSch p.1 p.2).f_kind_entries (mkSch ks ls).f_kind_entries && eqB (mkSch p.1 p.2).f_link_entries (mkSch ks ls).f_link_entries) (b := eqB p.1 ks && eqB p.2 ls) (ue_r rfl) (ue_r rfl) (by decide)))) (by rw [scx_sch,eqB_rt]; rfl)) (hN3 _ _ ⟨_,_,_,rfl,rfl⟩)
  ·rintro s A3 ⟨j9,j10,j11,rfl,rfl⟩
   exact hN _ _ ⟨_,_,_,_,_,_,_,_,_,_,rfl,hp2⟩
 ·rintro s A1 ⟨j2,j3,j4,j5,j6,j7,j8,j9,j10,j11,rfl,hp⟩
  exact nx_sq (u_ret pv_c rfl)
end Lw
namespace Lw
open PySem PySem.Spec PyProof.Rows L2 Am
def sp_law (K:PySem.W.Frag):Sp := fun vs H Q _=>∃ (a:Addr) (ns:List Int),vs=[.ref a]∧SqL K H a (ns.map V.int)∧ns.length≤63∧∀ H',Q (.bl true) H'
theorem pure_law {K:PySem.W.Frag} (H:Hp) (vs:List V) (Q:VK) (E:XK) (h:sp_law K vs H Q E):cS K WF b_law { nx := fun _ H'=>Q .non H',rt := Q } (start N_law vs) H := by
 obtain ⟨a,ns,rfl,hS,hl,q⟩ := h
 exact law_start hS (law_body hl) q
end Lw
namespace Lw
open PySem PySem.Spec PyProof.Rows L2 Fm Am
open PySem.W (Datum Tup T3 T4)
section
variable {P:Program} {w:World} {K:PySem.W.Frag} {mg:Str→Option Value} {base:Heap}
theorem sc_E_BadSchema:SuScope ["self","at"] (defScope s_BadSchema_init) := ⟨rfl,rfl,rfl,by decide +kernel,by decide +kernel,by decide +kernel,by decide +kernel,rfl,rfl⟩
theorem we_E_BadSchema (cda cc:Addr) (A:Around) (outer:List Env) (s:Shared) (H:Hp):PSs (cxS P w K mg base ["self","at"] "BadSchema.__init__" (defScope s_BadSchema_init) (He.ma K (He.ga K "BadSchema") "__init__") cda cc A outer s H) ((defBody s_BadSchema_init).drop 1) (tOst K "at" (tVar 0) (tVar 1)) := (pss_one (ps_ost (pv 0) (pv 1)))
theorem ok_E_BadSchema (hfile : ((P.main.file : Str) == PySem.Challenge.pw_foundormade_k31_schemas_written.main.file) = true) (htop : (P.main.scope.names.lookup ("super" : Str)).isSome = false) (T : Txt K mg w) : FnR P w K mg base CX0 1 (He.ma K (He.ga K "BadSchema") "__init__") (spE1 (He.ga K "BadSchema") "at") :=
 (err_fn (P := P) (w := w) (base := base) T.e_BadSchema sc_E_BadSchema hfile htop T.z_super rfl rfl rfl (fun _ _ _ _ _ _ _ _ us hl=>match us,hl with | [_,_],_=>rfl) (fun _ _ _=>⟨_,rfl⟩) (fun _ _ _=>rfl) (fun cda cc A outer s H=>we_E_BadSchema cda cc A outer s H)).imp fun vs H Q E h=>by
  obtain ⟨a,v,rfl,h1,h2⟩ := h
  exact ⟨a,[v],rfl,rfl,h1,v,rfl, .ref a,rfl,a,_,rfl,T.e_BadSchema.oex,T.xf_BadSchema_at, .inl ⟨h1,h2⟩⟩
theorem sc_E_Unknown:SuScope ["self","name"] (defScope s_Unknown_init) := ⟨rfl,rfl,rfl,by decide +kernel,by decide +kernel,by decide +kernel,by decide +kernel,rfl,rfl⟩
theorem we_E_Unknown (cda cc:Addr) (A:Around) (outer:List Env) (s:Shared) (H:Hp):PSs (cxS P w K mg base ["self","name"] "Unknown.__init__" (defScope s_Unknown_init) (He.ma K (He.ga K "Unknown") "__init__") cda cc A outer s H) ((defBody s_Unknown_init).drop 1) (tOst K "name" (tVar 0) (tVar 1)) := (pss_one (ps_ost (pv 0) (pv 1)))
theorem ok_E_Unknown (hfile : ((P.main.file : Str) == PySem.Challenge.pw_foundormade_k31_schemas_written.main.file) = true) (htop : (P.main.scope.names.lookup ("super" : Str)).isSome = false) (T : Txt K mg w) : FnR P w K mg base CX0 1 (He.ma K (He.ga K "Unknown") "__init__") (spE1 (He.ga K "Unknown") "name") :=
 (err_fn (P := P) (w := w) (base := base) T.e_Unknown sc_E_Unknown hfile htop T.z_super rfl rfl rfl (fun _ _ _ _ _ _ _ _ us hl=>match us,hl with | [_,_],_=>rfl) (fun _ _ _=>⟨_,rfl⟩) (fun _ _ _=>rfl) (fun cda cc A outer s H=>we_E_Unknown cda cc A outer s H)).imp fun vs H Q E h=>by
  obtain ⟨a,v,rfl,h1,h2⟩ := h
  exact ⟨a,[v],rfl,rfl,h1,v,rfl, .ref a,rfl,a,_,rfl,T.e_Unknown.oex,T.xf_Unknown_name, .inl ⟨h1,h2⟩⟩
theorem sc_E_BadLine:SuScope ["self","number"] (defScope s_BadLine_init) := ⟨rfl,rfl,rfl,by decide +kernel,by decide +kernel,by decide +kernel,by decide +kernel,rfl,rfl⟩
theorem we_E_BadLine (cda cc:Addr) (A:Around) (outer:List Env) (s:Shared) (H:Hp):PSs (cxS P w K mg base ["self","number"] "BadLine.__init__" (defScope s_BadLine_init) (He.ma K (He.ga K "BadLine") "__init__") cda cc A outer s H) ((defBody s_BadLine_init).drop 1) (tOst K "number" (tVar 0) (tVar 1)) := (pss_one (ps_ost (pv 0) (pv 1)))
theorem ok_E_BadLine (hfile : ((P.main.file : Str) == PySem.Challenge.pw_foundormade_k31_schemas_written.main.file) = true) (htop : (P.main.scope.names.lookup ("super" : Str)).isSome = false) (T : Txt K mg w) : FnR P w K mg base CX0 1 (He.ma K (He.ga K "BadLine") "__init__") (spE1 (He.ga K "BadLine") "number") :=
 (err_fn (P := P) (w := w) (base := base) T.e_BadLine sc_E_BadLine hfile htop T.z_super rfl rfl rfl (fun _ _ _ _ _ _ _ _ us hl=>match us,hl with | [_,_],_=>rfl) (fun _ _ _=>⟨_,rfl⟩) (fun _ _ _=>rfl) (fun cda cc A outer s H=>we_E_BadLine cda cc A outer s H)).imp fun vs H Q E h=>by
  obtain ⟨a,v,rfl,h1,h2⟩ := h
  exact ⟨a,[v],rfl,rfl,h1,v,rfl, .ref a,rfl,a,_,rfl,T.e_BadLine.oex,T.xf_BadLine_number, .inl ⟨h1,h2⟩⟩
theorem ok_is_word (T:Txt K mg w):GX P w K mg base 1 (He.ga K "is_word") m_is_word :=
 okX T.d_is_word sc_is_word (wk_is_word T)
theorem ok_Schema_eq (T:Txt K mg w):GX P w K mg base 1 (He.ma K (He.ga K "Schema") "__eq__") m_Schema_eq :=
 okX T.d_Schema_eq sc_Schema_eq (wk_Schema_eq T)
theorem ok_law_pool (T:Txt K mg w):GX P w K mg base 1 (He.ga K "_law_pool") m_law_pool := by
 refine Am.FnR.up (fnR_def T.d_law_pool sc_law_pool (fun vs H Q E h=>len_law_pool h) (fun _ _ _ _ _ _ us hl=>match us,hl with | [_],_=>rfl) (t_law_pool K) (fun cdv A outer s H E hr=>wk_law_pool T cdv A outer s H E hr) (fun H vs Q E h=>pure_law_pool K H vs Q E h))
theorem ok_law_draw (T:Txt K mg w):GX P w K mg base 1 (He.ga K "_law_draw") m_law_draw := by
 refine Am.FnR.up (fnR_def T.d_law_draw sc_law_draw (fun vs H Q E h=>len_law_draw h) (fun _ _ _ _ _ _ us hl=>match us,hl with | [_,_],_=>rfl) (t_law_draw K) (fun cdv A outer s H E hr=>wk_law_draw T cdv A outer s H E hr) (fun H vs Q E h=>pure_law_draw K H vs Q E h))
theorem ok_law_text (T:Txt K mg w):GX P w K mg base 1 (He.ga K "_law_text") m_law_text :=
 okX T.d_law_text sc_law_text (wk_law_text T)
theorem ok_read_kind (T:Txt K mg w):GX P w K mg base 2 (He.ga K "read_kind") m_read_kind :=
 okX T.d_read_kind sc_read_kind (wk_read_kind T (ok_is_word T))
theorem ok_read_link (T:Txt K mg w):GX P w K mg base 2 (He.ga K "read_link") m_read_link :=
 okX T.d_read_link sc_read_link (wk_read_link T (ok_is_word T))
theorem ok_read_guard (T:Txt K mg w):GX P w K mg base 2 (He.ga K "read_guard") m_read_guard :=
 okX T.d_read_guard sc_read_guard (wk_read_guard T (ok_is_word T))
theorem ok_law_word (T:Txt K mg w):GX P w K mg base 2 (He.ga K "_law_word") m_law_word :=
 okX T.d_law_word sc_law_word (wk_law_word T (ok_law_draw T))
theorem ok_check_names (hfile : ((P.main.file : Str) == PySem.Challenge.pw_foundormade_k31_schemas_written.main.file) = true) (htop : (P.main.scope.names.lookup ("super" : Str)).isSome = false) (T : Txt K mg w) : GX P w K mg base 3 (He.ga K "check_names") m_check_names :=
 okX T.d_check_names sc_check_names (wk_check_names T (ok_is_word T) (ok_E_BadSchema hfile htop T))
theorem ok_check_owners (hfile : ((P.main.file : Str) == PySem.Challenge.pw_foundormade_k31_schemas_written.main.file) = true) (htop : (P.main.scope.names.lookup ("super" : Str)).isSome = false) (T : Txt K mg w) : GX P w K mg base 3 (He.ga K "check_owners") m_check_owners :=
 okX T.d_check_owners sc_check_owners (wk_check_owners T (ok_E_BadSchema hfile htop T))
theorem ok_Schema_rule (hfile : ((P.main.file : Str) == PySem.Challenge.pw_foundormade_k31_schemas_written.main.file) = true) (htop : (P.main.scope.names.lookup ("super" : Str)).isSome = false) (T : Txt K mg w) : GX P w K mg base 3 (He.ma K (He.ga K "Schema") "rule") m_Schema_rule :=
 okX T.d_Schema_rule sc_Schema_rule (wk_Schema_rule T (ok_E_Unknown hfile htop T))
theorem ok_Schema_ends (hfile : ((P.main.file : Str) == PySem.Challenge.pw_foundormade_k31_schemas_written.main.file) = true) (htop : (P.main.scope.names.lookup ("super" : Str)).isSome = false) (T : Txt K mg w) : GX P w K mg base 3 (He.ma K (He.ga K "Schema") "ends") m_Schema_ends :=
 okX T.d_Schema_ends sc_Schema_ends (wk_Schema_ends T (ok_E_Unknown hfile htop T))
theorem ok_Schema_owner (hfile : ((P.main.file : Str) == PySem.Challenge.pw_foundormade_k31_schemas_written.main.file) = true) (htop : (P.main.scope.names.lookup ("super" : Str)).isSome = false) (T : Txt K mg w) : GX P w K mg base 3 (He.ma K (He.ga K "Schema") "owner") m_Schema_owner :=
 okX T.d_Schema_owner sc_Schema_owner (wk_Schema_owner T (ok_E_Unknown hfile htop T))
theorem ok_read_lines (hfile : ((P.main.file : Str) == PySem.Challenge.pw_foundormade_k31_schemas_written.main.file) = true) (htop : (P.main.scope.names.lookup ("super" : Str)).isSome = false) (T : Txt K mg w) : GX P w K mg base 3 (He.ga K "read_lines") m_read_lines :=
 okX T.d_read_lines sc_read_lines (wk_read_lines T (ok_read_guard T) (ok_read_kind T) (ok_read_link T) (ok_E_BadLine hfile htop T))
theorem ok_law_schema (T:Txt K mg w):GX P w K mg base 3 (He.ga K "_law_schema") m_law_schema :=
 okX T.d_law_schema sc_law_schema (wk_law_schema T (ok_law_draw T) (ok_law_word T))
theorem ok_Schema_init (hfile : ((P.main.file : Str) == PySem.Challenge.pw_foundormade_k31_schemas_written.main.file) = true) (htop : (P.main.scope.names.lookup ("super" : Str)).isSome = false) (T : Txt K mg w) : GX P w K mg base 4 (He.ma K (He.ga K "Schema") "__init__") m_Schema_init :=
 okX T.d_Schema_init sc_Schema_init (wk_Schema_init T (ok_check_names hfile htop T) (ok_check_owners hfile htop T) (ok_E_BadSchema hfile htop T))
theorem ok_write_schema (hfile : ((P.main.file : Str) == PySem.Challenge.pw_foundormade_k31_schemas_written.main.file) = true) (htop : (P.main.scope.names.lookup ("super" : Str)).isSome = false) (T : Txt K mg w) : GX P w K mg base 4 (He.ga K "write_schema") m_write_schema :=
 okX T.d_write_schema sc_write_schema (wk_write_schema T (ok_Schema_ends hfile htop T) (ok_Schema_owner hfile htop T) (ok_Schema_rule hfile htop T))
theorem ok_law_told (hfile : ((P.main.file : Str) == PySem.Challenge.pw_foundormade_k31_schemas_written.main.file) = true) (htop : (P.main.scope.names.lookup ("super" : Str)).isSome = false) (T : Txt K mg w) : GX P w K mg base 4 (He.ga K "_law_told") m_law_told :=
 okX T.d_law_told sc_law_told (wk_law_told T (ok_Schema_ends hfile htop T) (ok_Schema_owner hfile htop T) (ok_Schema_rule hfile htop T))
theorem ok_read_schema (hfile : ((P.main.file : Str) == PySem.Challenge.pw_foundormade_k31_schemas_written.main.file) = true) (htop : (P.main.scope.names.lookup ("super" : Str)).isSome = false) (T : Txt K mg w) : GX P w K mg base 6 (He.ga K "read_schema") m_read_schema :=
 okX T.d_read_schema sc_read_schema (wk_read_schema T (ok_Schema_init hfile htop T) (ok_read_lines hfile htop T))
end
theorem law_ok {P : Program} {w : World} {K : PySem.W.Frag} {h : Heap} {mg : Str → Option Value} {f : Addr} (hfile : ((P.main.file : Str) == PySem.Challenge.pw_foundormade_k31_schemas_written.main.file) = true) (htop : (P.main.scope.names.lookup ("super" : Str)).isSome = false) (X : K.In h) (G : h.Ns mainGlobals mg) (hfa : mg ("law" : Str) = some (.ref f)) (c : Fm.obsX fa fn fe ts K = Fm.valX fn fe ts w) :
  ∃ fd:FuncData,(∀ (s:Shared) (v:Value),BindsTo s fd ⟨[v],[]⟩ [("_law_script",v)])∧∀ base:Heap,K.In base→base.Ns mainGlobals mg→FnOk P w K mg base CX0 7 f fd ["_law_script"] (sp_law K) := by
 have T := txt_of X G c
 obtain ⟨fd,F⟩ := T.d_law
 have e := hfa.symm.trans T.g_law
 cases e
 refine ⟨fd,fun s v=>fun_bindsTo (ps := ["_law_script"]) F (fun _ _ _ _ _ _ us hl=>match us,hl with | [_],_=>rfl) s [v] rfl,fun base _ _=>F.ok sc_law (fun vs H Q E h=>?_) fun cdv A outer s H vs Q E hr h=>⟨cS K WF b_law,wk_law T (ok_Schema_eq T) (ok_Schema_init hfile htop T) (ok_law_pool T) (ok_law_schema T) (ok_law_text T) (ok_law_told hfile htop T) (ok_read_schema hfile htop T) (ok_write_schema hfile htop T) cdv A outer s H E hr,pure_law H vs Q E h⟩⟩
 obtain ⟨_,_,rfl,_⟩ := h
 rfl
end Lw
open PySem PySem.W PySem.Calls PyProof.Rows
theorem PySem.Challenge.cw_foundormade_k31_schemas_written_holds : PySem.Challenge.rw_foundormade_k31_schemas_written.Holds := by
 refine PySem.W.holds_law Lw.topL fun _=>Lw.topH ?hc
 case hc =>
  refine L2.walk_ofE (l := PySem.Challenge.rw_foundormade_k31_schemas_written) (n := 63) (k := 7) (x := "_law_script") (CX := L2.CX0) rfl (by decide) Lw.topDf ⟨rfl,by decide,by decide⟩ ?F (fun _ _ _ _ z => z)
  intro w mg fa h Y G hmg0
  obtain ⟨K,KX,c⟩ := Y
  have hmg:mg ("law":PySem.Str)=some (.ref fa) := by
   rw [← Lw.topNm]
   exact hmg0
  obtain ⟨fd,hb,hF⟩ := Lw.law_ok (P := (PySem.Challenge.rw_foundormade_k31_schemas_written).prog) (w := w) (by decide +kernel) (by decide +kernel) KX G hmg c
  exact ⟨K,fd,Lw.sp_law K,KX,hb,fun H a ns hl _ hS=>⟨a,ns,rfl,hS,hl,fun _=>rfl⟩,hF⟩
