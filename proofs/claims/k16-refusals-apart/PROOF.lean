import PyProof.Rows.All
import Wide.All
import OpenK.AllK
import Wide.FinOn
import HandS.ForMost
import HandS.Exc
import HandS.Conv
import HandS.TupAny
import HandS.HeadEnd
import HandS.ExcInit
import HandS.Head0
import HandS.Head1
import HandS.Head2
import HandS.HeadHook1
import HandS.Replace
import KE.GoesMore
import HandS.More
import HandS.Wide
import HandS.Deep
import HandS.IsInst
import HandS.SortInts
import PyProof.StrOps2
import KE.DataCmp
import KE.DatumOrd
import PyProof.ReprRoads
import HandS.Zip
import KE.KDictZip
import HandS.Rev
import HandS.Style
import KE.SortData
import HandS.SetFor
import HandS.SortKw
import KE.KDictList
import HandS.ExcValue
import HandS.Iter
import HandS.Set
import HandS.Strs
import HandS.SetTxt0
import HandS.TupSets
import HandS.ExcField
import HandS.ExcIs
import HandS.SetKeys
import HandS.Comp
import HandS.ExcOwn
import KE.GoesComp
import KE.KAsSuite
import HandS.ForExc
import HandS.TryMany
import HandS.HotCalls
import PySem.Challenge.RW_arrowtiers_k16_refusals_apart
set_option Elab.async false
set_option linter.all false
set_option maxRecDepth 100000
set_option maxHeartbeats 4000000
namespace VS
open PySem PySem.Spec PyProof.Rows L2
inductive D where
 | non | bl (b:Bool) | int (i:Int) | str (x:Str)
 | tup (ds:List D)
 | lst (m:Bool) (ds:List D)
 | dic (m:Bool) (ks:List Key) (ds:List D)
 | obj (m:Bool) (c:Str) (ks:List Str) (ds:List D)
 | err (c:Str) (ks:List Str) (ds:List D)
noncomputable def ErO (C:Addr) (od:Option Addr) (a:Addr):HO:=.ext fun h=>∃ (oe:Obj) (vs:Array Value),h.get? a=some oe∧Zc (.ref C) od oe∧oe.data=.fields vs
noncomputable def ErN (P:Addr→HO→Prop) (a C:Addr) (kv:List (Str×V)):Prop:=∃ od,P a (ErO C od a)∧(match od with | none=>kv=[] | some dx=>P dx (.xd kv))
theorem ErN.mono {P Q:Addr→HO→Prop} {a C:Addr} {kv:List (Str×V)} (h:ErN P a C kv) (k:∀ b o,P b o→Q b o):ErN Q a C kv:=by
 obtain ⟨od,h1,h2⟩:=h;refine ⟨od,k _ _ h1,?_⟩
 cases od with
 | none=>exact h2
 | some dx=>exact k _ _ h2
noncomputable abbrev FP:=Addr→Prop
noncomputable abbrev No:FP:=fun _=>False
noncomputable def Sub (F G:FP):Prop:=∀ a,F a→G a
noncomputable def Dj (F G:FP):Prop:=∀ a,F a→G a→False
noncomputable def Cup (F G:FP):FP:=fun a=>F a∨G a
noncomputable def Dif (F G:FP):FP:=fun a=>F a∧¬ G a
noncomputable def Node (S H:Hp) (m:Bool) (a:Addr) (o:HO) (F F':FP):Prop:=
 match m with
 | true=>H a=some o∧F a∧¬ F' a∧Sub F' F
 | false=>S a=some o∧∀ b,¬ F' b
section
variable (ct:Str→Option Addr)
mutual
noncomputable def Rep (S H:Hp):D→V→FP→Prop
 | .non,v,_=>v=.non
 | .bl b,v,_=>v=.bl b
 | .int i,v,_=>v=.int i
 | .str x,v,_=>v=.str x
 | .tup ds,v,F=>∃ a vs,v=.ref a∧H a=some (.tup vs)∧Reps S H ds vs F
 | .lst m ds,v,F=>∃ a vs F',v=.ref a∧Node S H m a (.lst vs) F F'∧Reps S H ds vs F'
 | .dic m ks ds,v,F=>∃ a vs F',v=.ref a∧ks.length=ds.length∧Node S H m a (.dK (ks.zip vs)) F F'∧Reps S H ds vs F'
 | .obj m c ks ds,v,F=>∃ a C dx vs F',v=.ref a∧ct c=some C∧ks.length=ds.length∧Node S H m a (.ins C dx (ks.zip vs)) F F'∧Reps S H ds vs F'
 | .err c ks ds,v,_=>∃ a C vs,v=.ref a∧ct c=some C∧ks.length=ds.length∧ErN (fun b o=>S b=some o) a C (ks.zip vs)∧Reps S H ds vs No
noncomputable def Reps (S H:Hp):List D→List V→FP→Prop
 | [],vs,_=>vs=[]
 | d ::ds,vs,F=>∃ v vr F1 F2,vs=v ::vr∧Sub F1 F∧Sub F2 F∧Dj F1 F2∧Rep S H d v F1∧Reps S H ds vr F2
end
mutual
noncomputable def Vw (H:Hp) (F:FP):D→V→Prop
 | .non,v=>v=.non
 | .bl b,v=>v=.bl b
 | .int i,v=>v=.int i
 | .str x,v=>v=.str x
 | .tup ds,v=>∃ a vs,v=.ref a∧H a=some (.tup vs)∧Vws H F ds vs
 | .lst _ ds,v=>∃ a vs,v=.ref a∧Rd H a (.lst vs)∧¬ F a∧Vws H F ds vs
 | .dic _ ks ds,v=>∃ a vs,v=.ref a∧ks.length=ds.length∧Rd H a (.dK (ks.zip vs))∧¬ F a∧Vws H F ds vs
 | .obj _ c ks ds,v=>∃ a C dx vs,v=.ref a∧ct c=some C∧ks.length=ds.length∧H a=some (.ins C dx (ks.zip vs))∧¬ F a∧Vws H F ds vs
 | .err c ks ds,v=>∃ a C vs,v=.ref a∧ct c=some C∧ks.length=ds.length∧ErN (fun b o=>H b=some o∧¬ F b) a C (ks.zip vs)∧Vws H F ds vs
noncomputable def Vws (H:Hp) (F:FP):List D→List V→Prop
 | [],vs=>vs=[]
 | d ::ds,vs=>∃ v vr,vs=v ::vr∧Vw H F d v∧Vws H F ds vr
end
end
mutual
noncomputable def strip:D→D
 | .non=>.non | .bl b=>.bl b | .int i=>.int i | .str x=>.str x
 | .tup ds=>.tup (strips ds)
 | .lst _ ds=>.lst false (strips ds)
 | .dic _ ks ds=>.dic false ks (strips ds)
 | .obj _ c ks ds=>.obj false c ks (strips ds)
 | .err c ks ds=>.err c ks (strips ds)
noncomputable def strips:List D→List D
 | []=>[]
 | d ::ds=>strip d ::strips ds
end
mutual
noncomputable def noOwn:D→Bool
 | .tup ds=>noOwns ds
 | .lst m ds=>!m && noOwns ds
 | .dic m _ ds=>!m && noOwns ds
 | .obj m _ _ ds=>!m && noOwns ds
 | .err _ _ ds=>noOwns ds
 | _=>true
noncomputable def noOwns:List D→Bool
 | []=>true
 | d ::ds=>noOwn d && noOwns ds
end
mutual
noncomputable def flat:D→Bool
 | .tup ds=>flats ds
 | .lst _ _=>false
 | .dic _ _ _=>false
 | .obj _ _ _ _=>false
 | .err _ _ _=>false
 | _=>true
noncomputable def flats:List D→Bool
 | []=>true
 | d ::ds=>flat d && flats ds
end
end VS
namespace VS
open PySem PySem.Spec PyProof.Rows L2
theorem Zan:∀ ds:List D,(strips ds).length=ds.length
 | []=>rfl
 | d ::ds=>by rw [strips,List.length_cons,List.length_cons,Zan ds]
section
variable {ct:Str→Option Addr} {S S' H H':Hp} {F F' G:FP}
theorem Sub.refl (F:FP):Sub F F:=fun _ h=>h
theorem Sub.trans {A B C:FP} (h:Sub A B) (k:Sub B C):Sub A C:=fun a x=>k a (h a x)
theorem Dj.symm {A B:FP} (h:Dj A B):Dj B A:=fun a x y=>h a y x
theorem Dj.mono {A B A' B':FP} (h:Dj A B) (x:Sub A' A) (y:Sub B' B):Dj A' B':=fun a p q=>h a (x a p) (y a q)
theorem Dj.no {A:FP}:Dj No A:=fun _ h _=>h
theorem Sub.no {A:FP}:Sub No A:=fun _ h=>h.elim
theorem Sub.cupL {A B:FP}:Sub A (Cup A B):=fun _ h=>.inl h
theorem Sub.cupR {A B:FP}:Sub B (Cup A B):=fun _ h=>.inr h
theorem Node.mono {m:Bool} {a:Addr} {o:HO} (h:Node S H m a o F F') (k:Sub F G):Node S H m a o G F':=by
 cases m with
 | true=>exact ⟨h.1,k _ h.2.1,h.2.2.1,h.2.2.2.trans k⟩
 | false=>exact h
mutual
theorem Rep.mono:∀ {d:D} {v:V} {F G:FP},Rep ct S H d v F→Sub F G→Rep ct S H d v G
 | .non,_,_,_,h,_=>h
 | .bl _,_,_,_,h,_=>h
 | .int _,_,_,_,h,_=>h
 | .str _,_,_,_,h,_=>h
 | .tup ds,_,_,_,⟨a,vs,e,h1,h2⟩,k=>⟨a,vs,e,h1,Reps.mono h2 k⟩
 | .lst m ds,_,_,_,⟨a,vs,F',e,h1,h2⟩,k=>⟨a,vs,F',e,h1.mono k,h2⟩
 | .dic m ks ds,_,_,_,⟨a,vs,F',e,l,h1,h2⟩,k=>⟨a,vs,F',e,l,h1.mono k,h2⟩
 | .obj m c ks ds,_,_,_,⟨a,C,dx,vs,F',e,hc,l,h1,h2⟩,k=>⟨a,C,dx,vs,F',e,hc,l,h1.mono k,h2⟩
 | .err _ _ _,_,_,_,h,_=>h
theorem Reps.mono:∀ {ds:List D} {vs:List V} {F G:FP},Reps ct S H ds vs F→Sub F G→Reps ct S H ds vs G
 | [],_,_,_,h,_=>h
 | d ::ds,_,_,_,⟨v,vr,F1,F2,e,s1,s2,dj,h1,h2⟩,k=>⟨v,vr,F1,F2,e,s1.trans k,s2.trans k,dj,h1,h2⟩
end
theorem Reps.len:∀ {ds:List D} {vs:List V} {F:FP},Reps ct S H ds vs F→ds.length=vs.length
 | [],_,_,h=>by
  have e:_=[]:=h;rw [e]; rfl
 | d ::ds,_,_,⟨v,vr,F1,F2,e,s1,s2,dj,h1,h2⟩=>by
  rw [e,List.length_cons,List.length_cons,Reps.len h2]
theorem Vws.len:∀ {ds:List D} {vs:List V} {F:FP},Vws ct H F ds vs→ds.length=vs.length
 | [],_,_,h=>by
  have e:_=[]:=h;rw [e]; rfl
 | d ::ds,_,_,⟨v,vr,e,h1,h2⟩=>by
  rw [e,List.length_cons,List.length_cons,Vws.len h2]
theorem Node.tr {m:Bool} {a:Addr} {o:HO} (h:Node S H m a o F F') (hS:∀ a o,S a=some o→S' a=some o) (hF:∀ a o,H a=some o→F a→H' a=some o):Node S' H' m a o F F':=by
 cases m with
 | true=>exact ⟨hF _ _ h.1 h.2.1,h.2⟩
 | false=>exact ⟨hS _ _ h.1,h.2⟩
theorem Node.sub {m:Bool} {a:Addr} {o:HO} (h:Node S H m a o F F'):Sub F' F:=by
 cases m with
 | true=>exact h.2.2.2
 | false=>exact fun b hb=>(h.2 b hb).elim
mutual
theorem Rep.tr (hS:∀ a o,S a=some o→S' a=some o) (hT:∀ a vs,H a=some (.tup vs)→H' a=some (.tup vs)):∀ {d:D} {v:V} {F:FP},Rep ct S H d v F→(∀ a o,H a=some o→F a→H' a=some o)→Rep ct S' H' d v F
 | .non,_,_,h,_=>h
 | .bl _,_,_,h,_=>h
 | .int _,_,_,h,_=>h
 | .str _,_,_,h,_=>h
 | .tup ds,_,_,⟨a,vs,e,h1,h2⟩,k=>⟨a,vs,e,hT _ _ h1,Reps.tr hS hT h2 k⟩
 | .lst m ds,_,_,⟨a,vs,F',e,h1,h2⟩,k=>⟨a,vs,F',e,h1.tr hS k,Reps.tr hS hT h2 fun a o x y=>k a o x (h1.sub a y)⟩
 | .dic m ks ds,_,_,⟨a,vs,F',e,l,h1,h2⟩,k=>⟨a,vs,F',e,l,h1.tr hS k,Reps.tr hS hT h2 fun a o x y=>k a o x (h1.sub a y)⟩
 | .obj m c ks ds,_,_,⟨a,C,dx,vs,F',e,hc,l,h1,h2⟩,k=>⟨a,C,dx,vs,F',e,hc,l,h1.tr hS k,Reps.tr hS hT h2 fun a o x y=>k a o x (h1.sub a y)⟩
 | .err c ks ds,_,_,⟨a,C,vs,e,hc,l,h1,h2⟩,k=>⟨a,C,vs,e,hc,l,h1.mono fun b o z=>hS b o z,Reps.tr hS hT h2 fun a o x y=>y.elim⟩
theorem Reps.tr (hS:∀ a o,S a=some o→S' a=some o) (hT:∀ a vs,H a=some (.tup vs)→H' a=some (.tup vs)):∀ {ds:List D} {vs:List V} {F:FP},Reps ct S H ds vs F→(∀ a o,H a=some o→F a→H' a=some o)→Reps ct S' H' ds vs F
 | [],_,_,h,_=>h
 | d ::ds,_,_,⟨v,vr,F1,F2,e,s1,s2,dj,h1,h2⟩,k=>⟨v,vr,F1,F2,e,s1,s2,dj,Rep.tr hS hT h1 fun a o x y=>k a o x (s1 a y),Reps.tr hS hT h2 fun a o x y=>k a o x (s2 a y)⟩
end
theorem ZcB {a:Addr} {u:HO} (h:Rd H a u) (k:∀ o,H a=some o→H' a=some o):Rd H' a u:=by
 rcases h with h | ⟨o,h⟩
 ·exact .inl (k _ h)
 ·exact .inr ⟨o,k _ h⟩
theorem ZbF {a:Addr} {o:HO} (hN:∀ a,F' a→F a∨H a=none) (n:¬ F a) (h:H a=some o):¬ F' a:=fun q=>by
 rcases hN a q with z | z
 ·exact n z
 ·rw [z] at h; cases h
theorem Zd2 {a:Addr} {o:HO} (hN:∀ a,F' a→F a∨H a=none) (n:¬ F a) (h:Rd H a o):¬ F' a:=by
 rcases h with h | ⟨_,h⟩
 ·exact ZbF hN n h
 ·exact ZbF hN n h
mutual
theorem Vw.tr (hT:∀ a vs,H a=some (.tup vs)→H' a=some (.tup vs)) (hF:∀ a o,H a=some o→¬ F a→H' a=some o) (hN:∀ a,F' a→F a∨H a=none):∀ {d:D} {v:V},Vw ct H F d v→Vw ct H' F' d v
 | .non,_,h=>h
 | .bl _,_,h=>h
 | .int _,_,h=>h
 | .str _,_,h=>h
 | .tup ds,_,⟨a,vs,e,h1,h2⟩=>⟨a,vs,e,hT _ _ h1,Vws.tr hT hF hN h2⟩
 | .lst m ds,_,⟨a,vs,e,h1,n,h2⟩=>⟨a,vs,e,ZcB h1 fun o x=>hF a o x n,Zd2 hN n h1,Vws.tr hT hF hN h2⟩
 | .dic m ks ds,_,⟨a,vs,e,l,h1,n,h2⟩=>⟨a,vs,e,l,ZcB h1 fun o x=>hF a o x n,Zd2 hN n h1,Vws.tr hT hF hN h2⟩
 | .obj m c ks ds,_,⟨a,C,dx,vs,e,hc,l,h1,n,h2⟩=>⟨a,C,dx,vs,e,hc,l,hF _ _ h1 n,ZbF hN n h1,Vws.tr hT hF hN h2⟩
 | .err c ks ds,_,⟨a,C,vs,e,hc,l,h1,h2⟩=>⟨a,C,vs,e,hc,l,h1.mono fun b o z=>⟨hF b o z.1 z.2,ZbF hN z.2 z.1⟩,Vws.tr hT hF hN h2⟩
theorem Vws.tr (hT:∀ a vs,H a=some (.tup vs)→H' a=some (.tup vs)) (hF:∀ a o,H a=some o→¬ F a→H' a=some o) (hN:∀ a,F' a→F a∨H a=none):∀ {ds:List D} {vs:List V},Vws ct H F ds vs→Vws ct H' F' ds vs
 | [],_,h=>h
 | d ::ds,_,⟨v,vr,e,h1,h2⟩=>⟨v,vr,e,Vw.tr hT hF hN h1,Vws.tr hT hF hN h2⟩
end
theorem Node.rd {m:Bool} {a:Addr} {o:HO} (hS:∀ a o,S a=some o→H a=some o) (hG:∀ a,G a→S a=none) (dj:Dj F G) (h:Node S H m a o F F'):H a=some o∧¬ G a:=by
 cases m with
 | true=>exact ⟨h.1,fun q=>dj _ h.2.1 q⟩
 | false=>exact ⟨hS _ _ h.1,fun q=>by
   have:=hG _ q
   rw [h.1] at this; cases this⟩
mutual
theorem Rep.vw (hS:∀ a o,S a=some o→H a=some o) (hG:∀ a,G a→S a=none):∀ {d:D} {v:V} {F:FP},Dj F G→Rep ct S H d v F→Vw ct H G d v
 | .non,_,_,_,h=>h
 | .bl _,_,_,_,h=>h
 | .int _,_,_,_,h=>h
 | .str _,_,_,_,h=>h
 | .tup ds,_,_,dj,⟨a,vs,e,h1,h2⟩=>⟨a,vs,e,h1,Reps.vw hS hG dj h2⟩
 | .lst m ds,_,_,dj,⟨a,vs,F',e,h1,h2⟩=>⟨a,vs,e,.inl (h1.rd hS hG dj).1,(h1.rd hS hG dj).2,Reps.vw hS hG (dj.mono h1.sub (Sub.refl _)) h2⟩
 | .dic m ks ds,_,_,dj,⟨a,vs,F',e,l,h1,h2⟩=>⟨a,vs,e,l,.inl (h1.rd hS hG dj).1,(h1.rd hS hG dj).2,Reps.vw hS hG (dj.mono h1.sub (Sub.refl _)) h2⟩
 | .obj m c ks ds,_,_,dj,⟨a,C,dx,vs,F',e,hc,l,h1,h2⟩=>⟨a,C,dx,vs,e,hc,l,(h1.rd hS hG dj).1,(h1.rd hS hG dj).2,Reps.vw hS hG (dj.mono h1.sub (Sub.refl _)) h2⟩
 | .err c ks ds,_,_,dj,⟨a,C,vs,e,hc,l,h1,h2⟩=>⟨a,C,vs,e,hc,l,h1.mono fun b o z=>⟨hS b o z,fun q=>by
   have:=hG b q
   rw [z] at this; cases this⟩,Reps.vw hS hG Dj.no h2⟩
theorem Reps.vw (hS:∀ a o,S a=some o→H a=some o) (hG:∀ a,G a→S a=none):∀ {ds:List D} {vs:List V} {F:FP},Dj F G→Reps ct S H ds vs F→Vws ct H G ds vs
 | [],_,_,_,h=>h
 | d ::ds,_,_,dj,⟨v,vr,F1,F2,e,s1,s2,_,h1,h2⟩=>⟨v,vr,e,Rep.vw hS hG (dj.mono s1 (Sub.refl _)) h1,Reps.vw hS hG (dj.mono s2 (Sub.refl _)) h2⟩
end
mutual
theorem Vw.strip:∀ {d:D} {v:V},Vw ct H F d v→Vw ct H F (strip d) v
 | .non,_,h=>h
 | .bl _,_,h=>h
 | .int _,_,h=>h
 | .str _,_,h=>h
 | .tup ds,_,⟨a,vs,e,h1,h2⟩=>⟨a,vs,e,h1,Vws.strip h2⟩
 | .lst m ds,_,⟨a,vs,e,h1,n,h2⟩=>⟨a,vs,e,h1,n,Vws.strip h2⟩
 | .dic m ks ds,_,⟨a,vs,e,l,h1,n,h2⟩=>⟨a,vs,e,l.trans (Zan ds).symm,h1,n,Vws.strip h2⟩
 | .obj m c ks ds,_,⟨a,C,dx,vs,e,hc,l,h1,n,h2⟩=>⟨a,C,dx,vs,e,hc,l.trans (Zan ds).symm,h1,n,Vws.strip h2⟩
 | .err c ks ds,_,⟨a,C,vs,e,hc,l,h1,h2⟩=>⟨a,C,vs,e,hc,l.trans (Zan ds).symm,h1,Vws.strip h2⟩
theorem Vws.strip:∀ {ds:List D} {vs:List V},Vws ct H F ds vs→Vws ct H F (strips ds) vs
 | [],_,h=>h
 | d ::ds,_,⟨v,vr,e,h1,h2⟩=>⟨v,vr,e,Vw.strip h1,Vws.strip h2⟩
end
mutual
theorem Vw.flat:∀ {d:D} {v:V} {G:FP},flat d=true→Vw ct H F d v→Rep ct S H d v G
 | .non,_,_,_,h=>h
 | .bl _,_,_,_,h=>h
 | .int _,_,_,_,h=>h
 | .str _,_,_,_,h=>h
 | .tup ds,_,_,f,⟨a,vs,e,h1,h2⟩=>⟨a,vs,e,h1,Vws.flat f h2⟩
 | .lst _ _,_,_,f,_=>by cases f
 | .dic _ _ _,_,_,f,_=>by cases f
 | .obj _ _ _ _,_,_,f,_=>by cases f
 | .err _ _ _,_,_,f,_=>by cases f
theorem Vws.flat:∀ {ds:List D} {vs:List V} {G:FP},flats ds=true→Vws ct H F ds vs→Reps ct S H ds vs G
 | [],_,_,_,h=>h
 | d ::ds,_,_,f,⟨v,vr,e,h1,h2⟩=>by
  have f2:=Bool.and_eq_true_iff.mp f;exact ⟨v,vr,No,No,e,Sub.no,Sub.no,Dj.no,Vw.flat f2.1 h1,Vws.flat f2.2 h2⟩
end
mutual
theorem Zd3:∀ {d:D},flat d=true→strip d=d
 | .non,_=>rfl
 | .bl _,_=>rfl
 | .int _,_=>rfl
 | .str _,_=>rfl
 | .tup ds,f=>by rw [strip,flats_strip f]
 | .lst _ _,f=>by cases f
 | .dic _ _ _,f=>by cases f
 | .obj _ _ _ _,f=>by cases f
 | .err _ _ _,f=>by cases f
theorem flats_strip:∀ {ds:List D},flats ds=true→strips ds=ds
 | [],_=>rfl
 | d ::ds,f=>by
  have f2:=Bool.and_eq_true_iff.mp f;rw [strips,Zd3 f2.1,flats_strip f2.2]
end
mutual
theorem Zgl:∀ {d:D},noOwn d=true→strip d=d
 | .non,_=>rfl
 | .bl _,_=>rfl
 | .int _,_=>rfl
 | .str _,_=>rfl
 | .tup ds,f=>by rw [strip,noOwns_strip f]
 | .lst true _,f=>by cases f
 | .lst false _,f=>by rw [strip,noOwns_strip f]
 | .dic true _ _,f=>by cases f
 | .dic false _ _,f=>by rw [strip,noOwns_strip f]
 | .obj true _ _ _,f=>by cases f
 | .obj false _ _ _,f=>by rw [strip,noOwns_strip f]
 | .err _ _ _,f=>by rw [strip,noOwns_strip f]
theorem noOwns_strip:∀ {ds:List D},noOwns ds=true→strips ds=ds
 | [],_=>rfl
 | d ::ds,f=>by
  have f2:=Bool.and_eq_true_iff.mp f;rw [strips,Zgl f2.1,noOwns_strip f2.2]
end
mutual
theorem ZK:∀ (d:D),noOwn (strip d)=true
 | .non=>rfl
 | .bl _=>rfl
 | .int _=>rfl
 | .str _=>rfl
 | .tup ds=>strips_noOwn ds
 | .lst _ ds=>by show (true && noOwns (strips ds))=true; rw [strips_noOwn ds]; rfl
 | .dic _ _ ds=>by show (true && noOwns (strips ds))=true; rw [strips_noOwn ds]; rfl
 | .obj _ _ _ ds=>by show (true && noOwns (strips ds))=true; rw [strips_noOwn ds]; rfl
 | .err _ _ ds=>strips_noOwn ds
theorem strips_noOwn:∀ (ds:List D),noOwns (strips ds)=true
 | []=>rfl
 | d ::ds=>by show (noOwn (strip d) && noOwns (strips ds))=true; rw [ZK d,strips_noOwn ds]; rfl
end
mutual
theorem Rep.noown:∀ {d:D} {v:V} {F:FP},noOwn d=true→Rep ct S H d v F→Rep ct S H d v No
 | .non,_,_,_,h=>h
 | .bl _,_,_,_,h=>h
 | .int _,_,_,_,h=>h
 | .str _,_,_,_,h=>h
 | .tup ds,_,_,n,⟨a,vs,e,h1,h2⟩=>⟨a,vs,e,h1,Reps.noown n h2⟩
 | .lst true ds,_,_,n,_=>by cases n
 | .lst false ds,_,_,n,⟨a,vs,F',e,h1,h2⟩=>⟨a,vs,F',e,h1,h2⟩
 | .dic true _ ds,_,_,n,_=>by cases n
 | .dic false ks ds,_,_,n,⟨a,vs,F',e,l,h1,h2⟩=>⟨a,vs,F',e,l,h1,h2⟩
 | .obj true _ _ ds,_,_,n,_=>by cases n
 | .obj false c ks ds,_,_,n,⟨a,C,dx,vs,F',e,hc,l,h1,h2⟩=>⟨a,C,dx,vs,F',e,hc,l,h1,h2⟩
 | .err _ _ _,_,_,_,h=>h
theorem Reps.noown:∀ {ds:List D} {vs:List V} {F:FP},noOwns ds=true→Reps ct S H ds vs F→Reps ct S H ds vs No
 | [],_,_,_,h=>h
 | d ::ds,_,_,n,⟨v,vr,F1,F2,e,s1,s2,dj,h1,h2⟩=>by
  have n2:=Bool.and_eq_true_iff.mp n;exact ⟨v,vr,No,No,e,Sub.no,Sub.no,Dj.no,Rep.noown n2.1 h1,Reps.noown n2.2 h2⟩
end
theorem Node.freeze {m:Bool} {a:Addr} {o:HO} (hS:∀ a o,S a=some o→S' a=some o) (hF:∀ a o,F a→H a=some o→S' a=some o) (h:Node S H m a o F F'):Node S' H false a o F No:=by
 cases m with
 | true=>exact ⟨hF _ _ h.2.1 h.1,fun _ z=>z⟩
 | false=>exact ⟨hS _ _ h.1,fun _ z=>z⟩
mutual
theorem Rep.freeze (hS:∀ a o,S a=some o→S' a=some o):∀ {d:D} {v:V} {F G:FP},(∀ a o,F a→H a=some o→S' a=some o)→Rep ct S H d v F→Rep ct S' H (VS.strip d) v G
 | .non,_,_,_,_,h=>h
 | .bl _,_,_,_,_,h=>h
 | .int _,_,_,_,_,h=>h
 | .str _,_,_,_,_,h=>h
 | .tup ds,_,_,_,hF,⟨a,vs,e,h1,h2⟩=>⟨a,vs,e,h1,Reps.freeze hS hF h2⟩
 | .lst m ds,_,_,_,hF,⟨a,vs,F',e,h1,h2⟩=>⟨a,vs,No,e,(h1.freeze hS hF:Node S' H false a _ _ No),Reps.freeze hS (fun a o x y=>hF a o (h1.sub a x) y) h2⟩
 | .dic m ks ds,_,_,_,hF,⟨a,vs,F',e,l,h1,h2⟩=>⟨a,vs,No,e,l.trans (Zan ds).symm,(h1.freeze hS hF:Node S' H false a _ _ No),Reps.freeze hS (fun a o x y=>hF a o (h1.sub a x) y) h2⟩
 | .obj m c ks ds,_,_,_,hF,⟨a,C,dx,vs,F',e,hc,l,h1,h2⟩=>⟨a,C,dx,vs,No,e,hc,l.trans (Zan ds).symm,(h1.freeze hS hF:Node S' H false a _ _ No),Reps.freeze hS (fun a o x y=>hF a o (h1.sub a x) y) h2⟩
 | .err c ks ds,_,_,_,hF,⟨a,C,vs,e,hc,l,h1,h2⟩=>⟨a,C,vs,e,hc,l.trans (Zan ds).symm,h1.mono fun b o z=>hS b o z,Reps.freeze hS (fun a o x y=>x.elim) h2⟩
theorem Reps.freeze (hS:∀ a o,S a=some o→S' a=some o):∀ {ds:List D} {vs:List V} {F G:FP},(∀ a o,F a→H a=some o→S' a=some o)→Reps ct S H ds vs F→Reps ct S' H (VS.strips ds) vs G
 | [],_,_,_,_,h=>h
 | d ::ds,_,_,_,hF,⟨v,vr,F1,F2,e,s1,s2,dj,h1,h2⟩=>⟨v,vr,No,No,e,Sub.no,Sub.no,Dj.no,Rep.freeze hS (fun a o x y=>hF a o (s1 a x) y) h1,Reps.freeze hS (fun a o x y=>hF a o (s2 a x) y) h2⟩
end
end
end VS
namespace VS
open PySem PySem.Spec PyProof.Rows L2
structure WOk (S H:Hp) (F:FP):Prop where
 sub : ∀ a o,S a=some o→H a=some o
 out : ∀ a,F a→S a=none∧H a≠none
structure Tr (S H:Hp) (F:FP) (S' H':Hp) (F':FP):Prop where
 ext : ∀ a o,S a=some o→S' a=some o
 frm : ∀ a o,H a=some o→¬ F a→H' a=some o
 tup : ∀ a vs,H a=some (.tup vs)→H' a=some (.tup vs)
 new : ∀ a,F' a→F a∨H a=none
 nws : ∀ a o,S' a=some o→S a=some o∨F a∨H a=none
 ins : ∀ a C dx kv,H a=some (.ins C dx kv)→∃ more,H' a=some (.ins C dx (kv++more))
theorem Tr.refl {S H:Hp} {F F':FP} (h:Sub F' F):Tr S H F S H F':=⟨fun _ _ h=>h,fun _ _ h _=>h,fun _ _ h=>h,fun a x=>.inl (h a x),fun _ _ h=>.inl h,fun _ _ _ _ h=>⟨[],by rw [List.append_nil]; exact h⟩⟩
theorem Tr.trans {S H S1 H1 S2 H2:Hp} {F F1 F2:FP} (t:Tr S H F S1 H1 F1) (u:Tr S1 H1 F1 S2 H2 F2):Tr S H F S2 H2 F2:=by
 have back:∀ a,H1 a=none→F a∨H a=none:=fun a z=>by
  by_cases hF:F a
  ·exact .inl hF
  ·cases e:H a with
   | none=>exact .inr rfl
   | some o=>
    have:=t.frm a o e hF
    rw [z] at this; cases this
 refine ⟨fun a o h=>u.ext a o (t.ext a o h),fun a o h n=>u.frm a o (t.frm a o h n) fun q=>?_,fun a vs h=>u.tup a vs (t.tup a vs h),fun a x=>?_,fun a o h=>?_,fun a C dx kv h=>?_⟩
 ·rcases t.new a q with z | z
  ·exact n z
  ·rw [z] at h; cases h
 ·rcases u.new a x with z | z
  ·exact t.new a z
  ·exact back a z
 ·rcases u.nws a o h with z | z | z
  ·exact t.nws a o z
  ·exact .inr (t.new a z)
  ·exact .inr (back a z)
 ·obtain ⟨m1,h1⟩:=t.ins a C dx kv h
  obtain ⟨m2,h2⟩:=u.ins a C dx _ h1;exact ⟨m1++m2,by rw [←List.append_assoc]; exact h2⟩
theorem Tr.grow {S H S' H':Hp} {F F' G:FP} (t:Tr S H F S' H' F') (h:Sub G F'):Tr S H F S' H' G:=⟨t.ext,t.frm,t.tup,fun a x=>t.new a (h a x),t.nws,t.ins⟩
theorem Tr.wide {S H S' H':Hp} {F F' R:FP} (t:Tr S H F S' H' F'):Tr S H (Cup F R) S' H' (Cup F' R):=
 ⟨t.ext,fun a o h n=>t.frm a o h fun q=>n (.inl q),t.tup,fun a x=>x.elim (fun y=>(t.new a y).elim (fun z=>.inl (.inl z)) .inr) fun y=>.inl (.inr y),fun a o h=>(t.nws a o h).elim .inl fun z=>.inr (z.elim (fun y=>.inl (.inl y)) .inr),t.ins⟩
inductive Slot where
 | dead | own (d:D) | vw (d:D)
inductive Rv where
 | own (d:D) | vw (d:D) | pend (i:Nat) (fz:Bool)
noncomputable abbrev Rho:=List Slot
section
variable (ct:Str→Option Addr)
noncomputable def ZbG (S H:Hp) (T:FP) (s:Slot) (o:Option (Option V)) (Fi:FP):Prop:=
 match s with
 | .dead=>True
 | .own d=>∃ v,o=some (some v)∧Rep ct S H d v Fi
 | .vw d=>∃ v,o=some (some v)∧Vw ct H T d v
structure State (S H:Hp) (F R:FP) (ρ:Rho) (σ:L2.St):Prop where
 w : WOk S H (Cup F R)
 dj : Dj F R
 len : ρ.length=σ.length
 fs : ∃ fs:Nat→FP,(∀ i,Sub (fs i) F)∧(∀ i j,i≠j→Dj (fs i) (fs j))∧∀ i s,ρ[i]?=some s→ZbG ct S H (Cup F R) s (σ[i]?) (fs i)
noncomputable def RvRep (S H:Hp) (T:FP) (σ:L2.St) (Fr:FP) (r:Rv) (v:V):Prop:=
 match r with
 | .own d=>Rep ct S H d v Fr
 | .vw d=>Vw ct H T d v
 | .pend i _=>σ[i]?=some (some v)
structure Post (S H:Hp) (F R:FP) (σ:L2.St) (r:Rv) (ρ':Rho) (S' H':Hp) (F' Fr:FP) (v:V):Prop where
 st : State ct S' H' F' (Cup R Fr) ρ' σ
 djr : Dj R Fr
 tr : Tr S H F S' H' (Cup F' Fr)
 rv : RvRep ct S' H' (Cup F' (Cup R Fr)) σ Fr r v
end
noncomputable abbrev ME:=Rho→Option (Rv×Rho)
noncomputable def tI (ct:Str→Option Addr) (m:ME):TE:=fun σ H Q=>∃ ρ S F R r ρ',State ct S H F R ρ σ∧m ρ=some (r,ρ')∧∀ S' H' F' Fr v,Post ct S H F R σ r ρ' S' H' F' Fr v→Q v H'
section
variable {ct:Str→Option Addr} {S S' H H':Hp} {F F' G R R' T T' Fr:FP} {ρ ρ':Rho} {σ:L2.St}
mutual
theorem Vw.anti (k:Sub G F):∀ {d:D} {v:V},Vw ct H F d v→Vw ct H G d v
 | .non,_,h=>h
 | .bl _,_,h=>h
 | .int _,_,h=>h
 | .str _,_,h=>h
 | .tup ds,_,⟨a,vs,e,h1,h2⟩=>⟨a,vs,e,h1,Vws.anti k h2⟩
 | .lst m ds,_,⟨a,vs,e,h1,n,h2⟩=>⟨a,vs,e,h1,fun q=>n (k _ q),Vws.anti k h2⟩
 | .dic m ks ds,_,⟨a,vs,e,l,h1,n,h2⟩=>⟨a,vs,e,l,h1,fun q=>n (k _ q),Vws.anti k h2⟩
 | .obj m c ks ds,_,⟨a,C,dx,vs,e,hc,l,h1,n,h2⟩=>⟨a,C,dx,vs,e,hc,l,h1,fun q=>n (k _ q),Vws.anti k h2⟩
 | .err c ks ds,_,⟨a,C,vs,e,hc,l,h1,h2⟩=>⟨a,C,vs,e,hc,l,h1.mono fun b o z=>⟨z.1,fun q=>z.2 (k _ q)⟩,Vws.anti k h2⟩
theorem Vws.anti (k:Sub G F):∀ {ds:List D} {vs:List V},Vws ct H F ds vs→Vws ct H G ds vs
 | [],_,h=>h
 | d ::ds,_,⟨v,vr,e,h1,h2⟩=>⟨v,vr,e,Vw.anti k h1,Vws.anti k h2⟩
end
theorem WOk.anti (w:WOk S H F) (k:Sub G F):WOk S H G:=⟨w.sub,fun a x=>w.out a (k a x)⟩
theorem Rep.pl {d:D} {v:V} (w:WOk S H G) (h:Rep ct S H d v F):Vw ct H No d v:=Rep.vw w.sub (fun _ z=>z.elim) (fun _ _ z=>z) h
theorem State.drop (st:State ct S H F R ρ σ) (k:Sub R' R):State ct S H F R' ρ σ:=by
 obtain ⟨fs,h1,h2,h3⟩:=st.fs;have k2:Sub (Cup F R') (Cup F R):=fun a x=>x.elim .inl fun y=>.inr (k a y)
 refine ⟨st.w.anti k2,fun a x y=>st.dj a x (k a y),st.len,fs,h1,h2,fun i s e=>?_⟩
 have q:=h3 i s e;cases s with
 | dead=>trivial
 | own d=>exact q
 | vw d=>obtain ⟨v,e1,q⟩:=q; exact ⟨v,e1,q.anti k2⟩
theorem Zgm {v:V} {d:D} (t:Tr S H F S' H' F') (dj:Dj F R) (h:Rep ct S H d v R):Rep ct S' H' d v R:=
 Rep.tr t.ext t.tup h fun a o x y=>t.frm a o x fun z=>dj a z y
theorem State.slot (st:State ct S H F R ρ σ) {i:Nat} {s:Slot} (e:ρ[i]?=some s):∃ Fi:FP,Sub Fi F∧ZbG ct S H (Cup F R) s (σ[i]?) Fi:=by
 obtain ⟨fs,h1,h2,h3⟩:=st.fs;exact ⟨fs i,h1 i,h3 i s e⟩
end
noncomputable def rd (r:Rv) (ρ:Rho):Option D:=
 match r with
 | .own d=>some (strip d)
 | .vw d=>some (strip d)
 | .pend i _=>match ρ[i]? with
  | some (.own d)=>some (strip d)
  | some (.vw d)=>some (strip d)
  | _=>none
section
variable {ct:Str→Option Addr} {S S' H H':Hp} {F F' G R R' T T' Fr:FP} {ρ ρ':Rho} {σ:L2.St}
theorem Zx {r:Rv} {d:D} {v:V} (st:State ct S H F R ρ σ) (h:RvRep ct S H T σ Fr r v) (e:rd r ρ=some d):Vw ct H No d v:=by
 cases r with
 | own x=>
  cases e;exact Vw.strip (Rep.pl st.w h)
 | vw x=>
  cases e;exact Vw.strip (Vw.anti Sub.no h)
 | pend i fz=>
  have hv:σ[i]?=some (some v):=h;unfold rd at e;dsimp only at e;split at e
  ·rename_i x hx
   cases e;obtain ⟨Fi,_,v',e1,q⟩:=st.slot hx;rw [hv] at e1; cases e1;exact Vw.strip (Rep.pl st.w q)
  ·rename_i x hx
   cases e;obtain ⟨Fi,_,v',e1,q⟩:=st.slot hx;rw [hv] at e1; cases e1;exact Vw.strip (Vw.anti Sub.no q)
  ·cases e
theorem RvRep.keep {r:Rv} {v:V} (t:Tr S H F S' H' F') (dj:Dj F Fr) (h:RvRep ct S H (Cup F (Cup R Fr)) σ Fr r v):RvRep ct S' H' (Cup F' (Cup R Fr)) σ Fr r v:=by
 cases r with
 | own d=>exact Zgm t dj h
 | vw d=>
  exact Vw.tr t.tup (fun a o x n=>t.frm a o x fun q=>n (.inl q)) (fun a x=>x.elim (fun y=>(t.new a y).elim (fun z=>.inl (.inl z)) .inr) fun y=>.inl (.inr y)) h
 | pend i fz=>exact h
theorem State.of2 {S1 H1 S2 H2:Hp} {F1 Fa F2 Fb:FP} {ρ1 ρ2:Rho} {ra rb:Rv} {x y:V} (p:Post ct S H F R σ ra ρ1 S1 H1 F1 Fa x) (q:Post ct S1 H1 F1 (Cup R Fa) σ rb ρ2 S2 H2 F2 Fb y):
  State ct S2 H2 F2 (Cup (Cup R Fa) Fb) ρ2 σ∧RvRep ct S2 H2 (Cup F2 (Cup (Cup R Fa) Fb)) σ Fa ra x∧RvRep ct S2 H2 (Cup F2 (Cup (Cup R Fa) Fb)) σ Fb rb y∧Dj R Fa∧Dj R Fb∧Dj Fa Fb∧Tr S H F S2 H2 (Cup F2 (Cup Fa Fb)):=by
 have d1:Dj F1 Fa:=fun a u z=>p.st.dj a u (.inr z)
 refine ⟨q.st,?_,q.rv,p.djr,fun a u z=>q.djr a (.inl u) z,fun a u z=>q.djr a (.inr u) z,?_⟩
 ·have k:=RvRep.keep q.tr d1 p.rv
  cases ra with
  | own d=>exact k
  | pend i fz=>exact k
  | vw d=>exact Vw.anti (fun a z=>z.elim (fun z=>.inl (.inl z)) fun z=>z.elim .inr fun z=>.inl (.inr z)) k
 ·have t2:Tr S1 H1 (Cup F1 Fa) S2 H2 (Cup (Cup F2 Fb) Fa):=q.tr.wide
  exact (p.tr.trans t2).grow fun a z=>z.elim (fun z=>.inl (.inl z)) fun z=>z.elim .inr fun z=>.inl (.inr z)
end
end VS
namespace L2
open PySem PySem.Spec PyProof.Rows
theorem PE.to {X:Cx} {e:Expr} {t t':TE} (h:PE X e t) (k:∀ σ H Q,t' σ H Q→t σ H Q):PE X e t':=⟨fun pins s σ H Q I q=>h.run pins s σ H Q I (k σ H Q q)⟩
theorem PT.to {X:Cx} {e:Expr} {t t':TT} (h:PT X e t) (k:∀ σ H Q,t' σ H Q→t σ H Q):PT X e t':=⟨fun pins s σ H Q I q=>h.run pins s σ H Q I (k σ H Q q)⟩
theorem PW.to {X:Cx} {e:Expr} {t t':TT} (h:PW X e t) (k:∀ σ H Q,t' σ H Q→t σ H Q):PW X e t':=⟨fun wh pins s σ H Q I q=>h.run wh pins s σ H Q I (k σ H Q q)⟩
theorem PA.to {X:Cx} {e:List Expr} {t t':TA} (h:PA X e t) (k:∀ σ H Q,t' σ H Q→t σ H Q):PA X e t':=⟨fun pos pins s σ H Q I q=>h.run pos pins s σ H Q I (k σ H Q q)⟩
theorem PS.to {X:Cx} {e:Stmt} {t t':TS} (h:PS X e t) (k:∀ D σ H,t' D σ H→t D σ H):PS X e t':=⟨fun pins s σ H Q I q=>h.run pins s σ H Q I (k Q σ H q)⟩
theorem PSs.to {X:Cx} {e:List Stmt} {t t':TS} (h:PSs X e t) (k:∀ D σ H,t' D σ H→t D σ H):PSs X e t':=⟨fun pins s σ H Q I q=>h.run pins s σ H Q I (k Q σ H q)⟩
end L2
namespace VS
open PySem PySem.Spec PyProof.Rows L2
noncomputable def Sc:D→V→Prop
 | .non,v=>v=.non
 | .bl b,v=>v=.bl b
 | .int i,v=>v=.int i
 | .str x,v=>v=.str x
 | _,_=>False
section
variable {ct:Str→Option Addr} {S S' H H' S2 H2:Hp} {F F' G R R' T T' Fr F2 R2 Y:FP} {ρ ρ' ρ2:Rho} {σ:L2.St}
theorem Sc.rep {d:D} {v:V} (h:Sc d v):Rep ct S H d v G:=by
 cases d<;>first | exact h | exact h.elim
theorem Post.done {r:Rv} {v:V} (st:State ct S2 H2 F2 R2 ρ2 σ) (k:Sub R R2) (t:Tr S H F S2 H2 (Cup F2 Y)) (h:RvRep ct S2 H2 (Cup F2 (Cup R No)) σ No r v):Post ct S H F R σ r ρ2 S2 H2 F2 No v:=
 ⟨st.drop fun a z=>z.elim (k a) fun z=>z.elim,fun _ _ z=>z,t.grow fun a z=>z.elim .inl fun z=>z.elim,h⟩
theorem Post.now {r:Rv} {v:V} (st:State ct S H F R ρ σ) (h:RvRep ct S H (Cup F (Cup R No)) σ No r v):Post ct S H F R σ r ρ S H F No v:=
 Post.done (Y:=No) st (Sub.refl _) (Tr.refl fun a z=>z.elim id fun z=>z.elim) h
end
noncomputable def mC (d:D):ME:=fun ρ=>some (.own d,ρ)
noncomputable def live (ρ:Rho) (i:Nat):Bool:=match ρ[i]? with
 | some (.own _)=>true
 | some (.vw _)=>true
 | _=>false
noncomputable def mV (i:Nat) (fz:Bool):ME:=fun ρ=>if live ρ i=true then some (.pend i fz,ρ) else none
section
variable {ct:Str→Option Addr} {X:Cx}
theorem ZbH {d:D} {v:V} (h:Sc d v):∀ σ H Q,tI ct (mC d) σ H Q→tC v σ H Q:=by
 rintro σ H Q ⟨ρ,S,F,R,r,ρ',st,e,k⟩;cases e;exact k S H F No v (Post.now st (Sc.rep h))
theorem Zgn {i:Nat} {fz:Bool}:∀ σ H Q,tI ct (mV i fz) σ H Q→tVar i σ H Q:=by
 rintro σ H Q ⟨ρ,S,F,R,r,ρ',st,e,k⟩;have hv:(∃ v,σ[i]?=some (some v))∧r=.pend i fz∧ρ'=ρ:=by
  unfold mV live at e;cases hs:ρ[i]? with
  | none=>rw [hs] at e; cases e
  | some sl=>
   rw [hs] at e;cases sl with
   | dead=>cases e
   | own d=>
    cases e;obtain ⟨_,_,v,e1,_⟩:=st.slot hs;exact ⟨⟨v,e1⟩,rfl,rfl⟩
   | vw d=>
    cases e;obtain ⟨_,_,v,e1,_⟩:=st.slot hs;exact ⟨⟨v,e1⟩,rfl,rfl⟩
 obtain ⟨⟨v,hv⟩,rfl,rfl⟩:=hv;exact ⟨v,hv,k S H F No v (Post.now st hv)⟩
end
noncomputable def m2 (f:D→D→Option D) (ma mb:ME):ME:=fun ρ=>
 (ma ρ).bind fun p=>(mb p.2).bind fun q=>(rd p.1 q.2).bind fun d=>(rd q.1 q.2).bind fun e=>(f d e).bind fun z=>some (.own z,q.2)
noncomputable def m1 (f:D→Option D) (ma:ME):ME:=fun ρ=>(ma ρ).bind fun p=>(rd p.1 p.2).bind fun d=>(f d).bind fun z=>some (.own z,p.2)
noncomputable def ZcC (ct:Str→Option Addr) (r:R2) (f:D→D→Option D):Prop:=
 ∀ d e z x y H Q,Vw ct H No d x→Vw ct H No e y→f d e=some z→(∀ v,Sc z v→Q v H)→r x y H Q
noncomputable def Zd4 (ct:Str→Option Addr) (r:V→Hp→VK→Prop) (f:D→Option D):Prop:=
 ∀ d z x H Q,Vw ct H No d x→f d=some z→(∀ v,Sc z v→Q v H)→r x H Q
theorem bind_some {α β:Type} {o:Option α} {f:α→Option β} {b:β} (h:o.bind f=some b):∃ a,o=some a∧f a=some b:=Option.bind_eq_some_iff.mp h
section
variable {ct:Str→Option Addr} {X:Cx} {ma mb mc:ME}
theorem ZcD {r:R2} {f:D→D→Option D} (hr:ZcC ct r f):∀ σ H Q,tI ct (m2 f ma mb) σ H Q→tOp r (tI ct ma) (tI ct mb) σ H Q:=by
 rintro σ H Q ⟨ρ,S,F,R,rr,ρ',st,e,k⟩;obtain ⟨p,hp,e⟩:=bind_some e;obtain ⟨q,hq,e⟩:=bind_some e;obtain ⟨d,hd,e⟩:=bind_some e;obtain ⟨d',hd',e⟩:=bind_some e;obtain ⟨z,hz,e⟩:=bind_some e;cases e;refine ⟨ρ,S,F,R,p.1,p.2,st,hp,fun S1 H1 F1 Fa x P1=>⟨p.2,S1,F1,Cup R Fa,q.1,q.2,P1.st,hq,fun S2 H2 F2 Fb y P2=>?_⟩⟩
 obtain ⟨st2,ra,rb,_,_,_,t⟩:=State.of2 P1 P2;refine hr d d' z x y H2 Q (Zx st2 ra hd) (Zx st2 rb hd') hz fun v hv=>k S2 H2 F2 No v ?_
 exact Post.done st2 (fun a z=>.inl (.inl z)) t (Sc.rep hv)
theorem Zgo {r:V→Hp→VK→Prop} {f:D→Option D} (hr:Zd4 ct r f):∀ σ H Q,tI ct (m1 f ma) σ H Q→tUn r (tI ct ma) σ H Q:=by
 rintro σ H Q ⟨ρ,S,F,R,rr,ρ',st,e,k⟩;obtain ⟨p,hp,e⟩:=bind_some e;obtain ⟨d,hd,e⟩:=bind_some e;obtain ⟨z,hz,e⟩:=bind_some e;cases e;refine ⟨ρ,S,F,R,p.1,p.2,st,hp,fun S1 H1 F1 Fa x P1=>?_⟩
 refine hr d z x H1 Q (Zx P1.st P1.rv hd) hz fun v hv=>k S1 H1 F1 No v ?_
 exact Post.done P1.st (fun a z=>.inl z) P1.tr (Sc.rep hv)
end
noncomputable abbrev MT:=Rho→Option (Bool×Rho)
noncomputable def tT (ct:Str→Option Addr) (m:MT):TT:=fun σ H Q=>∃ ρ S F R b ρ',State ct S H F R ρ σ∧m ρ=some (b,ρ')∧∀ S' H' F',State ct S' H' F' R ρ' σ→Tr S H F S' H' F'→Q b H'
noncomputable def asB (m:ME):MT:=fun ρ=>(m ρ).bind fun p=>match p.1 with
 | .own (.bl b)=>some (b,p.2)
 | .pend i _=>match p.2[i]? with
  | some (.own (.bl b))=>some (b,p.2)
  | some (.vw (.bl b))=>some (b,p.2)
  | _=>none
 | .vw (.bl b)=>some (b,p.2)
 | _=>none
section
variable {ct:Str→Option Addr} {S S' H H':Hp} {F F' G R R' T T' Fr:FP} {ρ ρ':Rho} {σ:L2.St}
theorem ZaC {m:ME} {ρ:Rho} {b:Bool} {ρ':Rho} (h:asB m ρ=some (b,ρ')):∃ r,m ρ=some (r,ρ')∧rd r ρ'=some (.bl b):=by
 obtain ⟨⟨r,ρ1⟩,hp,e⟩:=bind_some h;cases r with
 | own d=>
  cases d<;>first | (cases e; exact ⟨_,hp,rfl⟩) | cases e
 | vw d=>
  cases d<;>first | (cases e; exact ⟨_,hp,rfl⟩) | cases e
 | pend i fz=>
  dsimp only at e;split at e
  ·rename_i b' hb
   cases e;exact ⟨_,hp,by unfold rd; dsimp only; rw [hb]; rfl⟩
  ·rename_i b' hb
   cases e;exact ⟨_,hp,by unfold rd; dsimp only; rw [hb]; rfl⟩
  ·cases e
end
section
variable {ct:Str→Option Addr} {X:Cx} {ma mb mc:ME}
theorem Zd5 {m:ME}:∀ σ H (Q:Bool→Hp→Prop),tT ct (asB m) σ H Q→tI ct m σ H (fun x H1=>∃ k,x=.bl k∧Q k H1):=by
 rintro σ H Q ⟨ρ,S,F,R,b,ρ',st,e,k⟩;obtain ⟨r,hm,hr⟩:=ZaC e;refine ⟨ρ,S,F,R,r,ρ',st,hm,fun S1 H1 F1 Fa x P1=>?_⟩
 have q:Vw ct H1 No (.bl b) x:=Zx P1.st P1.rv hr;exact ⟨b,q,k S1 H1 F1 (P1.st.drop fun a z=>.inl z) (P1.tr.grow fun a z=>.inl z)⟩
theorem Zgp {e:Expr} {m:ME} (h:PE X e (tI ct m)) (he:∀ whole,isTrue e X.env whole=(do let v ←whole; standAt e.pos; holding [v] (truthy v))):PT X e (tT ct (asB m)):=(pt_val h he).to Zd5
noncomputable def mAnd (a b:MT):MT:=fun ρ=>(a ρ).bind fun p=>if p.1=true then b p.2 else some (false,p.2)
noncomputable def mOr (a b:MT):MT:=fun ρ=>(a ρ).bind fun p=>if p.1=true then some (true,p.2) else b p.2
noncomputable def mNot (a:MT):MT:=fun ρ=>(a ρ).bind fun p=>some (!p.1,p.2)
noncomputable def ofB (m:MT):ME:=fun ρ=>(m ρ).bind fun p=>some (.own (.bl p.1),p.2)
theorem Zgq {a b:MT}:∀ σ H Q,tT ct (mAnd a b) σ H Q→tAnd (tT ct a) (tT ct b) σ H Q:=by
 rintro σ H Q ⟨ρ,S,F,R,c,ρ',st,e,k⟩;obtain ⟨p,hp,e⟩:=bind_some e;refine ⟨ρ,S,F,R,p.1,p.2,st,hp,fun S1 H1 F1 st1 t1=>?_⟩
 by_cases hc:p.1=true
 ·rw [if_pos hc] at e ⊢
  exact ⟨p.2,S1,F1,R,c,ρ',st1,e,fun S2 H2 F2 st2 t2=>k S2 H2 F2 st2 (t1.trans t2)⟩
 ·rw [if_neg hc] at e ⊢
  cases e;exact k S1 H1 F1 st1 t1
theorem Zgr {a b:MT}:∀ σ H Q,tT ct (mOr a b) σ H Q→tOr (tT ct a) (tT ct b) σ H Q:=by
 rintro σ H Q ⟨ρ,S,F,R,c,ρ',st,e,k⟩;obtain ⟨p,hp,e⟩:=bind_some e;refine ⟨ρ,S,F,R,p.1,p.2,st,hp,fun S1 H1 F1 st1 t1=>?_⟩
 by_cases hc:p.1=true
 ·rw [if_pos hc] at e ⊢
  cases e;exact k S1 H1 F1 st1 t1
 ·rw [if_neg hc] at e ⊢
  exact ⟨p.2,S1,F1,R,c,ρ',st1,e,fun S2 H2 F2 st2 t2=>k S2 H2 F2 st2 (t1.trans t2)⟩
theorem Zgs {a:MT}:∀ σ H Q,tT ct (mNot a) σ H Q→tNot (tT ct a) σ H Q:=by
 rintro σ H Q ⟨ρ,S,F,R,c,ρ',st,e,k⟩;obtain ⟨p,hp,e⟩:=bind_some e;cases e;exact ⟨ρ,S,F,R,p.1,p.2,st,hp,fun S1 H1 F1 st1 t1=>k S1 H1 F1 st1 t1⟩
theorem Zgt {a b:ME}:∀ σ H Q,tI ct (ofB (mAnd (asB a) (asB b))) σ H Q→tAndV (tI ct a) (tI ct b) σ H Q:=by
 rintro σ H Q ⟨ρ,S,F,R,rr,ρ',st,e,k⟩;obtain ⟨p,hp,e⟩:=bind_some e;cases e;obtain ⟨p1,hp1,e⟩:=bind_some hp;obtain ⟨r1,hm1,hr1⟩:=ZaC hp1;refine ⟨ρ,S,F,R,r1,p1.2,st,hm1,fun S1 H1 F1 Fa x P1=>?_⟩
 have q:Vw ct H1 No (.bl p1.1) x:=Zx P1.st P1.rv hr1;refine ⟨p1.1,q,?_⟩
 by_cases hc:p1.1=true
 ·rw [if_pos hc] at e ⊢
  obtain ⟨r2,hm2,hr2⟩:=ZaC e;refine ⟨p1.2,S1,F1,Cup R Fa,r2,p.2,P1.st,hm2,fun S2 H2 F2 Fb y P2=>k S2 H2 F2 No y ?_⟩
  obtain ⟨st2,ra,rb,_,_,_,t⟩:=State.of2 P1 P2;have q2:Vw ct H2 No (.bl p.1) y:=Zx st2 rb hr2;exact Post.done st2 (fun a z=>.inl (.inl z)) t q2
 ·rw [if_neg hc] at e ⊢
  cases e;exact k S1 H1 F1 No _ (Post.done P1.st (fun a z=>.inl z) P1.tr rfl)
theorem Zgu {a b:ME}:∀ σ H Q,tI ct (ofB (mOr (asB a) (asB b))) σ H Q→tOrV (tI ct a) (tI ct b) σ H Q:=by
 rintro σ H Q ⟨ρ,S,F,R,rr,ρ',st,e,k⟩;obtain ⟨p,hp,e⟩:=bind_some e;cases e;obtain ⟨p1,hp1,e⟩:=bind_some hp;obtain ⟨r1,hm1,hr1⟩:=ZaC hp1;refine ⟨ρ,S,F,R,r1,p1.2,st,hm1,fun S1 H1 F1 Fa x P1=>?_⟩
 have q:Vw ct H1 No (.bl p1.1) x:=Zx P1.st P1.rv hr1;refine ⟨p1.1,q,?_⟩
 by_cases hc:p1.1=true
 ·rw [if_pos hc] at e ⊢
  cases e;exact k S1 H1 F1 No _ (Post.done P1.st (fun a z=>.inl z) P1.tr rfl)
 ·rw [if_neg hc] at e ⊢
  obtain ⟨r2,hm2,hr2⟩:=ZaC e;refine ⟨p1.2,S1,F1,Cup R Fa,r2,p.2,P1.st,hm2,fun S2 H2 F2 Fb y P2=>k S2 H2 F2 No y ?_⟩
  obtain ⟨st2,ra,rb,_,_,_,t⟩:=State.of2 P1 P2;have q2:Vw ct H2 No (.bl p.1) y:=Zx st2 rb hr2;exact Post.done st2 (fun a z=>.inl (.inl z)) t q2
theorem Zgv {a:ME}:∀ σ H Q,tI ct (ofB (mNot (asB a))) σ H Q→tNotV (tI ct a) σ H Q:=by
 rintro σ H Q ⟨ρ,S,F,R,rr,ρ',st,e,k⟩;obtain ⟨p,hp,e⟩:=bind_some e;cases e;obtain ⟨p1,hp1,e⟩:=bind_some hp;cases e;obtain ⟨r1,hm1,hr1⟩:=ZaC hp1;refine ⟨ρ,S,F,R,r1,p1.2,st,hm1,fun S1 H1 F1 Fa x P1=>?_⟩
 have q:Vw ct H1 No (.bl p1.1) x:=Zx P1.st P1.rv hr1;exact ⟨p1.1,q,k S1 H1 F1 No _ (Post.done P1.st (fun a z=>.inl z) P1.tr rfl)⟩
noncomputable def mIf (c:MT) (a b:ME):ME:=fun ρ=>(c ρ).bind fun p=>if p.1=true then a p.2 else b p.2
end
end VS
namespace VS
open PySem PySem.Spec PyProof.Rows L2
noncomputable def One (p:Addr):FP:=fun a=>a=p
section
variable (ct:Str→Option Addr)
noncomputable def RvReps (S H:Hp) (T:FP) (σ:L2.St):List Rv→List V→FP→Prop
 | [],vs,_=>vs=[]
 | r ::rs,vs,F=>∃ v vr F1 F2,vs=v ::vr∧Sub F1 F∧Sub F2 F∧Dj F1 F2∧RvRep ct S H T σ F1 r v∧RvReps S H T σ rs vr F2
structure PostA (S H:Hp) (F R:FP) (σ:L2.St) (rs:List Rv) (ρ':Rho) (S' H':Hp) (F' Fr:FP) (vs:List V):Prop where
 st : State ct S' H' F' (Cup R Fr) ρ' σ
 djr : Dj R Fr
 tr : Tr S H F S' H' (Cup F' Fr)
 rv : RvReps ct S' H' (Cup F' (Cup R Fr)) σ rs vs Fr
end
noncomputable abbrev MA:=Rho→Option (List Rv×Rho)
noncomputable def tIA (ct:Str→Option Addr) (m:MA):TA:=fun σ H Q=>∃ ρ S F R rs ρ',State ct S H F R ρ σ∧m ρ=some (rs,ρ')∧∀ S' H' F' Fr vs,PostA ct S H F R σ rs ρ' S' H' F' Fr vs→Q vs H'
noncomputable def mNil:MA:=fun ρ=>some ([],ρ)
noncomputable def mCons (ma:ME) (mr:MA):MA:=fun ρ=>(ma ρ).bind fun p=>(mr p.2).bind fun q=>some (p.1 ::q.1,q.2)
section
variable {ct:Str→Option Addr} {S S' H H' S2 H2:Hp} {F F' G R R' T T' Fr F2 R2 Y:FP} {ρ ρ' ρ2:Rho} {σ:L2.St}
theorem RvRep.anti {r:Rv} {v:V} (k:Sub T' T) (h:RvRep ct S H T σ Fr r v):RvRep ct S H T' σ Fr r v:=by
 cases r with
 | own d=>exact h
 | vw d=>exact Vw.anti k h
 | pend i fz=>exact h
theorem RvRep.grow {r:Rv} {v:V} (k:Sub F F') (h:RvRep ct S H T σ F r v):RvRep ct S H T σ F' r v:=by
 cases r with
 | own d=>exact Rep.mono h k
 | vw d=>exact h
 | pend i fz=>exact h
theorem RvReps.anti (k:Sub T' T):∀ {rs:List Rv} {vs:List V} {Fr:FP},RvReps ct S H T σ rs vs Fr→RvReps ct S H T' σ rs vs Fr
 | [],_,_,h=>h
 | r ::rs,_,_,⟨v,vr,F1,F2,e,s1,s2,dj,h1,h2⟩=>⟨v,vr,F1,F2,e,s1,s2,dj,h1.anti k,RvReps.anti k h2⟩
theorem RvReps.len:∀ {rs:List Rv} {vs:List V} {Fr:FP},RvReps ct S H T σ rs vs Fr→rs.length=vs.length
 | [],_,_,h=>by
  have e:_=[]:=h;rw [e]; rfl
 | r ::rs,_,_,⟨v,vr,F1,F2,e,s1,s2,dj,h1,h2⟩=>by rw [e,List.length_cons,List.length_cons,RvReps.len h2]
theorem RvRep.ext {r:Rv} {v:V} (k:∀ a o,S a=some o→S' a=some o) (h:RvRep ct S H T σ Fr r v):RvRep ct S' H T σ Fr r v:=by
 cases r with
 | own d=>exact Rep.tr k (fun _ _ x=>x) h fun _ _ x _=>x
 | vw d=>exact h
 | pend i fz=>exact h
theorem RvReps.ext (k:∀ a o,S a=some o→S' a=some o):∀ {rs:List Rv} {vs:List V} {Fr:FP},RvReps ct S H T σ rs vs Fr→RvReps ct S' H T σ rs vs Fr
 | [],_,_,h=>h
 | r ::rs,_,_,⟨v,vr,F1,F2,e,s1,s2,dj,h1,h2⟩=>⟨v,vr,F1,F2,e,s1,s2,dj,h1.ext k,RvReps.ext k h2⟩
theorem ZaD:∀ σ H Q,tIA ct mNil σ H Q→tNil σ H Q:=by
 rintro σ H Q ⟨ρ,S,F,R,rs,ρ',st,e,k⟩;cases e;exact k S H F No [] ⟨st.drop fun a z=>z.elim id fun z=>z.elim,fun _ _ z=>z,Tr.refl fun a z=>z.elim id fun z=>z.elim,rfl⟩
theorem Za1 {ma:ME} {mr:MA}:∀ σ H Q,tIA ct (mCons ma mr) σ H Q→tCons (tI ct ma) (tIA ct mr) σ H Q:=by
 rintro σ H Q ⟨ρ,S,F,R,rs,ρ',st,e,k⟩;obtain ⟨p,hp,e⟩:=bind_some e;obtain ⟨q,hq,e⟩:=bind_some e;cases e;refine ⟨ρ,S,F,R,p.1,p.2,st,hp,fun S1 H1 F1 Fa x P1=>⟨p.2,S1,F1,Cup R Fa,q.1,q.2,P1.st,hq,fun S2 H2 F2 Fb ys P2=>?_⟩⟩
 have d1:Dj F1 Fa:=fun a u z=>P1.st.dj a u (.inr z)
 have ra:=RvRep.keep P2.tr d1 P1.rv;have t2:Tr S1 H1 (Cup F1 Fa) S2 H2 (Cup (Cup F2 Fb) Fa):=P2.tr.wide;refine k S2 H2 F2 (Cup Fa Fb) (x ::ys) ⟨P2.st.drop fun a z=>?_,fun a u z=>?_,(P1.tr.trans t2).grow fun a z=>?_,x,ys,Fa,Fb,rfl,Sub.cupL,Sub.cupR,fun a u z=>P2.djr a (.inr u) z,ra.anti fun a z=>?_,P2.rv.anti fun a z=>?_⟩
 ·exact z.elim (fun z=>.inl (.inl z)) fun z=>z.elim (fun z=>.inl (.inr z)) .inr
 ·exact z.elim (P1.djr a u) (P2.djr a (.inl u))
 ·exact z.elim (fun z=>.inl (.inl z)) fun z=>z.elim .inr fun z=>.inl (.inr z)
 ·exact z.elim (fun z=>.inl (.inl z)) fun z=>z.elim (fun z=>.inr (.inl z)) fun z=>z.elim (fun z=>.inr (.inr z)) fun z=>.inl (.inr z)
 ·exact z.elim .inl fun z=>z.elim (fun z=>.inr (.inl (.inl z))) fun z=>z.elim (fun z=>.inr (.inl (.inr z))) fun z=>.inr (.inr z)
end
noncomputable def take (r:Rv) (ρ:Rho):Option (D×Rho):=match r with
 | .own d=>some (d,ρ)
 | .vw d=>if flat d=true then some (d,ρ) else none
 | .pend i fz=>match ρ[i]? with
  | some (.own d)=>if noOwn d=true then some (d,ρ) else if fz=true then some (strip d,ρ.set i (.own (strip d))) else some (d,ρ.set i .dead)
  | some (.vw d)=>if flat d=true then some (d,ρ) else none
  | _=>none
noncomputable def takes:List Rv→Rho→Option (List D×Rho)
 | [],ρ=>some ([],ρ)
 | r ::rs,ρ=>(take r ρ).bind fun p=>(takes rs p.2).bind fun q=>some (p.1 ::q.1,q.2)
section
open Classical
variable {ct:Str→Option Addr} {S S' H H' S2 H2:Hp} {F F' G R R' T T' Fr F2 R2 Y:FP} {ρ ρ' ρ2:Rho} {σ:L2.St}
theorem State.move {i:Nat} {d:D} (st:State ct S H F R ρ σ) (h:ρ[i]?=some (.own d)):
  ∃ v Fm,σ[i]?=some (some v)∧Sub Fm F∧State ct S H (Dif F Fm) (Cup R Fm) (ρ.set i .dead) σ∧Rep ct S H d v Fm:=by
 obtain ⟨fs,h1,h2,h3⟩:=st.fs;obtain ⟨v,e1,q⟩:=h3 i _ h;have eT:Sub (Cup (Dif F (fs i)) (Cup R (fs i))) (Cup F R):=fun a z=>z.elim (fun z=>.inl z.1) fun z=>z.elim .inr fun z=>.inl (h1 i a z)
 refine ⟨v,fs i,e1,h1 i,⟨st.w.anti eT,fun a u z=>z.elim (st.dj a u.1) u.2,by rw [List.length_set]; exact st.len,fun j=>if j=i then No else fs j,fun j=>?_,fun j l n=>?_,fun j s e=>?_⟩,q⟩
 ·dsimp only
  split
  ·exact Sub.no
  ·rename_i hj
   exact fun a z=>⟨h1 j a z,fun z2=>h2 j i hj a z z2⟩
 ·dsimp only
  split
  ·exact Dj.no
  ·split
   ·exact fun a _ z=>z
   ·exact h2 j l n
 ·by_cases hj:j=i
  ·subst hj
   have hl:j < ρ.length:=(List.getElem?_eq_some_iff.mp h).1;rw [List.getElem?_set_self hl] at e;cases e;trivial
  ·rw [List.getElem?_set_ne (Ne.symm hj)] at e
   dsimp only;rw [if_neg hj];have q:=h3 j s e;cases s with
   | dead=>trivial
   | own d=>exact q
   | vw d=>obtain ⟨v,e1,q⟩:=q; exact ⟨v,e1,q.anti eT⟩
theorem State.freeze {i:Nat} {d:D} (st:State ct S H F R ρ σ) (h:ρ[i]?=some (.own d)):
  ∃ v S' Fm,σ[i]?=some (some v)∧Sub Fm F∧(∀ a o,S a=some o→S' a=some o)∧(∀ a o,S' a=some o→S a=some o∨F a)∧State ct S' H (Dif F Fm) R (ρ.set i (.own (strip d))) σ∧Rep ct S' H (strip d) v No:=by
 obtain ⟨fs,h1,h2,h3⟩:=st.fs;obtain ⟨v,e1,q⟩:=h3 i _ h;have eT:Sub (Cup (Dif F (fs i)) R) (Cup F R):=fun a z=>z.elim (fun z=>.inl z.1) .inr
 have ext:∀ a o,S a=some o→(fun a=>if fs i a then H a else S a) a=some o:=fun a o e=>by
  dsimp only;split
  ·rename_i z
   have:=(st.w.out a (.inl (h1 i a z))).1
   rw [e] at this; cases this
  ·exact e
 have fz:Rep ct (fun a=>if fs i a then H a else S a) H (strip d) v No:=Rep.freeze ext (fun a o z e=>by
  (try dsimp only)
  rw [if_pos z];exact e) q
 refine ⟨v,fun a=>if fs i a then H a else S a,fs i,e1,h1 i,ext,fun a o e=>?_,⟨⟨fun a o e=>?_,fun a z=>?_⟩,fun a u z=>st.dj a u.1 z,by rw [List.length_set]; exact st.len,fun j=>if j=i then No else fs j,fun j=>?_,fun j l n=>?_,fun j s e=>?_⟩,fz⟩
 ·dsimp only at e
  split at e
  ·rename_i z
   exact .inr (h1 i a z)
  ·exact .inl e
 ·try dsimp only at e
  split at e
  ·exact e
  ·exact st.w.sub a o e
 ·refine ⟨?_,(st.w.out a (eT a z)).2⟩
  have n:¬ fs i a:=fun z2=>z.elim (fun z=>z.2 z2) fun z=>st.dj a (h1 i a z2) z
  (try dsimp only)
  rw [if_neg n];exact (st.w.out a (eT a z)).1
 ·dsimp only
  split
  ·exact Sub.no
  ·rename_i hj
   exact fun a z=>⟨h1 j a z,fun z2=>h2 j i hj a z z2⟩
 ·dsimp only
  split
  ·exact Dj.no
  ·split
   ·exact fun a _ z=>z
   ·exact h2 j l n
 ·by_cases hj:j=i
  ·subst hj
   have hl:j < ρ.length:=(List.getElem?_eq_some_iff.mp h).1;rw [List.getElem?_set_self hl] at e;cases e;dsimp only;rw [if_pos rfl];exact ⟨v,e1,fz⟩
  ·rw [List.getElem?_set_ne (Ne.symm hj)] at e
   dsimp only;rw [if_neg hj];have q:=h3 j s e;cases s with
   | dead=>trivial
   | own d=>obtain ⟨v,e1,q⟩:=q; exact ⟨v,e1,Rep.tr ext (fun _ _ x=>x) q fun _ _ x _=>x⟩
   | vw d=>obtain ⟨v,e1,q⟩:=q; exact ⟨v,e1,q.anti eT⟩
theorem Zgw {r:Rv} {d:D} {v:V} (st:State ct S H F R ρ σ) (h:RvRep ct S H T σ Fr r v) (e:take r ρ=some (d,ρ')):
  ∃ S' F' Fm,State ct S' H F' (Cup R Fm) ρ' σ∧Rep ct S' H d v (Cup Fr Fm)∧Dj R Fm∧Sub F' F∧Sub Fm F∧(∀ a o,S a=some o→S' a=some o)∧(∀ a o,S' a=some o→S a=some o∨F a):=by
 have stay:State ct S H F (Cup R No) ρ σ:=st.drop fun a z=>z.elim id fun z=>z.elim
 have now:∀ {Fr':FP},Rep ct S H d v Fr'→Sub Fr' (Cup Fr No)→ρ'=ρ→∃ S' F' Fm,State ct S' H F' (Cup R Fm) ρ' σ∧Rep ct S' H d v (Cup Fr Fm)∧Dj R Fm∧Sub F' F∧Sub Fm F∧(∀ a o,S a=some o→S' a=some o)∧(∀ a o,S' a=some o→S a=some o∨F a):=fun q s e=>by
  subst e;exact ⟨S,F,No,stay,Rep.mono q s,fun _ _ z=>z,Sub.refl _,Sub.no,fun _ _ z=>z,fun _ _ z=>.inl z⟩
 cases r with
 | own x=>
  cases e;exact now h Sub.cupL rfl
 | vw x=>
  unfold take at e;dsimp only at e;split at e
  ·rename_i hf
   cases e;exact now (Vw.flat (S:=S) (G:=No) hf h) Sub.no rfl
  ·cases e
 | pend i fz=>
  have hv:σ[i]?=some (some v):=h;unfold take at e;dsimp only at e;cases hs:ρ[i]? with
  | none=>rw [hs] at e; cases e
  | some sl=>
   rw [hs] at e;cases sl with
   | dead=>cases e
   | vw x=>
    dsimp only at e;split at e
    ·rename_i hf
     cases e;obtain ⟨_,_,v',e1,q⟩:=st.slot hs;rw [hv] at e1; cases e1;exact now (Vw.flat (S:=S) (G:=No) hf q) Sub.no rfl
    ·cases e
   | own x=>
    dsimp only at e;split at e
    ·rename_i hn
     cases e;obtain ⟨_,_,v',e1,q⟩:=st.slot hs;rw [hv] at e1; cases e1;exact now (Rep.noown hn q) Sub.no rfl
    ·split at e
     ·cases e
      obtain ⟨v',S',Fm,e1,s1,ext,nws,st',q⟩:=st.freeze hs;rw [hv] at e1; cases e1;exact ⟨S',Dif F Fm,No,st'.drop fun a z=>z.elim id fun z=>z.elim,Rep.mono q Sub.no,fun _ _ z=>z,fun a z=>z.1,Sub.no,ext,nws⟩
     ·cases e
      obtain ⟨v',Fm,e1,s1,st',q⟩:=st.move hs;rw [hv] at e1; cases e1;exact ⟨S,Dif F Fm,Fm,st',Rep.mono q Sub.cupR,fun a u z=>st.dj a (s1 a z) u,fun a z=>z.1,s1,fun _ _ z=>z,fun _ _ z=>.inl z⟩
theorem Zd6:∀ {rs:List Rv} {vs:List V} {ds:List D} {S:Hp} {F R T Fr:FP} {ρ ρ':Rho},State ct S H F R ρ σ→RvReps ct S H T σ rs vs Fr→Sub Fr R→Sub (Cup F R) T→takes rs ρ=some (ds,ρ')→
  ∃ S' F' Fm,State ct S' H F' (Cup R Fm) ρ' σ∧Reps ct S' H ds vs (Cup Fr Fm)∧Dj R Fm∧Sub F' F∧Sub Fm F∧(∀ a o,S a=some o→S' a=some o)∧(∀ a o,S' a=some o→S a=some o∨F a)
 | [],_,_,S,F,R,T,Fr,ρ,ρ',st,h,hF,hT,e=>by
  cases e;exact ⟨S,F,No,st.drop fun a z=>z.elim id fun z=>z.elim,h,fun _ _ z=>z,Sub.refl _,Sub.no,fun _ _ z=>z,fun _ _ z=>.inl z⟩
 | r ::rs,vs,ds,S,F,R,T,Fr,ρ,ρ',st,⟨v,vr,Fa,Fb,ev,s1,s2,dj,h1,h2⟩,hF,hT,e=>by
  obtain ⟨p,hp,e⟩:=bind_some e;obtain ⟨q,hq,e⟩:=bind_some e;cases e;subst ev;obtain ⟨S1,F1,Fm1,st1,q1,d1,u1,w1,ext1,nw1⟩:=Zgw st h1 (ρ':=p.2) (d:=p.1) hp;have hT1:Sub (Cup F1 (Cup R Fm1)) T:=fun a z=>hT a (z.elim (fun z=>.inl (u1 a z)) fun z=>z.elim .inr fun z=>.inl (w1 a z))
  obtain ⟨S2,F2,Fm2,st2,q2,d2,u2,w2,ext2,nw2⟩:=Zd6 (rs:=rs) (ds:=q.1) (ρ':=q.2) (T:=T) st1 (h2.ext ext1) (fun a z=>.inl (hF a (s2 a z))) hT1 hq;refine ⟨S2,F2,Cup Fm1 Fm2,st2.drop fun a z=>?_,⟨v,vr,Cup Fa Fm1,Cup Fb Fm2,rfl,fun a z=>?_,fun a z=>?_,fun a x y=>?_,Rep.tr ext2 (fun _ _ x=>x) q1 fun _ _ x _=>x,q2⟩,fun a x y=>?_,u2.trans u1,fun a z=>?_,fun a o z=>ext2 a o (ext1 a o z),fun a o z=>?_⟩
  ·exact z.elim (fun z=>.inl (.inl z)) fun z=>z.elim (fun z=>.inl (.inr z)) .inr
  ·exact z.elim (fun z=>.inl (s1 a z)) fun z=>.inr (.inl z)
  ·exact z.elim (fun z=>.inl (s2 a z)) fun z=>.inr (.inr z)
  ·exact x.elim (fun x=>y.elim (dj a x) fun y=>d2 a (.inl (hF a (s1 a x))) y) fun x=>y.elim (fun y=>d1 a (hF a (s2 a y)) x) fun y=>d2 a (.inr x) y
  ·exact y.elim (d1 a x) fun y=>d2 a (.inl x) y
  ·exact z.elim (w1 a) fun z=>u1 a (w2 a z)
  ·exact (nw2 a o z).elim (nw1 a o) fun z=>.inr (u1 a z)
theorem Zm {p a:Addr} {o u:HO} (hp:H p=none) (h:H a=some u):upd H p o a=some u:=by
 rw [upd_ne (ne_of_none h hp)]; exact h
theorem State.alloc {p:Addr} {o:HO} (st:State ct S H F R ρ σ) (hp:H p=none):State ct S (upd H p o) F (Cup R (One p)) ρ σ:=by
 obtain ⟨fs,h1,h2,h3⟩:=st.fs;have nF:∀ a,Cup F R a→a≠p:=fun a z q=>by
  subst q;exact (st.w.out a z).2 hp
 refine ⟨⟨fun a o e=>Zm hp (st.w.sub a o e),fun a z=>?_⟩,fun a x y=>y.elim (st.dj a x) fun y=>nF a (.inl x) y,st.len,fs,h1,h2,fun i s e=>?_⟩
 ·have hh:Cup F R a∨a=p:=z.elim (fun z=>.inl (.inl z)) fun z=>z.elim (fun z=>.inl (.inr z)) .inr
  rcases hh with z | z
  ·refine ⟨(st.w.out a z).1,?_⟩
   rw [upd_ne (nF a z)];exact (st.w.out a z).2
  ·subst z
   refine ⟨?_,by rw [upd_same]; simp⟩
   cases e:S a with
   | none=>rfl
   | some u=>
    have:=st.w.sub a u e
    rw [hp] at this; cases this
 ·have q:=h3 i s e
  cases s with
  | dead=>trivial
  | own d=>
   obtain ⟨v,e1,q⟩:=q;exact ⟨v,e1,Rep.tr (fun _ _ x=>x) (fun a vs x=>Zm hp x) q fun a o x _=>Zm hp x⟩
  | vw d=>
   obtain ⟨v,e1,q⟩:=q;exact ⟨v,e1,Vw.tr (fun a vs x=>Zm hp x) (fun a o x _=>Zm hp x) (fun a z=>z.elim (fun z=>.inl (.inl z)) fun z=>z.elim (fun z=>.inl (.inr z)) fun z=>.inr (by rw [z]; exact hp)) q⟩
theorem Tr.alloc {p:Addr} {o:HO} (hp:H p=none):Tr S H F S (upd H p o) (Cup F (One p)):=
 ⟨fun _ _ x=>x,fun a o x _=>Zm hp x,fun a vs x=>Zm hp x,fun a z=>z.elim .inl fun z=>.inr (by rw [z]; exact hp),fun _ _ x=>.inl x,fun a C dx kv x=>⟨[],by rw [List.append_nil]; exact Zm hp x⟩⟩
theorem Tr.froze (ext:∀ a o,S a=some o→S' a=some o) (nw:∀ a o,S' a=some o→S a=some o∨F a) (h:Sub F' F):Tr S H F S' H F':=
 ⟨ext,fun _ _ x _=>x,fun _ _ x=>x,fun a z=>.inl (h a z),fun a o x=>(nw a o x).elim .inl fun z=>.inr (.inl z),fun _ _ _ _ x=>⟨[],by rw [List.append_nil]; exact x⟩⟩
theorem Reps.alloc {p:Addr} {o:HO} {ds:List D} {vs:List V} (hp:H p=none) (h:Reps ct S H ds vs F):Reps ct S (upd H p o) ds vs F:=
 Reps.tr (fun _ _ x=>x) (fun a vs x=>Zm hp x) h fun a o x _=>Zm hp x
end
noncomputable def mLst (ma:MA):ME:=fun ρ=>(ma ρ).bind fun p=>(takes p.1 p.2).bind fun q=>some (.own (.lst true q.1),q.2)
noncomputable def mTup (ma:MA):ME:=fun ρ=>(ma ρ).bind fun p=>(takes p.1 p.2).bind fun q=>some (.own (.tup q.1),q.2)
theorem Zac {n:Nat} (h:n≤1000000):n≤sizeLine:=Nat.le_trans h (by decide)
theorem ZbI {n:Nat} (h:n < 1000000):n < sizeLine:=Nat.lt_of_lt_of_le h (by decide)
section
variable {ct:Str→Option Addr} {S S1 S' H H1 H':Hp} {F F1 F' G R Fr:FP} {ρ ρ1 ρ':Rho} {σ:L2.St}
theorem PostA.took {rs:List Rv} {vs:List V} {ds:List D} (P:PostA ct S H F R σ rs ρ1 S1 H1 F1 Fr vs) (e:takes rs ρ1=some (ds,ρ')):
  ∃ S2 F2 Fm,State ct S2 H1 F2 (Cup R Fm) ρ' σ∧Reps ct S2 H1 ds vs Fm∧Dj R Fm∧Tr S H F S2 H1 (Cup F2 Fm):=by
 obtain ⟨S2,F2,Fm,st2,q,d,u,w,ext,nw⟩:=Zd6 P.st P.rv Sub.cupR (fun a z=>z) e;have tf:Tr S1 H1 (Cup F1 Fr) S2 H1 (Cup (Cup F2 Fm) Fr):=Tr.froze ext (fun a o z=>(nw a o z).elim .inl fun z=>.inr (.inl z)) fun a z=>z.elim (fun z=>z.elim (fun z=>.inl (u a z)) fun z=>.inl (w a z)) .inr
 refine ⟨S2,F2,Cup Fr Fm,st2.drop fun a z=>?_,q,fun a x y=>y.elim (P.djr a x) fun y=>d a (.inl x) y,(P.tr.trans tf).grow fun a z=>?_⟩
 ·exact z.elim (fun z=>.inl (.inl z)) fun z=>z.elim (fun z=>.inl (.inr z)) .inr
 ·exact z.elim (fun z=>.inl (.inl z)) fun z=>z.elim .inr fun z=>.inl (.inr z)
end
section
variable {ct:Str→Option Addr}
theorem Zgx {ma:MA} (hn:∀ ρ rs ρ',ma ρ=some (rs,ρ')→rs.length≤1000000):∀ σ H Q,tI ct (mLst ma) σ H Q→tLst (tIA ct ma) σ H Q:=by
 rintro σ H Q ⟨ρ,S,F,R,rr,ρ',st,e,k⟩;obtain ⟨p,hp,e⟩:=bind_some e;obtain ⟨q,hq,e⟩:=bind_some e;cases e;refine ⟨ρ,S,F,R,p.1,p.2,st,hp,fun S1 H1 F1 Fa vs P1=>⟨?_,fun a ha=>?_⟩⟩
 ·rw [←P1.rv.len]
  exact Zac (hn _ _ _ hp)
 ·obtain ⟨S2,F2,Fm,st2,r2,d2,t2⟩:=P1.took (ds:=q.1) (ρ':=q.2) hq
  have nm:¬ Fm a:=fun z=>(st2.w.out a (.inr (.inr z))).2 ha
  refine k S2 (upd H1 a (.lst vs)) F2 (Cup Fm (One a)) (.ref a) ⟨(st2.alloc ha).drop fun b z=>?_,fun b x y=>?_,(t2.trans (Tr.alloc (S:=S2) ha)).grow fun b z=>?_,a,vs,Fm,rfl,⟨upd_same,.inr rfl,nm,Sub.cupL⟩,Reps.alloc ha r2⟩
  ·exact z.elim (fun z=>.inl (.inl z)) fun z=>z.elim (fun z=>.inl (.inr z)) .inr
  ·exact y.elim (d2 b x) fun y=>(st2.w.out b (.inr (.inl x))).2 (by rw [y]; exact ha)
  ·exact z.elim (fun z=>.inl (.inl z)) fun z=>z.elim (fun z=>.inl (.inr z)) .inr
theorem Zgy {ma:MA} (hn:∀ ρ rs ρ',ma ρ=some (rs,ρ')→rs.length≤1000000):∀ σ H Q,tI ct (mTup ma) σ H Q→tTup (tIA ct ma) σ H Q:=by
 rintro σ H Q ⟨ρ,S,F,R,rr,ρ',st,e,k⟩;obtain ⟨p,hp,e⟩:=bind_some e;obtain ⟨q,hq,e⟩:=bind_some e;cases e;refine ⟨ρ,S,F,R,p.1,p.2,st,hp,fun S1 H1 F1 Fa vs P1=>⟨?_,fun a ha=>?_⟩⟩
 ·rw [←P1.rv.len]
  exact Zac (hn _ _ _ hp)
 ·obtain ⟨S2,F2,Fm,st2,r2,d2,t2⟩:=P1.took (ds:=q.1) (ρ':=q.2) hq
  refine k S2 (upd H1 a (.tup vs)) F2 Fm (.ref a) ⟨(st2.alloc ha).drop fun b z=>?_,d2,(t2.trans (Tr.alloc (S:=S2) ha)).grow fun b z=>?_,a,vs,rfl,upd_same,Reps.alloc ha r2⟩
  ·exact z.elim (fun z=>.inl (.inl z)) fun z=>.inl (.inr z)
  ·exact z.elim (fun z=>.inl (.inl z)) fun z=>.inl (.inr z)
end
end VS
namespace VS
open PySem PySem.Spec PyProof.Rows L2
section
variable {ct:Str→Option Addr} {S S' H H' S2 H2:Hp} {F F' G R R' T T' Fr F2 R2 Y:FP} {ρ ρ' ρ2:Rho} {σ:L2.St}
theorem Reps.get:∀ {ds:List D} {vs:List V} {F:FP} {k:Nat} {d:D},Reps ct S H ds vs F→ds[k]?=some d→∃ v F1,vs[k]?=some v∧Sub F1 F∧Rep ct S H d v F1
 | [],_,_,_,_,_,e=>by simp at e
 | x ::ds,_,_,0,d,⟨v,vr,F1,F2,ev,s1,s2,dj,h1,h2⟩,e=>by
  simp at e;subst e;exact ⟨v,F1,by rw [ev]; rfl,s1,h1⟩
 | x ::ds,_,_,k+1,d,⟨v,vr,F1,F2,ev,s1,s2,dj,h1,h2⟩,e=>by
  obtain ⟨w,G,e1,e2,e3⟩:=Reps.get (k:=k) h2 (by simpa using e);exact ⟨w,G,by rw [ev]; simpa using e1,e2.trans s2,e3⟩
theorem Vws.get:∀ {ds:List D} {vs:List V} {k:Nat} {d:D},Vws ct H F ds vs→ds[k]?=some d→∃ v,vs[k]?=some v∧Vw ct H F d v
 | [],_,_,_,_,e=>by simp at e
 | x ::ds,_,0,d,⟨v,vr,ev,h1,h2⟩,e=>by
  simp at e;subst e;exact ⟨v,by rw [ev]; rfl,h1⟩
 | x ::ds,_,k+1,d,⟨v,vr,ev,h1,h2⟩,e=>by
  obtain ⟨w,e1,e3⟩:=Vws.get (k:=k) h2 (by simpa using e);exact ⟨w,by rw [ev]; simpa using e1,e3⟩
theorem ZbJ {α β:Type} {xs:List α} {ys:List β} {i:Int} {x:α} (hl:xs.length=ys.length) (h:atI xs i=some x):∃ k:Nat,xs[k]?=some x∧∀ y,ys[k]?=some y→atI ys i=some y:=by
 unfold atI at h ⊢;obtain ⟨k,e1,e2⟩:=Option.bind_eq_some_iff.mp h;exact ⟨k,e2,fun y hy=>by rw [←hl,e1]; exact hy⟩
theorem Reps.drop:∀ {ds:List D} {vs:List V} {F:FP} (n:Nat),Reps ct S H ds vs F→Reps ct S H (ds.drop n) (vs.drop n) F
 | _,_,_,0,h=>h
 | [],_,_,n+1,h=>by
  have e:_=[]:=h;subst e;exact h
 | d ::ds,_,_,n+1,⟨v,vr,F1,F2,ev,s1,s2,dj,h1,h2⟩=>by
  subst ev;exact (Reps.drop n h2).mono s2
theorem Reps.take:∀ {ds:List D} {vs:List V} {F:FP} (n:Nat),Reps ct S H ds vs F→Reps ct S H (ds.take n) (vs.take n) F
 | _,_,_,0,h=>rfl
 | [],_,_,n+1,h=>by
  have e:_=[]:=h;subst e;exact h
 | d ::ds,_,_,n+1,⟨v,vr,F1,F2,ev,s1,s2,dj,h1,h2⟩=>by
  subst ev;exact ⟨v,vr.take n,F1,F2,rfl,s1,s2,dj,h1,Reps.take n h2⟩
theorem Reps.append:∀ {ds es:List D} {vs ws:List V} {F1 F2:FP},Reps ct S H ds vs F1→Reps ct S H es ws F2→Dj F1 F2→Reps ct S H (ds++es) (vs++ws) (Cup F1 F2)
 | [],_,_,_,_,_,h,k,dj=>by
  have e:_=[]:=h;subst e;exact k.mono Sub.cupR
 | d ::ds,_,_,_,_,_,⟨v,vr,A,B,ev,s1,s2,d12,h1,h2⟩,k,dj=>by
  subst ev;exact ⟨v,_,A,Cup B _,rfl,fun a z=>.inl (s1 a z),fun a z=>z.elim (fun z=>.inl (s2 a z)) .inr,fun a x y=>y.elim (d12 a x) fun y=>dj a (s1 a x) y,h1,Reps.append h2 k fun a x y=>dj a (s2 a x) y⟩
end
noncomputable def ZE (ks:List Key) (ds:List D) (k:Key):Option D:=((ks.zip ds).find? fun p=>decide (p.1=k)).map (·.2)
noncomputable def Za2:D→Option Key
 | .int i=>some (.inl i)
 | .str x=>some (.inr x)
 | _=>none
noncomputable def ixD:D→D→Option D
 | .lst _ ds,.int i=>atI ds i
 | .tup ds,.int i=>atI ds i
 | .str z,.int i=>if z.length≤1000000 then (atI z.cps.toList i).map fun c=>.str ⟨#[c]⟩ else none
 | .dic _ ks ds,k=>(Za2 k).bind fun k=>ZE ks ds k
 | _,_=>none
noncomputable def vwR (d:D):Rv:=if flat d=true then .own d else .vw d
noncomputable def ixR (r:Rv) (ρ:Rho) (e:D):Option Rv:=match r with
 | .own d=>(ixD d e).map .own
 | .vw d=>(ixD d e).map vwR
 | .pend i _=>match ρ[i]? with
  | some (.own d)=>(ixD d e).bind fun x=>if noOwn x=true then some (.own x) else none
  | some (.vw d)=>(ixD d e).map vwR
  | _=>none
noncomputable def mIx (ma mb:ME):ME:=fun ρ=>(ma ρ).bind fun p=>(mb p.2).bind fun q=>(rd q.1 q.2).bind fun e=>(ixR p.1 q.2 e).bind fun z=>some (z,q.2)
noncomputable def Zad (K:PySem.W.Frag):R2:=fun x y H Q=>rIx K x y H Q∨∃ a v,x=.ref a∧DGet H a y (some v)∧Q v H
section
variable {ct:Str→Option Addr} {S S' H H' S2 H2:Hp} {F F' G R R' T T' Fr F2 R2 Y:FP} {ρ ρ' ρ2:Rho} {σ:L2.St}
theorem ZcE {ks:List Key} {k:Key}:∀ {ks:List Key} {ds:List D} {vs:List V} {d:D},ks.length=ds.length→ds.length=vs.length→ZE ks ds k=some d→∃ (j:Nat) (v:V),ds[j]?=some d∧vs[j]?=some v∧valV (ks.zip vs) k=some v
 | [],ds,vs,d,_,_,h=>by simp [ZE] at h
 | x ::ks,[],vs,d,h,_,_=>by simp at h
 | x ::ks,y ::ds,[],d,_,h,_=>by simp at h
 | x ::ks,y ::ds,v ::vs,d,h1,h2,h=>by
  by_cases e:x=k
  ·have h':some y=some d:=by
    have : ZE (x ::ks) (y ::ds) k=some y:=by simp [ZE,e]
    rw [this] at h; exact h
   cases h';exact ⟨0,v,rfl,rfl,valV_pos (p:=(x,v)) e⟩
  ·have h':ZE ks ds k=some d:=by
    have : ZE (x ::ks) (y ::ds) k=ZE ks ds k:=by simp [ZE,e]
    rw [this] at h; exact h
   obtain ⟨j,w,a1,a2,a3⟩:=ZcE (ks:=ks) (by simpa using h1) (by simpa using h2) h';exact ⟨j+1,w,by simpa using a1,by simpa using a2,by
    show valV ((x,v) ::ks.zip vs) k=some w;rw [valV_neg (p:=(x,v)) e]; exact a3⟩
theorem ZcF {d:D} {k:Key} {v:V} (h:Vw ct H G d v) (e:Za2 d=some k):v=kV k:=by
 cases d with
 | int i=>cases e; exact h
 | str x=>cases e; exact h
 | _=>cases e
theorem Zd7 {K:PySem.W.Frag} {d e z:D} {x y:V} {Q:VK} (w:WOk S H G) (h:Rep ct S H d x F) (hy:Vw ct H No e y) (hz:ixD d e=some z) (k:∀ v F1,Sub F1 F→Rep ct S H z v F1→Q v H):Zad K x y H Q:=by
 cases d with
 | lst m ds=>
  cases e<;>first | cases hz | skip
  rename_i i;obtain ⟨a,vs,F',ex,n,hs⟩:=h;have hi:y=.int i:=hy;obtain ⟨j,ej,ha⟩:=ZbJ hs.len hz;obtain ⟨v,F1,ev,s1,q⟩:=hs.get ej;have hH:H a=some (.lst vs):=by
   cases m with
   | true=>exact n.1
   | false=>exact w.sub _ _ n.1
  exact .inl (.inl ⟨a,vs,i,v,ex,hi,SqL.of hH,ha v ev,k v F1 (s1.trans n.sub) q⟩)
 | tup ds=>
  cases e<;>first | cases hz | skip
  rename_i i;obtain ⟨a,vs,ex,n,hs⟩:=h;have hi:y=.int i:=hy;obtain ⟨j,ej,ha⟩:=ZbJ hs.len hz;obtain ⟨v,F1,ev,s1,q⟩:=hs.get ej;exact .inl (.inr (.inl ⟨a,vs,i,v,ex,hi,SqT.of n,ha v ev,k v F1 s1 q⟩))
 | str s=>
  cases e<;>first | cases hz | skip
  rename_i i;have hi:y=.int i:=hy;have hx:x=.str s:=h;unfold ixD at hz;dsimp only at hz;split at hz
  ·rename_i hl
   obtain ⟨c,hc,ez⟩:=Option.map_eq_some_iff.mp hz;subst ez;exact .inl (.inr (.inr ⟨s,i,c,hx,hi,Zac hl,hc,k _ No Sub.no rfl⟩))
  ·cases hz
 | dic m ks ds=>
  obtain ⟨a,vs,F',ex,hl,n,hs⟩:=h;have hz':((Za2 e).bind fun k=>ZE ks ds k)=some z:=hz;obtain ⟨kk,hk,hz2⟩:=bind_some hz';obtain ⟨j,v,ej,ev,hv⟩:=ZcE (ks:=ks) hl hs.len hz2;obtain ⟨v',F1,ev',s1,q⟩:=hs.get ej;rw [ev] at ev'; cases ev';have hH:H a=some (.dK (ks.zip vs)):=by
   cases m with
   | true=>exact n.1
   | false=>exact w.sub _ _ n.1
  refine .inr ⟨a,v,ex,.inl ⟨ks.zip vs,kk,.inl hH,ZcF hy hk,hv.symm⟩,k v F1 (s1.trans n.sub) q⟩
 | _=>cases e<;>cases hz
theorem Zd8 {K:PySem.W.Frag} {d e z:D} {x y:V} {Q:VK} (h:Vw ct H F d x) (hy:Vw ct H No e y) (hz:ixD d e=some z) (k:∀ v,Vw ct H F z v→Q v H):Zad K x y H Q:=by
 cases d with
 | lst m ds=>
  cases e<;>first | cases hz | skip
  rename_i i;obtain ⟨a,vs,ex,n,nf,hs⟩:=h;have hi:y=.int i:=hy;obtain ⟨j,ej,ha⟩:=ZbJ hs.len hz;obtain ⟨v,ev,q⟩:=hs.get ej;exact .inl (.inl ⟨a,vs,i,v,ex,hi,.inl n,ha v ev,k v q⟩)
 | tup ds=>
  cases e<;>first | cases hz | skip
  rename_i i;obtain ⟨a,vs,ex,n,hs⟩:=h;have hi:y=.int i:=hy;obtain ⟨j,ej,ha⟩:=ZbJ hs.len hz;obtain ⟨v,ev,q⟩:=hs.get ej;exact .inl (.inr (.inl ⟨a,vs,i,v,ex,hi,SqT.of n,ha v ev,k v q⟩))
 | str s=>
  cases e<;>first | cases hz | skip
  rename_i i;have hi:y=.int i:=hy;have hx:x=.str s:=h;unfold ixD at hz;dsimp only at hz;split at hz
  ·rename_i hl
   obtain ⟨c,hc,ez⟩:=Option.map_eq_some_iff.mp hz;subst ez;exact .inl (.inr (.inr ⟨s,i,c,hx,hi,Zac hl,hc,k _ rfl⟩))
  ·cases hz
 | dic m ks ds=>
  obtain ⟨a,vs,ex,hl,n,nf,hs⟩:=h;have hz':((Za2 e).bind fun k=>ZE ks ds k)=some z:=hz;obtain ⟨kk,hk,hz2⟩:=bind_some hz';obtain ⟨j,v,ej,ev,hv⟩:=ZcE (ks:=ks) hl hs.len hz2;obtain ⟨v',ev',q⟩:=hs.get ej;rw [ev] at ev'; cases ev';refine .inr ⟨a,v,ex,.inl ⟨ks.zip vs,kk,n,ZcF hy hk,hv.symm⟩,k v q⟩
 | _=>cases e<;>cases hz
theorem Zao {d:D} {v:V} (h:Vw ct H T d v):RvRep ct S H T σ No (vwR d) v:=by
 unfold vwR;split
 ·rename_i hf
  exact Vw.flat hf h
 ·exact h
theorem Zgz {K:PySem.W.Frag} {ma mb:ME}:∀ σ H Q,tI ct (mIx ma mb) σ H Q→tOp (Zad K) (tI ct ma) (tI ct mb) σ H Q:=by
 rintro σ H Q ⟨ρ,S,F,R,rr,ρ',st,e,k⟩;obtain ⟨p,hp,e⟩:=bind_some e;obtain ⟨q,hq,e⟩:=bind_some e;obtain ⟨d,hd,e⟩:=bind_some e;obtain ⟨z,hz,e⟩:=bind_some e;cases e;refine ⟨ρ,S,F,R,p.1,p.2,st,hp,fun S1 H1 F1 Fa x P1=>⟨p.2,S1,F1,Cup R Fa,q.1,q.2,P1.st,hq,fun S2 H2 F2 Fb y P2=>?_⟩⟩
 obtain ⟨st2,ra,rb,dRa,dRb,dab,t⟩:=State.of2 P1 P2;have hy:=Zx st2 rb hd;have fin:∀ {r:Rv} {v:V} {G:FP},Sub G Fa→RvRep ct S2 H2 (Cup F2 (Cup (Cup R Fa) Fb)) σ G r v→rr=r→Q v H2:=fun {r v G} sG h er=>by
  subst er;refine k S2 H2 F2 Fa v ⟨st2.drop fun a z=>?_,dRa,t.grow fun a z=>?_,(h.grow sG).anti fun a z=>?_⟩
  ·exact z.elim (fun z=>.inl (.inl z)) fun z=>.inl (.inr z)
  ·exact z.elim .inl fun z=>.inr (.inl z)
  ·exact z.elim .inl fun z=>z.elim (fun z=>.inr (.inl (.inl z))) fun z=>.inr (.inl (.inr z))
 generalize p.1=r1 at ra hz;cases r1 with
 | own d1=>
  obtain ⟨z1,h1,h2⟩:=Option.map_eq_some_iff.mp hz;exact Zd7 st2.w ra hy h1 fun v G1 s1 q1=>fin (r:=.own z1) s1 q1 h2.symm
 | vw d1=>
  obtain ⟨z1,h1,h2⟩:=Option.map_eq_some_iff.mp hz;exact Zd8 ra hy h1 fun v q1=>fin Sub.no (Zao q1) h2.symm
 | pend i fz=>
  have hv:σ[i]?=some (some x):=ra;unfold ixR at hz;dsimp only at hz;cases hs:q.2[i]? with
  | none=>rw [hs] at hz; cases hz
  | some sl=>
   rw [hs] at hz;obtain ⟨Fi,si,hsl⟩:=st2.slot hs;cases sl with
   | dead=>cases hz
   | own d1=>
    obtain ⟨z1,h1,h2⟩:=bind_some hz;split at h2
    ·rename_i hn
     cases h2;obtain ⟨v',e1,q1⟩:=hsl;rw [hv] at e1; cases e1;exact Zd7 st2.w q1 hy h1 fun v G1 s1 q2=>fin (r:=.own z1) Sub.no (Rep.noown hn q2) rfl
    ·cases h2
   | vw d1=>
    obtain ⟨z1,h1,h2⟩:=Option.map_eq_some_iff.mp hz;obtain ⟨v',e1,q1⟩:=hsl;rw [hv] at e1; cases e1;exact Zd8 q1 hy h1 fun v q2=>fin Sub.no (Zao q2) h2.symm
theorem ZgA {X:Cx} (hu:X.A.units+1 < cLine):IxR X (fun x y H Q=>∃ a v,x=.ref a∧DGet H a y (some v)∧Q v H):=by
 intro value slice pins s σ H x y v u Q I rx ry h hs;obtain ⟨a,z,rfl,g,q⟩:=h;obtain rfl:v=Value.ref a:=rx;exact tail_any (dict_typeIs I g) PySem.F.slot_dict_getitem.lookup (d_getItem hu I g ry fun w' s3 I3 rw'=>⟨z,H,I3,rw',q⟩) hs
theorem ZbK {X:Cx} (hu:X.A.units+1 < cLine):IxR X (Zad X.K):=ix_seq.or (ZgA hu)
end
end VS
namespace VS
open PySem PySem.Spec PyProof.Rows L2
noncomputable def seqOf:D→Option (Bool×List D)
 | .lst _ ds=>some (false,ds)
 | .tup ds=>some (true,ds)
 | _=>none
noncomputable def flatO (p:Bool×List D):Option (Bool×List D):=if flats p.2=true then some p else none
noncomputable def noOwnO (p:Bool×List D):Option (Bool×List D):=if noOwns p.2=true then some p else none
noncomputable def elems (v:Bool) (r:Rv) (ρ:Rho):Option (Bool×List D):=match r with
 | .own d=>seqOf d
 | .vw d=>if v=true then (seqOf d).bind flatO else none
 | .pend i _=>match ρ[i]? with
  | some (.own d)=>(seqOf d).bind noOwnO
  | some (.vw d)=>if v=true then (seqOf d).bind flatO else none
  | _=>none
section
variable {ct:Str→Option Addr} {S S' H H' S2 H2:Hp} {F F' G R R' T T' Fr F2 R2 Y:FP} {ρ ρ' ρ2:Rho} {σ:L2.St}
noncomputable def SeqAt (H:Hp) (b:Bool) (v:Bool) (a:Addr) (vs:List V):Prop:=
 match b with
 | true=>H a=some (.tup vs)
 | false=>if v=true then Rd H a (.lst vs) else H a=some (.lst vs)
theorem SeqAt.sq {K:PySem.W.Frag} {b v:Bool} {a:Addr} {vs:List V} (h:SeqAt H b v a vs):(b=false∧SqL K H a vs)∨(b=true∧SqT K H a vs):=by
 cases b with
 | true=>exact .inr ⟨rfl,SqT.of h⟩
 | false=>
  cases v with
  | true=>exact .inl ⟨rfl,.inl h⟩
  | false=>exact .inl ⟨rfl,SqL.of h⟩
theorem Zd9 {v:Bool} {d:D} {x:V} {p:Bool×List D} (w:WOk S H G) (h:Rep ct S H d x F) (e:seqOf d=some p):∃ a vs F1,x=.ref a∧SeqAt H p.1 v a vs∧Sub F1 F∧Reps ct S H p.2 vs F1:=by
 cases d with
 | lst m ds=>
  cases e;obtain ⟨a,vs,F',ex,n,hs⟩:=h;have hH:H a=some (.lst vs):=by
   cases m with
   | true=>exact n.1
   | false=>exact w.sub _ _ n.1
  refine ⟨a,vs,F',ex,?_,n.sub,hs⟩
  cases v with
  | true=>exact .inl hH
  | false=>exact hH
 | tup ds=>
  cases e;obtain ⟨a,vs,ex,n,hs⟩:=h;exact ⟨a,vs,F,ex,n,Sub.refl _,hs⟩
 | _=>cases e
theorem ZgB {d:D} {x:V} {p:Bool×List D} (h:Vw ct H T d x) (e:seqOf d=some p):∃ a vs,x=.ref a∧SeqAt H p.1 true a vs∧Vws ct H T p.2 vs:=by
 cases d with
 | lst m ds=>
  cases e;obtain ⟨a,vs,ex,n,nf,hs⟩:=h;exact ⟨a,vs,ex,n,hs⟩
 | tup ds=>
  cases e;obtain ⟨a,vs,ex,n,hs⟩:=h;exact ⟨a,vs,ex,n,hs⟩
 | _=>cases e
theorem ZcG {v:Bool} {r:Rv} {x:V} {p:Bool×List D} (st:State ct S H F R ρ σ) (h:RvRep ct S H T σ Fr r x) (e:elems v r ρ=some p):
  ∃ a vs F1,x=.ref a∧SeqAt H p.1 v a vs∧Sub F1 Fr∧Reps ct S H p.2 vs F1:=by
 have view:∀ {d:D} {T:FP},Vw ct H T d x→(if v=true then (seqOf d).bind flatO else none)=some p→∃ a vs F1,x=.ref a∧SeqAt H p.1 v a vs∧Sub F1 Fr∧Reps ct S H p.2 vs F1:=fun {d T} q e=>by
  cases v with
  | false=>cases e
  | true=>
   rw [if_pos rfl] at e;obtain ⟨p',h1,h2⟩:=bind_some e;unfold flatO at h2;split at h2
   ·rename_i hf
    cases h2;obtain ⟨a,vs,ex,hs,q⟩:=ZgB q h1;exact ⟨a,vs,No,ex,hs,Sub.no,Vws.flat hf q⟩
   ·cases h2
 cases r with
 | own d=>exact Zd9 st.w h e
 | vw d=>exact view h e
 | pend i fz=>
  have hv:σ[i]?=some (some x):=h;unfold elems at e;dsimp only at e;cases hs:ρ[i]? with
  | none=>rw [hs] at e; cases e
  | some sl=>
   rw [hs] at e;obtain ⟨Fi,si,hsl⟩:=st.slot hs;cases sl with
   | dead=>cases e
   | own d=>
    obtain ⟨v',e1,q⟩:=hsl;rw [hv] at e1; cases e1;obtain ⟨p',h1,h2⟩:=bind_some e;unfold noOwnO at h2;split at h2
    ·rename_i hn
     cases h2;obtain ⟨a,vs,F1,ex,hs,_,q⟩:=Zd9 (v:=v) st.w q h1;exact ⟨a,vs,No,ex,hs,Sub.no,Reps.noown hn q⟩
    ·cases h2
   | vw d=>
    obtain ⟨v',e1,q⟩:=hsl;rw [hv] at e1; cases e1;exact view q e
theorem Zea {S H:Hp} {Fa:FP} {ds:List D} {vs:List V} {a:Addr} {Q:VK} {r:Rv} (er:r=.own (.lst true ds)) (st:State ct S2 H2 F2 R2 ρ2 σ) (kR:Sub R R2) (kF:Sub Fa R2) (dj:Dj R Fa) (h:Reps ct S2 H2 ds vs Fa) (t:Tr S H F S2 H2 (Cup F2 Y)) (kY:Sub Fa Y) (ha:H2 a=none)
  (k:∀ S' H' F' Fr v,Post ct S H F R σ r ρ2 S' H' F' Fr v→Q v H'):Q (.ref a) (upd H2 a (.lst vs)):=by
 subst er;have nm:¬ Fa a:=fun z=>(st.w.out a (.inr (kF a z))).2 ha
 refine k S2 (upd H2 a (.lst vs)) F2 (Cup Fa (One a)) (.ref a) ⟨(st.alloc ha).drop fun b z=>?_,fun b x y=>?_,(t.trans (Tr.alloc (S:=S2) ha)).grow fun b z=>?_,a,vs,Fa,rfl,⟨upd_same,.inr rfl,nm,Sub.cupL⟩,Reps.alloc ha h⟩
 ·exact z.elim (fun z=>.inl (kR b z)) fun z=>z.elim (fun z=>.inl (kF b z)) .inr
 ·exact y.elim (dj b x) fun y=>(st.w.out b (.inr (kR b x))).2 (by rw [y]; exact ha)
 ·exact z.elim (fun z=>.inl (.inl z)) fun z=>z.elim (fun z=>.inl (.inr (kY b z))) .inr
theorem ZgC {S H:Hp} {Fa:FP} {ds:List D} {vs:List V} {a:Addr} {Q:VK} {r:Rv} (er:r=.own (.tup ds)) (st:State ct S2 H2 F2 R2 ρ2 σ) (kR:Sub R R2) (kF:Sub Fa R2) (dj:Dj R Fa) (h:Reps ct S2 H2 ds vs Fa) (t:Tr S H F S2 H2 (Cup F2 Y)) (kY:Sub Fa Y) (ha:H2 a=none)
  (k:∀ S' H' F' Fr v,Post ct S H F R σ r ρ2 S' H' F' Fr v→Q v H'):Q (.ref a) (upd H2 a (.tup vs)):=by
 subst er;refine k S2 (upd H2 a (.tup vs)) F2 Fa (.ref a) ⟨(st.alloc ha).drop fun b z=>?_,dj,(t.trans (Tr.alloc (S:=S2) ha)).grow fun b z=>?_,a,vs,rfl,upd_same,Reps.alloc ha h⟩
 ·exact z.elim (fun z=>.inl (kR b z)) fun z=>.inl (kF b z)
 ·exact z.elim (fun z=>.inl (.inl z)) fun z=>.inl (.inr (kY b z))
end
noncomputable abbrev MO:=Rho→Option (Option Int×Rho)
noncomputable def tO (ct:Str→Option Addr) (m:MO):TO:=fun σ H Q=>∃ ρ S F R o ρ',State ct S H F R ρ σ∧m ρ=some (o,ρ')∧∀ S' H' F',State ct S' H' F' R ρ' σ→Tr S H F S' H' F'→Q o H'
noncomputable def intOf:D→Option Int
 | .int i=>some i
 | _=>none
noncomputable def ZcH (m:Option ME):MO:=match m with
 | none=>fun ρ=>some (none,ρ)
 | some m=>fun ρ=>(m ρ).bind fun p=>(rd p.1 p.2).bind fun d=>(intOf d).bind fun i=>some (some i,p.2)
theorem Zeb {d:D} {i:Int} (h:intOf d=some i):d=.int i:=by
 cases d with
 | int j=>cases h; rfl
 | _=>cases h
section
variable {ct:Str→Option Addr} {S S' H H' S2 H2:Hp} {F F' G R R' T T' Fr F2 R2 Y:FP} {ρ ρ' ρ2:Rho} {σ:L2.St}
theorem ZgD:∀ σ H Q,tO ct (ZcH none) σ H Q→tNoPart σ H Q:=by
 rintro σ H Q ⟨ρ,S,F,R,o,ρ',st,e,k⟩;cases e;exact k S H F st (Tr.refl (Sub.refl _))
theorem ZgE {m:ME}:∀ σ H Q,tO ct (ZcH (some m)) σ H Q→tPart (tI ct m) σ H Q:=by
 rintro σ H Q ⟨ρ,S,F,R,o,ρ',st,e,k⟩;obtain ⟨p,hp,e⟩:=bind_some e;obtain ⟨d,hd,e⟩:=bind_some e;obtain ⟨i,hi,e⟩:=bind_some e;cases e;refine ⟨ρ,S,F,R,p.1,p.2,st,hp,fun S1 H1 F1 Fa x P1=>?_⟩
 have q:=Zx P1.st P1.rv hd;rw [Zeb hi] at q;exact ⟨i,q,k S1 H1 F1 (P1.st.drop fun a z=>.inl z) (P1.tr.grow fun a z=>.inl z)⟩
end
noncomputable def rds:List Rv→Rho→Option (List D)
 | [],_=>some []
 | r ::rs,ρ=>(rd r ρ).bind fun d=>(rds rs ρ).bind fun ds=>some (d ::ds)
noncomputable def mB (f:List D→Option D) (ma:MA):ME:=fun ρ=>(ma ρ).bind fun p=>(rds p.1 p.2).bind fun ds=>(f ds).bind fun z=>some (.own z,p.2)
noncomputable def Zec (ct:Str→Option Addr) (r:List V→Hp→VK→Prop) (f:List D→Option D):Prop:=
 ∀ ds z vs H Q,Vws ct H No ds vs→f ds=some z→(∀ v,Sc z v→Q v H)→r vs H Q
section
variable {ct:Str→Option Addr} {S S' H H' S2 H2:Hp} {F F' G R R' T T' Fr F2 R2 Y:FP} {ρ ρ' ρ2:Rho} {σ:L2.St}
theorem ZcI:∀ {rs:List Rv} {vs:List V} {ds:List D} {Fr:FP},State ct S H F R ρ σ→RvReps ct S H T σ rs vs Fr→rds rs ρ=some ds→Vws ct H No ds vs
 | [],_,_,_,st,h,e=>by cases e; exact h
 | r ::rs,_,_,_,st,⟨v,vr,F1,F2,ev,s1,s2,dj,h1,h2⟩,e=>by
  obtain ⟨d,hd,e⟩:=bind_some e;obtain ⟨ds,hds,e⟩:=bind_some e;cases e;exact ⟨v,vr,ev,Zx st h1 hd,ZcI st h2 hds⟩
theorem Zed {r:List V→Hp→VK→Prop} {f:List D→Option D} {ma:MA} (hr:Zec ct r f):∀ σ H Q,tI ct (mB f ma) σ H Q→tCB r (tIA ct ma) σ H Q:=by
 rintro σ H Q ⟨ρ,S,F,R,rr,ρ',st,e,k⟩;obtain ⟨p,hp,e⟩:=bind_some e;obtain ⟨ds,hds,e⟩:=bind_some e;obtain ⟨z,hz,e⟩:=bind_some e;cases e;refine ⟨ρ,S,F,R,p.1,p.2,st,hp,fun S1 H1 F1 Fa vs P1=>?_⟩
 exact hr ds z vs H1 Q (ZcI P1.st P1.rv hds) hz fun v hv=>k S1 H1 F1 No v (Post.done P1.st (fun a z=>.inl z) P1.tr (Sc.rep hv))
end
noncomputable def mCopy (t:Bool) (ma:MA):ME:=fun ρ=>(ma ρ).bind fun p=>match p.1 with
 | [r]=>(elems true r p.2).bind fun q=>if t=true then (if q.1=true then none else some (.own (.tup q.2),p.2)) else some (.own (.lst true q.2),p.2)
 | _=>none
noncomputable def ZgF (K:PySem.W.Frag):List V→Hp→VK→Prop:=fun xs H Q=>∃ p ys,xs=[.ref p]∧(SqL K H p ys∨SqT K H p ys)∧∀ l,H l=none→Q (.ref l) (upd H l (.lst ys))
noncomputable def ZgG (K:PySem.W.Frag):List V→Hp→VK→Prop:=fun xs H Q=>∃ p ys,xs=[.ref p]∧((SqL K H p ys∧∀ l,H l=none→Q (.ref l) (upd H l (.tup ys)))∨(SqT K H p ys∧Q (.ref p) H))
section
variable {ct:Str→Option Addr} {S S' H H' S2 H2:Hp} {F F' G R R' T T' Fr F2 R2 Y:FP} {ρ ρ' ρ2:Rho} {σ:L2.St}
theorem Zee {K:PySem.W.Frag} {t:Bool} {ma:MA}:∀ σ H Q,tI ct (mCopy t ma) σ H Q→tCB (if t=true then ZgG K else ZgF K) (tIA ct ma) σ H Q:=by
 rintro σ H Q ⟨ρ,S,F,R,rr,ρ',st,e,k⟩;obtain ⟨p,hp,e⟩:=bind_some e;refine ⟨ρ,S,F,R,p.1,p.2,st,hp,fun S1 H1 F1 Fa vs P1=>?_⟩
 obtain ⟨rs,ρ1⟩:=p;cases rs with
 | nil=>cases e
 | cons r rs=>
  cases rs with
  | cons _ _=>cases e
  | nil=>
   obtain ⟨q,hq,e⟩:=bind_some e;obtain ⟨v,vr,G1,G2,ev,s1,s2,dj,h1,h2⟩:=P1.rv;obtain rfl:vr=[]:=h2;subst ev;obtain ⟨a,vs,G3,ex,hsq,sG,hr⟩:=ZcG P1.st h1 hq;subst ex;have kF:Sub G3 (Cup R Fa):=fun b z=>.inr (s1 b (sG b z))
   have kd:Dj R G3:=fun b x y=>P1.djr b x (s1 b (sG b y))
   have kY:Sub G3 Fa:=fun b z=>s1 b (sG b z)
   cases t with
   | false=>
    rw [if_neg Bool.false_ne_true] at e ⊢;cases e;refine ⟨a,vs,rfl,?_,fun l hl=>Zea rfl P1.st (fun b z=>.inl z) kF kd hr P1.tr kY hl k⟩
    rcases hsq.sq (K:=K) with ⟨_,z⟩ | ⟨_,z⟩
    ·exact .inl z
    ·exact .inr z
   | true=>
    rw [if_pos rfl] at e ⊢;split at e
    ·cases e
    ·rename_i hb
     cases e;refine ⟨a,vs,rfl,.inl ⟨?_,fun l hl=>ZgC rfl P1.st (fun b z=>.inl z) kF kd hr P1.tr kY hl k⟩⟩
     rcases hsq.sq (K:=K) with ⟨_,z⟩ | ⟨z,_⟩
     ·exact z
     ·exact absurd z hb
end
noncomputable def Za3 (ma mb:ME):ME:=fun ρ=>(ma ρ).bind fun p=>(mb p.2).bind fun q=>(elems false p.1 q.2).bind fun x=>(elems false q.1 q.2).bind fun y=>
 if x.1=false∧y.1=false∧x.2.length+y.2.length≤1000000 then some (.own (.lst true (x.2++y.2)),q.2) else none
section
variable {ct:Str→Option Addr} {S S' H H' S2 H2:Hp} {F F' G R R' T T' Fr F2 R2 Y:FP} {ρ ρ' ρ2:Rho} {σ:L2.St}
theorem ZgH {ma mb:ME}:∀ σ H Q,tI ct (Za3 ma mb) σ H Q→tOp rCat (tI ct ma) (tI ct mb) σ H Q:=by
 rintro σ H Q ⟨ρ,S,F,R,rr,ρ',st,e,k⟩;obtain ⟨p,hp,e⟩:=bind_some e;obtain ⟨q,hq,e⟩:=bind_some e;obtain ⟨xs,hx,e⟩:=bind_some e;obtain ⟨ys,hy,e⟩:=bind_some e;split at e
 ·rename_i hc
  cases e;refine ⟨ρ,S,F,R,p.1,p.2,st,hp,fun S1 H1 F1 Fa x P1=>⟨p.2,S1,F1,Cup R Fa,q.1,q.2,P1.st,hq,fun S2 H2 F2 Fb y P2=>?_⟩⟩
  obtain ⟨st2,ra,rb,dRa,dRb,dab,t⟩:=State.of2 P1 P2;obtain ⟨b1,ds⟩:=xs;obtain ⟨b2,es⟩:=ys;obtain ⟨c1,c2,c3⟩:=hc;dsimp only at c1 c2 c3;subst c1;subst c2;obtain ⟨a,vs,G1,ex,hs1,sG1,hr1⟩:=ZcG st2 ra hx;obtain ⟨b,ws,G2,ey,hs2,sG2,hr2⟩:=ZcG st2 rb hy;refine ⟨a,b,vs,ws,ex,ey,hs1,hs2,?_,fun l hl=>?_⟩
  ·rw [←hr1.len,←hr2.len]
   exact Zac c3
  ·refine Zea rfl st2 (fun b z=>.inl (.inl z)) (Fa:=Cup G1 G2) (fun b z=>?_) (fun b x y=>?_) (hr1.append hr2 (dab.mono sG1 sG2)) t (fun b z=>?_) hl k
   ·exact z.elim (fun z=>.inl (.inr (sG1 b z))) fun z=>.inr (sG2 b z)
   ·exact y.elim (fun y=>dRa b x (sG1 b y)) fun y=>dRb b x (sG2 b y)
   ·exact z.elim (fun z=>.inl (sG1 b z)) fun z=>.inr (sG2 b z)
 ·cases e
theorem Reps.rep {ds:List D} {vs:List V} (h:Reps ct S H ds vs No):∀ n,Reps ct S H (List.replicate n ds).flatten (List.replicate n vs).flatten No
 | 0=>rfl
 | n+1=>by
  rw [List.replicate_succ,List.replicate_succ,List.flatten_cons,List.flatten_cons];exact (h.append (Reps.rep h n) Dj.no).mono fun a z=>z.elim id id
end
end VS
namespace VS
open PySem PySem.Spec PyProof.Rows L2
inductive Md where
 | vw | val | io | mv
 deriving DecidableEq
structure FnS where
 md : List Md
 sem : List D→Option (D×List D)
section
variable (ct:Str→Option Addr)
noncomputable def ArgsRep (S H:Hp) (T:FP):List Md→List D→List V→FP→Prop
 | [],ds,vs,_=>ds=[]∧vs=[]
 | .vw ::ms,ds,vs,F=>∃ d dr v vr,ds=d ::dr∧vs=v ::vr∧Vw ct H T d v∧ArgsRep S H T ms dr vr F
 | .val ::ms,ds,vs,F=>∃ d dr v vr,ds=d ::dr∧vs=v ::vr∧noOwn d=true∧Rep ct S H d v No∧ArgsRep S H T ms dr vr F
 | .io ::ms,ds,vs,F=>∃ d dr v vr F1 F2,ds=d ::dr∧vs=v ::vr∧Sub F1 F∧Sub F2 F∧Dj F1 F2∧Rep ct S H d v F1∧ArgsRep S H T ms dr vr F2
 | .mv ::ms,ds,vs,F=>∃ d dr v vr F1 F2,ds=d ::dr∧vs=v ::vr∧Sub F1 F∧Sub F2 F∧Dj F1 F2∧(if noOwn d=true then Vw ct H T d v else Rep ct S H d v F1)∧ArgsRep S H T ms dr vr F2
noncomputable def OutsRep (S H:Hp):List Md→List D→List V→FP→Prop
 | [],os,_,_=>os=[]
 | .vw ::ms,os,vs,F=>OutsRep S H ms os vs.tail F
 | .val ::ms,os,vs,F=>OutsRep S H ms os vs.tail F
 | .mv ::ms,os,vs,F=>OutsRep S H ms os vs.tail F
 | .io ::ms,os,vs,F=>∃ o or_ v vr F1 F2,os=o ::or_∧vs=v ::vr∧Sub F1 F∧Sub F2 F∧Dj F1 F2∧Rep ct S H o v F1∧OutsRep S H ms or_ vr F2
structure EndRep (S H:Hp) (F:FP) (md:List Md) (vs:List V) (r:D) (outs:List D) (S' H':Hp) (F' Fr:FP) (v:V):Prop where
 w : WOk S' H' (Cup F' Fr)
 dj : Dj F' Fr
 tr : Tr S H F S' H' (Cup F' Fr)
 rep : Rep ct S' H' r v Fr
 outs : OutsRep ct S' H' md outs vs F'
noncomputable def spI (fn:FnS):Sp:=fun vs H Q _=>∃ S F ds r outs,WOk S H F∧ArgsRep ct S H F fn.md ds vs F∧fn.sem ds=some (r,outs)∧∀ S' H' F' Fr v,EndRep ct S H F fn.md vs r outs S' H' F' Fr v→Q v H'
end
noncomputable def prep1 (m:Md) (r:Rv) (ρ:Rho):Option (Rv×Rho):=match m,r with
 | .io,.own d=>some (.own d,ρ)
 | .io,.vw _=>none
 | .io,.pend i _=>match ρ[i]? with
  | some (.own d)=>some (.own d,ρ.set i .dead)
  | _=>none
 | .mv,.own d=>some (.own d,ρ)
 | .mv,.vw d=>some (.vw d,ρ)
 | .mv,.pend i fz=>some (.pend i fz,ρ)
 | .val,.own d=>some (.own (strip d),ρ)
 | .val,.vw d=>if flat d=true then some (.own d,ρ) else none
 | .val,.pend i _=>match ρ[i]? with
  | some (.own d)=>if noOwn d=true then some (.own d,ρ) else some (.own (strip d),ρ.set i (.own (strip d)))
  | some (.vw d)=>if flat d=true then some (.own d,ρ) else none
  | _=>none
 | .vw,.own d=>some (.own (strip d),ρ)
 | .vw,.vw d=>some (.vw d,ρ)
 | .vw,.pend i fz=>some (.pend i fz,ρ)
noncomputable def preps:List Md→List Rv→Rho→Option (List Rv×Rho)
 | [],[],ρ=>some ([],ρ)
 | m ::ms,r ::rs,ρ=>(prep1 m r ρ).bind fun p=>(preps ms rs p.2).bind fun q=>some (p.1 ::q.1,q.2)
 | _,_,_=>none
noncomputable def bind2:List Md→List Rv→Rho→Option (List D)
 | [],[],_=>some []
 | .io ::ms,.own d ::rs,ρ=>(bind2 ms rs ρ).bind fun ds=>some (d ::ds)
 | .mv ::ms,r ::rs,ρ=>(match r with | .own d=>if noOwn d=true then none else some d | r=>rd r ρ).bind fun d=>(bind2 ms rs ρ).bind fun ds=>some (d ::ds)
 | .val ::ms,.own d ::rs,ρ=>if noOwn d=true then (bind2 ms rs ρ).bind fun ds=>some (d ::ds) else none
 | .vw ::ms,r ::rs,ρ=>(rd r ρ).bind fun d=>(bind2 ms rs ρ).bind fun ds=>some (d ::ds)
 | _,_,_=>none
noncomputable def backs:List Md→List Rv→List D→Rho→Option Rho
 | [],[],[],ρ=>some ρ
 | .vw ::ms,_ ::rs,os,ρ=>backs ms rs os ρ
 | .val ::ms,_ ::rs,os,ρ=>backs ms rs os ρ
 | .mv ::ms,_ ::rs,os,ρ=>backs ms rs os ρ
 | .io ::ms,.own _ ::rs,_ ::os,ρ=>backs ms rs os ρ
 | .io ::ms,.pend i _ ::rs,o ::os,ρ=>(match ρ[i]? with | some .dead=>some (ρ.set i (.own o)) | _=>none).bind fun ρ1=>backs ms rs os ρ1
 | _,_,_,_=>none
noncomputable def applyF (fn:FnS) (rs:List Rv) (ρ:Rho):Option (D×List D×Rho):=
 (preps fn.md rs ρ).bind fun p=>(bind2 fn.md p.1 p.2).bind fun ds=>(fn.sem ds).bind fun q=>(backs fn.md rs q.2 p.2).bind fun ρ2=>some (q.1,q.2,ρ2)
theorem ArgsRep.mono {ct:Str→Option Addr} {S H:Hp} {T:FP}:∀ {ms:List Md} {ds:List D} {vs:List V} {F G:FP},ArgsRep ct S H T ms ds vs F→Sub F G→ArgsRep ct S H T ms ds vs G
 | [],_,_,_,_,h,_=>h
 | .vw ::ms,_,_,_,_,⟨d,dr,v,vr,e1,e2,h1,h2⟩,k=>⟨d,dr,v,vr,e1,e2,h1,h2.mono k⟩
 | .val ::ms,_,_,_,_,⟨d,dr,v,vr,e1,e2,h0,h1,h2⟩,k=>⟨d,dr,v,vr,e1,e2,h0,h1,h2.mono k⟩
 | .io ::ms,_,_,_,_,⟨d,dr,v,vr,F1,F2,e1,e2,s1,s2,dj,h1,h2⟩,k=>⟨d,dr,v,vr,F1,F2,e1,e2,s1.trans k,s2.trans k,dj,h1,h2⟩
 | .mv ::ms,_,_,_,_,⟨d,dr,v,vr,F1,F2,e1,e2,s1,s2,dj,h1,h2⟩,k=>⟨d,dr,v,vr,F1,F2,e1,e2,s1.trans k,s2.trans k,dj,h1,h2⟩
section
open Classical
variable {ct:Str→Option Addr} {S S' H H' S2 H2:Hp} {F F' G R R' T T' Fr F2 R2 Y:FP} {ρ ρ' ρ2:Rho} {σ:L2.St}
theorem State.freezeT {Fx:FP} (st:State ct S H F R ρ σ) (k:Sub Fx R):
  ∃ S',(∀ a o,S a=some o→S' a=some o)∧(∀ a o,Fx a→H a=some o→S' a=some o)∧(∀ a o,S' a=some o→S a=some o∨Fx a)∧State ct S' H F (Dif R Fx) ρ σ:=by
 obtain ⟨fs,h1,h2,h3⟩:=st.fs;have eT:Sub (Cup F (Dif R Fx)) (Cup F R):=fun a z=>z.elim .inl fun z=>.inr z.1
 have ext:∀ a o,S a=some o→(fun a=>if Fx a then H a else S a) a=some o:=fun a o e=>by
  dsimp only;split
  ·rename_i z
   have:=(st.w.out a (.inr (k a z))).1
   rw [e] at this; cases this
  ·exact e
 refine ⟨fun a=>if Fx a then H a else S a,ext,fun a o z e=>?_,fun a o e=>?_,⟨⟨fun a o e=>?_,fun a z=>?_⟩,fun a u z=>st.dj a u z.1,st.len,fs,h1,h2,fun j s e=>?_⟩⟩
 ·show (if Fx a then H a else S a)=some o
  rw [if_pos z];exact e
 ·by_cases z:Fx a
  ·exact .inr z
  ·rw [show (fun a=>if Fx a then H a else S a) a=S a from if_neg z] at e
   exact .inl e
 ·by_cases z:Fx a
  ·rw [if_pos z] at e
   exact e
  ·rw [if_neg z] at e
   exact st.w.sub a o e
 ·have n:¬ Fx a:=fun z2=>z.elim (fun z=>st.dj a z (k a z2)) fun z=>z.2 z2
  refine ⟨?_,(st.w.out a (eT a z)).2⟩
  show (if Fx a then H a else S a)=none;rw [if_neg n];exact (st.w.out a (eT a z)).1
 ·have q:=h3 j s e
  cases s with
  | dead=>trivial
  | own d=>obtain ⟨v,e1,q⟩:=q; exact ⟨v,e1,Rep.tr ext (fun _ _ x=>x) q fun _ _ x _=>x⟩
  | vw d=>obtain ⟨v,e1,q⟩:=q; exact ⟨v,e1,q.anti eT⟩
structure Moved (ct:Str→Option Addr) (S H:Hp) (F R:FP) (σ:L2.St) (Fr:FP) (S':Hp) (F' R' Fm:FP) (ρ':Rho):Prop where
 st : State ct S' H F' R' ρ' σ
 fm : Sub Fm R'
 keep : ∀ a,R a→¬ Fr a→R' a
 new : ∀ a,R' a→R a∨F a
 sF : Sub F' F
 fr : ∀ a,Fm a→Fr a∨(F a∧¬ R a)
 ext : ∀ a o,S a=some o→S' a=some o
 nws : ∀ a o,S' a=some o→S a=some o∨F a∨Fr a
theorem ZgI {m:Md} {r r':Rv} {v:V} (st:State ct S H F R ρ σ) (kr:Sub Fr R) (kT:Sub (Cup F R) T) (h:RvRep ct S H T σ Fr r v) (e:prep1 m r ρ=some (r',ρ')):
  ∃ S' F' R' Fm,Moved ct S H F R σ Fr S' F' R' Fm ρ'∧RvRep ct S' H T σ Fm r' v:=by
 have now:∀ {Fm:FP} {r':Rv},Sub Fm Fr→RvRep ct S H T σ Fm r' v→∃ S' F' R' Fm,Moved ct S H F R σ Fr S' F' R' Fm ρ∧RvRep ct S' H T σ Fm r' v:=fun {Fm r'} s q=>
  ⟨S,F,R,Fm,⟨st,s.trans kr,fun _ z _=>z,fun _ z=>.inl z,Sub.refl _,fun a z=>.inl (s a z),fun _ _ z=>z,fun _ _ z=>.inl z⟩,q⟩
 have frz:∀ {d:D},RvRep ct S H T σ Fr (.own d) v→∃ S' F' R' Fm,Moved ct S H F R σ Fr S' F' R' Fm ρ∧RvRep ct S' H T σ Fm (.own (strip d)) v:=fun {d} q=>by
  obtain ⟨S',ext,fz,nw,st'⟩:=st.freezeT kr;exact ⟨S',F,Dif R Fr,No,⟨st',Sub.no,fun a z n=>⟨z,n⟩,fun a z=>.inl z.1,Sub.refl _,fun a z=>z.elim,ext,fun a o z=>(nw a o z).elim .inl fun z=>.inr (.inr z)⟩,Rep.freeze ext (fun a o z e=>fz a o z e) q⟩
 cases r with
 | own d=>
  cases m with
  | io=>cases e; exact now (Sub.refl _) h
  | mv=>cases e; exact now (Sub.refl _) h
  | val=>cases e; exact frz h
  | vw=>cases e; exact frz h
 | vw d=>
  cases m with
  | io=>cases e
  | mv=>cases e; exact now Sub.no (r':=.vw d) h
  | val=>
   unfold prep1 at e;dsimp only at e;split at e
   ·rename_i hf
    cases e;exact now Sub.no (r':=.own d) (Vw.flat (S:=S) (G:=No) hf h)
   ·cases e
  | vw=>cases e; exact now Sub.no (r':=.vw d) h
 | pend i fz=>
  have hv:σ[i]?=some (some v):=h;cases m with
  | vw=>cases e; exact now Sub.no (r':=.pend i fz) h
  | io=>
   unfold prep1 at e;dsimp only at e;cases hs:ρ[i]? with
   | none=>rw [hs] at e; cases e
   | some sl=>
    rw [hs] at e;cases sl with
    | dead=>cases e
    | vw d=>cases e
    | own d=>
     cases e;obtain ⟨v',Fm,e1,s1,st',q⟩:=st.move hs;rw [hv] at e1; cases e1;exact ⟨S,Dif F Fm,Cup R Fm,Fm,⟨st',Sub.cupR,fun a z _=>.inl z,fun a z=>z.elim .inl fun z=>.inr (s1 a z),fun a z=>z.1,fun a z=>.inr ⟨s1 a z,fun z2=>st.dj a (s1 a z) z2⟩,fun _ _ z=>z,fun _ _ z=>.inl z⟩,q⟩
  | mv=>cases e; exact now Sub.no (r':=.pend i fz) h
  | val=>
   unfold prep1 at e;dsimp only at e;cases hs:ρ[i]? with
   | none=>rw [hs] at e; cases e
   | some sl=>
    rw [hs] at e;cases sl with
    | dead=>cases e
    | vw d=>
     dsimp only at e;split at e
     ·rename_i hf
      cases e;obtain ⟨_,_,v',e1,q⟩:=st.slot hs;rw [hv] at e1; cases e1;exact now Sub.no (r':=.own d) (Vw.flat (S:=S) (G:=No) hf q)
     ·cases e
    | own d=>
     dsimp only at e;split at e
     ·rename_i hn
      cases e;obtain ⟨_,_,v',e1,q⟩:=st.slot hs;rw [hv] at e1; cases e1;exact now Sub.no (r':=.own d) (Rep.noown hn q)
     ·cases e
      obtain ⟨v',S',Fm,e1,s1,ext,nws,st',q⟩:=st.freeze hs;rw [hv] at e1; cases e1;exact ⟨S',Dif F Fm,R,No,⟨st',Sub.no,fun a z _=>z,fun a z=>.inl z,fun a z=>z.1,fun a z=>z.elim,ext,fun a o z=>(nws a o z).elim .inl fun z=>.inr (.inl z)⟩,q⟩
theorem ZbL:∀ {ms:List Md} {rs rs':List Rv} {vs:List V} {S:Hp} {F R T Fr:FP} {ρ ρ':Rho},State ct S H F R ρ σ→Sub Fr R→Sub (Cup F R) T→RvReps ct S H T σ rs vs Fr→preps ms rs ρ=some (rs',ρ')→
  ∃ S' F' R' Fm,Moved ct S H F R σ Fr S' F' R' Fm ρ'∧RvReps ct S' H T σ rs' vs Fm
 | [],[],rs',vs,S,F,R,T,Fr,ρ,ρ',st,kr,kT,h,e=>by
  cases e;exact ⟨S,F,R,No,⟨st,Sub.no,fun _ z _=>z,fun _ z=>.inl z,Sub.refl _,fun a z=>z.elim,fun _ _ z=>z,fun _ _ z=>.inl z⟩,h⟩
 | [],_ ::_,rs',vs,S,F,R,T,Fr,ρ,ρ',st,kr,kT,h,e=>by cases e
 | _ ::_,[],rs',vs,S,F,R,T,Fr,ρ,ρ',st,kr,kT,h,e=>by cases e
 | m ::ms,r ::rs,rs',vs,S,F,R,T,Fr,ρ,ρ',st,kr,kT,⟨v,vr,Fa,Fb,ev,s1,s2,dj,h1,h2⟩,e=>by
  obtain ⟨p,hp,e⟩:=bind_some e;obtain ⟨q,hq,e⟩:=bind_some e;cases e;obtain ⟨S1,F1,R1,Fm1,M1,q1⟩:=ZgI (r':=p.1) (ρ':=p.2) st (s1.trans kr) kT h1 hp;have kb:Sub Fb R1:=fun a z=>M1.keep a (kr a (s2 a z)) fun z2=>dj a z2 z
  have kT1:Sub (Cup F1 R1) T:=fun a z=>kT a (z.elim (fun z=>.inl (M1.sF a z)) fun z=>(M1.new a z).elim .inr .inl)
  obtain ⟨S2,F2,R2,Fm2,M2,q2⟩:=ZbL (rs':=q.1) (ρ':=q.2) M1.st kb kT1 (h2.ext M1.ext) hq;have d12:Dj Fm1 Fb:=fun a x y=>by
   rcases M1.fr a x with z | z
   ·exact dj a z y
   ·exact z.2 (kr a (s2 a y))
  refine ⟨S2,F2,R2,Cup Fm1 Fm2,⟨M2.st,fun a z=>?_,fun a z n=>?_,fun a z=>?_,M2.sF.trans M1.sF,fun a z=>?_,fun a o z=>M2.ext a o (M1.ext a o z),fun a o z=>?_⟩,v,vr,Fm1,Fm2,ev,Sub.cupL,Sub.cupR,fun a x y=>?_,q1.ext M2.ext,q2⟩
  ·exact z.elim (fun z=>M2.keep a (M1.fm a z) fun z2=>d12 a z z2) (M2.fm a)
  ·exact M2.keep a (M1.keep a z fun z2=>n (s1 a z2)) fun z2=>n (s2 a z2)
  ·exact (M2.new a z).elim (M1.new a) fun z=>.inr (M1.sF a z)
  ·rcases z with z | z
   ·exact (M1.fr a z).imp (s1 a) id
   ·rcases M2.fr a z with z | z
    ·exact .inl (s2 a z)
    ·by_cases hr:Fr a
     ·exact .inl hr
     ·exact .inr ⟨M1.sF a z.1,fun z2=>z.2 (M1.keep a z2 fun z3=>hr (s1 a z3))⟩
  ·rcases M2.nws a o z with z | z | z
   ·exact (M1.nws a o z).imp id fun z=>z.imp id (s1 a)
   ·exact .inr (.inl (M1.sF a z))
   ·exact .inr (.inr (s2 a z))
  ·rcases M2.fr a y with z | z
   ·exact d12 a x z
   ·exact z.2 (M1.fm a x)
theorem ZcJ {r:Rv} {d:D} {v:V} (st:State ct S H F R ρ σ) (hG:Sub G R) (nr:∀ x,r=.own x→noOwn x=true) (h:RvRep ct S H T σ Fr r v) (kT:Sub (Cup F R) T) (e:rd r ρ=some d):Vw ct H G d v:=by
 have hGS:∀ a,G a→S a=none:=fun a z=>(st.w.out a (.inr (hG a z))).1
 cases r with
 | own x=>
  cases e;exact Vw.strip (Rep.vw st.w.sub hGS Dj.no (Rep.noown (nr x rfl) h))
 | vw x=>
  cases e;exact Vw.strip (Vw.anti (fun a z=>kT a (.inr (hG a z))) h)
 | pend i fz=>
  have hv:σ[i]?=some (some v):=h;unfold rd at e;dsimp only at e;cases hs:ρ[i]? with
  | none=>rw [hs] at e; cases e
  | some sl=>
   rw [hs] at e;obtain ⟨Fi,si,hsl⟩:=st.slot hs;cases sl with
   | dead=>cases e
   | own x=>
    cases e;obtain ⟨v',e1,q⟩:=hsl;rw [hv] at e1; cases e1;exact Vw.strip (Rep.vw st.w.sub hGS (fun a x y=>st.dj a (si a x) (hG a y)) q)
   | vw x=>
    cases e;obtain ⟨v',e1,q⟩:=hsl;rw [hv] at e1; cases e1;exact Vw.strip (Vw.anti (fun a z=>.inr (hG a z)) q)
theorem Zef {r:Rv} {ρ:Rho} {d:D} (e:rd r ρ=some d):noOwn d=true:=by
 cases r with
 | own x=>cases e; exact ZK _
 | vw x=>cases e; exact ZK _
 | pend i fz=>
  unfold rd at e;dsimp only at e;split at e
  ·cases e; exact ZK _
  ·cases e; exact ZK _
  ·cases e
theorem ZgJ {m:Md} {r r':Rv} {ρ ρ':Rho} (hm:m≠.io∧m≠.mv) (e:prep1 m r ρ=some (r',ρ')):∀ x,r'=.own x→noOwn x=true∨m=.val:=by
 intro x hx;cases m with
 | io=>exact absurd rfl hm.1
 | mv=>exact absurd rfl hm.2
 | val=>exact .inr rfl
 | vw=>
  cases r with
  | own d=>cases e; cases hx; exact .inl (ZK d)
  | vw d=>cases e; cases hx
  | pend i fz=>cases e; cases hx
theorem Zap:∀ {ms:List Md} {rs0 rs:List Rv} {ds:List D} {vs:List V} {ρ0:Rho} {Fr:FP},State ct S H F R ρ σ→Sub G R→Sub (Cup F R) T→RvReps ct S H T σ rs vs Fr→(∃ ρ',preps ms rs0 ρ0=some (rs,ρ'))→bind2 ms rs ρ=some ds→
  ArgsRep ct S H G ms ds vs Fr
 | [],_,[],_,_,_,_,st,hG,kT,h,_,e=>by
  cases e;exact ⟨rfl,h⟩
 | [],_,_ ::_,_,_,_,_,st,hG,kT,h,_,e=>by cases e
 | .io ::ms,_,[],_,_,_,_,st,hG,kT,h,_,e=>by cases e
 | .mv ::ms,_,[],_,_,_,_,st,hG,kT,h,_,e=>by cases e
 | .val ::ms,_,[],_,_,_,_,st,hG,kT,h,_,e=>by cases e
 | .vw ::ms,_,[],_,_,_,_,st,hG,kT,h,_,e=>by cases e
 | .io ::ms,rs0,r ::rs,_,_,ρ0,_,st,hG,kT,⟨v,vr,Fa,Fb,ev,s1,s2,dj,h1,h2⟩,⟨ρ',hp⟩,e=>by
  cases rs0 with
  | nil=>cases hp
  | cons r0 rs0=>
   obtain ⟨p,hp1,hp⟩:=bind_some hp;obtain ⟨q,hp2,hp⟩:=bind_some hp;cases hp;cases hr:p.1 with
   | vw _=>rw [hr] at e; cases e
   | pend _ _=>rw [hr] at e; cases e
   | own d=>
    rw [hr] at e h1;obtain ⟨ds,hds,e⟩:=bind_some e;cases e;exact ⟨d,ds,v,vr,Fa,Fb,rfl,ev,s1,s2,dj,h1,Zap st hG kT h2 ⟨_,hp2⟩ hds⟩
 | .mv ::ms,rs0,r ::rs,_,_,ρ0,_,st,hG,kT,⟨v,vr,Fa,Fb,ev,s1,s2,dj,h1,h2⟩,⟨ρ',hp⟩,e=>by
  cases rs0 with
  | nil=>cases hp
  | cons r0 rs0=>
   obtain ⟨p,hp1,hp⟩:=bind_some hp;obtain ⟨q,hp2,hp⟩:=bind_some hp;cases hp;obtain ⟨d,hd,e⟩:=bind_some e;obtain ⟨ds,hds,e⟩:=bind_some e;cases e;have ih:=Zap st hG kT h2 ⟨_,hp2⟩ hds;cases hr:p.1 with
   | own x=>
    rw [hr] at hd h1;dsimp only at hd;split at hd
    ·cases hd
    ·rename_i hn
     cases hd;exact ⟨d,ds,v,vr,Fa,Fb,rfl,ev,s1,s2,dj,by rw [if_neg hn]; exact h1,ih⟩
   | vw x=>
    rw [hr] at hd h1;have hd:rd (.vw x) ρ=some d:=hd;refine ⟨d,ds,v,vr,Fa,Fb,rfl,ev,s1,s2,dj,?_,ih⟩
    rw [if_pos (Zef hd)];exact ZcJ st hG (by intro y z; cases z) h1 kT hd
   | pend i fz=>
    rw [hr] at hd h1;have hd:rd (.pend i fz) ρ=some d:=hd;refine ⟨d,ds,v,vr,Fa,Fb,rfl,ev,s1,s2,dj,?_,ih⟩
    rw [if_pos (Zef hd)];exact ZcJ st hG (by intro y z; cases z) h1 kT hd
 | .val ::ms,rs0,r ::rs,_,_,ρ0,_,st,hG,kT,⟨v,vr,Fa,Fb,ev,s1,s2,dj,h1,h2⟩,⟨ρ',hp⟩,e=>by
  cases rs0 with
  | nil=>cases hp
  | cons r0 rs0=>
   obtain ⟨p,hp1,hp⟩:=bind_some hp;obtain ⟨q,hp2,hp⟩:=bind_some hp;cases hp;cases hr:p.1 with
   | vw _=>rw [hr] at e; cases e
   | pend _ _=>rw [hr] at e; cases e
   | own d=>
    rw [hr] at e h1;unfold bind2 at e;split at e
    ·rename_i hn
     obtain ⟨ds,hds,e⟩:=bind_some e;cases e;have ih:=Zap st hG kT h2 ⟨_,hp2⟩ hds;exact ⟨d,ds,v,vr,rfl,ev,hn,Rep.noown hn h1,ih.mono s2⟩
    ·cases e
 | .vw ::ms,rs0,r ::rs,_,_,ρ0,_,st,hG,kT,⟨v,vr,Fa,Fb,ev,s1,s2,dj,h1,h2⟩,⟨ρ',hp⟩,e=>by
  cases rs0 with
  | nil=>cases hp
  | cons r0 rs0=>
   obtain ⟨p,hp1,hp⟩:=bind_some hp;obtain ⟨q,hp2,hp⟩:=bind_some hp;cases hp;obtain ⟨d,hd,e⟩:=bind_some e;obtain ⟨ds,hds,e⟩:=bind_some e;cases e;have ih:=Zap st hG kT h2 ⟨_,hp2⟩ hds;have nr:∀ x,p.1=.own x→noOwn x=true:=fun x hx=>(ZgJ (by decide) (show prep1 .vw r0 ρ0=some (p.1,p.2) from hp1) x hx).resolve_right (by decide)
   exact ⟨d,ds,v,vr,rfl,ev,ZcJ st hG nr h1 kT hd,ih.mono s2⟩
end
end VS
namespace VS
open PySem PySem.Spec PyProof.Rows L2
section
variable {ct:Str→Option Addr} {P:Program} {w:World} {K:PySem.W.Frag} {mg mb:Str→Option Value} {base:Heap}
noncomputable def ZbM (K:PySem.W.Frag):Bool:=K.all fun p=>match p.2.cls with
 | .type t=>!(t == "list")
 | _=>true
theorem Zeg:∀ {K:PySem.W.Frag} {a:Addr} {o:Obj},K.lookup a=some o→(a,o)∈K
 | [],_,_,h=>nomatch h
 | (b,x) ::r,a,o,h=>by
  rw [List.lookup_cons] at h;split at h
  ·rename_i e
   cases h;rw [beq_iff_eq.mp e];exact List.mem_cons_self ..
  ·exact List.mem_cons_of_mem _ (Zeg h)
theorem ZgK {H:Hp} {a:Addr} {xs:List V} (h:ZbM K=true) (s:SqL K H a xs):Rd H a (.lst xs):=by
 rcases s with s | ⟨o,its,n,e,c,_⟩
 ·exact s
 ·have:=List.all_eq_true.mp h (a,o) (Zeg e)
  simp [c] at this
theorem Zeh {H:Hp}:∀ ns:List Int,Vws ct H No (ns.map D.int) (ns.map V.int)
 | []=>rfl
 | n ::ns=>⟨.int n,ns.map V.int,rfl,rfl,Zeh ns⟩
theorem ZgL {fn:FnS} {H:Hp} {a:Addr} {ns:List Int} {E:XK} (hmd:fn.md=[.vw]) (nl:ZbM K=true) (hs:fn.sem [.lst false (ns.map .int)]=some (.bl true,[])) (s:SqL K H a (ns.map V.int)):spI ct fn [.ref a] H (fun v _=>v=.bl true) E:=by
 refine ⟨fun _=>none,No,[.lst false (ns.map .int)],.bl true,[],⟨fun _ _ z=>(nomatch z),fun _ z=>z.elim⟩,?_,hs,fun S' H' F' Fr v e=>e.rep⟩
 rw [hmd];exact ⟨_,_,_,_,rfl,rfl,⟨a,_,rfl,ZgK nl s,fun z=>z,Zeh ns⟩,rfl,rfl⟩
end
end VS
namespace VS
open PySem PySem.Spec PyProof.Rows L2
noncomputable def Zei (o:Obj):List Addr:=match o.data with
 | .dict es _=>es.toList.flatMap fun e=>He.refV e.val
 | _=>[]
noncomputable def fnR (g:Addr→Option Obj) (a:Addr):List Addr:=match g a with
 | some ⟨_,_,.func fd,_⟩=>a ::He.refV fd.code
 | _=>[a]
noncomputable def ZgM (g:Addr→Option Obj) (a:Addr):List Addr:=match g a with
 | some ⟨_,_,.func fd,_⟩=>a ::He.refV fd.code
 | some ⟨_,_,.cls cd,_⟩=>a ::cd.ns ::(match g cd.ns with
  | some o=>(Zei o).flatMap (fnR g)
  | none=>[])
 | _=>[a]
noncomputable def asV (g:Addr→Option Obj):List Addr:=mainGlobals ::PySem.cStatics ::(match g mainGlobals with
 | some o=>(Zei o).flatMap (ZgM g)
 | none=>[])
noncomputable def frF {β:Type} (g:Addr→Option Obj):List Addr→(PySem.W.Frag→β)→β
 | [],k=>k []
 | a ::as,k=>match g a with
  | some ⟨c,d,dt,sl⟩=>frF g as fun r=>k ((a,⟨c,d,dt,sl⟩) ::r)
  | none=>frF g as k
theorem ZaE {β:Type} (g:Addr→Option Obj):∀ (as:List Addr) (k:PySem.W.Frag→β),frF g as k=k (He.frG g as)
 | [],_=>rfl
 | a ::as,k=>by
  unfold frF He.frG;rw [List.filterMap_cons];cases h:g a with
  | none=>exact ZaE g as k
  | some o=>exact ZaE g as fun r=>k ((a,o) ::r)
noncomputable abbrev Tst:Type:=PySem.W.Frag→Bool
noncomputable def ZU:List Tst→PySem.W.Frag→Bool
 | [],_=>true
 | f ::fs,K=>match f K with
  | true=>ZU fs K
  | false=>false
theorem Zej:∀ {fs:List Tst} {K:PySem.W.Frag},ZU fs K=true→∀ {i:Nat} {f:Tst},fs[i]?=some f→f K=true
 | [],_,_,_,_,e=>by simp at e
 | f ::fs,K,h,i,g,e=>by
  have h:(match f K with
   | true=>ZU fs K
   | false=>false)=true:=h
  cases hf:f K with
  | false=>rw [hf] at h; cases h
  | true=>
   rw [hf] at h;cases i with
   | zero=>simp at e; subst e; exact hf
   | succ i=>exact Zej h (by simpa using e)
noncomputable def ZcK (fs:List Tst) (fn:List He.FnD) (K:PySem.W.Frag):He.Al:=(ZU fs K && fn.all fun d=>(He.Fa.code d.at_ d.qual).ok K,fn.map fun d=>He.fnObs K d.at_)
noncomputable def SaysV (fs:List Tst) (fn:List He.FnD) (K:PySem.W.Frag):Prop:=ZcK fs fn K=He.valE fn
noncomputable def Zae (fs:List Tst) (fn:List He.FnD):PySem.W.Hook where
 α:=He.Al
 obs:=fun s=>ZcK fs fn (He.frG s.heap.get? (asV s.heap.get?))
 val:=fun _=>He.valE fn
 says:=fun _ h=>∃ K:PySem.W.Frag,K.In h∧SaysV fs fn K
 of:=fun _ _ e=>⟨_,He.frG_in,e⟩
 keeps:=fun _ _ _ ⟨K,hK,c⟩ k=>⟨K,PySem.W.Frag.In.keeps hK k,c⟩
noncomputable def obV (fs:List Tst) (fn:List He.FnD) (s:PySem.W.SharedT):He.Al:=frF (HandSHeadRun.getT s) (asV (HandSHeadRun.getT s)) (ZcK fs fn)
theorem ZgN {fs:List Tst} {fn:List He.FnD} (s:PySem.W.SharedT):obV fs fn s=(Zae fs fn).obs s.abs:=by
 have e:HandSHeadRun.getT s=s.abs.heap.get?:=funext (HandSHeadRun.getT_eq s);unfold obV;rw [ZaE,e];rfl
noncomputable abbrev ZcL (r:PySem.W.OpenRow) (M:Nat) (w:World) (os:OsState):Option PySem.W.SharedT:=HandSHeadRun.endF (HandSHeadRun.stepQ (HandSHeadRun.denQ HandSHeadRun.tabQ) r.prog w) M r.prog w os
noncomputable def Zek (r:PySem.W.OpenRow) (fs:List Tst) (M:Nat) (w:World):Prop:=∀ os:OsState,(ZcL r M w os).map (fun s=>(obV fs [] s).1)=some true
noncomputable def Zel (r:PySem.W.OpenRow) (fn:List He.FnD) (M:Nat) (w:World):Prop:=∀ os:OsState,(ZcL r M w os).map (fun s=>obV [] fn s)=some (He.valE fn)
theorem ZgO {r:PySem.W.OpenRow} {q:Program} {fs:List Tst} {fn:List He.FnD} {M:Nat} {names:List Str} {w:World} (h0:HandSHeadRun.RunEq r q (Zae [] []) (obV [] []) M names w) (h1:Zek r fs M w) (h2:Zel r fn M w):HandSHeadRun.RunEq r q (Zae fs fn) (obV fs fn) M names w:=by
 intro os;have e0:=h0 os;have e1:=h1 os;have e2:=h2 os;unfold ZcL at e1 e2;generalize HandSHeadRun.endF (HandSHeadRun.stepQ (HandSHeadRun.denQ HandSHeadRun.tabQ) r.prog w) M r.prog w os=o at e0 e1 e2 ⊢;cases o with
 | none=>cases e1
 | some s=>
  have e0:=Option.some.inj e0;have e1:=Option.some.inj e1;have e2:=Option.some.inj e2;have a0:=congrArg (fun z=>z.1) e0;have a1:=congrArg (fun z=>z.2.1) e0;dsimp only at a0 a1 e1 e2;unfold obV at e1;rw [ZaE] at e1;have k1:(ZU fs (He.frG (HandSHeadRun.getT s) (asV (HandSHeadRun.getT s))) && true)=true:=e1;unfold obV at e2;rw [ZaE] at e2;have b1:(ZU [] (He.frG (HandSHeadRun.getT s) (asV (HandSHeadRun.getT s))) && fn.all fun d=>(He.Fa.code d.at_ d.qual).ok (He.frG (HandSHeadRun.getT s) (asV (HandSHeadRun.getT s))))=true:=congrArg (fun z:He.Al=>z.1) e2;have b2:(fn.map fun d=>He.fnObs (He.frG (HandSHeadRun.getT s) (asV (HandSHeadRun.getT s))) d.at_)=fn.map He.FnD.val:=congrArg (fun z:He.Al=>z.2) e2;have c1:=(He.ba k1).1;have c2:=(He.ba b1).2;show some (_,_,obV fs fn s)=_;rw [a0,a1];unfold obV;rw [ZaE];show some (true,_,(ZU fs _ && _,_))=some (true,_,He.valE fn);rw [c1,c2,b2];rfl
section
variable {fs:List Tst} {fn:List He.FnD} {K:PySem.W.Frag}
theorem SaysV.fact (c:SaysV fs fn K) (i:Nat) {f:Tst} (h:fs[i]?=some f:=by rfl):f K=true:=by
 have c1:=(He.ba (show (ZU fs K && fn.all fun d=>(He.Fa.code d.at_ d.qual).ok K)=true from congrArg (fun z:He.Al=>z.1) c)).1;exact Zej c1 h
theorem SaysV.def_ (c:SaysV fs fn K) (i:Nat) {d:He.FnD} (h:fn[i]?=some d:=by rfl):
  ∃ oc od osl kV doc pm an cdv ct,K.lookup (He.fAd K d.at_)=some ⟨oc,od,.func (PySem.W.fnOf d.name d.qual d.params d.body d.scope .none kV doc pm an cdv ct),osl⟩∧PySem.W.codeIn K cdv d.qual=true:=by
 have c2:=(He.ba (show (ZU fs K && fn.all fun d=>(He.Fa.code d.at_ d.qual).ok K)=true from congrArg (fun z:He.Al=>z.1) c)).2;have e:fn.map (fun d=>He.fnObs K d.at_)=fn.map He.FnD.val:=congrArg (fun z:He.Al=>z.2) c;have e2:(fn.map fun d=>He.fnObs K d.at_)[i]?=(fn.map He.FnD.val)[i]?:=by rw [e]
 rw [List.getElem?_map,List.getElem?_map,h] at e2;exact He.fn_ok (Option.some.inj e2) (List.all_eq_true.mp c2 d (List.mem_of_getElem? h))
end
section
variable {K:PySem.W.Frag}
noncomputable def Zg (x:Str):Tst:=fun K=>match PySem.W.nsIn K mainGlobals x with
 | some (some (.ref _))=>true
 | _=>false
theorem Zr {x:Str} (h:Zg x K=true):PySem.W.nsIn K mainGlobals x=some (some (.ref (He.ga K x))):=by
 unfold Zg at h;split at h
 ·rename_i a e
  unfold He.ga;rw [e]
 ·cases h
noncomputable def ZV (x:Str):Tst:=fun K=>match PySem.W.nsIn K mainGlobals x with
 | some none=>true
 | _=>false
theorem ZgP {x:Str} (h:ZV x K=true):PySem.W.nsIn K mainGlobals x=some none:=by
 unfold ZV at h;split at h
 ·assumption
 ·cases h
noncomputable def Za4 (c m:Str):Tst:=fun K=>match PySem.W.findIn K (.ref (He.ga K c)) m with
 | some (some (.ref _))=>true
 | _=>false
theorem ZcM {c m:Str} (h:Za4 c m K=true):PySem.W.findIn K (.ref (He.ga K c)) m=some (some (.ref (He.ma K (He.ga K c) m))):=by
 unfold Za4 at h;split at h
 ·rename_i a e
  unfold He.ma;rw [e]
 ·cases h
noncomputable def ZW (c f:Str):Tst:=fun K=>match PySem.W.findIn K (.ref (He.ga K c)) f with
 | some none=>true
 | _=>false
theorem Zaq {c f:Str} (h:ZW c f K=true):PySem.W.findIn K (.ref (He.ga K c)) f=some none:=by
 unfold ZW at h;split at h
 ·assumption
 ·cases h
noncomputable def ZF (c f:Str) (b:String):Tst:=fun K=>match PySem.W.findIn K (.ref (He.ga K c)) f with
 | some (some (.builtin y))=>decide (y=b)
 | _=>false
theorem ZX {c f:Str} {b:String} (h:ZF c f b K=true):PySem.W.findIn K (.ref (He.ga K c)) f=some (some (.builtin b)):=by
 unfold ZF at h;split at h
 ·rename_i y e
  cases of_decide_eq_true h;exact e
 ·cases h
noncomputable def Za5 (v:PySem.W.Frag→Value) (f:Str) (b:String):Tst:=fun K=>match PySem.W.specialIn K (v K) f with
 | some (some (.builtin y))=>decide (y=b)
 | _=>false
theorem ZbN {v:PySem.W.Frag→Value} {f:Str} {b:String} (h:Za5 v f b K=true):PySem.W.specialIn K (v K) f=some (some (.builtin b)):=by
 unfold Za5 at h;split at h
 ·rename_i y e
  cases of_decide_eq_true h;exact e
 ·cases h
noncomputable def Zp (v:PySem.W.Frag→Value) (n:String):Tst:=fun K=>match PySem.W.typeIn K (v K) with
 | some (.type y)=>decide (y=n)
 | _=>false
theorem Zq {v:PySem.W.Frag→Value} {n:String} (h:Zp v n K=true):PySem.W.typeIn K (v K)=some (.type n):=by
 unfold Zp at h;split at h
 ·rename_i y e
  cases of_decide_eq_true h;exact e
 ·cases h
noncomputable def obB (o:PySem.W.Frag→Option Bool) (b:Bool):Tst:=fun K=>match o K with
 | some c=>c ==b
 | none=>false
theorem Zh {o:PySem.W.Frag→Option Bool} {b:Bool} (h:obB o b K=true):o K=some b:=by
 unfold obB at h;split at h
 ·rename_i c e
  rw [e,beq_iff_eq.mp h]
 ·cases h
noncomputable def ZcN (c:Str) (t:String) (f:Str) (b:String):Tst:=fun K=>match PySem.W.findCls K (.ref (He.ga K c)) (.type t) f with
 | some (.val (.builtin y))=>decide (y=b)
 | _=>false
theorem ZgQ {c:Str} {t:String} {f:Str} {b:String} (h:ZcN c t f b K=true):PySem.W.findCls K (.ref (He.ga K c)) (.type t) f=some (.val (.builtin b)):=by
 unfold ZcN at h;split at h
 ·rename_i y e
  cases of_decide_eq_true h;exact e
 ·cases h
noncomputable def neB (c d:Str):Tst:=fun K=>!(Nat.beq (He.ga K c) (He.ga K d))
theorem ZgR {c d:Str} (h:neB c d K=true):He.ga K c≠He.ga K d:=by
 intro e;unfold neB at h;rw [e,Nat.beq_refl] at h;cases h
noncomputable def Za6 (c:Str):Tst:=fun K=>match K.lookup (He.ga K c) with
 | some ⟨.type t,_,.cls cd,sl⟩=>(match cd.mro,sl.toList with
  | .ref C' ::bm,[_,_,_,_,some (.builtin n),_]=>Nat.beq C' (He.ga K c) && decide (t= "type") && decide (n= "ValueError.__new__") && !cd.hasDel && cd.hasDict && PySem.HandSPX.refsVE bm
  | _,_=>false)
 | _=>false
theorem ZcO {c:Str} (h:Za6 c K=true):∃ (nm qn:Str) (N:Addr) (bs bm:List Value) (sn:List Str) (sub:List Value) (ab:Bool) (cl:Option Bool) (dd:Option Addr) (k0 k1 k2 k3 k5:Option Value),
  K.lookup (He.ga K c)=some (excClassObj nm qn (He.ga K c) N bs bm true sn sub ab cl dd k0 k1 k2 k3 k5 "ValueError.__new__")∧PySem.HandSPX.refsVE bm=true:=by
 unfold Za6 at h;split at h
 ·rename_i t dd cd sl e
  split at h
  ·rename_i C' bm k0 k1 k2 k3 n k5 hm hs
   obtain ⟨h,h6⟩:=He.ba h;obtain ⟨h,h5⟩:=He.ba h;obtain ⟨h,h4⟩:=He.ba h;obtain ⟨h,h3⟩:=He.ba h;obtain ⟨h1,h2⟩:=He.ba h;have h1:C'=He.ga K c:=Nat.eq_of_beq_eq_true h1;cases of_decide_eq_true h2;cases of_decide_eq_true h3;obtain ⟨nm,bs,mro,ns,qn,hd,sn,sub,ab,col,del⟩:=cd;dsimp only at hm h4 h5;subst hm;have h4:del=false:=by cases del with | false=>rfl | true=>cases h4
   subst h4 h5;have hsl:sl=#[k0,k1,k2,k3,some (.builtin "ValueError.__new__"),k5]:=by
    obtain ⟨l⟩:=sl;simp only at hs;rw [hs]
   subst hsl;exact ⟨nm,qn,ns,bs,bm,sn,sub,ab,col,dd,k0,k1,k2,k3,k5,by rw [e,h1],h6⟩
  ·cases h
 ·cases h
end
noncomputable abbrev kpB (x:Str):Tst:=fun K=>PySem.W.keepIn K (.ref (He.ga K x))
noncomputable abbrev dT (x:Str) (s:Stmt):He.FnD:=⟨(x,none),x,x,defArgs s,defBody s,defScope s⟩
noncomputable abbrev dM (c m q:Str) (s:Stmt):He.FnD:=⟨(c,some m),m,q,defArgs s,defBody s,defScope s⟩
theorem walk_allV {l:PySem.W.OpenLaw} {k:Nat} {x:Str} {fn:FnS} {q:Program} {loose:List Str} {XP:(Str→Option Value)→Heap→Prop} {fs:List Tst} {ds:List He.FnD} {d:DefRec} (hn:l.most=some 63) (hdf:d.params.defaults=[]) (hmd:fn.md=[.vw])
  (hr:Room k callerA) (hs:∀ ns:List Int,ns.length≤63→fn.sem [.lst false (ns.map .int)]=some (.bl true,[]))
  (hN:∀ K:PySem.W.Frag,SaysV fs ds K→ZbM K=true)
  (F:∀ (w:World) (K:PySem.W.Frag) (mg:Str→Option Value) (fa:Addr) (h:Heap),K.In h→SaysV fs ds K→h.Ns mainGlobals mg→mg d.name=some (.ref fa)→
   ∃ (ct:Str→Option Addr) (fd:FuncData),(∀ (s:Shared) (u:Value),BindsTo s fd ⟨[u],[]⟩ [(x,u)])∧∀ base:Heap,K.In base→base.Ns mainGlobals mg→FnOk l.prog w K mg base CX0 k fa fd [x] (spI ct fn)):
  PySem.W.WalkO q loose XP (Zae fs ds).says l.row.toRowW d [] (fun f vs=>PySem.call f vs):=
 walk_ofE (n:=63) (k:=k) (x:=x) (CX:=CX0) hn (by decide) hdf hr (fun w mg fa h ⟨K,hK,c⟩ hg hmg=>
  let ⟨ct,fd,hb,hF⟩:=F w K mg fa h hK c hg hmg
  ⟨K,fd,spI ct fn,hK,hb,fun H a ns hl _ hS=>ZgL hmd (hN K c) (hs ns hl) hS,hF⟩) fun _ _ _ _ z=>z
end VS
namespace VS
open PySem PySem.Spec PyProof.Rows L2
section
open Classical
variable {ct:Str→Option Addr} {S S' H H' S2 H2:Hp} {F F' G R R' T T' Fr F2 R2 Y Fc Fx Fo:FP} {ρ ρ' ρ2:Rho} {σ:L2.St}
theorem State.callee (st:State ct S H F R ρ σ) (kc:Sub Fc R) (t:Tr S H Fc S2 H2 G) (w:WOk S2 H2 G):State ct S2 H2 F (Cup (Dif R Fc) G) ρ σ:=by
 obtain ⟨fs,h1,h2,h3⟩:=st.fs;have nG:∀ a,G a→Fc a∨H a=none:=t.new;have nF:∀ a,F a→¬ Fc a:=fun a z z2=>st.dj a z (kc a z2)
 refine ⟨⟨w.sub,fun a z=>?_⟩,fun a x y=>?_,st.len,fs,h1,h2,fun j s e=>?_⟩
 ·have old:∀ a,(F a∨Dif R Fc a)→S2 a=none∧H2 a≠none:=fun a z=>by
   have hw:=st.w.out a (z.elim .inl fun z=>.inr z.1);have nc:¬ Fc a:=z.elim (nF a) fun z=>z.2
   refine ⟨?_,fun q=>?_⟩
   ·cases e:S2 a with
    | none=>rfl
    | some o=>
     rcases t.nws a o e with z | z | z
     ·rw [hw.1] at z; cases z
     ·exact (nc z).elim
     ·exact (hw.2 z).elim
   ·cases e:H a with
    | none=>exact hw.2 e
    | some o=>
     have:=t.frm a o e nc
     rw [q] at this; cases this
  rcases z with z | z | z
  ·exact old a (.inl z)
  ·exact old a (.inr z)
  ·exact w.out a z
 ·rcases y with y | y
  ·exact st.dj a x y.1
  ·rcases nG a y with z | z
   ·exact nF a x z
   ·exact (st.w.out a (.inl x)).2 z
 ·have q:=h3 j s e
  cases s with
  | dead=>trivial
  | own d=>
   obtain ⟨v,e1,q⟩:=q;exact ⟨v,e1,Rep.tr t.ext t.tup q fun a o x y=>t.frm a o x (nF a (h1 j a y))⟩
  | vw d=>
   obtain ⟨v,e1,q⟩:=q;refine ⟨v,e1,Vw.tr t.tup (fun a o x n=>t.frm a o x fun z=>n (.inr (kc a z))) (fun a z=>?_) q⟩
   rcases z with z | z | z
   ·exact .inl (.inl z)
   ·exact .inl (.inr z.1)
   ·exact (nG a z).imp (fun z=>.inr (kc a z)) id
theorem State.put {i:Nat} {d:D} {v:V} (st:State ct S H F R ρ σ) (hi:ρ[i]?=some .dead) (hv:σ[i]?=some (some v)) (h:Rep ct S H d v Fx) (k:Sub Fx R):State ct S H (Cup F Fx) (Dif R Fx) (ρ.set i (.own d)) σ:=by
 obtain ⟨fs,h1,h2,h3⟩:=st.fs;have eT:Sub (Cup (Cup F Fx) (Dif R Fx)) (Cup F R):=fun a z=>z.elim (fun z=>z.elim .inl fun z=>.inr (k a z)) fun z=>.inr z.1
 refine ⟨st.w.anti eT,fun a x y=>x.elim (fun x=>st.dj a x y.1) y.2,by rw [List.length_set]; exact st.len,fun j=>if j=i then Fx else fs j,fun j=>?_,fun j l n=>?_,fun j s e=>?_⟩
 ·dsimp only
  split
  ·exact Sub.cupR
  ·exact fun a z=>.inl (h1 j a z)
 ·dsimp only
  split
  ·split
   ·rename_i e1 e2
    exact absurd (e1.trans e2.symm) n
   ·exact fun a x y=>st.dj a (h1 l a y) (k a x)
  ·split
   ·exact fun a x y=>st.dj a (h1 j a x) (k a y)
   ·exact h2 j l n
 ·by_cases hj:j=i
  ·subst hj
   have hl:j < ρ.length:=(List.getElem?_eq_some_iff.mp hi).1;rw [List.getElem?_set_self hl] at e;cases e;dsimp only;rw [if_pos rfl];exact ⟨v,hv,h⟩
  ·rw [List.getElem?_set_ne (Ne.symm hj)] at e
   dsimp only;rw [if_neg hj];have q:=h3 j s e;cases s with
   | dead=>trivial
   | own d=>exact q
   | vw d=>obtain ⟨v,e1,q⟩:=q; exact ⟨v,e1,q.anti eT⟩
theorem Zar:∀ {ms:List Md} {rs:List Rv} {os:List D} {vs:List V} {S0 H0:Hp} {T Fr Fo F R:FP} {ρ ρ':Rho},State ct S H F R ρ σ→RvReps ct S0 H0 T σ rs vs Fr→OutsRep ct S H ms os vs Fo→Sub Fo R→backs ms rs os ρ=some ρ'→
  ∃ F' R',State ct S H F' R' ρ' σ∧(∀ a,R a→¬ Fo a→R' a)∧(∀ a,F' a→F a∨Fo a)∧Sub R' R
 | [],[],[],_,_,_,_,_,_,F,R,_,_,st,h,o,k,e=>by
  cases e;exact ⟨F,R,st,fun _ z _=>z,fun _ z=>.inl z,Sub.refl _⟩
 | [],[],_ ::_,_,_,_,_,_,_,_,_,_,_,st,h,o,k,e=>by cases e
 | [],_ ::_,[],_,_,_,_,_,_,_,_,_,_,st,h,o,k,e=>by cases e
 | [],_ ::_,_ ::_,_,_,_,_,_,_,_,_,_,_,st,h,o,k,e=>by cases e
 | .vw ::_,[],_,_,_,_,_,_,_,_,_,_,_,st,h,o,k,e=>by cases e
 | .val ::_,[],_,_,_,_,_,_,_,_,_,_,_,st,h,o,k,e=>by cases e
 | .mv ::_,[],_,_,_,_,_,_,_,_,_,_,_,st,h,o,k,e=>by cases e
 | .io ::_,[],_,_,_,_,_,_,_,_,_,_,_,st,h,o,k,e=>by cases e
 | .vw ::ms,r ::rs,os,_,_,_,_,_,_,_,_,_,_,st,⟨v,vr,Fa,Fb,ev,s1,s2,dj,h1,h2⟩,o,k,e=>by
  subst ev;exact Zar (ms:=ms) st h2 o k e
 | .val ::ms,r ::rs,os,_,_,_,_,_,_,_,_,_,_,st,⟨v,vr,Fa,Fb,ev,s1,s2,dj,h1,h2⟩,o,k,e=>by
  subst ev;exact Zar (ms:=ms) st h2 o k e
 | .mv ::ms,r ::rs,os,_,_,_,_,_,_,_,_,_,_,st,⟨v,vr,Fa,Fb,ev,s1,s2,dj,h1,h2⟩,o,k,e=>by
  subst ev;exact Zar (ms:=ms) st h2 o k e
 | .io ::ms,.vw _ ::rs,[],_,_,_,_,_,_,_,_,_,_,st,h,o,k,e=>by cases e
 | .io ::ms,.vw _ ::rs,_ ::_,_,_,_,_,_,_,_,_,_,_,st,h,o,k,e=>by cases e
 | .io ::ms,.own _ ::rs,[],_,_,_,_,_,_,_,_,_,_,st,h,o,k,e=>by cases e
 | .io ::ms,.pend _ _ ::rs,[],_,_,_,_,_,_,_,_,_,_,st,h,o,k,e=>by cases e
 | .io ::ms,.own d ::rs,o1 ::os,_,_,_,_,_,Fo,_,_,_,_,st,⟨v,vr,Fa,Fb,ev,s1,s2,dj,h1,h2⟩,⟨x,xr,y,yr,G1,G2,ex,ey,t1,t2,dj2,q1,q2⟩,k,e=>by
  cases ex;subst ev;cases ey;obtain ⟨F',R',st',a1,a2,a3⟩:=Zar (ms:=ms) st h2 q2 (t2.trans k) e;exact ⟨F',R',st',fun a z n=>a1 a z fun z2=>n (t2 a z2),fun a z=>(a2 a z).imp id (t2 a),a3⟩
 | .io ::ms,.pend i fz ::rs,o1 ::os,_,_,_,_,_,Fo,F,R,ρ,ρ',st,⟨v,vr,Fa,Fb,ev,s1,s2,dj,h1,h2⟩,⟨x,xr,y,yr,G1,G2,ex,ey,t1,t2,dj2,q1,q2⟩,k,e=>by
  cases ex;subst ev;cases ey;have hv:σ[i]?=some (some v):=h1;obtain ⟨ρ1,hr,e⟩:=bind_some e;have hd:ρ[i]?=some .dead∧ρ1=ρ.set i (.own o1):=by
   cases hs:ρ[i]? with
   | none=>rw [hs] at hr; cases hr
   | some sl=>
    rw [hs] at hr;cases sl with
    | dead=>cases hr; exact ⟨rfl,rfl⟩
    | own _=>cases hr
    | vw _=>cases hr
  obtain ⟨hd,rfl⟩:=hd;have st1:=st.put hd hv q1 (t1.trans k);obtain ⟨F',R',st',a1,a2,a3⟩:=Zar (ms:=ms) st1 h2 q2 (fun a z=>⟨k a (t2 a z),fun z2=>dj2 a z2 z⟩) e;refine ⟨F',R',st',fun a z n=>a1 a ⟨z,fun z2=>n (t1 a z2)⟩ fun z2=>n (t2 a z2),fun a z=>?_,fun a z=>(a3 a z).1⟩
  rcases a2 a z with z | z
  ·exact z.imp id (t1 a)
  ·exact .inr (t2 a z)
theorem ZcP {fn:FnS} {rs:List Rv} {vs:List V} {r:D} {outs:List D} {S0:Hp} {F0:FP} {H0:Hp} (st:State ct S H F (Cup R Fr) ρ σ) (djr:Dj R Fr) (tr:Tr S0 H0 F0 S H (Cup F Fr)) (rv:RvReps ct S H (Cup F (Cup R Fr)) σ rs vs Fr) (e:applyF fn rs ρ=some (r,outs,ρ'))
  {Q:VK} (k:∀ S' H' F' Fo Fx v,State ct S' H' F' (Cup R Fx) ρ' σ→Dj R Fx→Tr S0 H0 F0 S' H' (Cup F' (Cup Fo Fx))→Rep ct S' H' r v Fx→Q v H') {E:XK}:spI ct fn vs H Q E:=by
 obtain ⟨p,hp,e⟩:=bind_some e;obtain ⟨ds,hds,e⟩:=bind_some e;obtain ⟨q,hq,e⟩:=bind_some e;obtain ⟨ρ2,hb,e⟩:=bind_some e;cases e;obtain ⟨S2,F2,R2,Fm,M,rv2⟩:=ZbL (rs':=p.1) (ρ':=p.2) st Sub.cupR (Sub.refl _) rv hp;have kT:Sub (Cup F2 R2) (Cup F (Cup R Fr)):=fun a z=>z.elim (fun z=>.inl (M.sF a z)) fun z=>(M.new a z).elim .inr .inl
 have ar:=Zap M.st M.fm kT rv2 ⟨_,hp⟩ hds;refine ⟨S2,Fm,ds,q.1,q.2,M.st.w.anti fun a z=>.inr (M.fm a z),ar,hq,fun S3 H3 F' Fx v E3=>?_⟩
 have nR:∀ a,R a→¬ Fm a:=fun a z z2=>by
  rcases M.fr a z2 with z3 | z3
  ·exact djr a z z3
  ·exact z3.2 (.inl z)
 have hR2:∀ a,R a→R2 a:=fun a z=>M.keep a (.inl z) fun z2=>djr a z z2
 have nH:∀ a,R a→H a≠none:=fun a z=>(st.w.out a (.inr (.inl z))).2
 have nR':∀ a,R a→¬ Cup F' Fx a:=fun a z z2=>by
  rcases E3.tr.new a z2 with z3 | z3
  ·exact nR a z z3
  ·exact nH a z z3
 have st3:=M.st.callee M.fm E3.tr E3.w;obtain ⟨F4,R4,st4,a1,a2,a3⟩:=Zar (Fo:=F') st3 rv E3.outs (fun a z=>.inr (.inl z)) hb;have tfz:Tr S H (Cup F Fr) S2 H (Cup Fm F2):=Tr.froze M.ext (fun a o z=>(M.nws a o z).imp id fun z=>z) fun a z=>by
  rcases z with z | z
  ·rcases M.fr a z with z | z
   ·exact .inr z
   ·exact .inl z.1
  ·exact .inl (M.sF a z)
 refine k S3 H3 F4 No Fx v (st4.drop fun a z=>?_) (fun a x y=>nR' a x (.inr y)) (((tr.trans tfz).trans (E3.tr.wide (R:=F2))).grow fun a z=>?_) E3.rep
 ·rcases z with z | z
  ·exact a1 a (.inl ⟨hR2 a z,nR a z⟩) fun z2=>nR' a z (.inl z2)
  ·exact a1 a (.inr (.inr z)) fun z2=>E3.dj a z2 z
 ·rcases z with z | z | z
  ·exact (a2 a z).elim .inr fun z=>.inl (.inl z)
  ·exact z.elim
  ·exact .inl (.inr z)
end
noncomputable def mCall (fn:FnS) (ma:MA):ME:=fun ρ=>(ma ρ).bind fun p=>(applyF fn p.1 p.2).bind fun q=>some (.own q.1,q.2.2)
section
variable {ct:Str→Option Addr}
theorem Zem {fn:FnS} {ma:MA} {E:XK}:∀ σ H Q,tI ct (mCall fn ma) σ H Q→tCall (spI ct fn) [] E (tIA ct ma) σ H Q:=by
 rintro σ H Q ⟨ρ,S,F,R,rr,ρ',st,e,k⟩;obtain ⟨p,hp,e⟩:=bind_some e;obtain ⟨q,hq,e⟩:=bind_some e;cases e;refine ⟨ρ,S,F,R,p.1,p.2,st,hp,fun S1 H1 F1 Fa vs P1=>?_⟩
 show spI ct fn (vs++[]) H1 Q E;rw [List.append_nil];exact ZcP P1.st P1.djr P1.tr P1.rv (show applyF fn p.1 p.2=some (q.1,q.2.1,q.2.2) from hq) fun S' H' F' Fo Fx v st' dj tr rep=>
  k S' H' F' Fx v ⟨st',dj,tr.grow fun a z=>z.elim .inl fun z=>.inr (.inr z),rep⟩
end
end VS
namespace VS
open PySem PySem.Spec PyProof.Rows L2
noncomputable def fldD (c f:Str):D→Option D
 | .obj _ c' ks ds=>if c'=c then (ks.zip ds).lookup f else none
 | _=>none
noncomputable def fldR (c f:Str) (r:Rv) (ρ:Rho):Option Rv:=match r with
 | .own d=>(fldD c f d).map .own
 | .vw d=>(fldD c f d).map vwR
 | .pend i _=>match ρ[i]? with
  | some (.own d)=>(fldD c f d).bind fun x=>if noOwn x=true then some (.own x) else none
  | some (.vw d)=>(fldD c f d).map vwR
  | _=>none
noncomputable def mFld (c f:Str) (ma:ME):ME:=fun ρ=>(ma ρ).bind fun p=>(fldR c f p.1 p.2).bind fun z=>some (z,p.2)
section
variable {ct:Str→Option Addr} {S S' H H' S2 H2:Hp} {F F' G R R' T T' Fr F2 R2 Y:FP} {ρ ρ' ρ2:Rho} {σ:L2.St}
theorem Za7 {f:Str}:∀ {ks:List Str} {ds:List D} {vs:List V} {d:D},ks.length=ds.length→ds.length=vs.length→(ks.zip ds).lookup f=some d→∃ (j:Nat) (v:V),ds[j]?=some d∧vs[j]?=some v∧(ks.zip vs).lookup f=some v
 | [],ds,vs,d,_,_,h=>by simp at h
 | x ::ks,[],vs,d,h,_,_=>by simp at h
 | x ::ks,y ::ds,[],d,_,h,_=>by simp at h
 | x ::ks,y ::ds,v ::vs,d,h1,h2,h=>by
  rw [List.zip_cons_cons,List.lookup_cons] at h ⊢;cases e:f ==x with
  | true=>
   rw [e] at h;cases h;exact ⟨0,v,rfl,rfl,rfl⟩
  | false=>
   rw [e] at h;obtain ⟨j,w,a1,a2,a3⟩:=Za7 (by simpa using h1) (by simpa using h2) h;exact ⟨j+1,w,by simpa using a1,by simpa using a2,a3⟩
theorem Zen {K:PySem.W.Frag} {c f:Str} {C:Addr} {d z:D} {x:V} {Q:VK} (hC:ct c=some C) (hk:Cls K C∧NoAttr K C f) (w:WOk S H G) (h:Rep ct S H d x F) (hz:fldD c f d=some z) (k:∀ v F1,Sub F1 F→Rep ct S H z v F1→Q v H):
  ∃ a C dx fs v,x=.ref a∧H a=some (.ins C dx fs)∧Cls K C∧NoAttr K C f∧fs.lookup f=some v∧Q v H:=by
 cases d with
 | obj m c' ks ds=>
  unfold fldD at hz;dsimp only at hz;split at hz
  ·rename_i ec
   subst ec;obtain ⟨a,C',dx,vs,F',ex,hc,hl,n,hs⟩:=h;rw [hC] at hc; cases hc;obtain ⟨j,v,ej,ev,hv⟩:=Za7 hl hs.len hz;obtain ⟨v',F1,ev',s1,q⟩:=hs.get ej;rw [ev] at ev'; cases ev';have hH:H a=some (.ins C dx (ks.zip vs)):=by
    cases m with
    | true=>exact n.1
    | false=>exact w.sub _ _ n.1
   exact ⟨a,C,dx,_,v,ex,hH,hk.1,hk.2,hv,k v F1 (s1.trans n.sub) q⟩
  ·cases hz
 | _=>cases hz
theorem Zeo {K:PySem.W.Frag} {c f:Str} {C:Addr} {d z:D} {x:V} {Q:VK} (hC:ct c=some C) (hk:Cls K C∧NoAttr K C f) (h:Vw ct H F d x) (hz:fldD c f d=some z) (k:∀ v,Vw ct H F z v→Q v H):
  ∃ a C dx fs v,x=.ref a∧H a=some (.ins C dx fs)∧Cls K C∧NoAttr K C f∧fs.lookup f=some v∧Q v H:=by
 cases d with
 | obj m c' ks ds=>
  unfold fldD at hz;dsimp only at hz;split at hz
  ·rename_i ec
   subst ec;obtain ⟨a,C',dx,vs,ex,hc,hl,n,nf,hs⟩:=h;rw [hC] at hc; cases hc;obtain ⟨j,v,ej,ev,hv⟩:=Za7 hl hs.len hz;obtain ⟨v',ev',q⟩:=hs.get ej;rw [ev] at ev'; cases ev';exact ⟨a,C,dx,_,v,ex,n,hk.1,hk.2,hv,k v q⟩
  ·cases hz
 | _=>cases hz
theorem ZgS {K:PySem.W.Frag} {c f:Str} {C:Addr} {ma:ME} (hC:ct c=some C) (hk:Cls K C∧NoAttr K C f):∀ σ H Q,tI ct (mFld c f ma) σ H Q→tFld K (tI ct ma) f σ H Q:=by
 rintro σ H Q ⟨ρ,S,F,R,rr,ρ',st,e,k⟩;obtain ⟨p,hp,e⟩:=bind_some e;obtain ⟨z,hz,e⟩:=bind_some e;cases e;refine ⟨ρ,S,F,R,p.1,p.2,st,hp,fun S1 H1 F1 Fa x P1=>?_⟩
 have fin:∀ {r:Rv} {v:V} {G:FP},Sub G Fa→RvRep ct S1 H1 (Cup F1 (Cup R Fa)) σ G r v→rr=r→Q v H1:=fun {r v G} sG h er=>by
  subst er;exact k S1 H1 F1 Fa v ⟨P1.st,P1.djr,P1.tr,h.grow sG⟩
 have ra:=P1.rv;have st2:=P1.st;generalize p.1=r1 at ra hz;cases r1 with
 | own d1=>
  obtain ⟨z1,h1,h2⟩:=Option.map_eq_some_iff.mp hz;exact Zen hC hk st2.w ra h1 fun v G1 s1 q1=>fin (r:=.own z1) s1 q1 h2.symm
 | vw d1=>
  obtain ⟨z1,h1,h2⟩:=Option.map_eq_some_iff.mp hz;exact Zeo hC hk ra h1 fun v q1=>fin Sub.no (Zao q1) h2.symm
 | pend i fz=>
  have hv:σ[i]?=some (some x):=ra;unfold fldR at hz;dsimp only at hz;cases hs:p.2[i]? with
  | none=>rw [hs] at hz; cases hz
  | some sl=>
   rw [hs] at hz;obtain ⟨Fi,si,hsl⟩:=st2.slot hs;cases sl with
   | dead=>cases hz
   | own d1=>
    obtain ⟨z1,h1,h2⟩:=bind_some hz;split at h2
    ·rename_i hn
     cases h2;obtain ⟨v',e1,q1⟩:=hsl;rw [hv] at e1; cases e1;exact Zen hC hk st2.w q1 h1 fun v G1 s1 q2=>fin (r:=.own z1) Sub.no (Rep.noown hn q2) rfl
    ·cases h2
   | vw d1=>
    obtain ⟨z1,h1,h2⟩:=Option.map_eq_some_iff.mp hz;obtain ⟨v',e1,q1⟩:=hsl;rw [hv] at e1; cases e1;exact Zeo hC hk q1 h1 fun v q2=>fin Sub.no (Zao q2) h2.symm
end
noncomputable def ZcQ (c m:Str):D→Bool
 | .obj _ c' ks ds=>decide (c'=c) && !(ks.contains m)
 | _=>false
noncomputable def mMeth (c m:Str) (fn:FnS) (ma:ME) (mr:MA):ME:=fun ρ=>(ma ρ).bind fun p=>(rd p.1 p.2).bind fun d=>if ZcQ c m d=true then (mr p.2).bind fun q=>(applyF fn (p.1 ::q.1) q.2).bind fun z=>some (.own z.1,z.2.2) else none
section
variable {ct:Str→Option Addr} {S S' H H' S2 H2:Hp} {F F' G R R' T T' Fr F2 R2 Y:FP} {ρ ρ' ρ2:Rho} {σ:L2.St}
theorem Zep {f:Str}:∀ {ks:List Str} {vs:List V},ks.contains f=false→(ks.zip vs).lookup f=none
 | [],_,_=>rfl
 | x ::ks,[],_=>by simp
 | x ::ks,v ::vs,h=>by
  rw [List.contains_cons,Bool.or_eq_false_iff] at h;rw [List.zip_cons_cons,List.lookup_cons,h.1];exact Zep h.2
theorem ZgT {c m:Str} {C:Addr} {d:D} {v:V} (hC:ct c=some C) (h:Vw ct H No d v) (e:ZcQ c m d=true):∃ a dx fs,v=.ref a∧H a=some (.ins C dx fs)∧fs.lookup m=none:=by
 cases d with
 | obj mm c' ks ds=>
  obtain ⟨e1,e2⟩:=Bool.and_eq_true_iff.mp e;obtain ⟨a,C',dx,vs,ex,hc,hl,n,nf,hs⟩:=h;rw [of_decide_eq_true e1,hC] at hc;cases hc;refine ⟨a,dx,_,ex,n,Zep ?_⟩
  revert e2
  cases ks.contains m<;>simp
 | _=>cases e
end
noncomputable def mMake (c:Str) (fn:FnS) (mr:MA):ME:=fun ρ=>(mr ρ).bind fun p=>(applyF fn (.own (.obj true c [] []) ::p.1) p.2).bind fun z=>match z with
 | (.non,[o],ρ2)=>some (.own o,ρ2)
 | _=>none
end VS
namespace VS
open PySem PySem.Spec PyProof.Rows L2
section
variable {ct:Str→Option Addr} {S S' H H' S2 H2:Hp} {F F' G R R' T T' Fr F2 R2 Y:FP} {ρ ρ' ρ2:Rho} {σ:L2.St}
theorem ZgU {fn:FnS} {d0:D} {rs:List Rv} {x:V} {vs:List V} {o:D} {S0:Hp} {F0:FP} {H0:Hp} (st:State ct S H F (Cup R Fr) ρ σ) (djr:Dj R Fr) (tr:Tr S0 H0 F0 S H (Cup F Fr)) (rv:RvReps ct S H (Cup F (Cup R Fr)) σ (.own d0 ::rs) (x ::vs) Fr) (e:applyF fn (.own d0 ::rs) ρ=some (.non,[o],ρ'))
  (hio:∃ ms,fn.md=.io ::ms) {Q:VK} (k:∀ S' H' F' Fx,State ct S' H' F' (Cup R Fx) ρ' σ→Dj R Fx→Tr S0 H0 F0 S' H' (Cup F' Fx)→Rep ct S' H' o x Fx→Q .non H') {E:XK}:spI ct fn (x ::vs) H Q E:=by
 obtain ⟨p,hp,e⟩:=bind_some e;obtain ⟨ds,hds,e⟩:=bind_some e;obtain ⟨q,hq,e⟩:=bind_some e;obtain ⟨ρ2,hb,e⟩:=bind_some e;obtain ⟨q1,q2⟩:=q;cases e;obtain ⟨S2,F2,R2,Fm,M,rv2⟩:=ZbL (rs':=p.1) (ρ':=p.2) st Sub.cupR (Sub.refl _) rv hp;have kT:Sub (Cup F2 R2) (Cup F (Cup R Fr)):=fun a z=>z.elim (fun z=>.inl (M.sF a z)) fun z=>(M.new a z).elim .inr .inl
 have ar:=Zap M.st M.fm kT rv2 ⟨_,hp⟩ hds;refine ⟨S2,Fm,ds,.non,[o],M.st.w.anti fun a z=>.inr (M.fm a z),ar,hq,fun S3 H3 F' Fx v E3=>?_⟩
 obtain rfl:v=.non:=E3.rep;have nR:∀ a,R a→¬ Fm a:=fun a z z2=>by
  rcases M.fr a z2 with z3 | z3
  ·exact djr a z z3
  ·exact z3.2 (.inl z)
 have hR2:∀ a,R a→R2 a:=fun a z=>M.keep a (.inl z) fun z2=>djr a z z2
 have nH:∀ a,R a→H a≠none:=fun a z=>(st.w.out a (.inr (.inl z))).2
 have nR':∀ a,R a→¬ Cup F' Fx a:=fun a z z2=>by
  rcases E3.tr.new a z2 with z3 | z3
  ·exact nR a z z3
  ·exact nH a z z3
 have st3:=M.st.callee M.fm E3.tr E3.w;have tfz:Tr S H (Cup F Fr) S2 H (Cup Fm F2):=Tr.froze M.ext (fun a o z=>(M.nws a o z).imp id fun z=>z) fun a z=>by
  rcases z with z | z
  ·rcases M.fr a z with z | z
   ·exact .inr z
   ·exact .inl z.1
  ·exact .inl (M.sF a z)
 have outs:=E3.outs;obtain ⟨ms,hm⟩:=hio;rw [hm] at hb outs;obtain ⟨o1,or_,v1,vr,G1,G2,eo,ev,t1,t2,dj2,q1,q2⟩:=outs;cases eo;cases ev;obtain ⟨vv,vr2,A1,A2,ev2,b1,b2,bj,c1,c2⟩:=rv;cases ev2;obtain ⟨F4,R4,st4,a1,a2,a3⟩:=Zar (Fo:=G2) (ms:=ms) (os:=[]) st3 c2 q2 (fun a z=>.inr (.inl (t2 a z))) hb;refine k S3 H3 F4 G1 (st4.drop fun a z=>?_) (fun a x y=>nR' a x (.inl (t1 a y))) (((tr.trans tfz).trans (E3.tr.wide (R:=F2))).grow fun a z=>?_) q1
 ·rcases z with z | z
  ·exact a1 a (.inl ⟨hR2 a z,nR a z⟩) fun z2=>nR' a z (.inl (t2 a z2))
  ·exact a1 a (.inr (.inl (t1 a z))) fun z2=>dj2 a z z2
 ·rcases z with z | z
  ·exact (a2 a z).elim .inr fun z=>.inl (.inl (t2 a z))
  ·exact .inl (.inl (t1 a z))
end
end VS
namespace VS
open PySem PySem.Spec PyProof.Rows L2
inductive Out where
 | nx (ρ:Rho) | rt (d:D) (ρ:Rho) | ct (ρ:Rho) | bk (ρ:Rho)
noncomputable abbrev MS:=Rho→Option Out
noncomputable def Stay (io:List Nat) (σ σ':L2.St):Prop:=∀ i∈io,σ'[i]?=σ[i]?
theorem Stay.refl {io:List Nat} {σ:L2.St}:Stay io σ σ:=fun _ _=>rfl
theorem Stay.trans {io:List Nat} {σ σ1 σ2:L2.St} (a:Stay io σ σ1) (b:Stay io σ1 σ2):Stay io σ σ2:=fun i h=>(b i h).trans (a i h)
section
variable (ct:Str→Option Addr) (io:List Nat)
structure PostN (S H:Hp) (F R:FP) (σ:L2.St) (ρ':Rho) (S' H':Hp) (F':FP) (σ':L2.St):Prop where
 st : State ct S' H' F' R ρ' σ'
 tr : Tr S H F S' H' F'
 stay : Stay io σ σ'
structure PostR (S H:Hp) (F R:FP) (σ:L2.St) (d:D) (ρ':Rho) (S' H':Hp) (F' Fr:FP) (σ':L2.St) (v:V):Prop where
 st : State ct S' H' F' (Cup R Fr) ρ' σ'
 djr : Dj R Fr
 tr : Tr S H F S' H' (Cup F' Fr)
 rep : Rep ct S' H' d v Fr
 stay : Stay io σ σ'
noncomputable def EndS (S H:Hp) (F R:FP) (σ:L2.St) (o:Out) (D:Ends):Prop:=
 match o with
 | .nx ρ'=>∀ S' H' F' σ',PostN ct io S H F R σ ρ' S' H' F' σ'→D.nx σ' H'
 | .ct ρ'=>∀ S' H' F' σ',PostN ct io S H F R σ ρ' S' H' F' σ'→D.ct σ' H'
 | .bk ρ'=>∀ S' H' F' σ',PostN ct io S H F R σ ρ' S' H' F' σ'→D.bk σ' H'
 | .rt d ρ'=>∀ S' H' F' Fr σ' v,PostR ct io S H F R σ d ρ' S' H' F' Fr σ' v→D.rt v H'
noncomputable def tS (m:MS):TS:=fun D σ H=>∃ ρ S F R o,State ct S H F R ρ σ∧m ρ=some o∧EndS ct io S H F R σ o D
end
section
variable {ct:Str→Option Addr} {io:List Nat} {S S' H H' S1 H1 S2 H2:Hp} {F F' G R R' T T' Fr F1 F2 R2 Y:FP} {ρ ρ' ρ2:Rho} {σ σ1:L2.St}
theorem EndS.back {o:Out} {D:Ends} (t:Tr S H F S1 H1 F1) (s:Stay io σ σ1) (h:EndS ct io S H F R σ o D):EndS ct io S1 H1 F1 R σ1 o D:=by
 cases o with
 | nx ρ'=>exact fun S' H' F' σ' P=>h S' H' F' σ' ⟨P.st,t.trans P.tr,s.trans P.stay⟩
 | ct ρ'=>exact fun S' H' F' σ' P=>h S' H' F' σ' ⟨P.st,t.trans P.tr,s.trans P.stay⟩
 | bk ρ'=>exact fun S' H' F' σ' P=>h S' H' F' σ' ⟨P.st,t.trans P.tr,s.trans P.stay⟩
 | rt d ρ'=>exact fun S' H' F' Fr σ' v P=>h S' H' F' Fr σ' v ⟨P.st,P.djr,t.trans P.tr,P.rep,s.trans P.stay⟩
noncomputable def mSkip:MS:=fun ρ=>some (.nx ρ)
noncomputable def mSeq (a b:MS):MS:=fun ρ=>(a ρ).bind fun o=>match o with
 | .nx ρ1=>b ρ1
 | o=>some o
theorem ZbO:∀ D σ H,tS ct io mSkip D σ H→tNext D σ H:=by
 rintro D σ H ⟨ρ,S,F,R,o,st,e,k⟩;cases e;exact k S H F σ ⟨st,Tr.refl (Sub.refl _),Stay.refl⟩
theorem ZcR {a b:MS}:∀ D σ H,tS ct io (mSeq a b) D σ H→tSeq (tS ct io a) (tS ct io b) D σ H:=by
 rintro D σ H ⟨ρ,S,F,R,o,st,e,k⟩;obtain ⟨o1,h1,e⟩:=bind_some e;refine ⟨ρ,S,F,R,o1,st,h1,?_⟩
 cases o1 with
 | nx ρ1=>exact fun S1 H1 F1 σ1 P=>⟨ρ1,S1,F1,R,o,P.st,e,k.back P.tr P.stay⟩
 | rt d ρ1=>cases e; exact k
 | ct ρ1=>cases e; exact k
 | bk ρ1=>cases e; exact k
noncomputable def mIfS (c:MT) (a b:MS):MS:=fun ρ=>(c ρ).bind fun p=>if p.1=true then a p.2 else b p.2
theorem ZgV {c:MT} {a b:MS}:∀ D σ H,tS ct io (mIfS c a b) D σ H→tIfS (tT ct c) (tS ct io a) (tS ct io b) D σ H:=by
 rintro D σ H ⟨ρ,S,F,R,o,st,e,k⟩;obtain ⟨p,hp,e⟩:=bind_some e;refine ⟨ρ,S,F,R,p.1,p.2,st,hp,fun S1 H1 F1 st1 t1=>?_⟩
 show if p.1=true then tS ct io a D σ H1 else tS ct io b D σ H1
 by_cases hc:p.1=true
 ·rw [if_pos hc] at e ⊢
  exact ⟨p.2,S1,F1,R,o,st1,e,k.back t1 Stay.refl⟩
 ·rw [if_neg hc] at e ⊢
  exact ⟨p.2,S1,F1,R,o,st1,e,k.back t1 Stay.refl⟩
noncomputable def mDrop (m:ME):MS:=fun ρ=>(m ρ).bind fun p=>some (.nx p.2)
theorem ZgW {m:ME}:∀ D σ H,tS ct io (mDrop m) D σ H→tDrop (tI ct m) D σ H:=by
 rintro D σ H ⟨ρ,S,F,R,o,st,e,k⟩;obtain ⟨p,hp,e⟩:=bind_some e;cases e;exact ⟨ρ,S,F,R,p.1,p.2,st,hp,fun S1 H1 F1 Fa x P=>k S1 H1 F1 σ ⟨P.st.drop fun a z=>.inl z,P.tr.grow fun a z=>.inl z,Stay.refl⟩⟩
theorem Post.took {r:Rv} {v:V} {d:D} (P:Post ct S H F R σ r ρ S1 H1 F1 Fr v) (e:take r ρ=some (d,ρ')):
  ∃ S2 F2 Fm,State ct S2 H1 F2 (Cup R Fm) ρ' σ∧Rep ct S2 H1 d v Fm∧Dj R Fm∧Tr S H F S2 H1 (Cup F2 Fm):=by
 have PA:PostA ct S H F R σ [r] ρ S1 H1 F1 Fr [v]:=⟨P.st,P.djr,P.tr,v,[],Fr,No,rfl,Sub.refl _,Sub.no,fun _ _ z=>z,P.rv,rfl⟩;have e2:takes [r] ρ=some ([d],ρ'):=by
  unfold takes;rw [e];rfl
 obtain ⟨S2,F2,Fm,a1,⟨v',vr,A,B,ev,s1,s2,dj,h1,h2⟩,a3,a4⟩:=PA.took e2;cases ev;exact ⟨S2,F2,Fm,a1,h1.mono s1,a3,a4⟩
noncomputable def mRet (m:ME):MS:=fun ρ=>(m ρ).bind fun p=>(take p.1 p.2).bind fun q=>some (.rt q.1 q.2)
theorem ZgX {m:ME}:∀ D σ H,tS ct io (mRet m) D σ H→tRet (tI ct m) D σ H:=by
 rintro D σ H ⟨ρ,S,F,R,o,st,e,k⟩;obtain ⟨p,hp,e⟩:=bind_some e;obtain ⟨q,hq,e⟩:=bind_some e;cases e;refine ⟨ρ,S,F,R,p.1,p.2,st,hp,fun S1 H1 F1 Fa x P=>?_⟩
 obtain ⟨S2,F2,Fm,a1,a2,a3,a4⟩:=P.took (d:=q.1) (ρ':=q.2) hq;exact k S2 H1 F2 Fm σ x ⟨a1,a3,a4,a2,Stay.refl⟩
noncomputable def mRetN:MS:=fun ρ=>some (.rt .non ρ)
noncomputable def mCont:MS:=fun ρ=>some (.ct ρ)
theorem State.store {i:Nat} {d:D} {v:V} (st:State ct S H F (Cup R Fr) ρ σ) (djr:Dj R Fr) (h:Rep ct S H d v Fr) (hi:i < ρ.length):State ct S H (Cup F Fr) R (ρ.set i (.own d)) (σ.set i (some v)):=by
 obtain ⟨fs,h1,h2,h3⟩:=st.fs;have eT:Sub (Cup (Cup F Fr) R) (Cup F (Cup R Fr)):=fun a z=>z.elim (fun z=>z.elim .inl fun z=>.inr (.inr z)) fun z=>.inr (.inl z)
 have hiσ:i < σ.length:=by rw [←st.len]; exact hi
 refine ⟨st.w.anti eT,fun a x y=>x.elim (fun x=>st.dj a x (.inl y)) fun x=>djr a y x,by rw [List.length_set,List.length_set]; exact st.len,fun j=>if j=i then Fr else fs j,fun j=>?_,fun j l n=>?_,fun j s e=>?_⟩
 ·dsimp only
  split
  ·exact Sub.cupR
  ·exact fun a z=>.inl (h1 j a z)
 ·dsimp only
  split
  ·split
   ·rename_i e1 e2
    exact absurd (e1.trans e2.symm) n
   ·exact fun a x y=>st.dj a (h1 l a y) (.inr x)
  ·split
   ·exact fun a x y=>st.dj a (h1 j a x) (.inr y)
   ·exact h2 j l n
 ·by_cases hj:j=i
  ·subst hj
   rw [List.getElem?_set_self hi] at e;cases e;dsimp only;rw [if_pos rfl,List.getElem?_set_self hiσ];exact ⟨v,rfl,h⟩
  ·rw [List.getElem?_set_ne (Ne.symm hj)] at e
   dsimp only;rw [if_neg hj,List.getElem?_set_ne (Ne.symm hj)];have q:=h3 j s e;cases s with
   | dead=>trivial
   | own d=>exact q
   | vw d=>obtain ⟨v,e1,q⟩:=q; exact ⟨v,e1,q.anti eT⟩
theorem State.storeV {i:Nat} {d:D} {v:V} (st:State ct S H F R ρ σ) (h:Vw ct H (Cup F R) d v) (hi:i < ρ.length):State ct S H F R (ρ.set i (.vw d)) (σ.set i (some v)):=by
 obtain ⟨fs,h1,h2,h3⟩:=st.fs;have hiσ:i < σ.length:=by rw [←st.len]; exact hi
 refine ⟨st.w,st.dj,by rw [List.length_set,List.length_set]; exact st.len,fs,h1,h2,fun j s e=>?_⟩
 by_cases hj:j=i
 ·subst hj
  rw [List.getElem?_set_self hi] at e;cases e;rw [List.getElem?_set_self hiσ];exact ⟨v,rfl,h⟩
 ·rw [List.getElem?_set_ne (Ne.symm hj)] at e
  rw [List.getElem?_set_ne (Ne.symm hj)];exact h3 j s e
theorem State.kill {i:Nat} (st:State ct S H F R ρ σ):State ct S H F R (ρ.set i .dead) σ:=by
 obtain ⟨fs,h1,h2,h3⟩:=st.fs;refine ⟨st.w,st.dj,by rw [List.length_set]; exact st.len,fs,h1,h2,fun j s e=>?_⟩
 by_cases hj:j=i
 ·subst hj
  by_cases hi:j < ρ.length
  ·rw [List.getElem?_set_self hi] at e
   cases e;trivial
  ·rw [List.getElem?_eq_none (by rw [List.length_set]; omega)] at e
   cases e
 ·rw [List.getElem?_set_ne (Ne.symm hj)] at e
  exact h3 j s e
theorem Stay.set {i:Nat} {o:Option V} (h:i∉io):Stay io σ (σ.set i o):=fun j hj=>by
 rw [List.getElem?_set_ne];rintro rfl;exact h hj
noncomputable def viewOf (r:Rv) (ρ:Rho):Option D:=match r with
 | .vw d=>some d
 | .pend i _=>match ρ[i]? with
  | some (.vw d)=>some d
  | _=>none
 | _=>none
noncomputable def sto (i:Nat) (r:Rv) (ρ:Rho):Option Rho:=
 match take r ρ with
 | some q=>if i < q.2.length then some (q.2.set i (.own q.1)) else none
 | none=>(viewOf r ρ).bind fun d=>if i < ρ.length then some (ρ.set i (.vw d)) else none
theorem ZgY {r:Rv} {v:V} {d:D} (st:State ct S H F R ρ σ) (kT:Sub (Cup F R) T) (h:RvRep ct S H T σ Fr r v) (e:viewOf r ρ=some d):Vw ct H (Cup F R) d v:=by
 cases r with
 | own d=>cases e
 | vw d=>cases e; exact Vw.anti kT h
 | pend i fz=>
  have hv:σ[i]?=some (some v):=h;unfold viewOf at e;dsimp only at e;cases hs:ρ[i]? with
  | none=>rw [hs] at e; cases e
  | some sl=>
   rw [hs] at e;obtain ⟨Fi,si,hsl⟩:=st.slot hs;cases sl with
   | dead=>cases e
   | own x=>cases e
   | vw x=>
    cases e;obtain ⟨v',e1,q⟩:=hsl;rw [hv] at e1; cases e1;exact q
theorem Post.stored {i:Nat} {r:Rv} {v:V} (P:Post ct S H F R σ r ρ S1 H1 F1 Fr v) (e:sto i r ρ=some ρ'):
  ∃ S2 F2,State ct S2 H1 F2 R ρ' (σ.set i (some v))∧Tr S H F S2 H1 F2:=by
 unfold sto at e;cases ht:take r ρ with
 | some q=>
  rw [ht] at e;dsimp only at e;split at e
  ·rename_i hi
   cases e;obtain ⟨S2,F2,Fm,a1,a2,a3,a4⟩:=P.took (d:=q.1) (ρ':=q.2) ht;exact ⟨S2,Cup F2 Fm,a1.store a3 a2 hi,a4⟩
  ·cases e
 | none=>
  rw [ht] at e;dsimp only at e;obtain ⟨d,hd,e⟩:=bind_some e;split at e
  ·rename_i hi
   cases e;have q:=ZgY P.st (fun a z=>z) P.rv hd;have k:Sub R (Cup R Fr):=Sub.cupL;exact ⟨S1,F1,(P.st.drop k).storeV (q.anti fun a z=>z.imp id .inl) hi,P.tr.grow fun a z=>.inl z⟩
  ·cases e
noncomputable def mAsg (io:List Nat) (i:Nat) (m:ME):MS:=fun ρ=>if io.contains i=true then none else (m ρ).bind fun p=>(sto i p.1 p.2).bind fun ρ'=>some (.nx ρ')
theorem Zeq {i:Nat} {m:ME}:∀ D σ H,tS ct io (mAsg io i m) D σ H→tAsg (tI ct m) (gName i) D σ H:=by
 rintro D σ H ⟨ρ,S,F,R,o,st,e,k⟩;unfold mAsg at e;split at e
 ·cases e
 ·rename_i hio
  obtain ⟨p,hp,e⟩:=bind_some e;obtain ⟨ρ',hs,e⟩:=bind_some e;cases e;refine ⟨ρ,S,F,R,p.1,p.2,st,hp,fun S1 H1 F1 Fa x P=>?_⟩
  obtain ⟨S2,F2,a1,a2⟩:=P.stored hs;exact k S2 H1 F2 _ ⟨a1,a2,Stay.set fun z=>hio (by simpa using z)⟩
end
end VS
namespace VS
open PySem PySem.Spec PyProof.Rows L2
inductive Pat where
 | nm (i:Nat) | tp (ps:List Pat)
mutual
noncomputable def asP (io:List Nat):Pat→Rv→Rho→Option Rho
 | .nm i,r,ρ=>if io.contains i=true then none else sto i r ρ
 | .tp ps,.own (.tup ds),ρ=>asPs io ps (ds.map .own) ρ
 | .tp ps,.vw (.tup ds),ρ=>asPs io ps (ds.map vwR) ρ
 | .tp _,_,_=>none
noncomputable def asPs (io:List Nat):List Pat→List Rv→Rho→Option Rho
 | [],[],ρ=>some ρ
 | p ::ps,r ::rs,ρ=>(asP io p r ρ).bind fun ρ1=>asPs io ps rs ρ1
 | _,_,_=>none
end
mutual
noncomputable def gP (K:PySem.W.Frag):Pat→TG
 | .nm i=>gName i
 | .tp ps=>gTup K ps.length (gPs K ps)
noncomputable def gPs (K:PySem.W.Frag):List Pat→TGs
 | []=>gNil
 | p ::ps=>gCons (gP K p) (gPs K ps)
end
noncomputable def Zi:Rv→Bool
 | .pend _ _=>false
 | _=>true
section
variable {ct:Str→Option Addr} {io:List Nat} {S S' H H' S1 H1 S2 H2:Hp} {F F' G R R' T T' Fr F1 F2 R2 Y:FP} {ρ ρ' ρ2:Rho} {σ σ1:L2.St}
theorem RvRep.anyσ {σ':L2.St} {r:Rv} {v:V} (hn:Zi r=true) (h:RvRep ct S H T σ Fr r v):RvRep ct S H T σ' Fr r v:=by
 cases r with
 | own d=>exact h
 | vw d=>exact h
 | pend i fz=>cases hn
theorem RvReps.anyσ {σ':L2.St}:∀ {rs:List Rv} {vs:List V} {Fr:FP},rs.all Zi=true→RvReps ct S H T σ rs vs Fr→RvReps ct S H T σ' rs vs Fr
 | [],_,_,_,h=>h
 | r ::rs,_,_,hn,⟨v,vr,A,B,ev,s1,s2,dj,h1,h2⟩=>by
  rw [List.all_cons] at hn;obtain ⟨n1,n2⟩:=Bool.and_eq_true_iff.mp hn;exact ⟨v,vr,A,B,ev,s1,s2,dj,h1.anyσ n1,RvReps.anyσ n2 h2⟩
theorem ZgZ {i:Nat} {r:Rv} {v:V} (hn:Zi r=true) (st:State ct S H F (Cup R Fr) ρ σ) (djr:Dj R Fr) (h:RvRep ct S H (Cup F (Cup R Fr)) σ Fr r v) (e:sto i r ρ=some ρ'):
  State ct S H (Cup F Fr) R ρ' (σ.set i (some v)):=by
 unfold sto at e;cases r with
 | pend i fz=>cases hn
 | own d=>
  dsimp only [take] at e;split at e
  ·rename_i hi
   cases e;exact st.store djr h hi
  ·cases e
 | vw d=>
  have st':State ct S H F (Cup R No) ρ σ:=st.drop fun a z=>z.elim .inl fun z=>z.elim
  cases hf:flat d with
  | true=>
   dsimp only [take] at e;rw [if_pos hf] at e;dsimp only at e;split at e
   ·rename_i hi
    cases e;have st2:=st.store (d:=d) (v:=v) djr (Vw.flat (S:=S) (G:=Fr) hf h) hi;exact st2
   ·cases e
  | false=>
   dsimp only [take] at e;rw [if_neg (by rw [hf]; exact Bool.false_ne_true)] at e;dsimp only [viewOf] at e;obtain ⟨d',hd,e⟩:=bind_some e;cases hd;split at e
   ·rename_i hi
    cases e;have st2:=st.storeV (d:=d) (v:=v) h hi;obtain ⟨fs,h1,h2,h3⟩:=st2.fs;have eT:Sub (Cup (Cup F Fr) R) (Cup F (Cup R Fr)):=fun a z=>z.elim (fun z=>z.elim .inl fun z=>.inr (.inr z)) fun z=>.inr (.inl z)
    refine ⟨st2.w.anti eT,fun a x y=>x.elim (fun x=>st2.dj a x (.inl y)) fun x=>djr a y x,st2.len,fs,fun j a z=>.inl (h1 j a z),h2,fun j s e=>?_⟩
    have q:=h3 j s e;cases s with
    | dead=>trivial
    | own d=>exact q
    | vw d=>obtain ⟨v,e1,q⟩:=q; exact ⟨v,e1,q.anti eT⟩
   ·cases e
theorem Zg0 (d:D):Zi (vwR d)=true:=by
 unfold vwR;split<;>rfl
theorem ZcS (ds:List D):(ds.map Rv.own).all Zi=true:=by
 induction ds with
 | nil=>rfl
 | cons d ds ih=>simpa [Zi] using ih
theorem ZcT (ds:List D):(ds.map vwR).all Zi=true:=by
 induction ds with
 | nil=>rfl
 | cons d ds ih=>
  rw [List.map_cons,List.all_cons,Zg0,ih];rfl
theorem Reps.rvs:∀ {ds:List D} {vs:List V} {F:FP},Reps ct S H ds vs F→RvReps ct S H T σ (ds.map .own) vs F
 | [],_,_,h=>h
 | d ::ds,_,_,⟨v,vr,A,B,ev,s1,s2,dj,h1,h2⟩=>⟨v,vr,A,B,ev,s1,s2,dj,h1,Reps.rvs h2⟩
theorem Vws.rvs:∀ {ds:List D} {vs:List V} {G:FP},Vws ct H T ds vs→RvReps ct S H T σ (ds.map vwR) vs G
 | [],_,_,h=>h
 | d ::ds,_,_,⟨v,vr,ev,h1,h2⟩=>⟨v,vr,No,No,ev,Sub.no,Sub.no,Dj.no,Zao h1,(Vws.rvs h2)⟩
mutual
theorem Za8 {K:PySem.W.Frag}:∀ {p:Pat} {r:Rv} {v:V} {F R Fr:FP} {ρ ρ':Rho} {σ:L2.St} {Q:L2.St→Hp→Prop},Zi r=true→State ct S H F (Cup R Fr) ρ σ→Dj R Fr→RvRep ct S H (Cup F (Cup R Fr)) σ Fr r v→asP io p r ρ=some ρ'→
  (∀ F' σ',State ct S H F' R ρ' σ'→Sub F' (Cup F Fr)→Stay io σ σ'→Q σ' H)→gP K p v σ H Q
 | .nm i,r,v,F,R,Fr,ρ,ρ',σ,Q,hn,st,djr,h,e,k=>by
  unfold asP at e;split at e
  ·cases e
  ·rename_i hio
   exact k (Cup F Fr) _ (ZgZ hn st djr h e) (Sub.refl _) (Stay.set fun z=>hio (by simpa using z))
 | .tp ps,r,v,F,R,Fr,ρ,ρ',σ,Q,hn,st,djr,h,e,k=>by
  cases r with
  | pend i fz=>cases hn
  | own d=>
   cases d with
   | tup ds=>
    obtain ⟨a,vs,ex,ha,hs⟩:=h;have e':asPs io ps (ds.map .own) ρ=some ρ':=by
     unfold asP at e;exact e
    have hl:vs.length=ps.length:=by
     rw [←hs.len,←List.length_map (f:=Rv.own),asPs_len e']
    exact ⟨a,vs,ex,SqT.of ha,hl,asPs_ok (ZcS ds) st djr hs.rvs e' k⟩
   | _=>(unfold asP at e; cases e)
  | vw d=>
   cases d with
   | tup ds=>
    obtain ⟨a,vs,ex,ha,hs⟩:=h;have e':asPs io ps (ds.map vwR) ρ=some ρ':=by
     unfold asP at e;exact e
    have hl:vs.length=ps.length:=by
     rw [←hs.len,←List.length_map (f:=vwR),asPs_len e']
    exact ⟨a,vs,ex,SqT.of ha,hl,asPs_ok (ZcT ds) st djr hs.rvs e' k⟩
   | _=>(unfold asP at e; cases e)
theorem asPs_ok {K:PySem.W.Frag}:∀ {ps:List Pat} {rs:List Rv} {vs:List V} {F R Fr:FP} {ρ ρ':Rho} {σ:L2.St} {Q:L2.St→Hp→Prop},rs.all Zi=true→State ct S H F (Cup R Fr) ρ σ→Dj R Fr→RvReps ct S H (Cup F (Cup R Fr)) σ rs vs Fr→asPs io ps rs ρ=some ρ'→
  (∀ F' σ',State ct S H F' R ρ' σ'→Sub F' (Cup F Fr)→Stay io σ σ'→Q σ' H)→gPs K ps vs σ H Q
 | [],[],vs,F,R,Fr,ρ,ρ',σ,Q,hn,st,djr,h,e,k=>by
  unfold asPs at e;cases e;exact ⟨h,k F σ (st.drop Sub.cupL) Sub.cupL Stay.refl⟩
 | [],_ ::_,vs,F,R,Fr,ρ,ρ',σ,Q,hn,st,djr,h,e,k=>by unfold asPs at e; cases e
 | _ ::_,[],vs,F,R,Fr,ρ,ρ',σ,Q,hn,st,djr,h,e,k=>by unfold asPs at e; cases e
 | p ::ps,r ::rs,vs,F,R,Fr,ρ,ρ',σ,Q,hn,st,djr,⟨v,vr,A,B,ev,s1,s2,dj,h1,h2⟩,e,k=>by
  unfold asPs at e;obtain ⟨ρ1,e1,e⟩:=bind_some e;rw [List.all_cons] at hn;obtain ⟨n1,n2⟩:=Bool.and_eq_true_iff.mp hn;refine ⟨v,vr,ev,Za8 (R:=Cup R B) (Fr:=A) n1 (st.drop fun a z=>?_) (fun a x y=>?_) (h1.anti fun a z=>?_) e1 fun F' σ' st' sF stay=>?_⟩
  ·exact z.elim (fun z=>z.elim .inl fun z=>.inr (s2 a z)) fun z=>.inr (s1 a z)
  ·exact x.elim (fun x=>djr a x (s1 a y)) fun x=>dj a y x
  ·exact z.elim .inl fun z=>.inr (z.elim (fun z=>z.elim .inl fun z=>.inr (s2 a z)) fun z=>.inr (s1 a z))
  ·refine asPs_ok n2 st' (fun a x y=>djr a x (s2 a y)) ((h2.anyσ n2).anti fun a z=>?_) e fun F2 σ2 st2 sF2 stay2=>k F2 σ2 st2 (fun a z=>?_) (stay.trans stay2)
   ·exact z.elim (fun z=>(sF a z).elim .inl fun z=>.inr (.inr (s1 a z))) fun z=>.inr (z.elim .inl fun z=>.inr (s2 a z))
   ·exact (sF2 a z).elim (fun z=>(sF a z).elim .inl fun z=>.inr (s1 a z)) fun z=>.inr (s2 a z)
theorem asPs_len:∀ {ps:List Pat} {rs:List Rv} {ρ ρ':Rho},asPs io ps rs ρ=some ρ'→rs.length=ps.length
 | [],[],_,_,_=>rfl
 | [],_ ::_,_,_,e=>by unfold asPs at e; cases e
 | _ ::_,[],_,_,e=>by unfold asPs at e; cases e
 | p ::ps,r ::rs,_,_,e=>by
  unfold asPs at e;obtain ⟨ρ1,e1,e⟩:=bind_some e;rw [List.length_cons,List.length_cons,asPs_len e]
end
end
noncomputable def Zas (r:Rv) (ρ:Rho):Option (Rv×Rho):=match r with
 | .own d=>some (.own (strip d),ρ)
 | .vw d=>some (.vw d,ρ)
 | .pend i _=>match ρ[i]? with
  | some (.own d)=>if noOwn d=true then some (.own d,ρ) else some (.own (strip d),ρ.set i (.own (strip d)))
  | some (.vw d)=>some (.vw d,ρ)
  | _=>none
structure Walk (ct:Str→Option Addr) (J:It) (its:List Rv) (S0 H0:Hp) (F0 R:FP):Prop where
 np : its.all Zi=true
 go : ∀ (i:Nat) S H F r,Tr S0 H0 F0 S H F→WOk S H (Cup F R)→its[i]?=some r→J.go i H∧∀ x H',J.yld i H x H'→(H'=H∨∃ p vs,H p=none∧H'=upd H p (.tup vs))∧RvRep ct S H' (Cup F R) [] No r x
 stop : ∀ S H F,Tr S0 H0 F0 S H F→WOk S H (Cup F R)→J.stop its.length H
noncomputable abbrev MI:=Rho→Option (List Rv×Rho)
noncomputable def tW (ct:Str→Option Addr) (m:MI):TI:=fun σ H Q=>∃ ρ S F R its ρ',State ct S H F R ρ σ∧m ρ=some (its,ρ')∧∀ S' H' F' J,State ct S' H' F' R ρ' σ→Tr S H F S' H' F'→Walk ct J its S' H' F' R→Q J H'
noncomputable def kills (ks:List Nat) (ρ:Rho):Rho:=match ks with
 | []=>ρ
 | k ::ks=>kills ks (ρ.set k .dead)
noncomputable def ZL (io:List Nat) (p:Pat) (mb:MS) (kl:List Nat):List Rv→Rho→Option Out
 | [],ρ=>some (.nx ρ)
 | r ::rs,ρ=>(asP io p r ρ).bind fun ρ1=>(mb ρ1).bind fun o=>match o with
  | .nx ρ2=>ZL io p mb kl rs (kills kl ρ2)
  | .ct ρ2=>ZL io p mb kl rs (kills kl ρ2)
  | .bk ρ2=>some (.nx ρ2)
  | .rt d ρ2=>some (.rt d ρ2)
noncomputable def mFor (io:List Nat) (p:Pat) (ms:MI) (mb:MS) (kl:List Nat):MS:=fun ρ=>(ms ρ).bind fun q=>ZL io p mb kl q.1 q.2
section
variable {ct:Str→Option Addr} {io:List Nat} {S S' H H' S1 H1 S2 H2:Hp} {F F' G R R' T T' Fr F1 F2 R2 Y:FP} {ρ ρ' ρ2:Rho} {σ σ1:L2.St}
theorem State.kills:∀ (ks:List Nat) {ρ:Rho},State ct S H F R ρ σ→State ct S H F R (VS.kills ks ρ) σ
 | [],_,st=>st
 | k ::ks,_,st=>State.kills ks st.kill
theorem State.turn (st:State ct S H F R ρ σ) (h:H'=H∨∃ p vs,H p=none∧H'=upd H p (.tup vs)):State ct S H' F R ρ σ∧Tr S H F S H' F:=by
 rcases h with rfl | ⟨p,vs,hp,rfl⟩
 ·exact ⟨st,Tr.refl (Sub.refl _)⟩
 ·exact ⟨(st.alloc hp).drop Sub.cupL,(Tr.alloc hp).grow fun a z=>.inl z⟩
theorem Zg1 {K:PySem.W.Frag} {p:Pat} {ms:MI} {mb:MS} {kl:List Nat}:∀ D σ H,tS ct io (mFor io p ms mb kl) D σ H→tFor (tW ct ms) (gP K p) (tS ct io mb) D σ H:=by
 rintro D σ H ⟨ρ,S,F,R,o,st,e,k⟩;obtain ⟨q,hq,e⟩:=bind_some e;refine ⟨ρ,S,F,R,q.1,q.2,st,hq,fun S0 H0 F0 J st0 t0 wk=>?_⟩
 refine ⟨fun i m σ H=>i+m=q.1.length∧∃ ρ S F,State ct S H F R ρ σ∧Tr S0 H0 F0 S H F∧ZL io p mb kl (q.1.drop i) ρ=some o∧EndS ct io S H F R σ o D,⟨q.1.length,by omega,q.2,S0,F0,st0,Tr.refl (Sub.refl _),by simpa using e,k.back t0 Stay.refl⟩,?_⟩
 rintro i m σ1 H1 ⟨him,ρ1,S1,F1,st1,t1,e1,k1⟩;cases hr:q.1[i]? with
 | none=>
  have hl:q.1.length≤i:=List.getElem?_eq_none_iff.mp hr;have hi:i=q.1.length:=by omega
  subst hi;rw [List.drop_length] at e1;cases e1;exact .inl ⟨wk.stop S1 H1 F1 t1 st1.w,k1 S1 H1 F1 σ1 ⟨st1,Tr.refl (Sub.refl _),Stay.refl⟩⟩
 | some r=>
  obtain ⟨hlt,hget⟩:=List.getElem?_eq_some_iff.mp hr;have hd:q.1.drop i=r ::q.1.drop (i+1):=by rw [←hget]; exact List.drop_eq_getElem_cons hlt
  rw [hd] at e1;obtain ⟨ρ2,ha,e1⟩:=bind_some e1;obtain ⟨o2,hb,e1⟩:=bind_some e1;obtain ⟨hgo,hy⟩:=wk.go i S1 H1 F1 r t1 st1.w hr;refine .inr ⟨hgo,fun σ' H'=>(i+1)+(m - 1)=q.1.length∧∃ ρ S F,State ct S H' F R ρ σ'∧Tr S0 H0 F0 S H' F∧ZL io p mb kl (q.1.drop (i+1)) ρ=some o∧EndS ct io S H' F R σ' o D,fun σ' H' hN=>⟨m - 1,by omega,hN⟩,fun x H2 hyx=>?_⟩
  obtain ⟨hH,rv⟩:=hy x H2 hyx;obtain ⟨st2,t2⟩:=st1.turn hH;have np:Zi r=true:=List.all_eq_true.mp wk.np r (List.mem_of_getElem? hr);refine Za8 (R:=R) (Fr:=No) np (st2.drop fun a z=>z.elim id fun z=>z.elim) (fun _ _ z=>z) ((rv.anyσ np).anti fun a z=>z.imp id fun z=>z.elim id fun z=>z.elim) ha fun F3 σ3 st3 sF3 stay3=>?_
  have t3:Tr S1 H1 F1 S1 H2 F3:=t2.grow fun a z=>(sF3 a z).elim id fun z=>z.elim
  refine ⟨ρ2,S1,F3,R,o2,st3,hb,?_⟩
  cases o2 with
  | nx ρ3=>exact fun S4 H4 F4 σ4 P=>⟨by omega,_,S4,F4,P.st.kills kl,t1.trans (t3.trans P.tr),e1,k1.back (t3.trans P.tr) (stay3.trans P.stay)⟩
  | ct ρ3=>exact fun S4 H4 F4 σ4 P=>⟨by omega,_,S4,F4,P.st.kills kl,t1.trans (t3.trans P.tr),e1,k1.back (t3.trans P.tr) (stay3.trans P.stay)⟩
  | bk ρ3=>cases e1; exact fun S4 H4 F4 σ4 P=>k1 S4 H4 F4 σ4 ⟨P.st,t3.trans P.tr,stay3.trans P.stay⟩
  | rt d ρ3=>cases e1; exact k1.back t3 stay3
end
end VS
namespace VS
open PySem PySem.Spec PyProof.Rows L2
theorem Zer {h:Heap} {a b:Addr} {o p:Obj} {x y:String} (ha:h.get? a=some o) (hb:h.get? b=some p) (ho:o.cls=.type x) (hp:p.cls=.type y) (n:x≠y):a≠b:=fun z=>by
 subst z;rw [ha] at hb;cases hb;rw [ho] at hp;injection hp with q
 exact n q
theorem Zg2 (l:Addr) (vals:Array Value) (m:Nat) (dc:Option Addr) (sl:Array (Option Value)):
  Meets (Builtin.«enumerate.__new__» ⟨[.type "enumerate",.ref l],[]⟩) (fun _ R s=>s.heap.get? l=some { cls:=.type "tuple",dict:=dc,data:=.seq vals m,slots:=sl }∧
   R (.ok (.ret (.ref (s.heap.push { cls:=.type "tuple_iterator",data:=.fields #[.ref l,.int 0 0] }).objs.size)))
    { s with heap:=(s.heap.push { cls:=.type "tuple_iterator",data:=.fields #[.ref l,.int 0 0] }).push { cls:=.type "enumerate",data:=.fields #[.none,.bool false,.ref s.heap.objs.size,rawInt 0,.none,.none] } }):=
 .of_wp fun P w A R s h=>by
  obtain ⟨hp,g,d,tk,os⟩:=s; obtain ⟨hl,h⟩:=h;have hsb:=sub_enumerate;have hT:Heap.IsTuple (Shared.heap ⟨hp,g,d,tk,os⟩) l vals:=⟨_,hl,rfl,m,rfl⟩
  wp_walk using AutoSeq1.wpAny_loadPart' hl
  refine wpAny_stack_any fun st=>wpAny_pure ?_
  split
  ·rename_i c _ _ _ _ _
   cases (c ==Value.type "enumerate")
   ·wp_walk using AutoSeq1.wpAny_loadPart' hl,wpAny_pyIter_tuple hT
    exact ⟨_,rfl,h⟩
   ·wp_walk using AutoSeq1.wpAny_loadPart' hl,wpAny_pyIter_tuple hT
    exact ⟨_,rfl,h⟩
  ·wp_walk using AutoSeq1.wpAny_loadPart' hl,wpAny_pyIter_tuple hT
   exact ⟨_,rfl,h⟩
theorem Zg3 {P:Program} {w:World} {A:Around} {E:Value→Shared→Prop} {s:Shared} {l:Addr} {vals:Array Value} {Q:Value→Shared→Prop} (hL:s.heap.IsTuple l vals)
  (h:∀ h',IsEnum h' (s.heap.objs.size+1) s.heap.objs.size 0 .none→h'.IsTupleIter s.heap.objs.size l 0→h'.objs.size=s.heap.objs.size+2→
   (∀ b o,s.heap.get? b=some o→h'.get? b=some o)→Q (.ref (s.heap.objs.size+1)) { s with heap:=h' }):
  wpAny (model P w) A (call (.type "enumerate") [.ref l]) Q E s:=by
 obtain ⟨⟨c,dc,dt,sl⟩,hl,hc,m,hd⟩:=hL;replace hc:c=.type "tuple":=hc
 replace hd:dt=.seq vals m:=hd
 subst hc hd
 refine callType_new F.called_enumerate (by decide) (F.typeCall_enumerate_1 _) (F.newCall_enumerate_1 _) (fun obj=>F.args_object_init_2 obj _) F.entry_enumerate_new
  (Zg2 l vals m dc sl) ⟨hl,?_⟩
 have hz:(s.heap.push { cls:=.type "tuple_iterator",data:=.fields #[.ref l,.int 0 0] }).objs.size=s.heap.objs.size+1:=Heap.size_push ..;show _∧_;rw [hz]
 have he:IsEnum ((s.heap.push { cls:=.type "tuple_iterator",data:=.fields #[.ref l,.int 0 0] }).push
   { cls:=.type "enumerate",data:=.fields #[.none,.bool false,.ref s.heap.objs.size,rawInt 0,.none,.none] }) (s.heap.objs.size+1) s.heap.objs.size 0 .none:=by
  have:=Heap.get?_push_size (s.heap.push { cls:=.type "tuple_iterator",data:=.fields #[.ref l,.int 0 0] })
   (o:={ cls:=.type "enumerate",data:=.fields #[.none,.bool false,.ref s.heap.objs.size,rawInt 0,.none,.none] }) rfl
  rw [hz] at this; exact this
 refine ⟨⟨_,he,rfl⟩,h _ he ⟨_,Heap.get?_push_of_some _ (Heap.get?_push_size _ rfl),rfl,rfl⟩ (by rw [Heap.size_push,hz]) fun b o x=>?_⟩
 exact Heap.get?_push_of_some _ (Heap.get?_push_of_some _ x)
noncomputable def ZcU (K:PySem.W.Frag) (a:Addr):It:=
 ⟨fun i H=>∃ (ys:List V) (y:V),SqT K H a ys∧ys[i]?=some y,fun i H v H'=>∃ T y,v=.ref T∧H T=none∧H'=upd H T (.tup [.int (i:Nat),y])∧∀ ys,SqT K H a ys→ys[i]?=some y,fun i H=>∃ ys:List V,SqT K H a ys∧ys.length≤i⟩
theorem Zg4 {P:Program} {w:World} {K:PySem.W.Frag} {elts:List Expr} {kk:Nat} {tpos:Pos} (a e it:Addr):
  Turn P w K (.Tuple elts kk tpos) (ZcU K a) [e,it] e (fun i h=>(∃ old,IsEnum h e it ((i:Nat):Int) old)∧h.IsTupleIter it a i∧e≠it) where
 mem:=by simp
 obj:=fun i h st b hb=>by
  obtain ⟨⟨old,he⟩,⟨o,ho,hc,hd⟩,_⟩:=st;rcases (show b=e∨b=it by simpa using hb) with z | z
  ·rw [z]; exact ⟨_,he,fun v q=>nomatch q⟩
  ·rw [z]; exact ⟨o,ho,fun v q=>by rw [hd] at q; cases q⟩
 keep:=fun i h h' st k=>let ⟨⟨old,he⟩,hi,hne⟩:=st; ⟨⟨old,k e (by simp) _ he⟩,Heap.IsTupleIter.at hi fun o q=>k it (by simp) o q,hne⟩
 item:=by
  intro X hP hw hK hc i pins s σ H E I hf st hg;subst hP hw hK;obtain ⟨⟨old,he⟩,hit,hne⟩:=st;obtain ⟨ys,y,hq,hy⟩:=hg;obtain ⟨its,rv,p,hz⟩:=I.tuple hq;have p:s.heap.IsTuple a its.toArray:=p;obtain ⟨u,hu,ru⟩:=rv.get hy;have hel:e < s.heap.objs.size:=Heap.lt_size he;obtain ⟨oi,goi,coi,_⟩:=id hit;obtain ⟨ot,got,cot,_⟩:=id p;have hil:it < s.heap.objs.size:=Heap.lt_size goi;have hai:a≠it:=Zer got goi cot coi (by decide);have hae:e≠a:=Zer he got rfl cot (by decide);have hu2:its.toArray[i]?=some u:=by simpa using hu
  have hlt:i < its.toArray.size:=by
   rcases Nat.lt_or_ge i its.toArray.size with z | z
   ·exact z
   ·rw [Array.getElem?_eq_none z] at hu2; cases hu2
  refine wpAny_pyNext_enum_itemD (Draws.tuple (prog:=X.prog) (w:=X.w) (A:=X.A.in1) (I.ok.hd hc) it a hai its.toArray) he ⟨hit,p⟩ hlt hne (by simp [hne,hae]) fun x h' tk hP ho hst' hT hsz hk=>?_
  have hxu:x=u:=by rw [hu2] at hP; cases hP; rfl
  subst hxu;refine ⟨_,rfl,wpAny_letOwnedTupleGo_enum (s:={ s with heap:=h',toks:=tk+1 }) ho fun h'' he' sb=>?_⟩
  have hT2:h''.get? s.heap.objs.size=some { cls:=.type "tuple",data:=.seq #[.int i tk,x] }:=(sb.2 _ (Nat.ne_of_gt hel)).trans hT;have new:ObjOk X.prog X.w (upd H s.heap.objs.size (.tup [.int (i:Nat),y])) h'' s.heap.objs.size (.tup [.int (i:Nat),y]):=
   ⟨by show 2≤sizeLine; decide,[.int i tk,x],.cons ⟨_,rfl⟩ (.cons ru .nil),⟨_,hT2,rfl,_,rfl⟩⟩
  have I1:Inv X pins σ (upd H s.heap.objs.size (.tup [.int (i:Nat),y])) { s with heap:=h'',toks:=tk+1 }:=by
   refine I.turnedNew (ch:=[e,it]) (fun b ob hb q=>?_) hf (Nat.le_refl _) new
   exact (sb.2 b (fun z=>hb (by simp [z]))).trans (hk b ob (fun z=>hb (by simp [z])) (fun z=>hb (by simp [z])) q)
  refine ⟨.ref s.heap.objs.size,_,I1,rfl,⟨_,y,rfl,I.hok.fresh (Nat.le_refl _),rfl,fun zs hy'=>by rw [I.tuple_inj hy' hq]; exact hy⟩,⟨⟨x,?_⟩,Heap.IsTupleIter.at hst'.1 fun o q=>(sb.2 it (Ne.symm hne)).trans q,hne⟩,fun b hb=>?_⟩
  ·rw [show ((i+1:Nat):Int)=(i:Int)+1 by omega]; exact he'
  ·have hb':b < s.heap.objs.size:=by
    rcases (show b=e∨b=it by simpa using hb) with z | z
    ·rw [z]; exact hel
    ·rw [z]; exact hil
   rw [upd_ne (Nat.ne_of_lt hb')];exact (hf b hb).1
 done:=by
  intro X hP hw hK hc i pins s σ H E I hf st hg;subst hP hw hK;obtain ⟨⟨old,he⟩,hit,hne⟩:=st;obtain ⟨ys,hq,hy⟩:=hg;obtain ⟨its,rv,p,hz⟩:=I.tuple hq;have p:s.heap.IsTuple a its.toArray:=p;obtain ⟨f0,f1,f2,f3,f4,f5⟩:=hf it (by simp);have hl:=rv.length;have hT:s.TypeIs (.ref e) "enumerate":=⟨_,he,rfl⟩;unfold pyNext;refine wpAny_bind (wpAny_attempt (wpAny_callSpecial?_slot (name:=Str.ofString "__next__") hT F.slot_enumerate_next (wpAny_call_entry F.slot_enumerate_next hT F.entry_enumerate_next ?_ (F.args_enumerate_next_1 _))))
  show wpAny _ _ (field (.ref e) 2 >>=_) _ _ _;refine wpAny_bind (wpAny_field he rfl (x:=.ref it) rfl ?_)
  refine wpAny_bind (wpAny_nextOf_tuple_end (A:=X.A.in1) (I.ok.hd hc) hit p (Array.getElem?_eq_none (by simp; omega)) fun h' x eb hx'=>?_)
  obtain ⟨o,ho,hco⟩:=hx';refine wpAny_bind (wpAny_isInstance (T:= "StopIteration") (b:=true) ⟨o,ho,hco⟩ isSubtype_stop (wpAny_pure ⟨rfl,?_⟩))
  exact I.turned (t':=s.toks) (fun b o hb q=>eb b o hb q) f0 f1 f3 f4 f5
 self:=fun A i s Q E st h=>let ⟨⟨_,he⟩,_⟩:=st; wpAny_pyIter_enum he h
noncomputable def Zes (K:PySem.W.Frag) (ta:TA):TI:=fun σ H R=>ta σ H fun vs H1=>∃ a ys,vs=[.ref a]∧((SqL K H1 a ys∧R (Ite K a) H1)∨(SqT K H1 a ys∧R (ZcU K a) H1))
theorem Zg5 {X:Cx} {e:Expr} {ta:TA} {p pos tpos:Pos} {elts:List Expr} {kk:Nat} (hg:Gl X "enumerate") (hm:X.mg "enumerate"=none) (ha:PA X [e] ta) (hs:starEach [e] X.env=[(false,eval e X.env)]):
  PI X (.Tuple elts kk tpos) (.Call (.Name "enumerate" p) [e] [] pos) (Zes X.K ta):=by
 refine ⟨fun pins s σ H R I h=>?_⟩
 refine Call_ (ld_blt I hg hm boot_enumerate (PyProof.Rows.callWith_type1 (thn (ha.run pos pins s σ H _ I h) fun us s1 ⟨vs,H1,I1,r1,q1⟩=>?_) hs rfl))
 obtain ⟨a,ys,ex,q⟩:=q1;subst ex;cases r1 with
 | cons r rr=>
  cases rr;cases r;have fp:∀ b∈[s1.heap.objs.size+1,s1.heap.objs.size],FpOk X pins H1 b:=fun b hb=>by
   have hle:s1.heap.objs.size≤b:=by
    rcases (show b=s1.heap.objs.size+1∨b=s1.heap.objs.size by simpa using hb) with z | z<;>omega
   exact I1.fpOk hle (I1.hok.fresh hle)
  rcases q with ⟨hq,q⟩ | ⟨hq,q⟩
  ·obtain ⟨its,rv,p',hz⟩:=I1.list hq
   refine call_enumerate_list p'.isList fun h' he hit hsz hk=>wpAny_pyIter_enum he ?_
   exact ⟨s1.heap.objs.size+1,[s1.heap.objs.size+1,s1.heap.objs.size],_,_,H1,rfl,I1.kept (t':=s1.toks) hk,turn_enum a (s1.heap.objs.size+1) s1.heap.objs.size,⟨⟨.none,he⟩,hit,Nat.succ_ne_self _⟩,fp,q⟩
  ·obtain ⟨its,rv,p',hz⟩:=I1.tuple hq
   refine Zg3 (show s1.heap.IsTuple a its.toArray from p') fun h' he hit hsz hk=>wpAny_pyIter_enum he ?_
   exact ⟨s1.heap.objs.size+1,[s1.heap.objs.size+1,s1.heap.objs.size],_,_,H1,rfl,I1.kept (t':=s1.toks) hk,Zg4 a (s1.heap.objs.size+1) s1.heap.objs.size,⟨⟨.none,he⟩,hit,Nat.succ_ne_self _⟩,fp,q⟩
end VS
namespace VS
open PySem PySem.Spec PyProof.Rows L2
noncomputable def ZaF (ct:Str→Option Addr) (S H:Hp) (T:FP) (r:Rv) (v:V):Prop:=match r with
 | .own d=>noOwn d=true∧Rep ct S H d v No
 | .vw d=>Vw ct H T d v
 | .pend _ _=>False
section
variable {ct:Str→Option Addr} {io:List Nat} {S S' H H' S1 H1 S2 H2:Hp} {F F' G R R' T T' Fr F1 F2 R2 Y:FP} {ρ ρ' ρ2:Rho} {σ σ1:L2.St}
theorem ZcV {r r':Rv} {v:V} (st:State ct S H F R ρ σ) (kr:Sub Fr R) (h:RvRep ct S H (Cup F R) σ Fr r v) (e:Zas r ρ=some (r',ρ')):
  ∃ S' F',State ct S' H F' (Dif R Fr) ρ' σ∧Tr S H (Cup F Fr) S' H F'∧ZaF ct S' H (Cup F' (Dif R Fr)) r' v:=by
 have sd:Sub (Dif R Fr) R:=fun a z=>z.1
 cases r with
 | own d=>
  cases e;obtain ⟨S',ext,fz,nw,st'⟩:=st.freezeT kr;exact ⟨S',F,st',Tr.froze ext (fun a o z=>(nw a o z).imp id .inr) Sub.cupL,ZK d,Rep.freeze ext (fun a o z e=>fz a o z e) h⟩
 | vw d=>
  cases e;exact ⟨S,F,st.drop sd,Tr.refl Sub.cupL,Vw.anti (fun a z=>z.imp id (sd a)) h⟩
 | pend i fz=>
  have hv:σ[i]?=some (some v):=h;unfold Zas at e;dsimp only at e;cases hs:ρ[i]? with
  | none=>rw [hs] at e; cases e
  | some sl=>
   rw [hs] at e;obtain ⟨Fi,si,hsl⟩:=st.slot hs;cases sl with
   | dead=>cases e
   | vw d=>
    cases e;obtain ⟨v',e1,q⟩:=hsl;rw [hv] at e1; cases e1;exact ⟨S,F,st.drop sd,Tr.refl Sub.cupL,Vw.anti (fun a z=>z.imp id (sd a)) q⟩
   | own d=>
    dsimp only at e;split at e
    ·rename_i hn
     cases e;obtain ⟨v',e1,q⟩:=hsl;rw [hv] at e1; cases e1;exact ⟨S,F,st.drop sd,Tr.refl Sub.cupL,hn,Rep.noown hn q⟩
    ·cases e
     obtain ⟨v',S',Fm,e1,s1,ext,nws,st',q⟩:=st.freeze hs;rw [hv] at e1; cases e1;exact ⟨S',Dif F Fm,st'.drop sd,Tr.froze ext (fun a o z=>(nws a o z).imp id .inl) fun a z=>.inl z.1,ZK d,q⟩
end
noncomputable def Za9:Rv→Option (Bool×List Rv)
 | .own d=>(seqOf d).map fun p=>(p.1,p.2.map .own)
 | .vw d=>(seqOf d).map fun p=>(p.1,p.2.map vwR)
 | _=>none
section
variable {ct:Str→Option Addr} {io:List Nat} {S S' H H' S1 H1 S2 H2:Hp} {F F' G R R' T T' Fr F1 F2 R2 Y:FP} {ρ ρ' ρ2:Rho} {σ σ1:L2.St}
theorem RvReps.get:∀ {rs:List Rv} {vs:List V} {F:FP} {k:Nat} {r:Rv},RvReps ct S H T σ rs vs F→rs[k]?=some r→∃ v,vs[k]?=some v∧RvRep ct S H T σ F r v
 | [],_,_,_,_,_,e=>by simp at e
 | x ::ds,_,_,0,d,⟨v,vr,F1,F2,ev,s1,s2,dj,h1,h2⟩,e=>by
  simp at e;subst e;exact ⟨v,by rw [ev]; rfl,h1.grow s1⟩
 | x ::ds,_,_,k+1,d,⟨v,vr,F1,F2,ev,s1,s2,dj,h1,h2⟩,e=>by
  obtain ⟨w,e1,e3⟩:=RvReps.get (k:=k) h2 (by simpa using e);exact ⟨w,by rw [ev]; simpa using e1,e3.grow s2⟩
theorem ZcW {K:PySem.W.Frag} {r:Rv} {v:V} {b:Bool} {its:List Rv} (w:WOk S H (Cup F R)) (h:ZaF ct S H (Cup F R) r v) (e:Za9 r=some (b,its)):
  ∃ a vs,v=.ref a∧its.all Zi=true∧RvReps ct S H (Cup F R) [] its vs No∧∀ S' H' F',Tr S H F S' H' F'→WOk S' H' (Cup F' R)→(b=false→SqL K H' a vs)∧(b=true→SqT K H' a vs):=by
 cases r with
 | pend i fz=>cases e
 | own d=>
  obtain ⟨p,hp,e⟩:=Option.map_eq_some_iff.mp e;cases e;obtain ⟨hn,h⟩:=h;cases d with
  | lst m ds=>
   cases hp;obtain ⟨a,vs,F',ex,n,hs⟩:=h;cases m with
   | true=>cases hn
   | false=>exact ⟨a,vs,ex,ZcS ds,(hs.mono fun b z=>(n.2 b z).elim).rvs,fun S' H' F' t w'=>⟨fun _=>SqL.of (w'.sub _ _ (t.ext _ _ n.1)),fun z=>Bool.noConfusion z⟩⟩
  | tup ds=>
   cases hp;obtain ⟨a,vs,ex,n,hs⟩:=h;exact ⟨a,vs,ex,ZcS ds,hs.rvs,fun S' H' F' t w'=>⟨fun z=>Bool.noConfusion z,fun _=>SqT.of (t.tup _ _ n)⟩⟩
  | _=>cases hp
 | vw d=>
  obtain ⟨p,hp,e⟩:=Option.map_eq_some_iff.mp e;cases e;cases d with
  | lst m ds=>
   cases hp;obtain ⟨a,vs,ex,n,nf,hs⟩:=h;exact ⟨a,vs,ex,ZcT ds,hs.rvs,fun S' H' F' t w'=>⟨fun _=>.inl (ZcB n fun o x=>t.frm a o x fun z=>nf (.inl z)),fun z=>Bool.noConfusion z⟩⟩
  | tup ds=>
   cases hp;obtain ⟨a,vs,ex,n,hs⟩:=h;exact ⟨a,vs,ex,ZcT ds,hs.rvs,fun S' H' F' t w'=>⟨fun z=>Bool.noConfusion z,fun _=>SqT.of (t.tup _ _ n)⟩⟩
  | _=>cases hp
theorem ZbP {r:Rv} {v:V} (hn:Zi r=true) (t:Tr S H F S' H' F') (h:RvRep ct S H (Cup F R) [] No r v):RvRep ct S' H' (Cup F' R) [] No r v:=by
 cases r with
 | own d=>exact Rep.tr t.ext t.tup h fun a o x z=>z.elim
 | vw d=>exact Vw.tr t.tup (fun a o x n=>t.frm a o x fun z=>n (.inl z)) (fun a z=>z.elim (fun z=>(t.new a z).imp .inl id) fun z=>.inl (.inr z)) h
 | pend i fz=>cases hn
end
noncomputable def ZaG (z:Str):List Rv:=z.cps.toList.map fun c=>.own (.str ⟨#[c]⟩)
noncomputable def ZcX:Rv→Option Str
 | .own (.str z)=>some z
 | .vw (.str z)=>some z
 | _=>none
noncomputable def Zet (m:ME):MI:=fun ρ=>(m ρ).bind fun p=>(Zas p.1 p.2).bind fun q=>match ZcX q.1 with
 | some z=>some (ZaG z,q.2)
 | none=>(Za9 q.1).bind fun its=>some (its.2,q.2)
noncomputable def ZcY (K:PySem.W.Frag) (te:TE):TI:=fun σ H R=>te σ H fun x H1=>(∃ a,x=.ref a∧(∃ xs,SqL K H1 a xs)∧R (Itl K a) H1)∨(∃ a,x=.ref a∧(∃ xs,SqT K H1 a xs)∧R (Itt K a) H1)∨∃ z,x=.str z∧R (Its z) H1
section
variable {ct:Str→Option Addr} {io:List Nat} {S S' H H' S1 H1 S2 H2:Hp} {F F' G R R' T T' Fr F1 F2 R2 Y:FP} {ρ ρ' ρ2:Rho} {σ σ1:L2.St}
theorem Zeu {X:Cx} {tg e:Expr} {te:TE} (he:PE X e te):PI X tg e (ZcY X.K te):=by
 have inner:∀ (pins:List (Addr×Obj)) (s1:Shared) (σ:L2.St) (x:V) (v:Value) (H1:Hp) (R:It→Hp→Prop),Inv X pins σ H1 s1→RelV x v→
   ((∃ a,x=.ref a∧(∃ xs,SqL X.K H1 a xs)∧R (Itl X.K a) H1)∨(∃ a,x=.ref a∧(∃ xs,SqT X.K H1 a xs)∧R (Itt X.K a) H1)∨∃ z,x=.str z∧R (Its z) H1)→wpAny (model X.prog X.w) X.A (pyIter v) (PIE X pins σ tg R) X.xe s1:=by
  intro pins s1 σ x v H1 R I1 r1 q1;rcases q1 with ⟨a,e,⟨xs,hq⟩,q⟩ | ⟨a,e,⟨xs,hq⟩,q⟩ | ⟨z,e,q⟩
  ·subst e
   cases r1;obtain ⟨its,rv,p,hz⟩:=I1.list hq;refine wpAny_pyIter_list p.isList ?_
   refine ⟨s1.heap.objs.size,[s1.heap.objs.size],_,_,H1,rfl,I1.kept (t':=s1.toks) fun b o e=>Heap.get?_push_of_some _ e,turn_list a _,⟨_,Heap.get?_push_size _ rfl,rfl,rfl⟩,fun b hb=>?_,q⟩
   have e:b=s1.heap.objs.size:=by simpa using hb
   subst e;exact I1.fpOk (Nat.le_refl _) (I1.hok.fresh (Nat.le_refl _))
  ·subst e
   cases r1;obtain ⟨its,rv,p,hz⟩:=I1.tuple hq;refine wpAny_pyIter_tuple (show s1.heap.IsTuple a its.toArray from p) ?_
   refine ⟨s1.heap.objs.size,[s1.heap.objs.size],_,_,H1,rfl,I1.kept (t':=s1.toks) fun b o e=>Heap.get?_push_of_some _ e,turn_tuple a _,⟨_,Heap.get?_push_size _ rfl,rfl,rfl⟩,fun b hb=>?_,q⟩
   have e:b=s1.heap.objs.size:=by simpa using hb
   subst e;exact I1.fpOk (Nat.le_refl _) (I1.hok.fresh (Nat.le_refl _))
  ·subst e
   obtain ⟨t,rfl⟩:=r1;cases ha:z.cps.all (· < 128)
   ·exact wpAny_pyIter_wide ha (pi_one (tk:=s1.toks) I1 _ (turn_str _ z t "str_iterator" (.inr rfl)) ⟨_,Heap.get?_push_size _ rfl,rfl,rfl⟩ q)
   ·exact wpAny_pyIter_ascii ha (pi_one (tk:=s1.toks) I1 _ (turn_str _ z t "str_ascii_iterator" (.inl rfl)) ⟨_,Heap.get?_push_size _ rfl,rfl,rfl⟩ q)
 refine ⟨fun pins s σ H R I h=>?_⟩
 exact thn (he.run pins s σ H _ I h) fun v s1 ⟨x,H1,I1,r1,q1⟩=>inner pins s1 σ x v H1 R I1 r1 q1
theorem Zev {K:PySem.W.Frag} {a:Addr} {vs:List V} {its:List Rv} (np:its.all Zi=true) (h:RvReps ct S H (Cup F R) [] its vs No) (hs:∀ S' H' F',Tr S H F S' H' F'→WOk S' H' (Cup F' R)→SqL K H' a vs):Walk ct (Itl K a) its S H F R:=by
 refine ⟨np,fun i S' H' F' r t w e=>?_,fun S' H' F' t w=>⟨vs,hs S' H' F' t w,Nat.le_of_eq h.len.symm⟩⟩
 obtain ⟨v,ev,q⟩:=h.get e;have hq:=hs S' H' F' t w;refine ⟨⟨vs,v,hq,ev⟩,fun x H2 hy=>?_⟩
 obtain ⟨rfl,hy⟩:=hy;have : x=v:=Option.some.inj ((hy vs hq).symm.trans ev);subst this;exact ⟨.inl rfl,ZbP (List.all_eq_true.mp np r (List.mem_of_getElem? e)) t q⟩
theorem Zew {K:PySem.W.Frag} {a:Addr} {vs:List V} {its:List Rv} (np:its.all Zi=true) (h:RvReps ct S H (Cup F R) [] its vs No) (hs:∀ S' H' F',Tr S H F S' H' F'→WOk S' H' (Cup F' R)→SqT K H' a vs):Walk ct (Itt K a) its S H F R:=by
 refine ⟨np,fun i S' H' F' r t w e=>?_,fun S' H' F' t w=>⟨vs,hs S' H' F' t w,Nat.le_of_eq h.len.symm⟩⟩
 obtain ⟨v,ev,q⟩:=h.get e;have hq:=hs S' H' F' t w;refine ⟨⟨vs,v,hq,ev⟩,fun x H2 hy=>?_⟩
 obtain ⟨rfl,hy⟩:=hy;have : x=v:=Option.some.inj ((hy vs hq).symm.trans ev);subst this;exact ⟨.inl rfl,ZbP (List.all_eq_true.mp np r (List.mem_of_getElem? e)) t q⟩
theorem Zg6 (z:Str):(ZaG z).all Zi=true:=by
 unfold ZaG;induction z.cps.toList with
 | nil=>rfl
 | cons c cs ih=>simpa [Zi] using ih
theorem Zg7 {z:Str}:Walk ct (Its z) (ZaG z) S H F R:=by
 refine ⟨Zg6 z,fun i S' H' F' r t w e=>?_,fun S' H' F' t w=>?_⟩
 ·unfold ZaG at e
  rw [List.getElem?_map] at e;obtain ⟨c,hc,rfl⟩:=Option.map_eq_some_iff.mp e;rw [Array.getElem?_toList] at hc;have hi:i < z.cps.size:=(Array.getElem?_eq_some_iff.mp hc).1;refine ⟨hi,fun x H2 hy=>?_⟩
  obtain ⟨rfl,c',hc',rfl⟩:=hy;rw [hc] at hc'; cases hc';exact ⟨.inl rfl,rfl⟩
 ·unfold ZaG
  rw [List.length_map,Array.length_toList];exact Nat.le_refl _
theorem Zg8 {r:Rv} {v:V} {z:Str} (h:ZaF ct S H T r v) (e:ZcX r=some z):v=.str z:=by
 cases r with
 | own d=>cases d<;>first | (cases e; exact h.2) | cases e
 | vw d=>cases d<;>first | (cases e; exact h) | cases e
 | pend i fz=>cases e
theorem Zg9 {K:PySem.W.Frag} {m:ME}:∀ σ H Q,tW ct (Zet m) σ H Q→ZcY K (tI ct m) σ H Q:=by
 rintro σ H Q ⟨ρ,S,F,R,its,ρ',st,e,k⟩;obtain ⟨p,hp,e⟩:=bind_some e;obtain ⟨q,hq,e⟩:=bind_some e;refine ⟨ρ,S,F,R,p.1,p.2,st,hp,fun S1 H1 F1 Fa x P1=>?_⟩
 obtain ⟨S2,F2,st2,t2,ld⟩:=ZcV (r':=q.1) (ρ':=q.2) P1.st Sub.cupR P1.rv hq;have sR:Sub R (Dif (Cup R Fa) Fa):=fun a z=>⟨.inl z,fun z2=>P1.djr a z z2⟩
 have st3:=st2.drop sR;have ld3:ZaF ct S2 H1 (Cup F2 R) q.1 x:=by
  cases hq1:q.1 with
  | own d=>rw [hq1] at ld; exact ld
  | vw d=>rw [hq1] at ld; exact Vw.anti (fun a z=>z.imp id (sR a)) ld
  | pend i fz=>rw [hq1] at ld; exact ld
 have tt:=P1.tr.trans t2;cases hz:ZcX q.1 with
 | some z=>
  rw [hz] at e;cases e;exact .inr (.inr ⟨z,Zg8 ld3 hz,k S2 H1 F2 _ st3 tt Zg7⟩)
 | none=>
  rw [hz] at e;dsimp only at e;obtain ⟨bi,hi,e⟩:=bind_some e;cases e;obtain ⟨b,its⟩:=bi;obtain ⟨a,vs,ex,np,hr,hs⟩:=ZcW (K:=K) st3.w ld3 hi;cases b with
  | false=>exact .inl ⟨a,ex,⟨vs,(hs S2 H1 F2 (Tr.refl (Sub.refl _)) st3.w).1 rfl⟩,k S2 H1 F2 _ st3 tt (Zev np hr fun S' H' F' t w=>(hs S' H' F' t w).1 rfl)⟩
  | true=>exact .inr (.inl ⟨a,ex,⟨vs,(hs S2 H1 F2 (Tr.refl (Sub.refl _)) st3.w).2 rfl⟩,k S2 H1 F2 _ st3 tt (Zew np hr fun S' H' F' t w=>(hs S' H' F' t w).2 rfl)⟩)
end
noncomputable def ZcZ (k:Int):Rv→Rv
 | .own d=>.own (.tup [.int k,d])
 | .vw d=>.vw (.tup [.int k,d])
 | r=>r
noncomputable def Zy:Nat→List Rv→List Rv
 | _,[]=>[]
 | k,r ::rs=>ZcZ k r ::Zy (k+1) rs
noncomputable def Zc0 (ma:MA):MI:=fun ρ=>(ma ρ).bind fun p=>match p.1 with
 | [r]=>(Zas r p.2).bind fun q=>(Za9 q.1).bind fun its=>some (Zy 0 its.2,q.2)
 | _=>none
section
variable {ct:Str→Option Addr} {io:List Nat} {S S' H H' S1 H1 S2 H2:Hp} {F F' G R R' T T' Fr F1 F2 R2 Y:FP} {ρ ρ' ρ2:Rho} {σ σ1:L2.St}
theorem Zc1:∀ (rs:List Rv) (k i:Nat),(Zy k rs)[i]?=(rs[i]?).map (ZcZ ((k+i:Nat):Int))
 | [],k,i=>by simp [Zy]
 | r ::rs,k,0=>by simp [Zy]
 | r ::rs,k,i+1=>by
  simp only [Zy,List.getElem?_cons_succ];rw [Zc1 rs (k+1) i,show k+1+i=k+(i+1) by omega]
theorem Zc2:∀ (rs:List Rv) (k:Nat),(Zy k rs).length=rs.length
 | [],k=>rfl
 | r ::rs,k=>by simp [Zy,Zc2 rs (k+1)]
theorem Zc3:∀ (rs:List Rv) (k:Nat),rs.all Zi=true→(Zy k rs).all Zi=true
 | [],k,_=>rfl
 | r ::rs,k,h=>by
  rw [List.all_cons] at h;obtain ⟨h1,h2⟩:=Bool.and_eq_true_iff.mp h;rw [Zy,List.all_cons,Zc3 rs (k+1) h2,Bool.and_true];cases r with
  | own d=>rfl
  | vw d=>rfl
  | pend i fz=>cases h1
theorem Zex {r:Rv} {v:V} {k:Int} {p:Addr} (hn:Zi r=true) (hp:H p=none) (h:RvRep ct S H T [] No r v) (hT:∀ a,T a→H a≠none):RvRep ct S (upd H p (.tup [.int k,v])) T [] No (ZcZ k r) (.ref p):=by
 cases r with
 | own d=>exact ⟨p,[.int k,v],rfl,upd_same,.int k,[v],No,No,rfl,Sub.no,Sub.no,Dj.no,rfl,v,[],No,No,rfl,Sub.no,Sub.no,Dj.no,Rep.tr (fun _ _ z=>z) (fun a vs x=>Zm hp x) h fun a o x _=>Zm hp x,rfl⟩
 | vw d=>exact ⟨p,[.int k,v],rfl,upd_same,.int k,[v],rfl,rfl,v,[],rfl,Vw.tr (fun a vs x=>Zm hp x) (fun a o x _=>Zm hp x) (fun a z=>.inl z) h,rfl⟩
 | pend i fz=>cases hn
theorem Zha {K:PySem.W.Frag} {a:Addr} {vs:List V} {its:List Rv} (np:its.all Zi=true) (h:RvReps ct S H (Cup F R) [] its vs No) (hs:∀ S' H' F',Tr S H F S' H' F'→WOk S' H' (Cup F' R)→SqL K H' a vs):Walk ct (Ite K a) (Zy 0 its) S H F R:=by
 refine ⟨Zc3 its 0 np,fun i S' H' F' r t w e=>?_,fun S' H' F' t w=>⟨vs,hs S' H' F' t w,by rw [Zc2]; exact Nat.le_of_eq h.len.symm⟩⟩
 rw [Zc1,Nat.zero_add] at e;obtain ⟨r0,e0,rfl⟩:=Option.map_eq_some_iff.mp e;obtain ⟨v,ev,q⟩:=h.get e0;have hq:=hs S' H' F' t w;have n0:=List.all_eq_true.mp np r0 (List.mem_of_getElem? e0);refine ⟨⟨vs,v,hq,ev⟩,fun x H2 hy=>?_⟩
 obtain ⟨p,y,rfl,hp,rfl,hy⟩:=hy;have : y=v:=Option.some.inj ((hy vs hq).symm.trans ev);subst this;exact ⟨.inr ⟨p,_,hp,rfl⟩,Zex n0 hp (ZbP n0 t q) fun a z=>(w.out a z).2⟩
theorem Zhb {rs:List Rv} {vs:List V} {r:Rv} (h:RvReps ct S H T σ [r] vs Fr):∃ v,vs=[v]∧RvRep ct S H T σ Fr r v:=by
 obtain ⟨v,vr,A,B,ev,s1,s2,dj,h1,h2⟩:=h;obtain rfl:vr=[]:=h2;exact ⟨v,ev,h1.grow s1⟩
theorem Zhc {K:PySem.W.Frag} {a:Addr} {vs:List V} {its:List Rv} (np:its.all Zi=true) (h:RvReps ct S H (Cup F R) [] its vs No) (hs:∀ S' H' F',Tr S H F S' H' F'→WOk S' H' (Cup F' R)→SqT K H' a vs):Walk ct (ZcU K a) (Zy 0 its) S H F R:=by
 refine ⟨Zc3 its 0 np,fun i S' H' F' r t w e=>?_,fun S' H' F' t w=>⟨vs,hs S' H' F' t w,by rw [Zc2]; exact Nat.le_of_eq h.len.symm⟩⟩
 rw [Zc1,Nat.zero_add] at e;obtain ⟨r0,e0,rfl⟩:=Option.map_eq_some_iff.mp e;obtain ⟨v,ev,q⟩:=h.get e0;have hq:=hs S' H' F' t w;have n0:=List.all_eq_true.mp np r0 (List.mem_of_getElem? e0);refine ⟨⟨vs,v,hq,ev⟩,fun x H2 hy=>?_⟩
 obtain ⟨p,y,rfl,hp,rfl,hy⟩:=hy;have : y=v:=Option.some.inj ((hy vs hq).symm.trans ev);subst this;exact ⟨.inr ⟨p,_,hp,rfl⟩,Zex n0 hp (ZbP n0 t q) fun a z=>(w.out a z).2⟩
theorem Zhd {K:PySem.W.Frag} {ma:MA}:∀ σ H Q,tW ct (Zc0 ma) σ H Q→Zes K (tIA ct ma) σ H Q:=by
 rintro σ H Q ⟨ρ,S,F,R,its,ρ',st,e,k⟩;obtain ⟨p,hp,e⟩:=bind_some e;refine ⟨ρ,S,F,R,p.1,p.2,st,hp,fun S1 H1 F1 Fa vs P1=>?_⟩
 obtain ⟨rs,ρ1⟩:=p;cases rs with
 | nil=>cases e
 | cons r rs=>
  cases rs with
  | cons _ _=>cases e
  | nil=>
   obtain ⟨q,hq,e⟩:=bind_some e;obtain ⟨bi,hi,e⟩:=bind_some e;obtain ⟨b,its⟩:=bi;cases e;obtain ⟨x,rfl,hx⟩:=Zhb (rs:=[]) P1.rv;obtain ⟨S2,F2,st2,t2,ld⟩:=ZcV (r':=q.1) (ρ':=q.2) P1.st Sub.cupR hx hq;have sR:Sub R (Dif (Cup R Fa) Fa):=fun a z=>⟨.inl z,fun z2=>P1.djr a z z2⟩
   have st3:=st2.drop sR;have ld3:ZaF ct S2 H1 (Cup F2 R) q.1 x:=by
    cases hq1:q.1 with
    | own d=>rw [hq1] at ld; exact ld
    | vw d=>rw [hq1] at ld; exact Vw.anti (fun a z=>z.imp id (sR a)) ld
    | pend i fz=>rw [hq1] at ld; exact ld
   obtain ⟨a,vs,ex,np,hr,hs⟩:=ZcW (K:=K) st3.w ld3 hi;subst ex;cases b with
   | true=>exact ⟨a,vs,rfl,.inr ⟨(hs S2 H1 F2 (Tr.refl (Sub.refl _)) st3.w).2 rfl,k S2 H1 F2 _ st3 (P1.tr.trans t2) (Zhc np hr fun S' H' F' t w=>(hs S' H' F' t w).2 rfl)⟩⟩
   | false=>exact ⟨a,vs,rfl,.inl ⟨(hs S2 H1 F2 (Tr.refl (Sub.refl _)) st3.w).1 rfl,k S2 H1 F2 _ st3 (P1.tr.trans t2) (Zha np hr fun S' H' F' t w=>(hs S' H' F' t w).1 rfl)⟩⟩
noncomputable def ZM (lo c:Int) (n:Nat):List Rv:=(List.range n).map fun (i:Nat)=>.own (.int (lo+(i:Int) * c))
theorem Zhe (lo c:Int) (n:Nat):(ZM lo c n).all Zi=true:=by
 unfold ZM;rw [List.all_map];exact List.all_eq_true.mpr fun _ _=>rfl
theorem Zhf {lo:Int} {n:Nat}:Walk ct (Itr lo n) (ZM lo 1 n) S H F R:=by
 refine ⟨Zhe lo 1 n,fun i S' H' F' r t w e=>?_,fun S' H' F' t w=>?_⟩
 ·unfold ZM at e
  rw [List.getElem?_map] at e;obtain ⟨j,hj,rfl⟩:=Option.map_eq_some_iff.mp e;obtain ⟨hlt,hg⟩:=List.getElem?_eq_some_iff.mp hj;rw [List.getElem_range] at hg;subst hg;rw [List.length_range] at hlt;refine ⟨hlt,fun x H2 hy=>?_⟩
  obtain ⟨rfl,rfl⟩:=hy;exact ⟨.inl rfl,by show V.int _=V.int _; rw [Int.mul_one]⟩
 ·unfold ZM
  rw [List.length_map,List.length_range];exact Nat.le_refl _
noncomputable def smallI (i:Int):Bool:=decide (-1000000000≤i∧i≤1000000000)
noncomputable def mRng1 (ma:MA):MI:=fun ρ=>(ma ρ).bind fun p=>(rds p.1 p.2).bind fun ds=>match ds with
 | [.int j]=>if smallI j=true then some (ZM 0 1 j.toNat,p.2) else none
 | _=>none
noncomputable def mRng2 (ma:MA):MI:=fun ρ=>(ma ρ).bind fun p=>(rds p.1 p.2).bind fun ds=>match ds with
 | [.int i,.int j]=>if smallI i=true∧smallI j=true then some (ZM i 1 (j - i).toNat,p.2) else none
 | _=>none
theorem Zhg {ma:MA}:∀ σ H Q,tW ct (mRng1 ma) σ H Q→iRng1 (tIA ct ma) σ H Q:=by
 rintro σ H Q ⟨ρ,S,F,R,its,ρ',st,e,k⟩;obtain ⟨p,hp,e⟩:=bind_some e;obtain ⟨ds,hd,e⟩:=bind_some e;refine ⟨ρ,S,F,R,p.1,p.2,st,hp,fun S1 H1 F1 Fa vs P1=>?_⟩
 have q:=ZcI P1.st P1.rv hd;split at e
 ·rename_i j
  split at e
  ·rename_i hs
   cases e;obtain ⟨v,vr,ev,h1,h2⟩:=q;obtain rfl:vr=[]:=h2;obtain rfl:v=.int j:=h1;have hb:=of_decide_eq_true hs;exact ⟨j,ev,by omega,by omega,k S1 H1 F1 _ (P1.st.drop Sub.cupL) (P1.tr.grow Sub.cupL) Zhf⟩
  ·cases e
 ·cases e
end
end VS
namespace VS
open PySem PySem.Spec PyProof.Rows L2
mutual
noncomputable def ZN:Pat→List Nat
 | .nm i=>[i]
 | .tp ps=>psSlots ps
noncomputable def psSlots:List Pat→List Nat
 | []=>[]
 | p ::ps=>ZN p++psSlots ps
end
theorem Zey {σ:L2.St} {x:Option V} {i:Nat}:∀ {vs:List Nat},(i∈vs→wipe (σ.set i x) vs=wipe σ vs)∧(i∉vs→wipe (σ.set i x) vs=(wipe σ vs).set i x)
 | []=>⟨fun h=>by simp at h,fun _=>rfl⟩
 | v ::vs=>by
  obtain ⟨h1,h2⟩:=Zey (σ:=σ) (x:=x) (i:=i) (vs:=vs);refine ⟨fun h=>?_,fun h=>?_⟩
  ·show (wipe (σ.set i x) vs).set v none=(wipe σ vs).set v none
   by_cases hv:i∈vs
   ·rw [h1 hv]
   ·rw [h2 hv]
    have : i=v:=by
     rcases List.mem_cons.mp h with e | e
     ·exact e
     ·exact absurd e hv
    subst this;rw [List.set_set]
  ·show (wipe (σ.set i x) vs).set v none=((wipe σ vs).set v none).set i x
   rw [h2 fun z=>h (List.mem_cons_of_mem _ z),List.set_comm];rintro rfl;exact h List.mem_cons_self
theorem Zc4 {σ:L2.St} {j:Nat}:∀ {vs:List Nat},j∈vs→(wipe σ vs)[j]?=if j < σ.length then some none else none
 | [],h=>by simp at h
 | v ::vs,h=>by
  show ((wipe σ vs).set v none)[j]?=_;by_cases hv:v=j
  ·subst hv
   rw [List.getElem?_set];simp [wipe_length]
  ·rw [List.getElem?_set_ne hv]
   exact Zc4 ((List.mem_cons.mp h).resolve_left fun z=>hv z.symm)
theorem Zhh {σ σ':L2.St} {vs:List Nat} (hl:σ'.length=σ.length) (h:∀ j,j∉vs→σ'[j]?=σ[j]?):wipe σ' vs=wipe σ vs:=by
 refine List.ext_getElem? fun j=>?_
 by_cases hj:j∈vs
 ·rw [Zc4 hj,Zc4 hj,hl]
 ·rw [wipe_out hj,wipe_out hj,h j hj]
theorem Zez (σ:L2.St) (vs:List Nat):wipe (wipe σ vs) vs=wipe σ vs:=Zhh (wipe_length σ vs) fun j hj=>wipe_out hj
mutual
theorem Zc5 {K:PySem.W.Frag} {vs:List Nat}:∀ {p:Pat} {v:V} {σ:L2.St} {H:Hp} {Q:L2.St→Hp→Prop},(∀ i∈ZN p,i∈vs)→gP K p v σ H Q→gP K p v σ H (fun σ' H'=>wipe σ' vs=wipe σ vs∧Q σ' H')
 | .nm i,v,σ,H,Q,h,q=>by
  have hi:i∈vs:=h i (by simp [ZN]);exact ⟨Zey.1 hi,q⟩
 | .tp ps,v,σ,H,Q,h,q=>by
  obtain ⟨a,xs,e,hs,hl,q⟩:=q;exact ⟨a,xs,e,hs,hl,gPs_wipe (fun i hi=>h i (by simpa [ZN] using hi)) q⟩
theorem gPs_wipe {K:PySem.W.Frag} {vs:List Nat}:∀ {ps:List Pat} {xs:List V} {σ:L2.St} {H:Hp} {Q:L2.St→Hp→Prop},(∀ i∈psSlots ps,i∈vs)→gPs K ps xs σ H Q→gPs K ps xs σ H (fun σ' H'=>wipe σ' vs=wipe σ vs∧Q σ' H')
 | [],xs,σ,H,Q,h,q=>⟨q.1,rfl,q.2⟩
 | p ::ps,xs,σ,H,Q,h,q=>by
  obtain ⟨v,r,e,q⟩:=q;refine ⟨v,r,e,gP_mono (fun σ' H' z=>?_) (Zc5 (vs:=vs) (fun i hi=>h i (by simp [psSlots,hi])) q)⟩
  obtain ⟨z1,z2⟩:=z;exact gPs_mono (fun σ2 H2 z=>⟨z.1.trans z1,z.2⟩) (gPs_wipe (fun i hi=>h i (by simp [psSlots,hi])) z2)
theorem gP_mono {K:PySem.W.Frag}:∀ {p:Pat} {v:V} {σ:L2.St} {H:Hp} {Q Q':L2.St→Hp→Prop},(∀ σ H,Q σ H→Q' σ H)→gP K p v σ H Q→gP K p v σ H Q'
 | .nm i,v,σ,H,Q,Q',k,q=>k _ _ q
 | .tp ps,v,σ,H,Q,Q',k,q=>by
  obtain ⟨a,xs,e,hs,hl,q⟩:=q;exact ⟨a,xs,e,hs,hl,gPs_mono k q⟩
theorem gPs_mono {K:PySem.W.Frag}:∀ {ps:List Pat} {xs:List V} {σ:L2.St} {H:Hp} {Q Q':L2.St→Hp→Prop},(∀ σ H,Q σ H→Q' σ H)→gPs K ps xs σ H Q→gPs K ps xs σ H Q'
 | [],xs,σ,H,Q,Q',k,q=>⟨q.1,k _ _ q.2⟩
 | p ::ps,xs,σ,H,Q,Q',k,q=>by
  obtain ⟨v,r,e,q⟩:=q;exact ⟨v,r,e,gP_mono (fun σ' H' z=>gPs_mono k z) q⟩
end
noncomputable def Zba:MT:=fun ρ=>some (true,ρ)
noncomputable def ZA (p:Pat) (vs:List Nat) (mc:MT) (me:ME):List Rv→Rho→List D→Option (List D×Rho)
 | [],ρ,acc=>some (acc,ρ)
 | r ::rs,ρ,acc=>(asP [] p r ρ).bind fun ρ1=>(mc ρ1).bind fun b=>if b.1=true then (me b.2).bind fun q=>(take q.1 q.2).bind fun d=>ZA p vs mc me rs (kills vs d.2) (acc++[d.1]) else ZA p vs mc me rs (kills vs b.2) acc
noncomputable def ZbQ (p:Pat) (vs:List Nat) (ms:MI) (mc:MT) (me:ME):ME:=fun ρ=>(ms ρ).bind fun q=>if q.1.length≤1000000 then (ZA p vs mc me q.1 (kills vs q.2) []).bind fun z=>some (.own (.lst true z.1),kills vs z.2) else none
section
variable {ct:Str→Option Addr} {io:List Nat} {S S' H H' S1 H1 S2 H2:Hp} {F F' G R R' T T' Fr F1 F2 R2 Y:FP} {ρ ρ' ρ2:Rho} {σ σ1:L2.St}
theorem Zhi:∀ σ H Q,tT ct Zba σ H Q→tYes σ H Q:=by
 rintro σ H Q ⟨ρ,S,F,R,c,ρ',st,e,k⟩;cases e;exact k S H F st (Tr.refl (Sub.refl _))
theorem ZeA:∀ (ks:List Nat) (ρ:Rho),(kills ks ρ).length=ρ.length
 | [],_=>rfl
 | k ::ks,ρ=>by rw [kills,ZeA ks,List.length_set]
theorem ZeB:∀ {ks:List Nat} {ρ:Rho} {j:Nat} {s:Slot},(kills ks ρ)[j]?=some s→s=.dead∨(j∉ks∧ρ[j]?=some s)
 | [],_,_,_,e=>.inr ⟨by simp,e⟩
 | k ::ks,ρ,j,s,e=>by
  rw [kills] at e;rcases ZeB e with z | ⟨z1,z2⟩
  ·exact .inl z
  ·by_cases hj:j=k
   ·subst hj
    by_cases hl:j < ρ.length
    ·rw [List.getElem?_set_self hl] at z2
     cases z2;exact .inl rfl
    ·rw [List.getElem?_eq_none (by rw [List.length_set]; omega)] at z2
     cases z2
   ·rw [List.getElem?_set_ne (Ne.symm hj)] at z2
    exact .inr ⟨fun z=>(List.mem_cons.mp z).elim hj z1,z2⟩
theorem State.other {σ':L2.St} {vs:List Nat} (st:State ct S H F R ρ σ) (hl:σ'.length=σ.length) (h:∀ j,j∉vs→σ'[j]?=σ[j]?):State ct S H F R (VS.kills vs ρ) σ':=by
 obtain ⟨fs,h1,h2,h3⟩:=st.fs;refine ⟨st.w,st.dj,by rw [ZeA,hl]; exact st.len,fs,h1,h2,fun j s e=>?_⟩
 rcases ZeB e with z | ⟨z1,z2⟩
 ·subst z; trivial
 ·have q:=h3 j s z2
  rw [h j z1];exact q
theorem Zaf {σ:L2.St} {vs:List Nat} {j:Nat} (h:j∉vs):(wipe σ vs)[j]?=σ[j]?:=wipe_out h
theorem State.mutR {p:Addr} {o:HO} {xs:List V} (st:State ct S H F R ρ σ) (hp:R p) (hx:H p=some (.lst xs)):State ct S (upd H p o) F R ρ σ:=by
 obtain ⟨fs,h1,h2,h3⟩:=st.fs;have nS:S p=none:=(st.w.out p (.inr hp)).1;have kT:∀ a vs,H a=some (.tup vs)→upd H p o a=some (.tup vs):=fun a vs e=>by
  rw [upd_ne (show a≠p from fun z=>by subst z; rw [e] at hx; cases hx)];exact e
 refine ⟨⟨fun a u e=>?_,fun a z=>⟨(st.w.out a z).1,?_⟩⟩,st.dj,st.len,fs,h1,h2,fun j s e=>?_⟩
 ·rw [upd_ne (show a≠p from fun z=>by subst z; rw [e] at nS; cases nS)]
  exact st.w.sub a u e
 ·by_cases z2:a=p
  ·subst z2; rw [upd_same]; simp
  ·rw [upd_ne z2]; exact (st.w.out a z).2
 ·have q:=h3 j s e
  cases s with
  | dead=>trivial
  | own d=>
   obtain ⟨v,e1,q⟩:=q;exact ⟨v,e1,Rep.tr (fun _ _ x=>x) kT q fun a u x y=>by
    rw [upd_ne (show a≠p from fun z=>by subst z; exact st.dj a (h1 j a y) hp)];exact x⟩
  | vw d=>
   obtain ⟨v,e1,q⟩:=q;exact ⟨v,e1,Vw.tr kT (fun a u x n=>by
    rw [upd_ne (show a≠p from fun z=>by subst z; exact n (.inr hp))];exact x) (fun a z=>.inl z) q⟩
theorem Reps.mutR {p:Addr} {o:HO} {xs:List V} {ds:List D} {vs:List V} (hx:H p=some (.lst xs)) (np:¬ F p) (h:Reps ct S H ds vs F):Reps ct S (upd H p o) ds vs F:=
 Reps.tr (fun _ _ x=>x) (fun a vs e=>by
  rw [upd_ne (show a≠p from fun z=>by subst z; rw [e] at hx; cases hx)];exact e) h fun a u x y=>by
  rw [upd_ne (show a≠p from fun z=>by subst z; exact np y)];exact x
theorem ZeC {K:PySem.W.Frag} {p:Pat} {vs:List Nat} {ms:MI} {mc:MT} {me:ME} (hv:∀ i∈ZN p,i∈vs):∀ σ H Q,tI ct (ZbQ p vs ms mc me) σ H Q→tLc (tW ct ms) (gP K p) (tT ct mc) (tI ct me) vs σ H Q:=by
 rintro σ H Q ⟨ρ,S,F,R,rr,ρ',st,e,k⟩;obtain ⟨q,hq,e⟩:=bind_some e;split at e
 ·rename_i hlen
  obtain ⟨z,hz,e⟩:=bind_some e;cases e;refine ⟨ρ,S,F,R,q.1,q.2,st,hq,fun S0 H0 F0 J st0 t0 wk L hL=>?_⟩
  have σ0l:(wipe σ vs).length=σ.length:=wipe_length σ vs
  refine ⟨fun i m H=>i+m=q.1.length∧∃ ρ S F Ra acc ds,State ct S H F (Cup R (Cup (One L) Ra)) ρ (wipe σ vs)∧Tr S0 H0 F0 S H (Cup F (Cup (One L) Ra))∧H L=some (.lst acc)∧Reps ct S H ds acc Ra∧Dj R (Cup (One L) Ra)∧¬ Ra L∧ds.length≤i∧ZA p vs mc me (q.1.drop i) ρ ds=some z,
   ⟨q.1.length,by omega,kills vs q.2,S0,F0,No,[],[],?_,(Tr.alloc hL).grow (fun a z=>z.imp id fun z=>z.elim id fun z=>z.elim),upd_same,rfl,fun a x y=>y.elim (fun y=>(st0.w.out a (.inr x)).2 (by rw [y]; exact hL)) id,fun z=>z,Nat.zero_le _,by simpa using hz⟩,?_⟩
  ·exact ((st0.alloc hL).drop fun a z=>z.imp id fun z=>z.elim id fun z=>z.elim).other σ0l fun j hj=>Zaf hj
  rintro i m H1 ⟨him,ρ1,S1,F1,Ra,acc,ds,st1,t1,hH,hr,djR,nL,hdl,e1⟩;have wk1:WOk S1 H1 (Cup F1 R):=st1.w.anti fun a z=>z.imp id .inl
  cases hri:q.1[i]? with
  | none=>
   have hl:q.1.length≤i:=List.getElem?_eq_none_iff.mp hri;have hi:i=q.1.length:=by omega
   subst hi;rw [List.drop_length] at e1;cases e1;exact .inl ⟨wk.stop S1 H1 F1 (t1.grow Sub.cupL) wk1,k S1 H1 F1 (Cup (One L) Ra) (.ref L) ⟨st1.other (σ':=σ) (vs:=vs) σ0l.symm fun j hj=>(Zaf hj).symm,djR,t0.trans t1,L,acc,Ra,rfl,⟨hH,.inl rfl,nL,Sub.cupR⟩,hr⟩⟩
  | some r=>
   obtain ⟨hlt,hget⟩:=List.getElem?_eq_some_iff.mp hri;have hd:q.1.drop i=r ::q.1.drop (i+1):=by rw [←hget]; exact List.drop_eq_getElem_cons hlt
   rw [hd] at e1;obtain ⟨ρ2,ha,e1⟩:=bind_some e1;obtain ⟨b,hb,e1⟩:=bind_some e1;obtain ⟨hgo,hy⟩:=wk.go i S1 H1 (Cup F1 (Cup (One L) Ra)) r t1 (st1.w.anti fun a z=>z.elim (fun z=>z.imp id .inr) fun z=>.inr (.inl z)) hri;have np:Zi r=true:=List.all_eq_true.mp wk.np r (List.mem_of_getElem? hri);refine .inr ⟨hgo,fun H'=>(i+1)+(m - 1)=q.1.length∧∃ ρ S F Ra acc ds,State ct S H' F (Cup R (Cup (One L) Ra)) ρ (wipe σ vs)∧Tr S0 H0 F0 S H' (Cup F (Cup (One L) Ra))∧H' L=some (.lst acc)∧Reps ct S H' ds acc Ra∧Dj R (Cup (One L) Ra)∧¬ Ra L∧ds.length≤i+1∧ZA p vs mc me (q.1.drop (i+1)) ρ ds=some z,fun H' hN=>⟨m - 1,by omega,hN⟩,fun x H2 hyx=>?_⟩
   obtain ⟨hH2,rv⟩:=hy x H2 hyx;obtain ⟨st2,t2⟩:=st1.turn hH2;have rv2:RvRep ct S1 H2 (Cup F1 (Cup (Cup R (Cup (One L) Ra)) No)) (wipe σ vs) No r x:=(rv.anyσ np).anti fun a z=>z.elim (fun z=>.inl (.inl z)) fun z=>z.elim (fun z=>z.elim .inr fun z=>.inl (.inr z)) fun z=>z.elim
   refine gP_mono (fun σ3 H3 h=>?_) (Zc5 (Q:=fun σ3 H3=>H3=H2∧∃ F3,State ct S1 H2 F3 (Cup R (Cup (One L) Ra)) ρ2 σ3∧Sub F3 (Cup F1 No)) hv (Za8 (io:=[]) (R:=Cup R (Cup (One L) Ra)) (Fr:=No) np (st2.drop fun a z=>z.elim id fun z=>z.elim) (fun _ _ z=>z) rv2 ha fun F3 σ3 st3 sF3 stay3=>⟨rfl,F3,st3,sF3⟩))
   obtain ⟨hw3,eH,F3,st3,sF3⟩:=h;subst eH;rw [Zez] at hw3;refine ⟨hw3,?_⟩
   have t3:Tr S1 H1 F1 S1 H3 F3:=t2.grow fun a z=>(sF3 a z).elim id fun z=>z.elim
   refine ⟨ρ2,S1,F3,Cup R (Cup (One L) Ra),b.1,b.2,st3,hb,fun S4 H4 F4 st4 t4=>?_⟩
   have t34:=t3.trans t4;have keepL:∀ {S5 H5 F5},Tr S1 H1 F1 S5 H5 F5→H5 L=some (.lst acc):=fun t=>t.frm L _ hH fun z=>st1.dj L z (.inr (.inl rfl))
   have keepA:∀ {S5 H5 F5},Tr S1 H1 F1 S5 H5 F5→Reps ct S5 H5 ds acc Ra:=fun t=>Reps.tr t.ext t.tup hr fun a o x y=>t.frm a o x fun z=>st1.dj a z (.inr (.inr y))
   have wide:∀ {S5 H5 F5},Tr S1 H1 F1 S5 H5 F5→Tr S0 H0 F0 S5 H5 (Cup F5 (Cup (One L) Ra)):=fun t=>t1.trans t.wide
   have hwl:∀ {S5 H5 F5 R5 ρ5},State ct S5 H5 F5 R5 ρ5 σ3→State ct S5 H5 F5 R5 (kills vs ρ5) (wipe σ vs):=fun st=>by
    rw [←hw3];exact st.other (wipe_length σ3 vs) fun j hj=>Zaf hj
   dsimp only;by_cases hc:b.1=true
   ·rw [if_pos hc] at e1 ⊢
    obtain ⟨y,hye,e1⟩:=bind_some e1;obtain ⟨d,hde,e1⟩:=bind_some e1;refine ⟨b.2,S4,F4,Cup R (Cup (One L) Ra),y.1,y.2,st4,hye,fun S5 H5 F5 Fy v P5=>?_⟩
    obtain ⟨S6,F6,Fm,st6,rep6,dj6,t6⟩:=P5.took (d:=d.1) (ρ':=d.2) hde;have t56:Tr S1 H1 F1 S6 H5 (Cup F6 Fm):=t34.trans t6;have hL5:=keepL t56;have hacc:=keepA t56;have nLm:¬ Fm L:=fun z=>dj6 L (.inr (.inl rfl)) z
    refine ⟨acc,hL5,?_,by omega,kills vs d.2,S6,F6,Cup Ra Fm,acc++[v],ds++[d.1],?_,?_,upd_same,?_,?_,?_,?_,e1⟩
    ·rw [←hr.len]
     exact ZbI (by omega)
    ·have s1:State ct S6 (upd H5 L (.lst (acc++[v]))) F6 (Cup (Cup R (Cup (One L) Ra)) Fm) d.2 σ3:=st6.mutR (.inl (.inr (.inl rfl))) hL5
     exact (hwl s1).drop fun a z=>z.elim (fun z=>.inl (.inl z)) fun z=>z.elim (fun z=>.inl (.inr (.inl z))) fun z=>z.elim (fun z=>.inl (.inr (.inr z))) .inr
    ·have tw:Tr S0 H0 F0 S6 H5 (Cup (Cup F6 Fm) (Cup (One L) Ra)):=wide t56
     refine ⟨tw.ext,fun a o x n=>?_,fun a ws x=>?_,fun a z=>tw.new a (z.elim (fun z=>.inl (.inl z)) fun z=>z.elim (fun z=>.inr (.inl z)) fun z=>z.elim (fun z=>.inr (.inr z)) fun z=>.inl (.inr z)),tw.nws,fun a C dx kv x=>?_⟩
     rotate_left 2
     ·obtain ⟨m,hm⟩:=tw.ins a C dx kv x
      exact ⟨m,by rw [upd_ne (ne_of_none x hL)]; exact hm⟩
     ·rw [upd_ne (ne_of_none x hL)]
      exact tw.frm a o x n
     ·rw [upd_ne (ne_of_none x hL)]
      exact tw.tup a ws x
    ·exact (Reps.mutR hL5 nL hacc).append (Reps.mutR (ds:=[d.1]) (vs:=[v]) hL5 nLm ⟨v,[],Fm,No,rfl,Sub.refl _,Sub.no,fun _ _ z=>z,rep6,rfl⟩) fun a x y=>dj6 a (.inr (.inr x)) y
    ·exact fun a x y=>y.elim (fun y=>djR a x (.inl y)) fun y=>y.elim (fun y=>djR a x (.inr y)) fun y=>dj6 a (.inl x) y
    ·exact fun z=>z.elim nL nLm
    ·rw [List.length_append,List.length_singleton]
     omega
   ·rw [if_neg hc] at e1 ⊢
    exact ⟨by omega,kills vs b.2,S4,F4,Ra,acc,ds,hwl st4,wide t34,keepL t34,keepA t34,djR,nL,by omega,e1⟩
 ·cases e
end
end VS
namespace VS
open PySem PySem.Spec PyProof.Rows L2
inductive MK where
 | append | insert | pop | popAt | reverse | clear
noncomputable def ZY:MK→List D→List D→Option (List D×D)
 | .append,ds,[d]=>if ds.length < 1000000 then some (ds++[d],.non) else none
 | .insert,ds,[.int i,d]=>if ds.length < 1000000∧0≤i∧i≤1000000 then some (ds.take i.toNat++[d]++ds.drop i.toNat,.non) else none
 | .pop,ds,[]=>(ds[ds.length - 1]?).map fun d=>(ds.dropLast,d)
 | .popAt,ds,[.int i]=>if -1000000≤i∧i≤1000000 then (seqIndex? i ds.length).bind fun k=>(ds[k]?).map fun d=>(ds.eraseIdx k,d) else none
 | .reverse,ds,[]=>some (ds.reverse,.non)
 | .clear,_,[]=>some ([],.non)
 | _,_,_=>none
noncomputable def Zhj:V→List V→Hp→VK→Prop:=fun x vs H Q=>∃ (l:Addr) (xs:List V) (i:Int) (y:V),x=.ref l∧vs=[.int i,y]∧H l=some (.lst xs)∧xs.length < sizeLine∧0≤i∧i < 2 ^ 63∧Q .non (upd H l (.lst (xs.take i.toNat++[y]++xs.drop i.toNat)))
noncomputable def ZaH:MK→V→List V→Hp→VK→Prop
 | .append=>rAppend
 | .insert=>Zhj
 | .pop=>rPop
 | .popAt=>rPopAt
 | .reverse=>rReverse
 | .clear=>rClear
section
variable {ct:Str→Option Addr} {io:List Nat} {S S' H H' S1 H1 S2 H2:Hp} {F F' G R R' T T' Fr F1 F2 R2 Y Fx:FP} {ρ ρ' ρ2:Rho} {σ σ1:L2.St}
theorem Reps.nil_inv {vs:List V} (h:Reps ct S H [] vs F):vs=[]:=h
theorem Reps.one_inv {d:D} {vs:List V} (h:Reps ct S H [d] vs F):∃ v,vs=[v]∧Rep ct S H d v F:=by
 obtain ⟨v,vr,A,B,ev,s1,s2,dj,h1,h2⟩:=h;obtain rfl:vr=[]:=h2;exact ⟨v,ev,h1.mono s1⟩
theorem Reps.erase:∀ {ds:List D} {vs:List V} {F:FP} {k:Nat} {d:D},Reps ct S H ds vs F→ds[k]?=some d→∃ v A B,vs[k]?=some v∧Rep ct S H d v A∧Reps ct S H (ds.eraseIdx k) (vs.eraseIdx k) B∧Dj A B∧Sub A F∧Sub B F
 | [],_,_,_,_,_,e=>by simp at e
 | x ::ds,_,_,0,d,⟨v,vr,A,B,ev,s1,s2,dj,h1,h2⟩,e=>by
  simp at e;subst e;subst ev;exact ⟨v,A,B,rfl,h1,h2,dj,s1,s2⟩
 | x ::ds,_,_,k+1,d,⟨v,vr,A,B,ev,s1,s2,dj,h1,h2⟩,e=>by
  subst ev;obtain ⟨w,A',B',e1,q1,q2,d2,t1,t2⟩:=Reps.erase (k:=k) h2 (by simpa using e);exact ⟨w,A',Cup A B',by simpa using e1,q1,⟨v,vr.eraseIdx k,A,B',rfl,Sub.cupL,Sub.cupR,fun a x y=>dj a x (t2 a y),h1,q2⟩,fun a x y=>y.elim (fun y=>dj a y (t1 a x)) (d2 a x),fun a z=>s2 a (t1 a z),fun a z=>z.elim (s1 a) fun z=>s2 a (t2 a z)⟩
theorem Reps.reverse:∀ {ds:List D} {vs:List V} {F:FP},Reps ct S H ds vs F→Reps ct S H ds.reverse vs.reverse F
 | [],_,_,h=>by
  have e:_=[]:=h;subst e;exact rfl
 | d ::ds,_,_,⟨v,vr,A,B,ev,s1,s2,dj,h1,h2⟩=>by
  subst ev;rw [List.reverse_cons,List.reverse_cons];exact ((Reps.reverse h2).append (ds:=ds.reverse) (es:=[d]) (ws:=[v]) ⟨v,[],A,No,rfl,Sub.refl _,Sub.no,fun _ _ z=>z,h1,rfl⟩ dj.symm).mono fun a z=>z.elim (s2 a) (s1 a)
theorem Reps.split:∀ {ds:List D} {vs:List V} {F:FP} (n:Nat),Reps ct S H ds vs F→∃ A B,Reps ct S H (ds.take n) (vs.take n) A∧Reps ct S H (ds.drop n) (vs.drop n) B∧Dj A B∧Sub A F∧Sub B F
 | ds,vs,F,0,h=>⟨No,F,rfl,h,Dj.no,Sub.no,Sub.refl _⟩
 | [],_,F,n+1,h=>by
  have e:_=[]:=h;subst e;exact ⟨No,No,rfl,rfl,Dj.no,Sub.no,Sub.no⟩
 | d ::ds,_,F,n+1,⟨v,vr,A,B,ev,s1,s2,dj,h1,h2⟩=>by
  subst ev;obtain ⟨A',B',q1,q2,d2,t1,t2⟩:=Reps.split n h2;exact ⟨Cup A A',B',⟨v,vr.take n,A,A',rfl,Sub.cupL,Sub.cupR,fun a x y=>dj a x (t1 a y),h1,q1⟩,q2,fun a x y=>x.elim (fun x=>dj a x (t2 a y)) fun x=>d2 a x y,fun a z=>z.elim (s1 a) fun z=>s2 a (t1 a z),t2.trans s2⟩
theorem Zhk {mk:MK} {ds das ds2:List D} {z:D} {vs was:List V} {a:Addr} (h:Reps ct S H ds vs F) (ha:Reps ct S H das was Fx) (dj:Dj F Fx) (e:ZY mk ds das=some (ds2,z)) (hH:H a=some (.lst vs)):
  ∃ vs2 y F2 Fz,(∀ Q:VK,Q y (upd H a (.lst vs2))→ZaH mk (.ref a) was H Q)∧Reps ct S H ds2 vs2 F2∧Rep ct S H z y Fz∧Dj F2 Fz∧Sub F2 (Cup F Fx)∧Sub Fz (Cup F Fx):=by
 cases mk with
 | append=>
  cases das with
  | nil=>cases e
  | cons d das=>
   cases das with
   | cons _ _=>cases e
   | nil=>
    obtain ⟨y,rfl,hy⟩:=Reps.one_inv ha;unfold ZY at e;dsimp only at e;split at e
    ·rename_i hl
     cases e;refine ⟨vs++[y],.non,Cup F Fx,No,fun Q q=>⟨a,vs,y,rfl,rfl,hH,?_,q⟩,h.append ha dj,rfl,fun _ _ z=>z,Sub.refl _,Sub.no⟩
     rw [←h.len];exact ZbI hl
    ·cases e
 | insert=>
  cases das with
  | nil=>cases e
  | cons d das=>
   cases d<;>first | (cases e; done) | skip
   rename_i i;cases das with
   | nil=>cases e
   | cons d das=>
    cases das with
    | cons _ _=>cases e
    | nil=>
     obtain ⟨y0,yr,A,B,ev,s1,s2,d12,h1,h2⟩:=ha;obtain ⟨y,rfl,hy⟩:=Reps.one_inv h2;obtain rfl:y0=.int i:=h1;subst ev;unfold ZY at e;dsimp only at e;split at e
     ·rename_i hl
      cases e;obtain ⟨A',B',q1,q2,d2,t1,t2⟩:=h.split i.toNat;refine ⟨vs.take i.toNat++[y]++vs.drop i.toNat,.non,Cup (Cup A' B) B',No,fun Q q=>⟨a,vs,i,y,rfl,rfl,hH,?_,hl.2.1,by omega,q⟩,(q1.append h2 fun a x y=>dj a (t1 a x) (s2 a y)).append q2 fun a x y=>x.elim (fun x=>d2 a x y) fun x=>dj a (t2 a y) (s2 a x),rfl,fun _ _ z=>z,fun a z=>?_,Sub.no⟩
      ·rw [←h.len]
       exact ZbI hl.1
      ·exact z.elim (fun z=>z.elim (fun z=>.inl (t1 a z)) fun z=>.inr (s2 a z)) fun z=>.inl (t2 a z)
     ·cases e
 | pop=>
  cases das with
  | cons _ _=>cases e
  | nil=>
   obtain rfl:=Reps.nil_inv ha;obtain ⟨d,hd,e⟩:=Option.map_eq_some_iff.mp e;cases e;obtain ⟨v,A,B,ev,q1,q2,d2,t1,t2⟩:=h.erase hd;have e1:ds.dropLast=ds.eraseIdx (ds.length - 1):=(PyProof.Rows.Copied.eraseIdx_last ds).symm;have e2:vs.dropLast=vs.eraseIdx (ds.length - 1):=by rw [h.len]; exact (PyProof.Rows.Copied.eraseIdx_last vs).symm
   refine ⟨vs.dropLast,v,B,A,fun Q q=>⟨a,vs,v,rfl,rfl,hH,by rw [←h.len]; exact ev,q⟩,by rw [e1,e2]; exact q2,q1,d2.symm,fun a z=>.inl (t2 a z),fun a z=>.inl (t1 a z)⟩
 | popAt=>
  cases das with
  | nil=>cases e
  | cons d das=>
   cases d<;>first | (cases e; done) | skip
   rename_i i;cases das with
   | cons _ _=>cases e
   | nil=>
    obtain ⟨y0,rfl,h1⟩:=Reps.one_inv ha;obtain rfl:y0=.int i:=h1;unfold ZY at e;dsimp only at e;split at e
    ·rename_i hl
     obtain ⟨k,hk,e⟩:=bind_some e;obtain ⟨d,hd,e⟩:=Option.map_eq_some_iff.mp e;cases e;obtain ⟨v,A,B,ev,q1,q2,d2,t1,t2⟩:=h.erase hd;exact ⟨vs.eraseIdx k,v,B,A,fun Q q=>⟨a,vs,i,k,v,rfl,rfl,hH,by omega,by omega,by rw [←h.len]; exact hk,ev,q⟩,q2,q1,d2.symm,fun a z=>.inl (t2 a z),fun a z=>.inl (t1 a z)⟩
    ·cases e
 | reverse=>
  cases das with
  | cons _ _=>cases e
  | nil=>
   obtain rfl:=Reps.nil_inv ha;cases e;exact ⟨vs.reverse,.non,F,No,fun Q q=>⟨a,vs,rfl,rfl,hH,q⟩,h.reverse,rfl,fun _ _ z=>z,Sub.cupL,Sub.no⟩
 | clear=>
  cases das with
  | cons _ _=>cases e
  | nil=>
   obtain rfl:=Reps.nil_inv ha;cases e;exact ⟨[],.non,No,No,fun Q q=>⟨a,vs,rfl,rfl,hH,q⟩,rfl,rfl,fun _ _ z=>z,Sub.no,Sub.no⟩
theorem State.mutT {a:Addr} {vs vs2:List V} (st:State ct S H F R ρ σ) (ha:R a) (hH:H a=some (.lst vs)):State ct S (upd H a (.lst vs2)) F R ρ σ:=st.mutR ha hH
theorem Tr.mutT {a:Addr} {o:HO} {vs:List V} (hF:F a) (hH:H a=some (.lst vs)):Tr S H F S (upd H a o) F:=
 ⟨fun _ _ x=>x,fun b u x n=>by rw [upd_ne (show b≠a from fun z=>by subst z; exact n hF)]; exact x,fun b ws x=>by rw [upd_ne (show b≠a from fun z=>by subst z; rw [x] at hH; cases hH)]; exact x,fun _ z=>.inl z,fun _ _ x=>.inl x,fun b C dx kv x=>⟨[],by rw [List.append_nil,upd_ne (show b≠a from fun z=>by subst z; rw [x] at hH; cases hH)]; exact x⟩⟩
theorem Rep.mutR {p:Addr} {o:HO} {xs:List V} {d:D} {v:V} (hx:H p=some (.lst xs)) (np:¬ F p) (h:Rep ct S H d v F):Rep ct S (upd H p o) d v F:=
 Rep.tr (fun _ _ x=>x) (fun a vs e=>by
  rw [upd_ne (show a≠p from fun z=>by subst z; rw [e] at hx; cases hx)];exact e) h fun a u x y=>by
  rw [upd_ne (show a≠p from fun z=>by subst z; exact np y)];exact x
end
noncomputable def ownL (ρ:Rho) (j:Nat):Option (List D):=match ρ[j]? with
 | some (.own (.lst true ds))=>some ds
 | _=>none
noncomputable def Zc6 (mk:MK) (j:Nat) (ma:MA):ME:=fun ρ=>(ownL ρ j).bind fun _=>(ma ρ).bind fun p=>(takes p.1 p.2).bind fun q=>(ownL q.2 j).bind fun ds=>(ZY mk ds q.1).bind fun z=>some (.own z.2,q.2.set j (.own (.lst true z.1)))
section
variable {ct:Str→Option Addr} {io:List Nat} {S S' H H' S1 H1 S2 H2:Hp} {F F' G R R' T T' Fr F1 F2 R2 Y Fx:FP} {ρ ρ' ρ2:Rho} {σ σ1:L2.St}
theorem ZZ {j:Nat} {ds:List D} (e:ownL ρ j=some ds):ρ[j]?=some (.own (.lst true ds)):=by
 unfold ownL at e;split at e
 ·cases e
  assumption
 ·cases e
theorem Zc7 {ρ:Rho} {j:Nat} {s:Slot}:(ρ.set j .dead).set j s=ρ.set j s:=by rw [List.set_set]
theorem ZeD {mk:MK} {j:Nat} {ds das ds2:List D} {z:D} {was:List V} {x:V} {Fm:FP} {S0 H0:Hp} {F0:FP} {Q:VK} (st:State ct S H F (Cup R Fm) ρ σ) (djR:Dj R Fm) (hj:ρ[j]?=some (.own (.lst true ds))) (hx:σ[j]?=some (some x)) (ha:Reps ct S H das was Fm) (e:ZY mk ds das=some (ds2,z)) (t:Tr S0 H0 F0 S H (Cup F Fm))
  (k:∀ S' H' F' Fr v,Post ct S0 H0 F0 R σ (.own z) (ρ.set j (.own (.lst true ds2))) S' H' F' Fr v→Q v H'):ZaH mk x was H Q:=by
 obtain ⟨v,Fj,ev,sj,st1,rep⟩:=st.move hj;rw [hx] at ev; cases ev;obtain ⟨a,vs,F',ex,n,hs⟩:=rep;obtain ⟨hH,na,nF,sF⟩:=n;subst ex;have djm:Dj F' Fm:=fun b x y=>st.dj b (sj b (sF b x)) (.inr y)
 obtain ⟨vs2,y,G2,Gz,rule,q2,qz,d2,t2,tz⟩:=Zhk hs ha djm e hH;have nm:¬ Fm a:=fun z=>st.dj a (sj a na) (.inr z)
 have n2:¬ G2 a:=fun z=>(t2 a z).elim nF nm
 have nz:¬ Gz a:=fun z=>(tz a z).elim nF nm
 apply rule
 have st2:State ct S (upd H a (.lst vs2)) (Dif F Fj) (Cup (Cup R Fm) Fj) (ρ.set j .dead) σ:=st1.mutT (.inr na) hH;have rep2:Rep ct S (upd H a (.lst vs2)) (.lst true ds2) (.ref a) (Cup (One a) G2):=⟨a,vs2,G2,rfl,⟨upd_same,.inl rfl,n2,Sub.cupR⟩,Reps.mutR hH n2 q2⟩;have hl:j < ρ.length:=(List.getElem?_eq_some_iff.mp hj).1;have k2:Sub (Cup (One a) G2) (Cup (Cup R Fm) Fj):=fun b z=>z.elim (fun z=>.inr (by rw [z]; exact na)) fun z=>(t2 b z).elim (fun z=>.inr (sF b z)) fun z=>.inl (.inr z)
 have st3:=st2.put (i:=j) (d:=.lst true ds2) (v:=.ref a) (by rw [List.getElem?_set_self hl]) hx rep2 k2;rw [Zc7] at st3;have tm:Tr S H (Cup F Fm) S (upd H a (.lst vs2)) (Cup F Fm):=Tr.mutT (.inl (sj a na)) hH;refine k S _ _ Gz y ⟨st3.drop fun b z=>?_,fun b x y=>?_,(t.trans tm).grow fun b z=>?_,Rep.mutR hH nz qz⟩
 ·rcases z with z | z
  ·refine ⟨.inl (.inl z),fun z2=>?_⟩
   rcases z2 with z2 | z2
   ·rw [z2] at z
    exact st.dj a (sj a na) (.inl z)
   ·rcases t2 b z2 with z3 | z3
    ·exact st.dj b (sj b (sF b z3)) (.inl z)
    ·exact djR b z z3
  ·refine ⟨(tz b z).elim (fun z=>.inr (sF b z)) fun z=>.inl (.inr z),fun z2=>?_⟩
   rcases z2 with z2 | z2
   ·rw [z2] at z
    exact nz z
   ·exact d2 b z2 z
 ·rcases tz b y with z3 | z3
  ·exact st.dj b (sj b (sF b z3)) (.inl x)
  ·exact djR b x z3
 ·rcases z with (z | z | z) | z
  ·exact .inl z.1
  ·rw [z]; exact .inl (sj a na)
  ·exact (t2 b z).elim (fun z=>.inl (sj b (sF b z))) .inr
  ·exact (tz b z).elim (fun z=>.inl (sj b (sF b z))) .inr
theorem ZeE {K:PySem.W.Frag} {j:Nat} {ds:List D} {x:V} (st:State ct S H F R ρ σ) (e:ownL ρ j=some ds) (hx:σ[j]?=some (some x)):tyV K "list" x H:=by
 obtain ⟨Fi,si,v,ev,rep⟩:=st.slot (ZZ e);rw [hx] at ev; cases ev;obtain ⟨a,vs,F',ex,n,hs⟩:=rep;subst ex;exact .inl ⟨rfl,vs,SqL.of n.1⟩
theorem Zhl {K:PySem.W.Frag} {mk:MK} {j:Nat} {ma:MA}:∀ σ H Q,tI ct (Zc6 mk j ma) σ H Q→tBM K "list" (ZaH mk) (tVar j) (tIA ct ma) σ H Q:=by
 rintro σ H Q ⟨ρ,S,F,R,rr,ρ',st,e,k⟩;obtain ⟨ds0,h0,e⟩:=bind_some e;obtain ⟨p,hp,e⟩:=bind_some e;obtain ⟨q,hq,e⟩:=bind_some e;obtain ⟨ds,hds,e⟩:=bind_some e;obtain ⟨z,hz,e⟩:=bind_some e;cases e;obtain ⟨Fi,si,x,hx,_⟩:=st.slot (ZZ h0);refine ⟨x,hx,ZeE st h0 hx,ρ,S,F,R,p.1,p.2,st,hp,fun S1 H1 F1 Fa vs P1=>?_⟩
 obtain ⟨S2,F2,Fm,st2,r2,d2,t2⟩:=P1.took (ds:=q.1) (ρ':=q.2) hq;exact ZeD st2 d2 (ZZ hds) hx r2 (show ZY mk ds q.1=some (z.1,z.2) from hz) t2 k
end
end VS
namespace VS
open PySem PySem.Spec PyProof.Rows L2
noncomputable def ZeF (ds:List D) (i:Int):Option (Nat×List D):=(ixN ds.length i).bind fun k=>match ds[k]? with
 | some (.lst true es)=>some (k,es)
 | _=>none
section
variable {ct:Str→Option Addr} {io:List Nat} {S S' H H' S1 H1 S2 H2:Hp} {F F' G R R' T T' Fr F1 F2 R2 Y Fx:FP} {ρ ρ' ρ2:Rho} {σ σ1:L2.St}
theorem Reps.set:∀ {ds:List D} {vs:List V} {F:FP} {k:Nat} {d:D},Reps ct S H ds vs F→ds[k]?=some d→∃ v A,vs[k]?=some v∧Rep ct S H d v A∧Sub A F∧
  ∀ (S' H':Hp) (d':D) (v':V) (A':FP),(∀ a o,S a=some o→S' a=some o)→(∀ a vs,H a=some (.tup vs)→H' a=some (.tup vs))→(∀ a o,H a=some o→F a→¬ A a→H' a=some o)→Rep ct S' H' d' v' A'→(∀ a,A' a→A a∨¬ F a)→Reps ct S' H' (ds.set k d') (vs.set k v') (Cup (Dif F A) A')
 | [],_,_,_,_,_,e=>by simp at e
 | x ::ds,_,F,0,d,⟨v,vr,A,B,ev,s1,s2,dj,h1,h2⟩,e=>by
  simp at e;subst e;subst ev;refine ⟨v,A,rfl,h1,s1,fun S' H' d' v' A' hS hT hF h' hA=>⟨v',vr,A',B,rfl,Sub.cupR,fun a z=>.inl ⟨s2 a z,fun z2=>dj a z2 z⟩,fun a x y=>(hA a x).elim (fun z=>dj a z y) fun z=>z (s2 a y),h',Reps.tr hS hT h2 fun a o x y=>hF a o x (s2 a y) fun z=>dj a z y⟩⟩
 | x ::ds,_,F,k+1,d,⟨v,vr,A,B,ev,s1,s2,dj,h1,h2⟩,e=>by
  subst ev;obtain ⟨w,A2,e1,q1,t1,kk⟩:=Reps.set (k:=k) h2 (by simpa using e);refine ⟨w,A2,by simpa using e1,q1,fun a z=>s2 a (t1 a z),fun S' H' d' v' A' hS hT hF h' hA=>⟨v,vr.set k v',A,Cup (Dif B A2) A',rfl,fun a z=>.inl ⟨s1 a z,fun z2=>dj a z (t1 a z2)⟩,fun a z=>z.imp (fun z=>⟨s2 a z.1,z.2⟩) id,fun a x y=>?_,Rep.tr hS hT h1 fun a o x y=>hF a o x (s1 a y) fun z=>dj a y (t1 a z),kk S' H' d' v' A' hS hT (fun a o x y n=>hF a o x (s2 a y) n) h' fun a z=>(hA a z).imp id fun z2 z3=>z2 (s2 a z3)⟩⟩
  rcases y with y | y
  ·exact dj a x y.1
  ·rcases hA a y with z | z
   ·exact dj a x (t1 a z)
   ·exact z (s1 a x)
theorem Zhm {α:Type} {vs:List α} {k:Nat} {w:α} (h:vs[k]?=some w):vs.set k w=vs:=by
 refine List.ext_getElem? fun j=>?_
 by_cases hj:k=j
 ·subst hj
  rw [List.getElem?_set_self (List.getElem?_eq_some_iff.mp h).1,h]
 ·rw [List.getElem?_set_ne hj]
theorem Zhn {ds es:List D} {i:Int} {k:Nat} (e:ZeF ds i=some (k,es)):ixN ds.length i=some k∧ds[k]?=some (.lst true es):=by
 obtain ⟨k',h1,e⟩:=bind_some e;split at e
 ·cases e
  exact ⟨h1,by assumption⟩
 ·cases e
end
end VS
namespace VS
open PySem PySem.Spec PyProof.Rows L2
noncomputable def mSet (j:Nat) (mi mv:ME):MS:=fun ρ=>(mv ρ).bind fun p=>(ownL p.2 j).bind fun _=>(mi p.2).bind fun q=>(rd q.1 q.2).bind fun d=>(intOf d).bind fun i=>(take p.1 q.2).bind fun s=>(ownL s.2 j).bind fun ds=>(ixN ds.length i).bind fun k=>
 some (.nx (s.2.set j (.own (.lst true (ds.set k s.1)))))
section
variable {ct:Str→Option Addr} {io:List Nat} {S S' H H' S1 H1 S2 H2:Hp} {F F' G R R' T T' Fr F1 F2 R2 Y Fx:FP} {ρ ρ' ρ2:Rho} {σ σ1:L2.St}
theorem Zho {j k:Nat} {ds:List D} {d:D} {i:Int} {v x:V} {Fm:FP} {S0 H0:Hp} {F0:FP} {Q:Hp→Prop} (st:State ct S H F (Cup R Fm) ρ σ) (djR:Dj R Fm) (hj:ρ[j]?=some (.own (.lst true ds))) (hx:σ[j]?=some (some x)) (hv:Rep ct S H d v Fm) (hk:ixN ds.length i=some k) (t:Tr S0 H0 F0 S H (Cup F Fm))
  (kk:∀ S' H' F',PostN ct io S0 H0 F0 R σ (ρ.set j (.own (.lst true (ds.set k d)))) S' H' F' σ→Q H'):rSetL x (.int i) v H Q:=by
 obtain ⟨x',Fj,ev,sj,st1,rep⟩:=st.move hj;rw [hx] at ev; cases ev;obtain ⟨a,vs,F',ex,n,hs⟩:=rep;obtain ⟨hH,na,nF,sF⟩:=n;subst ex;obtain ⟨_,hkl,_,_⟩:=ixN_seq hk;obtain ⟨w,A,ew,hw,sA,upd_⟩:=hs.set (k:=k) (d:=ds[k]) (by simp [hkl]);have nm:¬ Fm a:=fun z=>st.dj a (sj a na) (.inr z)
 refine ⟨a,vs,i,k,rfl,rfl,hH,by rw [←hs.len]; exact hk,?_⟩
 have kT:∀ c us,H c=some (.tup us)→upd H a (.lst (vs.set k v)) c=some (.tup us):=fun c us x=>by
  rw [upd_ne (show c≠a from fun z=>by subst z; rw [x] at hH; cases hH)];exact x
 have hset:=upd_ S (upd H a (.lst (vs.set k v))) d v Fm (fun _ _ x=>x) kT (fun c o x y _=>by
  rw [upd_ne (show c≠a from fun z=>by subst z; exact nF y)];exact x) (Rep.mutR hH nm hv) (fun c z=>.inr fun z2=>st.dj c (sj c (sF c z2)) (.inr z))
 have n2:¬ Cup (Dif F' A) Fm a:=fun z=>z.elim (fun z=>nF z.1) nm
 have st2:State ct S (upd H a (.lst (vs.set k v))) (Dif F Fj) (Cup (Cup R Fm) Fj) (ρ.set j .dead) σ:=st1.mutT (.inr na) hH;have rep2:Rep ct S (upd H a (.lst (vs.set k v))) (.lst true (ds.set k d)) (.ref a) (Cup (One a) (Cup (Dif F' A) Fm)):=⟨a,vs.set k v,Cup (Dif F' A) Fm,rfl,⟨upd_same,.inl rfl,n2,Sub.cupR⟩,hset⟩;have hl:j < ρ.length:=(List.getElem?_eq_some_iff.mp hj).1;have k2:Sub (Cup (One a) (Cup (Dif F' A) Fm)) (Cup (Cup R Fm) Fj):=fun b z=>z.elim (fun z=>.inr (by rw [z]; exact na)) fun z=>z.elim (fun z=>.inr (sF b z.1)) fun z=>.inl (.inr z)
 have st3:=st2.put (i:=j) (d:=.lst true (ds.set k d)) (v:=.ref a) (by rw [List.getElem?_set_self hl]) hx rep2 k2;rw [Zc7] at st3;have tm:Tr S H (Cup F Fm) S (upd H a (.lst (vs.set k v))) (Cup F Fm):=Tr.mutT (.inl (sj a na)) hH;refine kk S _ _ ⟨st3.drop fun b z=>⟨.inl (.inl z),fun z2=>?_⟩,(t.trans tm).grow fun b z=>?_,Stay.refl⟩
 ·rcases z2 with z2 | z2 | z2
  ·rw [z2] at z
   exact st.dj a (sj a na) (.inl z)
  ·exact st.dj b (sj b (sF b z2.1)) (.inl z)
  ·exact djR b z z2
 ·rcases z with z | z | z | z
  ·exact .inl z.1
  ·rw [z]; exact .inl (sj a na)
  ·exact .inl (sj b (sF b z.1))
  ·exact .inr z
theorem Zhp {j:Nat} {mi mv:ME}:∀ D σ H,tS ct io (mSet j mi mv) D σ H→tAsg (tI ct mv) (gSub (tVar j) (tI ct mi) rSetL) D σ H:=by
 rintro D σ H ⟨ρ,S,F,R,o,st,e,k⟩;obtain ⟨p,hp,e⟩:=bind_some e;obtain ⟨ds0,h0,e⟩:=bind_some e;obtain ⟨q,hq,e⟩:=bind_some e;obtain ⟨d,hd,e⟩:=bind_some e;obtain ⟨i,hi,e⟩:=bind_some e;obtain ⟨s,hs,e⟩:=bind_some e;obtain ⟨ds,hds,e⟩:=bind_some e;obtain ⟨kk,hk,e⟩:=bind_some e;cases e;refine ⟨ρ,S,F,R,p.1,p.2,st,hp,fun S1 H1 F1 Fa v P1=>?_⟩
 obtain ⟨Fi,si,x,hx,_⟩:=P1.st.slot (ZZ h0);refine ⟨x,hx,p.2,S1,F1,Cup R Fa,q.1,q.2,P1.st,hq,fun S2 H2 F2 Fb y P2=>?_⟩
 obtain ⟨st2,ra,rb,dRa,dRb,dab,t⟩:=State.of2 P1 P2;have hy:=Zx st2 rb hd;rw [Zeb hi] at hy;have P:Post ct S H F R σ p.1 q.2 S2 H2 F2 Fa v:=⟨st2.drop fun a z=>z.elim (fun z=>.inl (.inl z)) fun z=>.inl (.inr z),dRa,t.grow fun a z=>z.imp id .inl,ra.anti fun a z=>z.imp id fun z=>z.elim (fun z=>.inl (.inl z)) fun z=>.inl (.inr z)⟩;obtain ⟨S3,F3,Fm,st3,rep3,d3,t3⟩:=P.took (d:=s.1) (ρ':=s.2) hs;obtain rfl:y=.int i:=hy;exact Zho (io:=io) st3 d3 (ZZ hds) hx rep3 hk t3 fun S' H' F' P=>k S' H' F' σ P
end
mutual
noncomputable def okP (N:List Str) (sc:Scope):Pat→Expr→Bool
 | .nm i,.Name x _=>decide (N[i]?=some x) && (match sc.names.lookup x with | some .local=>true | some .cell=>true | _=>false)
 | .tp ps,.Tuple es _ _=>okPs N sc ps es
 | _,_=>false
noncomputable def okPs (N:List Str) (sc:Scope):List Pat→List Expr→Bool
 | [],[]=>true
 | p ::ps,e ::es=>okP N sc p e && okPs N sc ps es
 | _,_=>false
end
section
variable {X:Cx} {N:List Str} {sc:Scope}
theorem ZeG {p:Pat} {e:Expr} (h:okP N sc p e=true) (es:List Expr) (env:Env):assignEach (e ::es) env=(false,assign e env) ::assignEach es env:=by
 cases p with
 | nm i=>cases e<;>first | rfl | (simp [okP] at h)
 | tp ps=>cases e<;>first | rfl | (simp [okP] at h)
theorem ZeH:∀ {ps:List Pat} {es:List Expr} {env:Env},okPs N sc ps es=true→(assignEach es env).length=ps.length∧(assignEach es env).findIdx? (·.1)=none
 | [],[],_,_=>⟨rfl,rfl⟩
 | [],_ ::_,_,h=>by simp [okPs] at h
 | _ ::_,[],_,h=>by simp [okPs] at h
 | p ::ps,e ::es,env,h=>by
  rw [okPs,Bool.and_eq_true] at h;obtain ⟨i1,i2⟩:=ZeH (env:=env) h.2;rw [ZeG h.1];refine ⟨by rw [List.length_cons,List.length_cons,i1],?_⟩
  rw [List.findIdx?_cons];simp [i2]
mutual
theorem ZbR (hN:X.N=N) (nd:N.Nodup) (hs:∀ x,sc.names.lookup x=some .local→X.env.scope.names.lookup x=some .local) (hc:X.calm=true) (hf:∀ x,sc.names.lookup x=some .cell→X.env.scope.names.lookup x=some .cell∧X.fn x=true):∀ {p:Pat} {e:Expr},okP N sc p e=true→PG X e (gP X.K p)
 | .nm i,e,h=>by
  cases e with
  | Name x pos=>
   rw [okP,Bool.and_eq_true] at h;obtain ⟨h1,h2⟩:=h;have hx:X.N[i]?=some x:=by rw [hN]; exact of_decide_eq_true h1
   have hl:Loc X.env.scope x∧(X.fn x=true∨X.env.scope.names.lookup x=some .local):=by
    split at h2
    ·rename_i e; exact ⟨.inl (hs x e),.inr (hs x e)⟩
    ·rename_i e; exact ⟨.inr (hf x e).1,.inl (hf x e).2⟩
    ·cases h2
   exact pg_name (by rw [hN]; exact nd) hx hl.1 hl.2
  | _=>simp [okP] at h
 | .tp ps,e,h=>by
  cases e with
  | Tuple es k pos=>
   have h':okPs N sc ps es=true:=by simpa [okP] using h
   obtain ⟨i1,i2⟩:=ZeH (env:=X.env) h';exact pg_tup hc (okPs_pg hN nd hs hc hf h') i1 i2
  | _=>simp [okP] at h
theorem okPs_pg (hN:X.N=N) (nd:N.Nodup) (hs:∀ x,sc.names.lookup x=some .local→X.env.scope.names.lookup x=some .local) (hc:X.calm=true) (hf:∀ x,sc.names.lookup x=some .cell→X.env.scope.names.lookup x=some .cell∧X.fn x=true):∀ {ps:List Pat} {es:List Expr},okPs N sc ps es=true→PGs X es (gPs X.K ps)
 | [],[],_=>pgs_nil
 | [],_ ::_,h=>by simp [okPs] at h
 | _ ::_,[],h=>by simp [okPs] at h
 | p ::ps,e ::es,h=>by
  rw [okPs,Bool.and_eq_true] at h;refine pgs_cons (ZbR hN nd hs hc hf h.1) (okPs_pg hN nd hs hc hf h.2) ?_
  rw [ZeG h.1];rfl
end
end
end VS
namespace VS
open PySem PySem.Spec PyProof.Rows L2
inductive BK where
 | add | sub | mul | fdiv | mod | pow | shl | shr | band | bor
 deriving DecidableEq
noncomputable def opr:BK→Operator
 | .add=>.Add | .sub=>.Sub | .mul=>.Mult | .fdiv=>.FloorDiv | .mod=>.Mod | .pow=>.Pow | .shl=>.LShift | .shr=>.RShift | .band=>.BitAnd | .bor=>.BitOr
noncomputable def Z0 (a:Str) (n:Nat):Str:=⟨(List.replicate n a.cps).foldl (·++·) #[]⟩
theorem Zhq (a:Str):Z0 a 1=a:=by
 show (⟨#[]++a.cps⟩:Str)=a;rw [Array.empty_append]
theorem Zhr:∀ (n:Nat) (a:Str),a.length=0→Z0 a n=⟨#[]⟩:=by
 intro n a h;have e:a.cps=#[]:=Array.eq_empty_of_size_eq_zero h;unfold Z0;rw [e];congr 1
 induction n with
 | zero=>rfl
 | succ n ih=>rw [List.replicate_succ,List.foldl_cons,Array.empty_append]; exact ih
theorem ZeI (x:Array Nat):∀ (n:Nat) (acc:Array Nat),((List.replicate n x).foldl (·++·) acc).size=acc.size+n * x.size
 | 0,acc=>by rw [List.replicate_zero,List.foldl_nil]; omega
 | n+1,acc=>by rw [List.replicate_succ,List.foldl_cons,ZeI x n,Array.size_append,Nat.succ_mul]; omega
theorem Zhs (a:Str) (n:Nat):(Z0 a n).length=n * a.length:=by
 show ((List.replicate n a.cps).foldl (·++·) #[]).size=_;rw [ZeI]; exact Nat.zero_add _
noncomputable def ZeJ:R2:=fun x y H Q=>∃ i j,x=.str i∧y=.int j∧1≤j∧j≤1000∧i.length≤1000∧Q (.str (Z0 i j.toNat)) H
theorem Zht {X:Cx}:OpR X (binaryOp .Mult) ZeJ:=by
 intro pins s σ H x y v u Q I rx ry h;obtain ⟨i,j,rfl,rfl,h1,h2,h3,q⟩:=h;obtain ⟨t,rfl⟩:=rx;obtain ⟨t',rfl⟩:=ry;have hm:i.length * j.toNat≤1000 * 1000:=Nat.mul_le_mul h3 (by omega);refine P.mul_str (by rw [decide_eq_false (by omega),decide_eq_false (by omega)]; rfl) (fun _ _=>?_) (fun _ _=>?_) ?_
 ·have:(1000:Int)≤(2 ^ 63 - 1) / j:=by
   rw [Int.le_ediv_iff_mul_le (by omega)]; omega
  omega
 ·show decide (i.length * j.toNat > sizeLine)=false
  rw [sizeLine_eq]; exact decide_eq_false (by omega)
 ·rw [if_neg (by omega)]
  split
  ·rename_i hc
   have e:Z0 i j.toNat=i:=by
    rcases (Bool.or_eq_true _ _).mp hc with z | z
    ·have:j=1:=by simpa using z
     subst this; exact Zhq i
    ·have z:i.length=0:=by simpa using z
     rw [Zhr _ _ z];have e:i.cps=#[]:=Array.eq_empty_of_size_eq_zero z;cases i; cases e; rfl
   rw [e] at q;exact ⟨.str i,H,I,⟨_,rfl⟩,q⟩
  ·refine ⟨?_,.str (Z0 i j.toNat),H,I.tok _,⟨_,rfl⟩,q⟩
   show (Z0 i j.toNat).length≤sizeLine;rw [Zhs,sizeLine_eq,Nat.mul_comm]; omega
noncomputable def binD:BK→D→D→Option D
 | .add,.int i,.int j=>some (.int (i+j))
 | .add,.str a,.str b=>if a.length+b.length≤1000000 then some (.str (a++b)) else none
 | .sub,.int i,.int j=>some (.int (i - j))
 | .mul,.int i,.int j=>if (-18446744073709551616 < i∧i < 18446744073709551616)∨(-18446744073709551616 < j∧j < 18446744073709551616) then some (.int (i * j)) else none
 | .mul,.str a,.int j=>if 1≤j∧j≤1000∧a.length≤1000 then some (.str (Z0 a j.toNat)) else none
 | .fdiv,.int i,.int j=>if 0 < j∧j.natAbs.log2 < 9000 then some (.int (i / j)) else none
 | .mod,.int i,.int j=>if 0 < j then some (.int (i % j)) else none
 | .pow,.int i,.int j=>if 0≤j∧j≤1000000∧i.natAbs < 18446744073709551616 then some (.int (i ^ j.toNat)) else none
 | .shl,.int i,.int j=>if 0≤j∧j≤1000000∧i.natAbs < 18446744073709551616 then some (.int (i * 2 ^ j.toNat)) else none
 | .shr,.int i,.int j=>if 0≤j then some (.int (i / 2 ^ j.toNat)) else none
 | .band,.int i,.int j=>some (.int (Builtin.bitAnd i j))
 | .bor,.int i,.int j=>some (.int (Builtin.bitOr i j))
 | _,_,_=>none
noncomputable def Zhu:R2:=fun x y H Q=>∃ i j,x=.str i∧y=.str j∧i.length+j.length≤sizeLine∧Q (.str (i++j)) H
noncomputable def ZbS:BK→R2
 | .add=>fun x y H Q=>rI0 (fun i j=>.int (i+j)) x y H Q∨Zhu x y H Q
 | .sub=>rI0 fun i j=>.int (i - j)
 | .mul=>fun x y H Q=>rI CMul (fun i j=>.int (i * j)) x y H Q∨ZeJ x y H Q
 | .fdiv=>rI CDivW fun i j=>.int (i / j)
 | .mod=>rI (fun _ j=>0 < j) fun i j=>.int (i % j)
 | .pow=>rI CPow fun i j=>.int (i ^ j.toNat)
 | .shl=>rI CPow fun i j=>.int (i * 2 ^ j.toNat)
 | .shr=>rI (fun _ j=>0≤j) fun i j=>.int (i / 2 ^ j.toNat)
 | .band=>rI0 fun i j=>.int (Builtin.bitAnd i j)
 | .bor=>rI0 fun i j=>.int (Builtin.bitOr i j)
theorem ZbT {X:Cx} (k:BK):OpR X (binaryOp (opr k)) (ZbS k):=by
 cases k
 ·exact op_add.or op_add_str
 ·exact op_sub
 ·exact op_mul.or Zht
 ·exact op_fdivW
 ·exact op_mod
 ·exact op_pow
 ·exact op_shl
 ·exact op_shr
 ·exact op_and
 ·exact op_or
theorem ZbU {ct:Str→Option Addr} (k:BK):ZcC ct (ZbS k) (binD k):=by
 intro d e z x y H Q hd he hz q;cases k<;>cases d<;>first | (cases hz; done) | (cases e<;>first | (cases hz; done) | skip)
 all_goals (try (rename_i i j; obtain rfl:x=.int i:=hd; obtain rfl:y=.int j:=he))
 ·cases hz; exact .inl ⟨i,j,rfl,rfl,q _ rfl⟩
 ·rename_i i j
  obtain rfl:x=.str i:=hd;obtain rfl:y=.str j:=he;unfold binD at hz;dsimp only at hz;split at hz
  ·rename_i hl
   cases hz;exact .inr ⟨i,j,rfl,rfl,Zac hl,q _ rfl⟩
  ·cases hz
 ·cases hz; exact ⟨i,j,rfl,rfl,q _ rfl⟩
 ·unfold binD at hz
  dsimp only at hz;split at hz
  ·rename_i hc
   cases hz;exact .inl ⟨i,j,rfl,rfl,hc,q _ rfl⟩
  ·cases hz
 ·rename_i i j
  obtain rfl:x=.str i:=hd;obtain rfl:y=.int j:=he;unfold binD at hz;dsimp only at hz;split at hz
  ·rename_i hc
   cases hz;exact .inr ⟨i,j,rfl,rfl,hc.1,hc.2.1,hc.2.2,q _ rfl⟩
  ·cases hz
 ·unfold binD at hz
  dsimp only at hz;split at hz
  ·rename_i hc
   cases hz;exact ⟨i,j,rfl,rfl,hc,q _ rfl⟩
  ·cases hz
 ·unfold binD at hz
  dsimp only at hz;split at hz
  ·rename_i hc
   cases hz;exact ⟨i,j,rfl,rfl,hc,q _ rfl⟩
  ·cases hz
 ·unfold binD at hz
  dsimp only at hz;split at hz
  ·rename_i hc
   cases hz;exact ⟨i,j,rfl,rfl,hc,q _ rfl⟩
  ·cases hz
 ·unfold binD at hz
  dsimp only at hz;split at hz
  ·rename_i hc
   cases hz;exact ⟨i,j,rfl,rfl,hc,q _ rfl⟩
  ·cases hz
 ·unfold binD at hz
  dsimp only at hz;split at hz
  ·rename_i hc
   cases hz;exact ⟨i,j,rfl,rfl,hc,q _ rfl⟩
  ·cases hz
 ·cases hz; exact ⟨i,j,rfl,rfl,q _ rfl⟩
 ·cases hz; exact ⟨i,j,rfl,rfl,q _ rfl⟩
mutual
noncomputable def toP:D→PyData
 | .non=>.none
 | .bl b=>.bool b
 | .int i=>.int i
 | .str x=>.str x
 | .tup ds=>.tuple (toPs ds)
 | .lst _ ds=>.list (toPs ds)
 | .dic _ _ _=>.dict []
 | .obj _ _ _ _=>.dict []
 | .err _ _ _=>.dict []
noncomputable def toPs:List D→List PyData
 | []=>[]
 | d ::ds=>toP d ::toPs ds
end
noncomputable def shp (d:D):Bool:=SeqAt.shaped (toP d)
mutual
theorem ZeK {ct:Str→Option Addr} {K:PySem.W.Frag} {H:Hp} {F:FP}:∀ {d:D} {v:V},(toP d).canLay0=true→Vw ct H F d v→Dp K H v (toP d)
 | .non,_,_,h=>by
  obtain rfl:_=V.non:=h;exact .non
 | .bl b,_,_,h=>by
  obtain rfl:_=V.bl b:=h;exact .bl b
 | .int i,_,_,h=>by
  obtain rfl:_=V.int i:=h;exact .int i
 | .str x,_,_,h=>by
  obtain rfl:_=V.str x:=h;exact .str x
 | .tup ds,_,c,⟨a,vs,ex,ha,hs⟩=>by
  subst ex;exact .tup (SqT.of ha) (dps_of (by simpa [toP,PyData.canLay0] using c) hs)
 | .lst _ ds,_,c,⟨a,vs,ex,ha,_,hs⟩=>by
  subst ex;exact .lst (.inl ha) (dps_of (by simpa [toP,PyData.canLay0] using c) hs)
 | .dic _ _ _,_,c,_=>by simp [toP,PyData.canLay0] at c
 | .obj _ _ _ _,_,c,_=>by simp [toP,PyData.canLay0] at c
 | .err _ _ _,_,c,_=>by simp [toP,PyData.canLay0] at c
theorem dps_of {ct:Str→Option Addr} {K:PySem.W.Frag} {H:Hp} {F:FP}:∀ {ds:List D} {vs:List V},PyData.canLayAll0 (toPs ds)=true→Vws ct H F ds vs→DpAll K H vs (toPs ds)
 | [],_,_,h=>by
  obtain rfl:_=[]:=h;exact .nil
 | d ::ds,_,c,⟨v,vr,ev,h1,h2⟩=>by
  subst ev;have c2:(toP d).canLay0=true∧PyData.canLayAll0 (toPs ds)=true:=by simpa [toPs,PyData.canLayAll0] using c
  exact .cons (ZeK c2.1 h1) (dps_of c2.2 h2)
end
theorem Zag {ct:Str→Option Addr} {K:PySem.W.Frag} {H:Hp} {F:FP} {d:D} {v:V} (s:shp d=true) (h:Vw ct H F d v):Dp K H v (toP d):=ZeK (SeqAt.canLay_of_shaped s) h
inductive CK where
 | lt | le | gt | ge | eq | ne | isN | isnN | isIn | notIn
 deriving DecidableEq
noncomputable def cop:CK→CmpOp
 | .lt=>.Lt | .le=>.LtE | .gt=>.Gt | .ge=>.GtE | .eq=>.Eq | .ne=>.NotEq | .isN=>.Is | .isnN=>.IsNot | .isIn=>.In | .notIn=>.NotIn
noncomputable def Zbb:D→Bool
 | .non=>true
 | _=>false
noncomputable def ZaI:D→Bool
 | .non=>true
 | .bl _=>true
 | .int _=>true
 | .str _=>true
 | _=>false
noncomputable def inD (x y:D):Option Bool:=match y with
 | .lst m ds=>if shp x=true∧shp (.lst m ds)=true then some (ds.any fun z=>PyData.eqv (toP z) (toP x)) else none
 | .tup ds=>if ZaI x=true∧ds.all ZaI=true then some (ds.any fun z=>PyData.eqv (toP z) (toP x)) else none
 | .str z=>match x with
  | .str c=>(match c.cps.toList with | [k]=>some (decide (k∈z.cps.toList)) | _=>none)
  | _=>none
 | .dic _ ks _=>(Za2 x).map fun k=>ks.any fun x=>decide (x=k)
 | _=>none
noncomputable def cmpD:CK→D→D→Option D
 | .lt,.int i,.int j=>some (.bl (decide (i < j)))
 | .lt,.tup ds,.tup es=>if shp (.tup ds)=true∧shp (.tup es)=true∧PySem.W.alike (toP (.tup ds)) (toP (.tup es))=true∧(toP (.tup ds)).depth≤64 then some (.bl (PySem.W.dataLt (toP (.tup ds)) (toP (.tup es)))) else none
 | .le,.int i,.int j=>some (.bl (decide (i≤j)))
 | .gt,.int i,.int j=>some (.bl (decide (j < i)))
 | .ge,.int i,.int j=>some (.bl (decide (j≤i)))
 | .eq,d,e=>if shp d=true∧shp e=true then some (.bl (PyData.eqv (toP d) (toP e))) else none
 | .ne,d,e=>if shp d=true∧shp e=true then some (.bl (!PyData.eqv (toP d) (toP e))) else none
 | .isN,d,.non=>some (.bl (Zbb d))
 | .isnN,d,.non=>some (.bl (!Zbb d))
 | .isIn,d,e=>(inD d e).map .bl
 | .notIn,d,e=>(inD d e).map fun b=>.bl (!b)
 | _,_,_=>none
noncomputable def Zbc (K:PySem.W.Frag) (neg:Bool):R2:=fun x y H Q=>
 (∃ d ds,Dp K H x d∧Dp K H y (.list ds)∧SeqAt.shaped d=true∧SeqAt.shaped (.list ds)=true∧Q (.bl (if neg then !ds.any fun z=>PyData.eqv z d else ds.any fun z=>PyData.eqv z d)) H)∨
 (rIn K neg x y H Q)∨(∃ (c:Nat) (z:Str),x=.str ⟨#[c]⟩∧y=.str z∧Q (.bl (if neg then !decide (c∈z.cps.toList) else decide (c∈z.cps.toList))) H)∨
 ∃ a o,y=.ref a∧DGet H a x o∧Q (.bl (if neg then !o.isSome else o.isSome)) H
noncomputable def Zc8 (K:PySem.W.Frag):R2:=fun x y H Q=>∃ da db,Dp K H x da∧Dp K H y db∧PySem.W.alike da db=true∧da≠.none∧da.depth≤64∧Q (.bl (PySem.W.dataLt da db)) H
theorem Zhv {X:Cx} (hu:X.A.units+65 < cLine):OpR X (compareOp .Lt) (Zc8 X.K):=by
 intro pins s σ H x y v u Q I rx ry ⟨da,db,h1,h2,h3,h4,h5,q⟩;obtain ⟨as,ra⟩:=Dp.reads I da x v h1 rx;obtain ⟨bs,rb⟩:=Dp.reads I db y u h2 ry;exact PySem.W.lt_data ra rb h3 h4 (by omega) ⟨.bl (PySem.W.dataLt da db),H,I,rfl,q⟩
noncomputable def ZeL (K:PySem.W.Frag):CK→R2
 | .lt=>fun x y H Q=>rI0 (fun i j=>.bl (decide (i < j))) x y H Q∨Zc8 K x y H Q
 | .le=>rI0 fun i j=>.bl (decide (i≤j))
 | .gt=>rI0 fun i j=>.bl (decide (j < i))
 | .ge=>rI0 fun i j=>.bl (decide (j≤i))
 | .eq=>rEqD K
 | .ne=>rNeD K
 | .isN=>fun x y H Q=>y=.non∧Q (.bl (decide (x=.non))) H
 | .isnN=>fun x y H Q=>y=.non∧Q (.bl (!decide (x=.non))) H
 | .isIn=>Zbc K false
 | .notIn=>Zbc K true
theorem Zhw {X:Cx} (hu:X.A.units+65 < cLine):OpR X (compareOp .In) (Zbc X.K false):=by
 refine OpR.or (op_inD hu) (OpR.or op_in_seq (OpR.or op_in_sign ?_))
 intro pins s σ H x y v u Q I rx ry h;obtain ⟨a,o,rfl,g,q⟩:=h;obtain rfl:u=Value.ref a:=ry;exact d_in (by omega) I g rx fun s3 I3=>⟨.bl o.isSome,H,I3,rfl,q⟩
theorem Zhx {X:Cx} (hu:X.A.units+65 < cLine):OpR X (compareOp .NotIn) (Zbc X.K true):=by
 refine OpR.or (op_notInD hu) (OpR.or op_notIn_seq (OpR.or op_notIn_sign ?_))
 intro pins s σ H x y v u Q I rx ry h;obtain ⟨a,o,rfl,g,q⟩:=h;obtain rfl:u=Value.ref a:=ry;exact d_notIn (by omega) I g rx fun s3 I3=>⟨.bl (!o.isSome),H,I3,rfl,q⟩
theorem ZbV {X:Cx} (hu:X.A.units+65 < cLine) (k:CK):OpR X (compareOp (cop k)) (ZeL X.K k):=by
 cases k
 ·exact OpR.or op_lt (Zhv hu)
 ·exact op_le
 ·exact op_gt
 ·exact op_ge
 ·exact op_eqD (by omega)
 ·exact op_neD (by omega)
 ·exact op_isN
 ·exact op_notN
 ·exact Zhw hu
 ·exact Zhx hu
theorem ZeM {ct:Str→Option Addr} {H:Hp} {F:FP} {d:D} {v:V} (h:Vw ct H F d v):decide (v=.non)=Zbb d:=by
 cases d with
 | non=>obtain rfl:v=.non:=h; rfl
 | bl b=>obtain rfl:v=.bl b:=h; rfl
 | int i=>obtain rfl:v=.int i:=h; rfl
 | str i=>obtain rfl:v=.str i:=h; exact decide_eq_false (fun z=>nomatch z)
 | tup ds=>obtain ⟨a,vs,rfl,_⟩:=h; exact decide_eq_false (fun z=>nomatch z)
 | lst m ds=>obtain ⟨a,vs,rfl,_⟩:=h; exact decide_eq_false (fun z=>nomatch z)
 | dic m ks ds=>obtain ⟨a,vs,rfl,_⟩:=h; exact decide_eq_false (fun z=>nomatch z)
 | obj m c ks ds=>obtain ⟨a,C,dx,vs,rfl,_⟩:=h; exact decide_eq_false (fun z=>nomatch z)
 | err c ks ds=>obtain ⟨a,C,vs,rfl,_⟩:=h; exact decide_eq_false (fun z=>nomatch z)
theorem ZeN {ct:Str→Option Addr} {H:Hp} {F G:FP} {d e:D} {v w:V} (hd:ZaI d=true) (he:ZaI e=true) (h:Vw ct H F d v) (k:Vw ct H G e w):eqV v w=PyData.eqv (toP d) (toP e)∧flatV v=true∧flatV w=true:=by
 cases d<;>first | (cases hd; done) | skip
 all_goals (cases e<;>first | (cases he; done) | skip)
 all_goals (cases (show _=_ from h); cases (show _=_ from k))
 all_goals (refine ⟨?_,rfl,rfl⟩; simp [eqV,toP,PyData.eqv])
theorem ZeO {ct:Str→Option Addr} {H:Hp} {F G:FP} {d:D} {v:V} (hd:ZaI d=true) (h:Vw ct H F d v):∀ {ds:List D} {vs:List V},ds.all ZaI=true→Vws ct H G ds vs→inV v vs=(ds.any fun z=>PyData.eqv (toP z) (toP d))∧vs.all flatV=true
 | [],_,_,k=>by
  obtain rfl:_=[]:=k;exact ⟨rfl,rfl⟩
 | e ::ds,_,hs,⟨w,wr,ew,k1,k2⟩=>by
  subst ew;rw [List.all_cons,Bool.and_eq_true] at hs;obtain ⟨i1,i2⟩:=ZeO hd h hs.2 k2;obtain ⟨j1,j2,j3⟩:=ZeN hs.1 hd k1 h;refine ⟨?_,by rw [List.all_cons,j2,i2]; rfl⟩
  unfold inV at i1 ⊢;rw [List.any_cons,List.any_cons,j1,i1]
theorem ZeP {k:Key}:∀ {ks:List Key} {vs:List V},ks.length=vs.length→(valV (ks.zip vs) k).isSome=ks.any fun x=>decide (x=k)
 | [],_,_=>rfl
 | x ::ks,[],h=>by simp at h
 | x ::ks,v ::vs,h=>by
  rw [List.zip_cons_cons,List.any_cons];by_cases e:x=k
  ·rw [valV_pos (p:=(x,v)) e,decide_eq_true e]
   rfl
  ·rw [valV_neg (p:=(x,v)) e,ZeP (by simpa using h),decide_eq_false e,Bool.false_or]
theorem ZeQ {ct:Str→Option Addr} {K:PySem.W.Frag} {H:Hp} {neg:Bool} {d e:D} {b:Bool} {x y:V} {Q:VK} (hd:Vw ct H No d x) (he:Vw ct H No e y) (hz:inD d e=some b) (q:Q (.bl (if neg then !b else b)) H):Zbc K neg x y H Q:=by
 cases e with
 | lst m ds=>
  unfold inD at hz;dsimp only at hz;split at hz
  ·rename_i hs
   cases hz;refine .inl ⟨toP d,toPs ds,Zag hs.1 hd,Zag hs.2 he,hs.1,hs.2,?_⟩
   have e1:((toPs ds).any fun z=>PyData.eqv z (toP d))=ds.any fun z=>PyData.eqv (toP z) (toP d):=by
    clear hs he q;induction ds with
    | nil=>rfl
    | cons d ds ih=>rw [toPs,List.any_cons,List.any_cons,ih]
   rw [e1];exact q
  ·cases hz
 | tup ds=>
  unfold inD at hz;dsimp only at hz;split at hz
  ·rename_i hs
   cases hz;obtain ⟨a,vs,ex,ha,hw⟩:=he;obtain ⟨i1,i2⟩:=ZeO hs.1 hd hs.2 hw;refine .inr (.inl ⟨a,vs,ex,.inr (SqT.of ha),?_,i2,?_⟩)
   ·exact (ZeN hs.1 hs.1 hd hd).2.1
   ·rw [i1]
    exact q
  ·cases hz
 | str z=>
  obtain rfl:y=.str z:=he;unfold inD at hz;dsimp only at hz;cases d with
  | str c=>
   obtain rfl:x=.str c:=hd;dsimp only at hz;split at hz
   ·rename_i k hk
    cases hz;obtain ⟨⟨l⟩⟩:=c;dsimp only at hk;subst hk;exact .inr (.inr (.inl ⟨k,z,rfl,rfl,q⟩))
   ·cases hz
  | _=>cases hz
 | dic m ks ds=>
  unfold inD at hz;dsimp only at hz;obtain ⟨k,hk,e⟩:=Option.map_eq_some_iff.mp hz;subst e;obtain ⟨a,vs,ex,hl,ha,_,hw⟩:=he;refine .inr (.inr (.inr ⟨a,valV (ks.zip vs) k,ex,.inl ⟨ks.zip vs,k,ha,ZcF hd hk,rfl⟩,?_⟩))
  rw [ZeP (hl.trans hw.len)];exact q
 | _=>cases hz
theorem ZbW {ct:Str→Option Addr} {K:PySem.W.Frag} (k:CK):ZcC ct (ZeL K k) (cmpD k):=by
 intro d e z x y H Q hd he hz q;have ii:∀ {f:Int→Int→Bool},(∀ i j,d=.int i→e=.int j→z=.bl (f i j))→(∃ i j,d=.int i∧e=.int j)→rI0 (fun i j=>.bl (f i j)) x y H Q:=fun {f} h1 h2=>by
  obtain ⟨i,j,rfl,rfl⟩:=h2;obtain rfl:x=.int i:=hd;obtain rfl:y=.int j:=he;exact ⟨i,j,rfl,rfl,q _ (by rw [h1 i j rfl rfl]; rfl)⟩
 cases k with
 | lt=>
  have tt:∀ ds es,d=.tup ds→e=.tup es→(if shp (.tup ds)=true∧shp (.tup es)=true∧PySem.W.alike (toP (.tup ds)) (toP (.tup es))=true∧(toP (.tup ds)).depth≤64 then some (D.bl (PySem.W.dataLt (toP (.tup ds)) (toP (.tup es)))) else none)=some z→Zc8 K x y H Q:=fun ds es e1 e2 hz2=>by
   subst e1 e2;split at hz2
   ·rename_i hs
    cases hz2;exact ⟨_,_,Zag hs.1 hd,Zag hs.2.1 he,hs.2.2.1,(fun z=>by simp [toP] at z),hs.2.2.2,q _ rfl⟩
   ·cases hz2
  cases d<;>first | (cases hz; done) | (cases e<;>first | (cases hz; done) | (exact .inr (tt _ _ rfl rfl hz)) | (cases hz; exact .inl (ii (f:=fun i j=>decide (i < j)) (fun _ _ a b=>by cases a; cases b; rfl) ⟨_,_,rfl,rfl⟩)))
 | le=>cases d<;>first | (cases hz; done) | (cases e<;>first | (cases hz; done) | (cases hz; exact ii (f:=fun i j=>decide (i≤j)) (fun _ _ a b=>by cases a; cases b; rfl) ⟨_,_,rfl,rfl⟩))
 | gt=>cases d<;>first | (cases hz; done) | (cases e<;>first | (cases hz; done) | (cases hz; exact ii (f:=fun i j=>decide (j < i)) (fun _ _ a b=>by cases a; cases b; rfl) ⟨_,_,rfl,rfl⟩))
 | ge=>cases d<;>first | (cases hz; done) | (cases e<;>first | (cases hz; done) | (cases hz; exact ii (f:=fun i j=>decide (j≤i)) (fun _ _ a b=>by cases a; cases b; rfl) ⟨_,_,rfl,rfl⟩))
 | eq=>
  have hz':(if shp d=true∧shp e=true then some (D.bl (PyData.eqv (toP d) (toP e))) else none)=some z:=by cases d<;>cases e<;>exact hz
  split at hz'
  ·rename_i hs
   cases hz';exact ⟨toP d,toP e,Zag hs.1 hd,Zag hs.2 he,hs.1,hs.2,q _ rfl⟩
  ·cases hz'
 | ne=>
  have hz':(if shp d=true∧shp e=true then some (D.bl (!PyData.eqv (toP d) (toP e))) else none)=some z:=by cases d<;>cases e<;>exact hz
  split at hz'
  ·rename_i hs
   cases hz';exact ⟨toP d,toP e,Zag hs.1 hd,Zag hs.2 he,hs.1,hs.2,q _ rfl⟩
  ·cases hz'
 | isN=>
  have h2:e=.non∧z=.bl (Zbb d):=by
   cases e<;>first | (cases d<;>cases hz; done) | skip
   refine ⟨rfl,?_⟩
   cases d<;>(cases hz; rfl)
  obtain ⟨rfl,rfl⟩:=h2;exact ⟨he,by rw [ZeM hd]; exact q _ rfl⟩
 | isnN=>
  have h2:e=.non∧z=.bl (!Zbb d):=by
   cases e<;>first | (cases d<;>cases hz; done) | skip
   refine ⟨rfl,?_⟩
   cases d<;>(cases hz; rfl)
  obtain ⟨rfl,rfl⟩:=h2;exact ⟨he,by rw [ZeM hd]; exact q _ rfl⟩
 | isIn=>
  have hz':(inD d e).map D.bl=some z:=by cases d<;>exact hz
  obtain ⟨b,hb,rfl⟩:=Option.map_eq_some_iff.mp hz';exact ZeQ (neg:=false) hd he hb (q _ rfl)
 | notIn=>
  have hz':(inD d e).map (fun b=>D.bl (!b))=some z:=by cases d<;>exact hz
  obtain ⟨b,hb,rfl⟩:=Option.map_eq_some_iff.mp hz';exact ZeQ (neg:=true) hd he hb (q _ rfl)
end VS
namespace VS
open PySem PySem.Spec PyProof.Rows L2
noncomputable def Zat:List D→Option (List Int)
 | []=>some []
 | .int i ::ds=>(Zat ds).map fun ns=>i ::ns
 | _ ::_=>none
noncomputable def ZbX:List D→Option (List Bool)
 | []=>some []
 | .bl i ::ds=>(ZbX ds).map fun ns=>i ::ns
 | _ ::_=>none
section
variable {ct:Str→Option Addr} {H:Hp} {F:FP}
theorem ZaJ:∀ {ds:List D} {vs:List V} {ns:List Int},Zat ds=some ns→Vws ct H F ds vs→vs=ns.map V.int
 | [],_,_,e,h=>by
  cases e;exact h
 | d ::ds,_,_,e,⟨v,vr,ev,h1,h2⟩=>by
  cases d<;>first | (cases e; done) | skip
  obtain ⟨ns,hn,e⟩:=Option.map_eq_some_iff.mp e;subst e;obtain rfl:v=V.int _:=h1;rw [ev,List.map_cons,ZaJ hn h2]
theorem Zc9:∀ {ds:List D} {vs:List V} {ns:List Bool},ZbX ds=some ns→Vws ct H F ds vs→vs=ns.map V.bl
 | [],_,_,e,h=>by
  cases e;exact h
 | d ::ds,_,_,e,⟨v,vr,ev,h1,h2⟩=>by
  cases d<;>first | (cases e; done) | skip
  obtain ⟨ns,hn,e⟩:=Option.map_eq_some_iff.mp e;subst e;obtain rfl:v=V.bl _:=h1;rw [ev,List.map_cons,Zc9 hn h2]
end
noncomputable def ZbY:List Int→Option Int
 | []=>none
 | x ::xs=>some (xs.foldl max x)
noncomputable def ZbZ:List Int→Option Int
 | []=>none
 | x ::xs=>some (xs.foldl min x)
theorem ZeR:∀ (xs:List Int) (x:Int),(xs.foldl max x=x∨xs.foldl max x∈xs)∧x≤xs.foldl max x∧∀ y∈xs,y≤xs.foldl max x
 | [],x=>⟨.inl rfl,Int.le_refl _,fun _ h=>by simp at h⟩
 | z ::xs,x=>by
  obtain ⟨a,b,c⟩:=ZeR xs (max x z);rw [List.foldl_cons];refine ⟨?_,by omega,fun y hy=>?_⟩
  ·rcases a with a | a
   ·rw [a]
    by_cases h:x≤z
    ·exact .inr (by rw [show max x z=z by omega]; exact List.mem_cons_self)
    ·exact .inl (by omega)
   ·exact .inr (List.mem_cons_of_mem _ a)
  ·rcases List.mem_cons.mp hy with e | e
   ·subst e; omega
   ·exact c y e
theorem ZeS:∀ (xs:List Int) (x:Int),(xs.foldl min x=x∨xs.foldl min x∈xs)∧xs.foldl min x≤x∧∀ y∈xs,xs.foldl min x≤y
 | [],x=>⟨.inl rfl,Int.le_refl _,fun _ h=>by simp at h⟩
 | z ::xs,x=>by
  obtain ⟨a,b,c⟩:=ZeS xs (min x z);rw [List.foldl_cons];refine ⟨?_,by omega,fun y hy=>?_⟩
  ·rcases a with a | a
   ·rw [a]
    by_cases h:z≤x
    ·exact .inr (by rw [show min x z=z by omega]; exact List.mem_cons_self)
    ·exact .inl (by omega)
   ·exact .inr (List.mem_cons_of_mem _ a)
  ·rcases List.mem_cons.mp hy with e | e
   ·subst e; omega
   ·exact c y e
noncomputable def ZeT (K:PySem.W.Frag):List V→Hp→VK→Prop:=fun vs H Q=>∃ (a:Addr) (n:Int) (ns:List Int),vs=[V.ref a]∧SqT K H a ((n ::ns).map V.int)∧Q (.int (ns.foldl max n)) H
noncomputable def ZeU (K:PySem.W.Frag):List V→Hp→VK→Prop:=fun vs H Q=>∃ (a:Addr) (n:Int) (ns:List Int),vs=[V.ref a]∧SqT K H a ((n ::ns).map V.int)∧Q (.int (ns.foldl min n)) H
theorem Zda {h:Heap}:∀ {ns:List Int} {us:List Value},Vals (ns.map V.int) us→PySem.W.HoldAll h us ns
 | [],_,r=>by cases r; exact ⟨[],.nil⟩
 | n ::ns,_,r=>by
  rw [List.map_cons] at r;cases r with
  | cons r1 r2=>
   obtain ⟨t,rfl⟩:=r1;obtain ⟨as,q⟩:=Zda (h:=h) r2;exact ⟨_,.cons (.int n t) q⟩
theorem ZeV:∀ (xs:List Int) (x:Int),PySem.W.minOf x xs=xs.foldl min x
 | [],x=>rfl
 | y ::xs,x=>by
  show PySem.W.minOf (if decide (y < x)=true then y else x) xs=xs.foldl min (min x y);rw [ZeV xs];congr 1
  by_cases h:y < x
  ·rw [if_pos (decide_eq_true h)]; omega
  ·rw [if_neg (by simpa using h)]; omega
theorem ZeW:∀ (xs:List Int) (x:Int),PySem.W.maxOf x xs=xs.foldl max x
 | [],x=>rfl
 | y ::xs,x=>by
  show PySem.W.maxOf (if decide (x < y)=true then y else x) xs=xs.foldl max (max x y);rw [ZeW xs];congr 1
  by_cases h:x < y
  ·rw [if_pos (decide_eq_true h)]; omega
  ·rw [if_neg (by simpa using h)]; omega
theorem Zhy {X:Cx} (hc:X.calm=true) (hu:X.A.units+65 < cLine):CallR X (.builtin "min") (ZeU X.K):=by
 intro pins s σ H vs us Q I r h;obtain ⟨a,n,ns,rfl,hs,q⟩:=h;obtain ⟨its,rv,hl,_⟩:=I.tuple hs;rw [Vals.ref1 r];refine PySem.W.min_tuple_datum (α:=Int) (vs:=its.toArray) (I.ok.hd hc) hl (by rw [List.toList_toArray]; exact Zda rv) (by show X.A.units+1+0 < cLine; omega) fun i v h' tk hv ho hk=>?_
 obtain ⟨as,ho⟩:=ho;rw [ZeV] at ho;cases ho;exact ⟨.int _,H,I.kept hk,⟨_,rfl⟩,q⟩
theorem Zhz {X:Cx} (hc:X.calm=true) (hu:X.A.units+65 < cLine):CallR X (.builtin "max") (ZeT X.K):=by
 intro pins s σ H vs us Q I r h;obtain ⟨a,n,ns,rfl,hs,q⟩:=h;obtain ⟨its,rv,hl,_⟩:=I.tuple hs;rw [Vals.ref1 r];refine PySem.W.max_tuple_datum (α:=Int) (vs:=its.toArray) (I.ok.hd hc) hl (by rw [List.toList_toArray]; exact Zda rv) (by show X.A.units+1+0 < cLine; omega) fun i v h' tk hv ho hk=>?_
 obtain ⟨as,ho⟩:=ho;rw [ZeW] at ho;cases ho;exact ⟨.int _,H,I.kept hk,⟨_,rfl⟩,q⟩
theorem ZhA {ns:List Int} {m m':Int} (h:ZbY ns=some m) (h1:m'∈ns) (h2:∀ y∈ns,y≤m'):m'=m:=by
 cases ns with
 | nil=>cases h
 | cons x xs=>
  cases h;obtain ⟨a,b,c⟩:=ZeR xs x;have u1:m'≤xs.foldl max x:=by
   rcases List.mem_cons.mp h1 with e | e
   ·subst e; exact b
   ·exact c _ e
  have u2:xs.foldl max x≤m':=by
   rcases a with a | a
   ·rw [a]; exact h2 x List.mem_cons_self
   ·exact h2 _ (List.mem_cons_of_mem _ a)
  omega
theorem ZhB {ns:List Int} {m m':Int} (h:ZbZ ns=some m) (h1:m'∈ns) (h2:∀ y∈ns,m'≤y):m'=m:=by
 cases ns with
 | nil=>cases h
 | cons x xs=>
  cases h;obtain ⟨a,b,c⟩:=ZeS xs x;have u1:xs.foldl min x≤m':=by
   rcases List.mem_cons.mp h1 with e | e
   ·subst e; exact b
   ·exact c _ e
  have u2:m'≤xs.foldl min x:=by
   rcases a with a | a
   ·rw [a]; exact h2 x List.mem_cons_self
   ·exact h2 _ (List.mem_cons_of_mem _ a)
  omega
inductive BI where
 | len | max2 | min2 | max1 | min1 | sum | any | all | abs | int | str
 deriving DecidableEq
noncomputable def ZaK:D→Option (List D)
 | .lst _ ds=>some ds
 | _=>none
noncomputable def ZeX:D→Option (List D)
 | .lst _ ds=>some ds
 | .tup ds=>some ds
 | _=>none
noncomputable def biD:BI→List D→Option D
 | .len,[.lst _ ds]=>some (.int ds.length)
 | .len,[.tup ds]=>some (.int ds.length)
 | .len,[.dic _ ks _]=>some (.int ks.length)
 | .len,[.str z]=>if z.length≤1000000 then some (.int z.length) else none
 | .max2,[.int i,.int j]=>some (.int (if j > i then j else i))
 | .min2,[.int i,.int j]=>some (.int (if j < i then j else i))
 | .max1,[d]=>(ZeX d).bind fun ds=>(Zat ds).bind fun ns=>(ZbY ns).map .int
 | .min1,[d]=>(ZeX d).bind fun ds=>(Zat ds).bind fun ns=>(ZbZ ns).map .int
 | .sum,[d]=>(ZaK d).bind fun ds=>(Zat ds).map fun ns=>.int ns.sum
 | .any,[d]=>(ZaK d).bind fun ds=>(ZbX ds).map fun ns=>.bl (ns.any id)
 | .all,[d]=>(ZaK d).bind fun ds=>(ZbX ds).map fun ns=>.bl (ns.all id)
 | .abs,[.int i]=>some (.int (if i < 0 then -i else i))
 | .int,[.int i]=>some (.int i)
 | .int,[.bl b]=>some (.int (if b then 1 else 0))
 | .str,[.int i]=>if i.natAbs.log2 < 1920 then some (.str (toString i)) else none
 | _,_=>none
noncomputable def Zbd:BI→Str
 | .len=> "len" | .max2=> "max" | .min2=> "min" | .max1=> "max" | .min1=> "min" | .sum=> "sum" | .any=> "any" | .all=> "all" | .abs=> "abs" | .int=> "int" | .str=> "str"
noncomputable def Zdb:BI→Bool
 | .int=>true | .str=>true | _=>false
noncomputable def Zb0:BI→String
 | .len=> "len" | .max2=> "max" | .min2=> "min" | .max1=> "max" | .min1=> "min" | .sum=> "sum" | .any=> "any" | .all=> "all" | .abs=> "abs" | .int=> "int" | .str=> "str"
noncomputable def rBi (K:PySem.W.Frag):BI→List V→Hp→VK→Prop
 | .len=>fun xs H Q=>(∃ x n,xs=[x]∧LenV K x H n∧Q (.int n) H)∨∃ a kvs,xs=[.ref a]∧Rd H a (.dK kvs)∧Q (.int (kvs.length:Nat)) H
 | .max2=>fun xs H Q=>∃ i j,xs=[.int i,.int j]∧Q (.int (if j > i then j else i)) H
 | .min2=>fun xs H Q=>∃ i j,xs=[.int i,.int j]∧Q (.int (if j < i then j else i)) H
 | .max1=>fun xs H Q=>rMax K xs H Q∨ZeT K xs H Q
 | .min1=>fun xs H Q=>rMin K xs H Q∨ZeU K xs H Q
 | .sum=>rSum K
 | .any=>rAny K
 | .all=>rAll K
 | .abs=>fun xs H Q=>∃ i,xs=[.int i]∧Q (.int (if i < 0 then -i else i)) H
 | .int=>fun xs H Q=>(∃ i,xs=[.int i]∧Q (.int i) H)∨∃ k,xs=[.bl k]∧Q (.int (if k then 1 else 0)) H
 | .str=>fun xs H Q=>∃ i,xs=[.int i]∧i.natAbs.log2 < 1920∧Q (.str (toString i)) H
theorem ZhC {X:Cx}:CallR X (.builtin "len") (rBi X.K .len):=by
 intro pins s σ H xs us Q I r h;rcases h with h | ⟨a,kvs,rfl,hd,q⟩
 ·exact call_len pins s σ H xs us Q I r h
 ·rw [Vals.ref1 r]
  exact d_len I hd fun t s' J=>⟨.int (kvs.length:Nat),H,J,⟨t,rfl⟩,q⟩
theorem ZhD {X:Cx} (hc:X.calm=true) (hu:X.A.units+65 < cLine) (k:BI):CallR X (if Zdb k=true then .type (Zb0 k) else .builtin (Zb0 k)) (rBi X.K k):=by
 cases k
 ·exact ZhC
 ·exact call_max2 hc
 ·exact call_min2 hc
 ·exact (cr_max hc).or (Zhz hc hu)
 ·exact (cr_min hc).or (Zhy hc hu)
 ·exact cr_sum hc
 ·exact cr_any hc
 ·exact cr_all hc
 ·exact call_abs
 ·exact call_int1
 ·exact call_str_int
theorem Zdc (k:BI):bootBuiltins (Zbd k)=some (if Zdb k=true then .type (Zb0 k) else .builtin (Zb0 k)):=by
 cases k<;>decide +kernel
theorem Vws.inv1 {ct:Str→Option Addr} {H:Hp} {F:FP} {d:D} {vs:List V} (h:Vws ct H F [d] vs):∃ v,vs=[v]∧Vw ct H F d v:=by
 obtain ⟨v,vr,ev,h1,h2⟩:=h;obtain rfl:vr=[]:=h2;exact ⟨v,ev,h1⟩
theorem Vws.inv2 {ct:Str→Option Addr} {H:Hp} {F:FP} {d e:D} {vs:List V} (h:Vws ct H F [d,e] vs):∃ v w,vs=[v,w]∧Vw ct H F d v∧Vw ct H F e w:=by
 obtain ⟨v,vr,ev,h1,h2⟩:=h;obtain ⟨w,rfl,h3⟩:=h2.inv1;exact ⟨v,w,ev,h1,h3⟩
theorem Zbe {ct:Str→Option Addr} {K:PySem.W.Frag} {H:Hp} {F:FP} {d:D} {ds:List D} {v:V} (h:Vw ct H F d v) (e:ZaK d=some ds):∃ a vs,v=.ref a∧SqL K H a vs∧Vws ct H F ds vs:=by
 cases d with
 | lst m ds'=>
  cases e;obtain ⟨a,vs,ex,ha,_,hs⟩:=h;exact ⟨a,vs,ex,.inl ha,hs⟩
 | _=>cases e
theorem ZhE {ns:List Int} {m:Int} (h:ZbY ns=some m):0 < ns.length:=by
 cases ns with
 | nil=>cases h
 | cons x xs=>simp
theorem ZhF {ns:List Int} {m:Int} (h:ZbZ ns=some m):0 < ns.length:=by
 cases ns with
 | nil=>cases h
 | cons x xs=>simp
theorem Zb1 {ct:Str→Option Addr} {K:PySem.W.Frag} (k:BI):Zec ct (rBi K k) (biD k):=by
 intro ds z vs H Q hd hz q;have one:∀ {f:List D→Option D},(∀ d,f d=biD k d)→True:=fun _=>trivial
 cases k with
 | len=>
  cases ds with
  | nil=>cases hz
  | cons d ds=>
   cases ds with
   | cons _ _=>cases d<;>cases hz
   | nil=>
    obtain ⟨v,rfl,h⟩:=hd.inv1;cases d with
    | lst m ds=>
     cases hz;obtain ⟨a,vs,rfl,ha,_,hs⟩:=h;exact .inl ⟨_,ds.length,rfl,.inl ⟨vs,.inl ha,hs.len⟩,q _ rfl⟩
    | tup ds=>
     cases hz;obtain ⟨a,vs,rfl,ha,hs⟩:=h;exact .inl ⟨_,ds.length,rfl,.inr ⟨vs,SqT.of ha,hs.len⟩,q _ rfl⟩
    | dic m ks ds=>
     cases hz;obtain ⟨a,vs,rfl,hl,ha,_,hs⟩:=h;refine .inr ⟨a,_,rfl,ha,?_⟩
     have e:(ks.zip vs).length=ks.length:=by rw [List.length_zip,←hs.len,hl,Nat.min_self]
     rw [e];exact q _ rfl
    | str s=>
     obtain rfl:v=.str s:=h;unfold biD at hz;dsimp only at hz;split at hz
     ·rename_i hl
      cases hz;exact .inl ⟨_,s.length,rfl,⟨Zac hl,rfl⟩,q _ rfl⟩
     ·cases hz
    | _=>cases hz
 | max2=>
  cases ds with
  | nil=>cases hz
  | cons d ds=>
   cases ds with
   | nil=>cases d<;>cases hz
   | cons e ds=>
    cases ds with
    | cons _ _=>cases d<;>cases e<;>cases hz
    | nil=>
     obtain ⟨v,w,rfl,h1,h2⟩:=hd.inv2;cases d<;>first | (cases e<;>cases hz; done) | skip
     cases e<;>first | (cases hz; done) | skip
     cases hz;rename_i i j;obtain rfl:v=.int i:=h1;obtain rfl:w=.int j:=h2;exact ⟨i,j,rfl,q _ rfl⟩
 | min2=>
  cases ds with
  | nil=>cases hz
  | cons d ds=>
   cases ds with
   | nil=>cases d<;>cases hz
   | cons e ds=>
    cases ds with
    | cons _ _=>cases d<;>cases e<;>cases hz
    | nil=>
     obtain ⟨v,w,rfl,h1,h2⟩:=hd.inv2;cases d<;>first | (cases e<;>cases hz; done) | skip
     cases e<;>first | (cases hz; done) | skip
     cases hz;rename_i i j;obtain rfl:v=.int i:=h1;obtain rfl:w=.int j:=h2;exact ⟨i,j,rfl,q _ rfl⟩
 | abs=>
  cases ds with
  | nil=>cases hz
  | cons d ds=>
   cases ds with
   | cons _ _=>cases d<;>cases hz
   | nil=>
    obtain ⟨v,rfl,h⟩:=hd.inv1;cases d<;>first | (cases hz; done) | skip
    cases hz;rename_i i;obtain rfl:v=.int i:=h;exact ⟨i,rfl,q _ rfl⟩
 | int=>
  cases ds with
  | nil=>cases hz
  | cons d ds=>
   cases ds with
   | cons _ _=>cases d<;>cases hz
   | nil=>
    obtain ⟨v,rfl,h⟩:=hd.inv1;cases d<;>first | (cases hz; done) | skip
    ·cases hz
     rename_i b;obtain rfl:v=.bl b:=h;exact .inr ⟨b,rfl,q _ rfl⟩
    ·cases hz
     rename_i i;obtain rfl:v=.int i:=h;exact .inl ⟨i,rfl,q _ rfl⟩
 | str=>
  cases ds with
  | nil=>cases hz
  | cons d ds=>
   cases ds with
   | cons _ _=>cases d<;>cases hz
   | nil=>
    obtain ⟨v,rfl,h⟩:=hd.inv1;cases d<;>first | (cases hz; done) | skip
    rename_i i;obtain rfl:v=.int i:=h;unfold biD at hz;dsimp only at hz;split at hz
    ·rename_i hl
     cases hz;exact ⟨i,rfl,hl,q _ rfl⟩
    ·cases hz
 | max1=>
  cases ds with
  | nil=>cases hz
  | cons d ds=>
   cases ds with
   | cons _ _=>cases hz
   | nil=>
    obtain ⟨v,rfl,h⟩:=hd.inv1;have gen:∀ es,ZaK d=some es→((Zat es).bind fun ns=>(ZbY ns).map D.int)=some z→rBi K .max1 [v] H Q:=fun es h1 hz=>by
     obtain ⟨ns,h2,hz⟩:=bind_some hz;obtain ⟨m,h3,rfl⟩:=Option.map_eq_some_iff.mp hz;obtain ⟨a,vs,rfl,hs,hw⟩:=Zbe (K:=K) h h1;rw [ZaJ h2 hw] at hs;exact .inl ⟨a,ns,rfl,hs,ZhE h3,fun m' a1 a2=>by rw [ZhA h3 a1 a2]; exact q _ rfl⟩
    cases d with
    | tup ds=>
     obtain ⟨ns,h2,hz⟩:=bind_some hz;obtain ⟨m,h3,rfl⟩:=Option.map_eq_some_iff.mp hz;obtain ⟨a,vs,rfl,ha,hw⟩:=h;have hs:SqT K H a vs:=.inl (.inl ha);rw [ZaJ h2 hw] at hs;cases ns with
     | nil=>cases h3
     | cons n ns=>
      cases h3;exact .inr ⟨a,n,ns,rfl,hs,q _ rfl⟩
    | lst m ds=>exact gen ds rfl hz
    | _=>cases hz
 | min1=>
  cases ds with
  | nil=>cases hz
  | cons d ds=>
   cases ds with
   | cons _ _=>cases hz
   | nil=>
    obtain ⟨v,rfl,h⟩:=hd.inv1;have gen:∀ es,ZaK d=some es→((Zat es).bind fun ns=>(ZbZ ns).map D.int)=some z→rBi K .min1 [v] H Q:=fun es h1 hz=>by
     obtain ⟨ns,h2,hz⟩:=bind_some hz;obtain ⟨m,h3,rfl⟩:=Option.map_eq_some_iff.mp hz;obtain ⟨a,vs,rfl,hs,hw⟩:=Zbe (K:=K) h h1;rw [ZaJ h2 hw] at hs;exact .inl ⟨a,ns,rfl,hs,ZhF h3,fun m' a1 a2=>by rw [ZhB h3 a1 a2]; exact q _ rfl⟩
    cases d with
    | tup ds=>
     obtain ⟨ns,h2,hz⟩:=bind_some hz;obtain ⟨m,h3,rfl⟩:=Option.map_eq_some_iff.mp hz;obtain ⟨a,vs,rfl,ha,hw⟩:=h;have hs:SqT K H a vs:=.inl (.inl ha);rw [ZaJ h2 hw] at hs;cases ns with
     | nil=>cases h3
     | cons n ns=>
      cases h3;exact .inr ⟨a,n,ns,rfl,hs,q _ rfl⟩
    | lst m ds=>exact gen ds rfl hz
    | _=>cases hz
 | sum=>
  cases ds with
  | nil=>cases hz
  | cons d ds=>
   cases ds with
   | cons _ _=>cases hz
   | nil=>
    obtain ⟨v,rfl,h⟩:=hd.inv1;obtain ⟨es,h1,hz⟩:=bind_some hz;obtain ⟨ns,h2,rfl⟩:=Option.map_eq_some_iff.mp hz;obtain ⟨a,vs,rfl,hs,hw⟩:=Zbe (K:=K) h h1;rw [ZaJ h2 hw] at hs;exact ⟨a,ns,rfl,hs,q _ rfl⟩
 | any=>
  cases ds with
  | nil=>cases hz
  | cons d ds=>
   cases ds with
   | cons _ _=>cases hz
   | nil=>
    obtain ⟨v,rfl,h⟩:=hd.inv1;obtain ⟨es,h1,hz⟩:=bind_some hz;obtain ⟨ns,h2,rfl⟩:=Option.map_eq_some_iff.mp hz;obtain ⟨a,vs,rfl,hs,hw⟩:=Zbe (K:=K) h h1;rw [Zc9 h2 hw] at hs;exact ⟨a,ns,rfl,hs,q _ rfl⟩
 | all=>
  cases ds with
  | nil=>cases hz
  | cons d ds=>
   cases ds with
   | cons _ _=>cases hz
   | nil=>
    obtain ⟨v,rfl,h⟩:=hd.inv1;obtain ⟨es,h1,hz⟩:=bind_some hz;obtain ⟨ns,h2,rfl⟩:=Option.map_eq_some_iff.mp hz;obtain ⟨a,vs,rfl,hs,hw⟩:=Zbe (K:=K) h h1;rw [Zc9 h2 hw] at hs;exact ⟨a,ns,rfl,hs,q _ rfl⟩
inductive TK where
 | int | bool | str | list | tuple
 deriving DecidableEq
noncomputable def ZaL:TK→String
 | .int=> "int" | .bool=> "bool" | .str=> "str" | .list=> "list" | .tuple=> "tuple"
noncomputable def tkN:TK→Str
 | .int=> "int" | .bool=> "bool" | .str=> "str" | .list=> "list" | .tuple=> "tuple"
noncomputable def ZeY (t:TK):D→Option D
 | .non=>some (.bl false)
 | .bl _=>some (.bl (decide (t=.bool∨t=.int)))
 | .int _=>some (.bl (decide (t=.int)))
 | .str _=>some (.bl (decide (t=.str)))
 | .tup _=>some (.bl (decide (t=.tuple)))
 | .lst _ _=>some (.bl (decide (t=.list)))
 | _=>none
noncomputable def ZeZ (K:PySem.W.Frag) (t:TK):V→Hp→VK→Prop:=fun x H Q=>rIsi K [x,.ty (ZaL t)] H Q
theorem ZhG {ct:Str→Option Addr} {K:PySem.W.Frag} (t:TK):Zd4 ct (ZeZ K t) (ZeY t):=by
 intro d z x H Q hd hz q;have fin:∀ (n:String) (b:Bool),TyX K H x (.type n)→kitB n (ZaL t)=some b→z=.bl b→ZeZ K t x H Q:=fun n b ty hk ez=>⟨x,.ty (ZaL t),.type n,.type (ZaL t),b,rfl,.ty _,ty,kit_ty hk,q _ (by rw [ez]; rfl)⟩
 cases d with
 | non=>
  cases hz;obtain rfl:x=.non:=hd;exact fin "NoneType" false (.base .non) (by cases t<;>decide +kernel) rfl
 | bl b=>
  cases hz;obtain rfl:x=.bl b:=hd;exact fin "bool" _ (.base (.bl b)) (by cases t<;>decide +kernel) rfl
 | int i=>
  cases hz;obtain rfl:x=.int i:=hd;exact fin "int" _ (.base (.int i)) (by cases t<;>decide +kernel) rfl
 | str s=>
  cases hz;obtain rfl:x=.str s:=hd;exact fin "str" _ (.base (.str s)) (by cases t<;>decide +kernel) rfl
 | tup ds=>
  cases hz;obtain ⟨a,vs,rfl,ha,_⟩:=hd;exact fin "tuple" _ (.base (.tup ha)) (by cases t<;>decide +kernel) rfl
 | lst m ds=>
  cases hz;obtain ⟨a,vs,rfl,ha,_⟩:=hd;refine fin "list" _ (.base ?_) (by cases t<;>decide +kernel) rfl
  rcases ha with ha | ⟨o,ha⟩
  ·exact .lst ha
  ·exact .frz ha
 | _=>cases hz
end VS
namespace VS
open PySem PySem.Spec PyProof.Rows L2
end VS
namespace VS
open PySem PySem.Spec PyProof.Rows L2
section
variable {ct:Str→Option Addr} {S S' H H' S1 H1 S2 H2:Hp} {F F' G R R' T T' Fr F1 F2 R2 Y Fx Fm:FP} {ρ ρ' ρ1 ρ2:Rho} {σ σ1:L2.St} {K:PySem.W.Frag}
theorem State.view {i:Nat} {d:D} {v:V} (st:State ct S H F R ρ σ) (h0:ρ[i]?=some .dead) (e:σ[i]?=some (some v)) (q:Vw ct H (Cup F R) d v):State ct S H F R (ρ.set i (.vw d)) σ:=by
 obtain ⟨fs,h1,h2,h3⟩:=st.fs;refine ⟨st.w,st.dj,by rw [List.length_set]; exact st.len,fs,h1,h2,fun k s es=>?_⟩
 by_cases hk:i=k
 ·subst hk
  have hl:i < ρ.length:=(List.getElem?_eq_some_iff.mp h0).1;rw [List.getElem?_set_self hl] at es;cases es;exact ⟨v,e,q⟩
 ·rw [List.getElem?_set_ne hk] at es
  exact h3 k s es
end
end VS
namespace VS
open PySem PySem.Spec PyProof.Rows L2
end VS
namespace VS
open PySem PySem.Spec PyProof.Rows L2
end VS
namespace VS
open PySem PySem.Spec PyProof.Rows L2
noncomputable abbrev Zf (h:Heap) (z TI TO:Addr) (ow:Value) (f:Bool):Prop:=
 h.get? z=some { cls:=.type "zip",dict:=none,data:=.fields #[ow,.bool f,.bool false,.ref TI,.ref TO],slots:=#[] }
section
variable {prog:Program} {w:World} {A:Around} {E:Value→Shared→Prop} {s:Shared} {z TI TO i1 i2 l1 l2:Addr} {k1 k2:Nat} {xs ys:Array Value} {x y a b:Value} {ow:Value} {f:Bool}
noncomputable def Zok (h:Heap) (z TI TO:Addr):Prop:=Zf h z TI TO .none false∨∃ (T:Addr) (f:Bool),Zf h z TI TO (rawInt T) f
theorem Zok.lt {h:Heap} (hz:Zok h z TI TO):z < h.objs.size:=by
 rcases hz with h | ⟨_,_,h⟩<;>exact Heap.lt_size h
theorem Zok.ty (hz:Zok s.heap z TI TO):s.TypeIs (.ref z) "zip":=by
 rcases hz with h | ⟨_,_,h⟩<;>exact ⟨_,h,rfl⟩
end
end VS
namespace VS
open PySem PySem.Spec PyProof.Rows L2
end VS
namespace VS
open PySem PySem.Spec PyProof.Rows L2
end VS
namespace VS
open PySem PySem.Spec PyProof.Rows L2
end VS
namespace VS
open PySem PySem.Spec PyProof.Rows L2
end VS
namespace VS
open PySem PySem.Spec PyProof.Rows L2
end VS
set_option maxHeartbeats 8000000
namespace VS
open PySem PySem.Spec PyProof.Rows L2
end VS
namespace VS
open PySem PySem.Spec PyProof.Rows L2
end VS
namespace VS
open PySem PySem.Spec PyProof.Rows L2
inductive SX where
 | v (i:Nat) | c (n:Int) | add (a b:SX) | sub (a b:SX)
noncomputable def sxV:SX→Rho→Option Int
 | .v i,ρ=>match ρ[i]? with
  | some (.own (.int n))=>some n
  | some (.vw (.int n))=>some n
  | _=>none
 | .c n,_=>some n
 | .add a b,ρ=>(sxV a ρ).bind fun x=>(sxV b ρ).bind fun y=>some (x+y)
 | .sub a b,ρ=>(sxV a ρ).bind fun x=>(sxV b ρ).bind fun y=>some (x - y)
noncomputable def tSx:SX→TE
 | .v i=>tVar i
 | .c n=>tC (.int n)
 | .add a b=>tOp (ZbS .add) (tSx a) (tSx b)
 | .sub a b=>tOp (ZbS .sub) (tSx a) (tSx b)
theorem ZhH {H:Hp} {p:Addr} {x y:HO}:upd (upd H p x) p y=upd H p y:=by
 funext b
 by_cases h:b=p
 ·subst h; rw [upd_same,upd_same]
 ·rw [upd_ne h,upd_ne h,upd_ne h]
section
variable {ct:Str→Option Addr} {io:List Nat} {S S' H H' S1 H1 S2 H2:Hp} {F F' G R R' T T' Fr F1 F2 R2 Y Fx:FP} {ρ ρ' ρ2:Rho} {σ σ1:L2.St} {K:PySem.W.Frag}
theorem Z1 (st:State ct S H F R ρ σ):∀ (e:SX) {i:Int},sxV e ρ=some i→∀ (H':Hp) (Q:VK),Q (.int i) H'→tSx e σ H' Q
 | .v j,i,h,H',Q,q=>by
  unfold sxV at h;split at h
  ·rename_i n hn
   cases h;obtain ⟨Fi,si,v,hv,rep⟩:=st.slot hn;exact ⟨v,hv,by rw [show v=.int i from rep]; exact q⟩
  ·rename_i n hn
   cases h;obtain ⟨Fi,si,v,hv,rep⟩:=st.slot hn;exact ⟨v,hv,by rw [show v=.int i from rep]; exact q⟩
  ·cases h
 | .c n,i,h,H',Q,q=>by cases h; exact q
 | .add a b,i,h,H',Q,q=>by
  obtain ⟨x,hx,h⟩:=bind_some h;obtain ⟨y,hy,h⟩:=bind_some h;cases h;exact Z1 st a hx H' _ (Z1 st b hy H' _ (ZbU (ct:=ct) .add (.int x) (.int y) (.int (x+y)) _ _ H' Q rfl rfl rfl fun v hv=>by rw [show v=.int (x+y) from hv]; exact q))
 | .sub a b,i,h,H',Q,q=>by
  obtain ⟨x,hx,h⟩:=bind_some h;obtain ⟨y,hy,h⟩:=bind_some h;cases h;exact Z1 st a hx H' _ (Z1 st b hy H' _ (ZbU (ct:=ct) .sub (.int x) (.int y) (.int (x - y)) _ _ H' Q rfl rfl rfl fun v hv=>by rw [show v=.int (x - y) from hv]; exact q))
theorem Reps.fam:∀ {ds:List D} {vs:List V} {F:FP},Reps ct S H ds vs F→∃ fs:Nat→FP,(∀ i,Sub (fs i) F)∧(∀ i j,i≠j→Dj (fs i) (fs j))∧∀ i d v,ds[i]?=some d→vs[i]?=some v→Rep ct S H d v (fs i)
 | [],_,F,_=>⟨fun _=>No,fun _=>Sub.no,fun _ _ _ _ z=>z.elim,fun i d v h=>by simp at h⟩
 | d ::ds,_,F,⟨v,vr,F1,F2,e,s1,s2,dj,h1,h2⟩=>by
  subst e;obtain ⟨fs,g1,g2,g3⟩:=Reps.fam h2;refine ⟨fun i=>match i with | 0=>F1 | i+1=>fs i,fun i=>?_,fun i j n=>?_,fun i x y hx hy=>?_⟩
  ·cases i with
   | zero=>exact s1
   | succ i=>exact (g1 i).trans s2
  ·cases i with
   | zero=>cases j with
    | zero=>exact absurd rfl n
    | succ j=>exact fun c z z2=>dj c z (g1 j c z2)
   | succ i=>cases j with
    | zero=>exact fun c z z2=>dj c z2 (g1 i c z)
    | succ j=>exact g2 i j fun z=>n (by rw [z])
  ·cases i with
   | zero=>simp at hx hy; subst hx hy; exact h1
   | succ i=>exact g3 i x y (by simpa using hx) (by simpa using hy)
theorem Reps.of_fam:∀ {ds:List D} {vs:List V} {F:FP} (fs:Nat→FP),ds.length=vs.length→(∀ i,Sub (fs i) F)→(∀ i j,i≠j→Dj (fs i) (fs j))→(∀ i d v,ds[i]?=some d→vs[i]?=some v→Rep ct S H d v (fs i))→Reps ct S H ds vs F
 | [],[],F,_,_,_,_,_=>rfl
 | [],_ ::_,F,_,h,_,_,_=>by cases h
 | _ ::_,[],F,_,h,_,_,_=>by cases h
 | d ::ds,v ::vs,F,fs,h,g1,g2,g3=>by
  refine ⟨v,vs,fs 0,fun c=>∃ i,fs (i+1) c,rfl,g1 0,fun c ⟨i,z⟩=>g1 _ c z,fun c z ⟨i,z2⟩=>g2 0 (i+1) (by omega) c z z2,g3 0 d v rfl rfl,?_⟩
  exact Reps.of_fam (fun i=>fs (i+1)) (by simpa using h) (fun i c z=>⟨i,z⟩) (fun i j n=>g2 _ _ (by omega)) fun i x y hx hy=>g3 (i+1) x y (by simpa using hx) (by simpa using hy)
theorem Reps.swap {ds:List D} {vs:List V} {i k:Nat} {d e:D} {v w:V} (h:Reps ct S H ds vs F) (hd:ds[i]?=some d) (he:ds[k]?=some e) (hv:vs[i]?=some v) (hw:vs[k]?=some w):Reps ct S H ((ds.set i e).set k d) ((vs.set i w).set k v) F:=by
 obtain ⟨fs,g1,g2,g3⟩:=h.fam;have hil:i < ds.length:=(List.getElem?_eq_some_iff.mp hd).1;have hkl:k < ds.length:=(List.getElem?_eq_some_iff.mp he).1;have hl:=h.len;refine Reps.of_fam (fun j=>if j=k then fs i else if j=i then fs k else fs j) (by simp [hl]) (fun j=>?_) (fun a b n=>?_) fun j x y hx hy=>?_
 ·split
  ·exact g1 _
  ·split<;>exact g1 _
 ·by_cases a1:a=k<;>by_cases b1:b=k<;>by_cases a2:a=i<;>by_cases b2:b=i<;>simp only [a1,b1,a2,b2,if_true,if_false]<;>first | exact g2 _ _ (by omega) | (subst_vars; first | exact absurd rfl n | (split<;>exact g2 _ _ (by omega)))
 ·by_cases j1:j=k
  ·subst j1
   rw [if_pos rfl];rw [List.getElem?_set_self (by rw [List.length_set]; exact hkl)] at hx;rw [List.getElem?_set_self (by rw [List.length_set]; omega)] at hy;cases hx; cases hy;exact g3 i _ _ hd hv
  ·rw [if_neg j1]
   rw [List.getElem?_set_ne (Ne.symm j1)] at hx hy;by_cases j2:j=i
   ·subst j2
    rw [if_pos rfl];rw [List.getElem?_set_self hil] at hx;rw [List.getElem?_set_self (by omega)] at hy;cases hx; cases hy;exact g3 k _ _ he hw
   ·rw [if_neg j2]
    rw [List.getElem?_set_ne (Ne.symm j2)] at hx hy;exact g3 j _ _ hx hy
noncomputable def Zbf (K:PySem.W.Frag) (i:Nat) (a b c d:SX):TS:=tAsg (tTup (tCons (tOp (Zad K) (tVar i) (tSx c)) (tCons (tOp (Zad K) (tVar i) (tSx d)) tNil))) (gTup K 2 (gCons (gSub (tVar i) (tSx a) rSetL) (gCons (gSub (tVar i) (tSx b) rSetL) gNil)))
theorem ZhI {i0:Nat} {p:Addr} {vs:List V} {a b c d:SX} {ia ib ic id:Int} {ka kb:Nat} {v w:V} {Dn:Ends} (hσ:σ[i0]?=some (some (.ref p))) (hH:H p=some (.lst vs))
  (sa:∀ (H:Hp) (Q:VK),Q (.int ia) H→tSx a σ H Q) (sb:∀ (H:Hp) (Q:VK),Q (.int ib) H→tSx b σ H Q) (sc:∀ (H:Hp) (Q:VK),Q (.int ic) H→tSx c σ H Q) (sd:∀ (H:Hp) (Q:VK),Q (.int id) H→tSx d σ H Q)
  (ha:ixN vs.length ia=some ka) (hb:ixN vs.length ib=some kb) (hc:ixN vs.length ic=some kb) (hd:ixN vs.length id=some ka) (hv:vs[ka]?=some v) (hw:vs[kb]?=some w)
  (k:∀ q,H q=none→Dn.nx σ (upd (upd H q (.tup [w,v])) p (.lst ((vs.set ka w).set kb v)))):Zbf K i0 a b c d Dn σ H:=by
 refine ⟨.ref p,hσ,sc _ _ ?_⟩
 refine .inl (.inl ⟨p,vs,ic,w,rfl,rfl,SqL.of hH,by unfold atI; rw [hc]; exact hw,?_⟩)
 refine ⟨.ref p,hσ,sd _ _ ?_⟩
 refine .inl (.inl ⟨p,vs,id,v,rfl,rfl,SqL.of hH,by unfold atI; rw [hd]; exact hv,?_⟩)
 refine ⟨by show 2≤sizeLine; decide,fun q hq=>?_⟩
 have hH':upd H q (.tup [w,v]) p=some (.lst vs):=Zm hq hH;refine ⟨q,[w,v],rfl,SqT.of upd_same,rfl,w,[v],rfl,.ref p,hσ,sa _ _ ?_⟩
 refine ⟨p,vs,ia,ka,rfl,rfl,hH',ha,v,[],rfl,.ref p,hσ,sb _ _ ?_⟩
 refine ⟨p,vs.set ka w,ib,kb,rfl,rfl,upd_same,by rw [List.length_set]; exact hb,rfl,?_⟩
 rw [ZhH];exact k q hq
noncomputable def swD (ds:List D) (ia ib ic id:Int):Option (Nat×Nat×D×D):=(ixN ds.length ia).bind fun ka=>(ixN ds.length ib).bind fun kb=>if ixN ds.length ic=some kb∧ixN ds.length id=some ka then (ds[ka]?).bind fun x=>(ds[kb]?).bind fun y=>some (ka,kb,x,y) else none
noncomputable def swL (ds:List D) (t:Nat×Nat×D×D):List D:=(ds.set t.1 t.2.2.2).set t.2.1 t.2.2.1
noncomputable def sx4 (a b c d:SX) (ρ:Rho):Option (Int×Int×Int×Int):=(sxV a ρ).bind fun ia=>(sxV b ρ).bind fun ib=>(sxV c ρ).bind fun ic=>(sxV d ρ).bind fun id=>some (ia,ib,ic,id)
theorem State.killV {i:Nat} {u:Option V} (st:State ct S H F R ρ σ):State ct S H F R (ρ.set i .dead) (σ.set i u):=by
 obtain ⟨fs,h1,h2,h3⟩:=st.fs;refine ⟨st.w,st.dj,by rw [List.length_set,List.length_set]; exact st.len,fs,h1,h2,fun k s es=>?_⟩
 by_cases hk:i=k
 ·subst hk
  by_cases hl:i < ρ.length
  ·rw [List.getElem?_set_self hl] at es
   cases es;trivial
  ·rw [List.getElem?_eq_none (by rw [List.length_set]; omega)] at es
   cases es
 ·rw [List.getElem?_set_ne hk] at es ⊢
  exact h3 k s es
noncomputable def Zdd (io:List Nat) (l j:Nat) (r a b c d:SX):MS:=fun ρ=>if io.contains l=true∨l=j∨ρ.length≤l then none else (ownL ρ j).bind fun ds=>(sxV r ρ).bind fun ir=>(ZeF ds ir).bind fun n=>(sx4 a b c d (ρ.set l .dead)).bind fun i=>(swD n.2 i.1 i.2.1 i.2.2.1 i.2.2.2).bind fun t=>
 some (.nx ((ρ.set l .dead).set j (.own (.lst true (ds.set n.1 (.lst true (swL n.2 t)))))))
theorem ZhJ {l j:Nat} {r a b c d:SX}:∀ D σ H,tS ct io (Zdd io l j r a b c d) D σ H→tSeq (tAsg (tOp (Zad K) (tVar j) (tSx r)) (gName l)) (Zbf K l a b c d) D σ H:=by
 rintro D σ H ⟨ρ,S,F,R,o,st,e,k⟩;unfold Zdd at e;split at e
 ·cases e
 rename_i hn;have nio:l∉io:=fun z=>hn (.inl (List.contains_iff_mem.mpr z))
 have nlj:l≠j:=fun z=>hn (.inr (.inl z))
 have hll:l < ρ.length:=Nat.lt_of_not_le fun z=>hn (.inr (.inr z))
 obtain ⟨ds,hds,e⟩:=bind_some e;obtain ⟨ir,hr,e⟩:=bind_some e;obtain ⟨n,hne,e⟩:=bind_some e;obtain ⟨kk,es⟩:=n;obtain ⟨ii,hi,e⟩:=bind_some e;obtain ⟨t,ht,e⟩:=bind_some e;cases e;obtain ⟨ia,h1,hi⟩:=bind_some hi;obtain ⟨ib,h2,hi⟩:=bind_some hi;obtain ⟨ic,h3,hi⟩:=bind_some hi;obtain ⟨id,h4,hi⟩:=bind_some hi;cases hi;obtain ⟨ka,ha,ht⟩:=bind_some ht;obtain ⟨kb,hb,ht⟩:=bind_some ht;split at ht
 ·rename_i hcd
  obtain ⟨x,hx,ht⟩:=bind_some ht;obtain ⟨y,hy,ht⟩:=bind_some ht;cases ht;obtain ⟨u,Fj,hσ,sj,st1,rep⟩:=st.move (ZZ hds);obtain ⟨p0,vs0,F',ex,n0,hs0⟩:=rep;obtain ⟨hH0,na,nF,sF⟩:=n0;subst ex;obtain ⟨hk1,hk2⟩:=Zhn hne;obtain ⟨wv,A,ew,hw0,sA,upd_⟩:=hs0.set hk2;obtain ⟨p,vs,B',eb,nb,hs⟩:=hw0;obtain ⟨hH,nbA,nbB,sB⟩:=nb;subst eb;have hat:atI vs0 ir=some (.ref p):=by
   unfold atI;rw [←hs0.len,hk1];exact ew
  refine ⟨.ref p0,hσ,Z1 st r hr _ _ ?_⟩
  refine .inl (.inl ⟨p0,vs0,ir,.ref p,rfl,rfl,SqL.of hH0,hat,?_⟩)
  have hlσ:l < σ.length:=by rw [←st.len]; exact hll
  have hσl:(σ.set l (some (.ref p)))[l]?=some (some (.ref p)):=List.getElem?_set_self hlσ;have stK:State ct S H F R (ρ.set l .dead) (σ.set l (some (.ref p))):=st.killV;obtain ⟨v,hv⟩:∃ v,vs[ka]?=some v:=⟨vs[ka]'(by rw [←hs.len]; exact (List.getElem?_eq_some_iff.mp hx).1),List.getElem?_eq_getElem _⟩;obtain ⟨w,hw⟩:∃ w,vs[kb]?=some w:=⟨vs[kb]'(by rw [←hs.len]; exact (List.getElem?_eq_some_iff.mp hy).1),List.getElem?_eq_getElem _⟩;rw [hs.len] at ha hb hcd;show Zbf K l a b c d D (σ.set l (some (.ref p))) H;refine ZhI hσl hH (Z1 stK a h1) (Z1 stK b h2) (Z1 stK c h3) (Z1 stK d h4) ha hb hcd.1 hcd.2 hv hw fun q hq=>?_
  have hH':upd H q (.tup [w,v]) p=some (.lst vs):=Zm hq hH;have pj:Fj p:=sF p (sA p nbA);have stA:=((st1.killV (i:=l) (u:=some (.ref p))).alloc (o:=.tup [w,v]) hq).mutT (vs2:=(vs.set ka w).set kb v) (.inl (.inr pj)) hH';have hs2:=Reps.mutR (o:=.lst ((vs.set ka w).set kb v)) hH' nbB (Reps.alloc (p:=q) (o:=.tup [w,v]) hq (hs.swap hx hy hv hw));have repb:Rep ct S (upd (upd H q (.tup [w,v])) p (.lst ((vs.set ka w).set kb v))) (.lst true (swL es (ka,kb,x,y))) (.ref p) A:=⟨p,_,B',rfl,⟨upd_same,nbA,nbB,sB⟩,hs2⟩;have keep:∀ c o,c≠p→H c=some o→upd (upd H q (.tup [w,v])) p (.lst ((vs.set ka w).set kb v)) c=some o:=fun c o z e=>by rw [upd_ne z]; exact Zm hq e
  have hset:=upd_ S (upd (upd H q (.tup [w,v])) p (.lst ((vs.set ka w).set kb v))) (.lst true (swL es (ka,kb,x,y))) (.ref p) A (fun _ _ z=>z) (fun c us z=>keep c _ (fun z2=>by subst z2; rw [z] at hH; cases hH) z) (fun c o z _ z2=>keep c o (fun z3=>by subst z3; exact z2 nbA) z) repb fun c z=>.inl z
  rw [Zhm ew] at hset;have np:p0≠p:=fun z=>nF (by rw [z]; exact sA p nbA)
  have nC:¬ Cup (Dif F' A) A p0:=fun z=>z.elim (fun z=>nF z.1) fun z=>nF (sA p0 z)
  have rep2:Rep ct S (upd (upd H q (.tup [w,v])) p (.lst ((vs.set ka w).set kb v))) (.lst true (ds.set kk (.lst true (swL es (ka,kb,x,y))))) (.ref p0) (Cup (One p0) (Cup (Dif F' A) A)):=⟨p0,vs0,_,rfl,⟨keep p0 _ np hH0,.inl rfl,nC,Sub.cupR⟩,hset⟩;have hjl:j < ρ.length:=(List.getElem?_eq_some_iff.mp (ZZ hds)).1;have sP:Sub (Cup (One p0) (Cup (Dif F' A) A)) Fj:=fun c z=>by
   rcases z with z | z | z
   ·rw [z]; exact na
   ·exact sF c z.1
   ·exact sF c (sA c z)
  have stB:=stA.put (i:=j) (d:=.lst true (ds.set kk (.lst true (swL es (ka,kb,x,y))))) (v:=.ref p0) (by rw [List.getElem?_set_ne nlj,List.getElem?_set_self hjl]) (by rw [List.getElem?_set_ne nlj]; exact hσ) rep2 fun c z=>.inl (.inr (sP c z))
  rw [List.set_comm _ _ (Ne.symm nlj),Zc7] at stB;refine k S _ _ _ ⟨stB.drop fun c z=>⟨.inl (.inl z),fun z2=>st.dj c (sj c (sP c z2)) z⟩,?_,fun i hi=>List.getElem?_set_ne fun z=>nio (by rw [z]; exact hi)⟩
  have t1:Tr S H F S (upd H q (.tup [w,v])) (Cup F (One q)):=Tr.alloc hq;have t2:Tr S (upd H q (.tup [w,v])) (Cup F (One q)) S (upd (upd H q (.tup [w,v])) p (.lst ((vs.set ka w).set kb v))) (Cup F (One q)):=Tr.mutT (.inl (sj p pj)) hH';exact (t1.trans t2).grow fun c z=>z.elim (fun z=>.inl z.1) fun z=>.inl (sj c (sP c z))
 ·cases ht
end
end VS
namespace VS
open PySem PySem.Spec PyProof.Rows L2
end VS
namespace VS
open PySem PySem.Spec PyProof.Rows L2
end VS
namespace VS
open PySem PySem.Spec PyProof.Rows L2
end VS
namespace VS
open PySem PySem.Spec PyProof.Rows L2
end VS
set_option maxHeartbeats 4000000
namespace VS
open PySem PySem.Spec PyProof.Rows L2
end VS
namespace VS
open PySem PySem.Spec PyProof.Rows L2
noncomputable def ZSt (z TI TO i1 i2 l1 l2:Addr) (xs ys:Array Value) (i:Nat) (h:Heap):Prop:=
 Zok h z TI TO∧PySem.IsPair h TI (.ref i1) (.ref i2)∧(∃ c d,PySem.IsPair h TO c d)∧h.IsListIter i1 l1 i∧h.IsListIter i2 l2 i∧h.IsList l1 xs∧h.IsList l2 ys
structure ZIt (xs ys:Array Value) (lo:Nat) (h:Heap) (acc:Array Value) (Ts:List Addr):Prop where
 eq : acc=(Ts.map Value.ref).toArray
 inc : Ts.Pairwise (· < ·)
 rg : ∀ T∈Ts,lo≤T∧T < h.objs.size
 pr : ∀ (j:Nat) (T:Addr),Ts[j]?=some T→∃ x y,xs[j]?=some x∧ys[j]?=some y∧PySem.IsPair h T x y
section
variable {prog:Program} {w:World} {A:Around} {R:Result→Shared→Prop} {z TI TO i1 i2 l1 l2 S:Addr} {xs ys:Array Value}
theorem ZSt.keep (D:ZipApart z TI TO i1 i2 l1 l2) {i:Nat} {h h':Heap} (st:ZSt z TI TO i1 i2 l1 l2 xs ys i h) (k:∀ b∈[z,TI,TO,i1,i2,l1,l2],∀ o,h.get? b=some o→h'.get? b=some o):ZSt z TI TO i1 i2 l1 l2 xs ys i h':=by
 obtain ⟨hz,hTI,⟨c,d,hTO⟩,h1,h2,hl1,hl2⟩:=st;refine ⟨?_,k _ (by simp) _ hTI,⟨c,d,k _ (by simp) _ hTO⟩,h1.at fun o e=>k _ (by simp) o e,h2.at fun o e=>k _ (by simp) o e,hl1.at fun o e=>k _ (by simp) o e,hl2.at fun o e=>k _ (by simp) o e⟩
 rcases hz with hz | ⟨T,f,hz⟩
 ·exact .inl (k _ (by simp) _ hz)
 ·exact .inr ⟨T,f,k _ (by simp) _ hz⟩
theorem ZIt.step {lo:Nat} {h h':Heap} {acc:Array Value} {Ts:List Addr} {bad:List Addr} (hit:ZIt xs ys lo h acc Ts) (hlo:∀ b∈bad,b < lo) (k:∀ b o,b∉bad→h.get? b=some o→h'.get? b=some o):ZIt xs ys lo h' acc Ts:=by
 have nT:∀ T∈Ts,T∉bad:=fun T hT hb=>Nat.not_lt.mpr (hit.rg T hT).1 (hlo T hb)
 refine ⟨hit.eq,hit.inc,fun T hT=>⟨(hit.rg T hT).1,?_⟩,fun j T hj=>?_⟩
 ·obtain ⟨j,hj⟩:=List.getElem?_of_mem hT
  obtain ⟨x,y,_,_,e⟩:=hit.pr j T hj;exact Heap.lt_size (k T _ (nT T hT) e)
 ·obtain ⟨x,y,ex,ey,e⟩:=hit.pr j T hj
  exact ⟨x,y,ex,ey,k T _ (nT T (List.mem_of_getElem? hj)) e⟩
variable {E:Value→Shared→Prop} {s:Shared}
end
noncomputable def Ze0 (H:Hp):List Addr→List (V×V)→Hp
 | [],_=>H
 | _ ::_,[]=>H
 | T ::Ts,p ::ps=>Ze0 (upd H T (.tup [p.1,p.2])) Ts ps
theorem Inv.tups {X:Cx} {pins:List (Addr×Obj)} {σ:L2.St} {g:Heap} {s:Shared}:∀ (Ts:List Addr) (ps:List (V×V)) (H:Hp) (G0:Heap),Inv X pins σ H { s with heap:=G0 }→(∀ b o,G0.get? b=some o→g.get? b=some o)→Ts.Nodup→(∀ T∈Ts,G0.get? T=none)→(∀ T∈Ts,H T=none)→
  (∀ (j:Nat) (T:Addr),Ts[j]?=some T→∃ p x y,ps[j]?=some p∧RelV p.1 x∧RelV p.2 y∧PySem.IsPair g T x y)→
  ∃ G1,Inv X pins σ (Ze0 H Ts ps) { s with heap:=G1 }∧(∀ b o,G1.get? b=some o→g.get? b=some o)∧∀ b,b∉Ts→G0.get? b=none→G1.get? b=none
 | [],_,H,G0,I,k,_,_,_,_=>⟨G0,I,k,fun b _ h=>h⟩
 | T ::Ts,[],H,G0,I,k,_,_,_,hp=>by
  obtain ⟨p,x,y,e,_⟩:=hp 0 T rfl;cases e
 | T ::Ts,p ::ps,H,G0,I,k,hn,h0,hH,hp=>by
  have hn':=List.nodup_cons.mp hn;obtain ⟨G,g1,g2⟩:=restrict g fun b=>(G0.get? b).isSome || decide (b=T)
  have e0:=h0 T (List.mem_cons_self ..);have kG:∀ b o,G0.get? b=some o→G.get? b=some o:=fun b o e=>by rw [g1 b (by rw [e]; rfl)]; exact k b o e
  have kg:∀ b o,G.get? b=some o→g.get? b=some o:=fun b o e=>by
   cases hb:((G0.get? b).isSome || decide (b=T)) with
   | true=>rwa [g1 b hb] at e
   | false=>rw [g2 b hb] at e; cases e
  obtain ⟨p',x,y,ep,r1,r2,hpr⟩:=hp 0 T rfl;cases ep;have gT:G.get? T=some { cls:=.type "tuple",data:=.seq #[x,y] }:=by rw [g1 T (by simp)]; exact hpr
  have I1:Inv X pins σ (upd H T (.tup [p.1,p.2])) { s with heap:=G }:=I.laidN (t':=s.toks) kG e0 (hH T (List.mem_cons_self ..)) (show ObjOk X.prog X.w _ G T (.tup [p.1,p.2]) from ⟨by show 2≤sizeLine; rw [sizeLine_eq]; decide,[x,y],.cons r1 (.cons r2 .nil),⟨_,gT,rfl,_,rfl⟩⟩);obtain ⟨G1,I2,k2,n2⟩:=Inv.tups Ts ps _ G I1 kg hn'.2 (fun T' hT'=>g2 T' (by
   have : T'≠T:=fun e=>hn'.1 (e▸hT')
   rw [h0 T' (List.mem_cons_of_mem _ hT')];simp [this])) (fun T' hT'=>by
   have : T'≠T:=fun e=>hn'.1 (e▸hT')
   rw [upd_ne this]; exact hH T' (List.mem_cons_of_mem _ hT')) fun j T' hj=>hp (j+1) T' hj
  refine ⟨G1,I2,k2,fun b hb h=>n2 b (fun z=>hb (List.mem_cons_of_mem _ z)) (g2 b ?_)⟩
  have : b≠T:=fun e=>hb (e▸List.mem_cons_self ..)
  rw [h]; simp [this]
end VS
namespace VS
open PySem PySem.Spec PyProof.Rows L2
end VS
namespace VS
open PySem PySem.Spec PyProof.Rows L2
noncomputable def ZStT (z TI TO i1 i2 l1 l2:Addr) (xs ys:Array Value) (i:Nat) (h:Heap):Prop:=
 Zok h z TI TO∧PySem.IsPair h TI (.ref i1) (.ref i2)∧(∃ c d,PySem.IsPair h TO c d)∧h.IsTupleIter i1 l1 i∧h.IsTupleIter i2 l2 i∧h.IsTuple l1 xs∧h.IsTuple l2 ys
section
variable {prog:Program} {w:World} {A:Around} {R:Result→Shared→Prop} {z TI TO i1 i2 l1 l2 S:Addr} {xs ys:Array Value}
theorem ZStT.keep (D:ZipApart z TI TO i1 i2 l1 l2) {i:Nat} {h h':Heap} (st:ZStT z TI TO i1 i2 l1 l2 xs ys i h) (k:∀ b∈[z,TI,TO,i1,i2,l1,l2],∀ o,h.get? b=some o→h'.get? b=some o):ZStT z TI TO i1 i2 l1 l2 xs ys i h':=by
 obtain ⟨hz,hTI,⟨c,d,hTO⟩,h1,h2,hl1,hl2⟩:=st;refine ⟨?_,k _ (by simp) _ hTI,⟨c,d,k _ (by simp) _ hTO⟩,h1.at fun o e=>k _ (by simp) o e,h2.at fun o e=>k _ (by simp) o e,hl1.at fun o e=>k _ (by simp) o e,hl2.at fun o e=>k _ (by simp) o e⟩
 rcases hz with hz | ⟨T,f,hz⟩
 ·exact .inl (k _ (by simp) _ hz)
 ·exact .inr ⟨T,f,k _ (by simp) _ hz⟩
variable {E:Value→Shared→Prop} {s:Shared}
end
end VS
namespace VS
open PySem PySem.Spec PyProof.Rows L2
end VS
namespace VS
open PySem PySem.Spec PyProof.Rows L2
end VS
namespace VS
open PySem PySem.Spec PyProof.Rows L2
section
variable {ct:Str→Option Addr} {S S' H H' S1 H1 S2 H2:Hp} {F F' G R R' T T' Fr F1 F2 R2 Y Fx Fm:FP} {ρ ρ' ρ1 ρ2:Rho} {σ σ1:L2.St}
theorem Vws.alloc {p:Addr} {o:HO} {ds:List D} {vs:List V} (hp:H p=none) (h:Vws ct H F ds vs):Vws ct (upd H p o) F ds vs:=
 Vws.tr (fun a vs x=>Zm hp x) (fun a o x _=>Zm hp x) (fun a z=>.inl z) h
end
end VS
namespace VS
open PySem PySem.Spec PyProof.Rows L2
section
variable {ct:Str→Option Addr} {io io2:List Nat} {S S' H H' S1 H1 S2 H2:Hp} {F F' G R R' T T' Fr F1 F2 R2 Y Fx Fm:FP} {ρ ρ' ρ1 ρ2:Rho} {σ σ1:L2.St}
theorem Stay.mono (k:∀ i∈io,i∈io2) (s:Stay io2 σ σ1):Stay io σ σ1:=fun i h=>s i (k i h)
theorem EndS.mono {o:Out} {D:Ends} (k:∀ i∈io,i∈io2) (h:EndS ct io S H F R σ o D):EndS ct io2 S H F R σ o D:=by
 cases o with
 | nx ρ'=>exact fun S' H' F' σ' P=>h S' H' F' σ' ⟨P.st,P.tr,P.stay.mono k⟩
 | ct ρ'=>exact fun S' H' F' σ' P=>h S' H' F' σ' ⟨P.st,P.tr,P.stay.mono k⟩
 | bk ρ'=>exact fun S' H' F' σ' P=>h S' H' F' σ' ⟨P.st,P.tr,P.stay.mono k⟩
 | rt d ρ'=>exact fun S' H' F' Fr σ' v P=>h S' H' F' Fr σ' v ⟨P.st,P.djr,P.tr,P.rep,P.stay.mono k⟩
theorem Vws.append:∀ {ds es:List D} {vs us:List V},Vws ct H F ds vs→Vws ct H F es us→Vws ct H F (ds++es) (vs++us)
 | [],es,vs,us,h,k=>by
  have e:vs=[]:=h;subst e;exact k
 | d ::ds,es,vs,us,⟨v,vr,e,h1,h2⟩,k=>by
  subst e;exact ⟨v,vr++us,rfl,h1,Vws.append h2 k⟩
end
end VS
namespace VS
open PySem PySem.Spec PyProof.Rows L2
end VS
namespace VS
open PySem PySem.Spec PyProof.Rows L2
noncomputable def Zv:Expr→Option Str
 | .Name x _=>some x
 | _=>none
theorem Zah {e:Expr} {x:Str} (h:Zv e=some x):∃ p,e=.Name x p:=by
 unfold Zv at h;split at h
 ·cases h; exact ⟨_,rfl⟩
 ·cases h
end VS
namespace VS
open PySem PySem.Spec PyProof.Rows L2
end VS
set_option maxHeartbeats 8000000
namespace VS
open PySem PySem.Spec PyProof.Rows L2
section
variable {ct:Str→Option Addr} {S S' H H' S1 H1 S2 H2:Hp} {F F' G R R' T T' Fr F1 F2 R2 Y Fx Fm:FP} {ρ ρ' ρ1 ρ2:Rho} {σ σ1:L2.St}
theorem Vws.drop:∀ {ds:List D} {vs:List V} (k:Nat),Vws ct H F ds vs→Vws ct H F (ds.drop k) (vs.drop k)
 | ds,vs,0,h=>h
 | [],vs,k+1,h=>by
  have e:vs=[]:=h;subst e;exact h
 | d ::ds,vs,k+1,⟨v,vr,e,h1,h2⟩=>by
  subst e;exact Vws.drop k h2
theorem Vws.take:∀ {ds:List D} {vs:List V} (k:Nat),Vws ct H F ds vs→Vws ct H F (ds.take k) (vs.take k)
 | [],vs,k,h=>by
  have e:vs=[]:=h;subst e;cases k<;>exact rfl
 | d ::ds,vs,0,h=>rfl
 | d ::ds,vs,k+1,⟨v,vr,e,h1,h2⟩=>by
  subst e;exact ⟨v,vr.take k,rfl,h1,Vws.take k h2⟩
end
end VS
namespace VS
open PySem PySem.Spec PyProof.Rows L2
end VS
namespace VS
open PySem PySem.Spec PyProof.Rows L2
end VS
namespace VS
open PySem PySem.Spec PyProof.Rows L2
end VS
namespace VS
open PySem PySem.Spec PyProof.Rows L2
end VS
namespace VS
open PySem PySem.Spec PyProof.Rows L2
end VS
set_option maxHeartbeats 4000000
namespace VS
open PySem PySem.Spec PyProof.Rows L2
theorem Zd {α:Type} {o:Option α} {p:α→Bool} (h:o.any p=true):∃ a,o=some a∧p a=true:=by
 cases o with
 | none=>cases h
 | some a=>exact ⟨a,rfl,h⟩
noncomputable def ls1 {α:Type}:List α→Option α
 | [a]=>some a
 | _=>none
theorem ZaM {α:Type} {l:List α} {a:α} (h:ls1 l=some a):l=[a]:=by
 cases l with
 | nil=>cases h
 | cons x l=>cases l with
  | nil=>cases h; rfl
  | cons _ _=>cases h
noncomputable def ls2 {α:Type}:List α→Option (α×α)
 | [a,b]=>some (a,b)
 | _=>none
theorem Zb2 {α:Type} {l:List α} {q:α×α} (h:ls2 l=some q):l=[q.1,q.2]:=by
 cases l with
 | nil=>cases h
 | cons x l=>cases l with
  | nil=>cases h
  | cons y l=>cases l with
   | nil=>cases h; rfl
   | cons _ _=>cases h
noncomputable def Ze1:Expr→Bool
 | .Tuple _ _ _=>true
 | _=>false
theorem ZhK {e:Expr} (h:Ze1 e=true):∃ es k p,e=.Tuple es k p:=by
 cases e<;>first | exact ⟨_,_,_,rfl⟩ | cases h
noncomputable def Ze2:Expr→Bool
 | .Constant (.str _) _ _=>true
 | _=>false
theorem ZhL {e:Expr} (h:Ze2 e=true):∃ m a q,e=.Constant (.str m) a q:=by
 cases e<;>first | (rename_i k _ _; cases k<;>first | exact ⟨_,_,_,rfl⟩ | cases h) | cases h
noncomputable def dCl:Expr→Option (Str×List Expr)
 | .Call (.Name x _) es [] _=>some (x,es)
 | _=>none
theorem Zau {e:Expr} {q:Str×List Expr} (h:dCl e=some q):∃ p p2,e=.Call (.Name q.1 p) q.2 [] p2:=by
 unfold dCl at h;split at h
 ·cases h; exact ⟨_,_,rfl⟩
 ·cases h
noncomputable def dMe:Expr→Option (Expr×Str×Pos×List Expr×Pos)
 | .Call (.Attribute o m ap) es [] p=>some (o,m,ap,es,p)
 | _=>none
theorem Ze3 {e:Expr} {q:Expr×Str×Pos×List Expr×Pos} (h:dMe e=some q):e=.Call (.Attribute q.1 q.2.1 q.2.2.1) q.2.2.2.1 [] q.2.2.2.2:=by
 unfold dMe at h;split at h
 ·cases h; rfl
 ·cases h
noncomputable def dAt:Expr→Option (Str×Str)
 | .Attribute (.Name y _) f _=>some (y,f)
 | _=>none
theorem ZhM {e:Expr} {q:Str×Str} (h:dAt e=some q):∃ p p2,e=.Attribute (.Name q.1 p) q.2 p2:=by
 unfold dAt at h;split at h
 ·cases h; exact ⟨_,_,rfl⟩
 ·cases h
noncomputable def Zde:Expr→Option (List Expr)
 | .BoolOp .And es _=>some es
 | _=>none
theorem ZhN {e:Expr} {q:List Expr} (h:Zde e=some q):∃ p,e=.BoolOp .And q p:=by
 unfold Zde at h;split at h
 ·cases h; exact ⟨_,rfl⟩
 ·cases h
noncomputable def dOr:Expr→Option (List Expr×Pos)
 | .BoolOp .Or es p=>some (es,p)
 | _=>none
theorem ZhO {e:Expr} {q:List Expr×Pos} (h:dOr e=some q):e=.BoolOp .Or q.1 q.2:=by
 unfold dOr at h;split at h
 ·cases h; rfl
 ·cases h
noncomputable def ZO:Expr→Option Expr
 | .UnaryOp .Not a _=>some a
 | _=>none
theorem Zb3 {e a:Expr} (h:ZO e=some a):∃ p,e=.UnaryOp .Not a p:=by
 unfold ZO at h;split at h
 ·cases h; exact ⟨_,rfl⟩
 ·cases h
noncomputable def ZaN:Expr→Option (Expr×Operator×Expr)
 | .BinOp a op b _=>some (a,op,b)
 | _=>none
theorem Ze4 {e:Expr} {q:Expr×Operator×Expr} (h:ZaN e=some q):∃ p,e=.BinOp q.1 q.2.1 q.2.2 p:=by
 unfold ZaN at h;split at h
 ·cases h; exact ⟨_,rfl⟩
 ·cases h
noncomputable def Zdf:Expr→Option (Expr×List CmpOp×List Expr)
 | .Compare a ops bs _=>some (a,ops,bs)
 | _=>none
theorem ZhP {e:Expr} {q:Expr×List CmpOp×List Expr} (h:Zdf e=some q):∃ p,e=.Compare q.1 q.2.1 q.2.2 p:=by
 unfold Zdf at h;split at h
 ·cases h; exact ⟨_,rfl⟩
 ·cases h
noncomputable def Zdg (e:Expr):Option (Expr×CmpOp×Expr):=(Zdf e).bind fun q=>(ls1 q.2.1).bind fun o=>(ls1 q.2.2).map fun b=>(q.1,o,b)
theorem ZhQ {e:Expr} {q:Expr×CmpOp×Expr} (h:Zdg e=some q):∃ p,e=.Compare q.1 [q.2.1] [q.2.2] p:=by
 obtain ⟨r,hr,h⟩:=bind_some h;obtain ⟨o,ho,h⟩:=bind_some h;obtain ⟨b,hb,h⟩:=Option.map_eq_some_iff.mp h;obtain ⟨p,rfl⟩:=ZhP hr;obtain ⟨a,ops,bs⟩:=r;cases ZaM ho;cases ZaM hb;cases h;exact ⟨p,rfl⟩
noncomputable def dTp:Expr→Option (List Expr)
 | .Tuple es _ _=>some es
 | _=>none
theorem Zbg {e:Expr} {q:List Expr} (h:dTp e=some q):∃ k p,e=.Tuple q k p:=by
 unfold dTp at h;split at h
 ·cases h; exact ⟨_,_,rfl⟩
 ·cases h
noncomputable def dSb:Expr→Option (Str×Expr)
 | .Subscript (.Name x _) i _=>some (x,i)
 | _=>none
theorem Zb4 {e:Expr} {q:Str×Expr} (h:dSb e=some q):∃ p1 p2,e=.Subscript (.Name q.1 p1) q.2 p2:=by
 unfold dSb at h;split at h
 ·cases h; exact ⟨_,_,rfl⟩
 ·cases h
noncomputable def dFy (e:Expr):Option (Str×Str):=(dCl e).bind fun q=>(ls1 q.2).bind fun a=>(Zv a).map fun y=>(q.1,y)
theorem Ze5 {e:Expr} {q:Str×Str} (h:dFy e=some q):∃ p y pos,e=.Call (.Name q.1 p) [.Name q.2 y] [] pos:=by
 obtain ⟨r,hr,h⟩:=bind_some h;obtain ⟨a,ha,h⟩:=bind_some h;obtain ⟨y,hy,h⟩:=Option.map_eq_some_iff.mp h;obtain ⟨p,p2,rfl⟩:=Zau hr;obtain ⟨x,es⟩:=r;cases ZaM ha;obtain ⟨p3,rfl⟩:=Zah hy;cases h;exact ⟨_,_,_,rfl⟩
noncomputable def dC1 (e:Expr):Option (Str×Expr):=(dCl e).bind fun q=>(ls1 q.2).map fun a=>(q.1,a)
theorem Zb5 {e:Expr} {q:Str×Expr} (h:dC1 e=some q):∃ p pos,e=.Call (.Name q.1 p) [q.2] [] pos:=by
 obtain ⟨r,hr,h⟩:=bind_some h;obtain ⟨a,ha,h⟩:=Option.map_eq_some_iff.mp h;obtain ⟨p,p2,rfl⟩:=Zau hr;obtain ⟨x,es⟩:=r;cases ZaM ha;cases h;exact ⟨_,_,rfl⟩
noncomputable def dC2 (e:Expr):Option (Str×Expr×Expr):=(dCl e).bind fun q=>(ls2 q.2).map fun a=>(q.1,a)
theorem Ze6 {e:Expr} {q:Str×Expr×Expr} (h:dC2 e=some q):∃ p pos,e=.Call (.Name q.1 p) [q.2.1,q.2.2] [] pos:=by
 obtain ⟨r,hr,h⟩:=bind_some h;obtain ⟨a,ha,h⟩:=Option.map_eq_some_iff.mp h;obtain ⟨p,p2,rfl⟩:=Zau hr;obtain ⟨x,es⟩:=r;cases Zb2 ha;cases h;exact ⟨_,_,rfl⟩
noncomputable def dLs:Expr→Option (List Expr)
 | .List es _=>some es
 | _=>none
theorem Ze7 {e:Expr} {q:List Expr} (h:dLs e=some q):∃ p,e=.List q p:=by
 unfold dLs at h;split at h
 ·cases h; exact ⟨_,rfl⟩
 ·cases h
noncomputable def or2 (p:Pos):List Expr→Option (Expr×Expr)
 | []=>none
 | [_]=>none
 | [a,b]=>some (a,b)
 | a ::b ::c ::es=>some (a,.BoolOp .Or (b ::c ::es) p)
noncomputable def Zbh (e:Expr):Option (Expr×Expr):=(dOr e).bind fun q=>or2 q.2 q.1
theorem Ze8 {e:Expr} {q:Expr×Expr} (h:Zbh e=some q):(∃ pos,e=.BoolOp .Or [q.1,q.2] pos)∨∃ b c es pos,e=.BoolOp .Or (q.1 ::b ::c ::es) pos∧q.2=.BoolOp .Or (b ::c ::es) pos:=by
 obtain ⟨⟨es,pos⟩,hr,h⟩:=bind_some h;cases ZhO hr;cases es with
 | nil=>cases h
 | cons a es=>cases es with
  | nil=>cases h
  | cons b es=>cases es with
   | nil=>cases h; exact .inl ⟨_,rfl⟩
   | cons c es=>cases h; exact .inr ⟨_,_,_,_,rfl,rfl⟩
noncomputable def Zbi (e:Expr):Option (Expr×Expr):=(Zde e).bind ls2
theorem Ze9 {e:Expr} {q:Expr×Expr} (h:Zbi e=some q):∃ pos,e=.BoolOp .And [q.1,q.2] pos:=by
 obtain ⟨es,hr,h⟩:=bind_some h;obtain ⟨p,rfl⟩:=ZhN hr;cases Zb2 h;exact ⟨_,rfl⟩
noncomputable def Zbj {α:Type} (o:Option α) (b:Bool) (f:α→Bool):Bool:=match o with
 | some a=>f a
 | none=>b
theorem Zb6 {α:Type} {o:Option α} {b:Bool} {f:α→Bool} (h:Zbj o b f=true):(o=none∧b=true)∨∃ a,o=some a∧f a=true:=by
 cases o with
 | none=>exact .inl ⟨rfl,h⟩
 | some a=>exact .inr ⟨a,rfl,h⟩
noncomputable def Zdh {α:Type}:List α→Bool
 | []=>false
 | _ ::_=>true
theorem Zdi {α:Type} {l:List α} (h:Zdh l=true):∃ a l',l=a ::l':=by
 cases l with
 | nil=>cases h
 | cons a l=>exact ⟨a,l,rfl⟩
noncomputable def Zdj:Stmt→Option Expr
 | .Raise (some e) none _=>some e
 | _=>none
theorem ZhR {s:Stmt} {e:Expr} (h:Zdj s=some e):∃ p,s=.Raise (some e) none p:=by
 unfold Zdj at h;split at h
 ·cases h; exact ⟨_,rfl⟩
 ·cases h
noncomputable def Zbk (s:Stmt):Option (Str×List Expr):=(Zdj s).bind dCl
theorem Zfa {s:Stmt} {q:Str×List Expr} (h:Zbk s=some q):∃ px p pos,s=.Raise (some (.Call (.Name q.1 px) q.2 [] p)) none pos:=by
 obtain ⟨e,he,h⟩:=bind_some h;obtain ⟨p,rfl⟩:=ZhR he;obtain ⟨p1,p2,rfl⟩:=Zau h;exact ⟨_,_,_,rfl⟩
noncomputable def Zb7:Stmt→Option (Expr×Expr)
 | .Assign [t] e _=>some (t,e)
 | _=>none
theorem Zfb {s:Stmt} {q:Expr×Expr} (h:Zb7 s=some q):∃ p,s=.Assign [q.1] q.2 p:=by
 unfold Zb7 at h;split at h
 ·cases h; exact ⟨_,rfl⟩
 ·cases h
noncomputable def Zbl (s:Stmt):Option (Str×Expr):=(Zb7 s).bind fun q=>(Zv q.1).map fun x=>(x,q.2)
theorem Zfc {s:Stmt} {q:Str×Expr} (h:Zbl s=some q):∃ py p,s=.Assign [.Name q.1 py] q.2 p:=by
 obtain ⟨r,hr,h⟩:=bind_some h;obtain ⟨x,hx,h⟩:=Option.map_eq_some_iff.mp h;obtain ⟨p,rfl⟩:=Zfb hr;obtain ⟨t,e⟩:=r;obtain ⟨p2,hp⟩:=Zah hx;cases hp;cases h;exact ⟨_,_,rfl⟩
noncomputable def Zai:Stmt→Option Expr
 | .Expr e _=>some e
 | _=>none
theorem Zdk {s:Stmt} {e:Expr} (h:Zai s=some e):∃ p,s=.Expr e p:=by
 unfold Zai at h;split at h
 ·cases h; exact ⟨_,rfl⟩
 ·cases h
noncomputable def ZaO:Stmt→Option Expr
 | .Return (some e) _=>some e
 | _=>none
theorem Zfd {s:Stmt} {e:Expr} (h:ZaO s=some e):∃ p,s=.Return (some e) p:=by
 unfold ZaO at h;split at h
 ·cases h; exact ⟨_,rfl⟩
 ·cases h
noncomputable def dIf:Stmt→Option (Expr×List Stmt×List Stmt)
 | .If c a b _=>some (c,a,b)
 | _=>none
theorem Zdl {s:Stmt} {q:Expr×List Stmt×List Stmt} (h:dIf s=some q):∃ p,s=.If q.1 q.2.1 q.2.2 p:=by
 unfold dIf at h;split at h
 ·cases h; exact ⟨_,rfl⟩
 ·cases h
noncomputable def Zb8:Stmt→Option (Expr×Expr×List Stmt)
 | .For tg it b [] _=>some (tg,it,b)
 | _=>none
theorem ZhS {s:Stmt} {q:Expr×Expr×List Stmt} (h:Zb8 s=some q):∃ p,s=.For q.1 q.2.1 q.2.2 [] p:=by
 unfold Zb8 at h;split at h
 ·cases h; exact ⟨_,rfl⟩
 ·cases h
noncomputable def Zb9:Stmt→Option (List Stmt×List ExceptHandler)
 | .Try b hs [] [] _=>some (b,hs)
 | _=>none
theorem ZhT {s:Stmt} {q:List Stmt×List ExceptHandler} (h:Zb9 s=some q):∃ p,s=.Try q.1 q.2 [] [] p:=by
 unfold Zb9 at h;split at h
 ·cases h; exact ⟨_,rfl⟩
 ·cases h
noncomputable def dHd:ExceptHandler→Option (Str×Option Str×List Stmt)
 | .ExceptHandler (some (.Name x _)) n ss _=>some (x,n,ss)
 | _=>none
theorem Zfe {h:ExceptHandler} {q:Str×Option Str×List Stmt} (e:dHd h=some q):∃ px p,h=.ExceptHandler (some (.Name q.1 px)) q.2.1 q.2.2 p:=by
 unfold dHd at e;split at e
 ·cases e; exact ⟨_,_,rfl⟩
 ·cases e
end VS
namespace VS
open PySem PySem.Spec PyProof.Rows L2
end VS
namespace VS
open PySem PySem.Spec PyProof.Rows L2 PySem.Froz
end VS
namespace VS
open PySem PySem.Spec PyProof.Rows L2
noncomputable abbrev Zav (κ:Type):=List (Addr×List κ)
section
variable {P:Program} {w:World} {κ:Type} [DecidableEq κ] (kd:KeyKind P w κ)
noncomputable abbrev hK (k:List κ):Int:=tupleKeyHash kd k
noncomputable abbrev hsK (L:Zav κ):List Int:=L.map fun p=>hK kd p.2
noncomputable def rwK (L:Zav κ):List (Int×Value):=L.map fun p=>(hK kd p.2,Value.ref p.1)
structure StK (h:Heap) (a:Addr) (L:Zav κ) (es:Array (Int×Value)) (ep:Nat) (t:SetTable):Prop where
 ob : ∃ o,h.get? a=some o∧o.ExactSet∧o.data=.set es ep t
 rows : es.toList=rwK kd L
 tab : TabOk t (hsK kd L)
 nd : (L.map (·.2)).Nodup
 tup : ∀ p∈L,IsTupleKey kd h p.2 p.1
 led : w.params.followText "set-order"=true∨t.led=true
 room : L.length * 5 < t.mask * 3
 few : L.length < 64
end
end VS
namespace VS
open PySem PySem.Spec PyProof.Rows L2
end VS
namespace VS
open PySem PySem.Spec PyProof.Rows L2 PySem.Froz
section
variable {P:Program} {w:World} {κ:Type} [DecidableEq κ] {kd:KeyKind P w κ} {A:Around} {E:Value→Shared→Prop} {s:Shared}
theorem StK.kept {h g:Heap} {a:Addr} {L:Zav κ} {es:Array (Int×Value)} {ep:Nat} {t:SetTable} (R:StK kd h a L es ep t) (ha:∀ o,h.get? a=some o→g.get? a=some o) (ht:∀ p∈L,IsTupleKey kd g p.2 p.1):StK kd g a L es ep t:=
 let ⟨o,ho,r⟩:=R.ob
 ⟨⟨o,ha o ho,r⟩,R.rows,R.tab,R.nd,ht,R.led,R.room,R.few⟩
structure InK (ks:Zav κ) (i:Nat) (L:Zav κ):Prop where
 of : ∀ p∈L,p∈ks.take i
 all : ∀ k,k∈L.map (·.2)↔k∈(ks.take i).map (·.2)
 le : L.length≤i
theorem InK.next {ks L L':Zav κ} {i:Nat} {p:Addr×List κ} (g:InK ks i L) (hp:ks[i]?=some p) (h1:p.2∈L.map (·.2)→L'=L) (h2:p.2∉L.map (·.2)→L'.Perm (p ::L)):InK ks (i+1) L':=by
 have ht:ks.take (i+1)=ks.take i++[p]:=by rw [List.take_add_one,hp]; rfl
 rcases Classical.em (p.2∈L.map (·.2)) with c | c
 ·rw [h1 c]
  refine ⟨fun q hq=>by rw [ht]; exact List.mem_append_left _ (g.of q hq),fun k=>?_,Nat.le_succ_of_le g.le⟩
  rw [ht,List.map_append,List.mem_append,←g.all];exact ⟨.inl,fun h=>h.elim id fun z=>by rw [List.mem_singleton.mp z]; exact c⟩
 ·have pm:=h2 c
  refine ⟨fun q hq=>?_,fun k=>?_,by rw [pm.length_eq]; exact Nat.succ_le_succ g.le⟩
  ·rw [ht]
   exact (List.mem_cons.mp (pm.mem_iff.mp hq)).elim (fun e=>by rw [e]; exact List.mem_append_right _ (List.mem_singleton.mpr rfl)) fun z=>List.mem_append_left _ (g.of q z)
  ·rw [(pm.map (·.2)).mem_iff,ht,List.map_append,List.mem_append,←g.all,List.map_cons,List.mem_cons]
   exact ⟨fun h=>h.elim (fun e=>.inr (List.mem_singleton.mpr e)) .inl,fun h=>h.elim .inr fun z=>.inl (List.mem_singleton.mp z)⟩
end
end VS
set_option maxHeartbeats 8000000
namespace VS
open PySem PySem.Spec PyProof.Rows L2
end VS
namespace VS
open PySem PySem.Spec PyProof.Rows L2
section
open PySem.Calls PySem.W
variable {prog:Program} {w:World} {A:Around} {E:Value→Shared→Prop} {s:Shared} {K:PySem.W.Frag} {x D:Addr} {ox:Obj} {od:Option Obj}
theorem ZhU (C:ExcC K D):findObj K D od "__class__"=some (.bind (.builtin "getset_descriptor.__get__") (.builtin "object.__class__")):=by
 obtain ⟨cd,hc,_⟩:=any_some C.hd;unfold findObj;rw [hc,C.ha];simp [C.hn,C.ht]
theorem ZhV {Q:Option Value→Shared→Prop} (C:ExcC K D) (KX:K.In s.heap) (I:InstAt s.heap x ox D od) (h:Q (some (.ref D)) { s with toks:=s.toks+1 }):wpAny (model prog w) A (getAttr? (.ref x) "__class__") Q E s:=by
 obtain ⟨hp,g,d,t,os⟩:=s;have ty:=I.type (M:=model prog w);have own:=looks_findIn (M:=model prog w) KX C.hg;have hook:=looks_findIn (M:=model prog w) KX C.hk;have found:=looks_find (M:=model prog w) KX I (ZhU (od:=od) C);have base:Looks (model prog w) hp (isInstance (.ref x) (.type "BaseException")) true:=ty.andThen (looks_subIn KX C.hs);have q0:(false && onTheHeap (Value.builtin "BaseException.__getattribute__"))=false:=rfl;have q1:(onTheHeap (Value.ref D) && Value.builtin "BaseException.__getattribute__" ==Value.builtin "object.__getattribute__")=false:=by
  rw [show (Value.builtin "BaseException.__getattribute__" ==Value.builtin "object.__getattribute__")=false by decide +kernel]; rfl
 unfold getAttr? getAttrBy? getAttrBy;refine wpAny_bind (wpAny_mkText (wpAny_bind (wpAny_attempt (wpAny_holding (wpAny_bind (ty.at (wpAny_bind (own.at ?_))))))))
 show wpAny _ _ (if (onTheHeap (Value.ref D) && Value.builtin "BaseException.__getattribute__" ==Value.builtin "object.__getattribute__")=true then _ else _) _ _ _;rw [q1,if_neg Bool.false_ne_true];unfold getAttrByItsOwn hookBefore;refine wpAny_bind ?_
 rw [if_pos (show onTheHeap (Value.ref D)=true from rfl)];refine hook.at (wpAny_bind (wpAny_attempt (wpAny_holding ?_)))
 unfold callGetattribute;rw [q0,if_neg Bool.false_ne_true];unfold boundAndCalled;rw [PySem.F.excAttr_ValueError.ga.bind (.ref x)];refine wpAny_bind (wpAny_pure ?_)
 show wpAny _ _ (call (.builtin "BaseException.__getattribute__") [.ref x,.str "__class__" t]) _ _ _;refine wpAny_call (codeAny_call_builtin PySem.F.excAttr_ValueError.ga.plain PySem.F.entry_bexc_ga ?_)
 refine @check_slot (model prog w) _ _ ⟨hp,g,d,t+1,os⟩ "BaseException.__getattribute__" "BaseException" "__getattribute__" (.ref x) [.str "__class__" t] [] _ (by decide +kernel) (by decide +kernel) base (PySem.F.args_bexc_ga (.ref x) (.str "__class__" t)) ?_
 unfold Builtin.«object.__getattribute__»;refine wpAny_bind (wpAny_of_eq (a:=((Value.ref x:Value),[Value.str "__class__" t])) (by first | rfl | (simp only [slotArgs]; rfl)) ?_)
 refine wpAny_bind (wpAny_pure (wpAny_bind (ty.at (wpAny_bind (found.at ?_)))))
 show wpAny _ _ (holding [Value.builtin "object.__class__"] (call (.builtin "getset_descriptor.__get__") [.builtin "object.__class__",.ref x,.ref D]) >>=ret) _ _ _;refine wpAny_bind (wpAny_holding (wpAny_call (class_get (s:=⟨hp,g,d,t+1,os⟩) (ox:=ox) (od:=od) KX I C.hm (wpAny_pure ?_))))
 show wpAny _ _ (handedOut (.ref D)) _ _ _;rw [handedOut_of (v:=.ref D) rfl]
 first
  | exact wpAny_pure (wpAny_pure h)
  | exact wpAny_pure h
  | exact wpAny_pure (wpAny_bind (wpAny_pure (wpAny_pure h)))
theorem Zdm (C:ExcC K D):KitX K (.ref x) (.ref D) (fun h=>InstAt h x ox D od):=by
 obtain ⟨cd,hc,_⟩:=any_some C.hd;have whole:∃ c' d' cd' sl',K.lookup D=some ⟨c',d',.cls cd',sl'⟩:=by
  unfold clsIn at hc;split at hc
  ·rename_i c' d' cd' sl' e; exact ⟨_,_,_,_,e⟩
  ·cases hc
 obtain ⟨c',d',cd',sl',hl⟩:=whole;refine ⟨fun _ _ _ I=>I.type,fun _ _ KX _ A' Q' E' s' k q=>?_,fun h tp dd its n sl KX htp=>Bool.eq_false_iff.mpr fun q=>?_,fun KX I k=>ZhV C KX I k⟩
 ·unfold isType loadHead
  exact wpAny_bind (wpAny_loadPart (k _ _ (KX _ _ hl)) (wpAny_pure q))
 ·have e:D=tp:=Value.ref.inj (beq_iff_eq.mp q)
  subst e;cases (KX _ _ hl).symm.trans htp
end
noncomputable def Zaw (H:Hp) (d:Option Addr):Prop:=d=none∨∃ dd fs,d=some dd∧H dd=some (.xd fs)
theorem Zdn {X:Cx} {pins:List (Addr×Obj)} {σ:L2.St} {H:Hp} {s:Shared} {a D:Addr} {oe:Obj} {d:Option Addr} (I:Inv X pins σ H s) (hget:s.heap.get? a=some oe) (hz:Zc (.ref D) d oe) (hf:∃ vs,oe.data=.fields vs) (hd:Zaw H d):∃ od,PySem.W.InstAt s.heap a oe D od:=by
 obtain ⟨vs,hv⟩:=hf;have nc:PySem.W.notCls oe=true:=by unfold PySem.W.notCls; rw [hv]
 rcases hd with rfl | ⟨dd,fs,rfl,e⟩
 ·exact ⟨none,hget,hz.1,nc,by rw [hz.2]; trivial⟩
 ·have ok:ObjOk X.prog X.w H s.heap dd (.xd fs):=I.hok dd _ e
  obtain ⟨mA,hns,_⟩:=ok;obtain ⟨od,ho,_⟩:=lookIn_ns hns;exact ⟨some od,hget,hz.1,nc,by rw [hz.2]; exact ho⟩
noncomputable def Zbm (C:Addr) (f:Str):Sp:=fun vs H Q _=>∃ a y,vs=[.ref a,y]∧H a=some (exo a C none)∧∀ dx,H dx=none→dx≠a→Q .non (upd (upd H dx (exd dx [(f,y)])) a (exo a C (some dx)))
theorem Zff {P:Program} {w:World} {H:Hp} {h:Heap} {a C:Addr} {od:Option Addr} {oe:Obj} {vs:Array Value} (e:h.get? a=some oe) (z:Zc (.ref C) od oe) (d:oe.data=.fields vs):ObjOk P w H h a (ErO C od a):=
 ⟨⟨oe,vs,e,z,d⟩,⟨oe,e⟩,fun _ _ ⟨o,v,q,r⟩ k=>⟨o,v,k o q,r⟩⟩
section
variable {X:Cx}
noncomputable def Zdo (K:PySem.W.Frag):List V→Hp→VK→Prop:=fun xs H Q=>∃ (a C:Addr) (od:Option Addr) (c:V) (cv:Value) (b:Bool),xs=[.ref a,c]∧H a=some (ErO C od a)∧Zaw H od∧ExcC K C∧(∀ u,RelV c u→u=cv)∧PySem.W.kitOne K (.ref C) cv=some b∧Q (.bl b) H
theorem ZhW:CallR X (.builtin "isinstance") (Zdo X.K):=by
 rintro pins s σ H xs us Q I r ⟨a,C,od,c,cv,b,rfl,ha,hd,ec,hcv,e,q⟩;cases r with
 | cons rx rr=>
  cases rr with
  | cons rt rr=>
   cases rr;cases rx;obtain rfl:=hcv _ rt;have ho:ObjOk X.prog X.w H s.heap a (ErO C od a):=I.hok a _ ha;obtain ⟨⟨oe,vs,hget,hz,hf⟩,_⟩:=ho;obtain ⟨o2,J⟩:=Zdn I hget hz ⟨vs,hf⟩ hd;exact PySem.W.kia_one (Zdm ec) I.kIn J e (fun z=>nomatch z) fun tk=>⟨.bl b,H,I.kept (t':=tk) fun _ _ z=>z,rfl,q⟩
noncomputable def Zfg (K:PySem.W.Frag) (f:Str) (te:TE):TE:=fun σ H Q=>te σ H fun x H1=>∃ (a C dd:Addr) (fs:List (Str×V)) (v:V),x=.ref a∧H1 a=some (ErO C (some dd) a)∧XfC K C∧PySem.W.findIn K (.ref C) f=some none∧H1 dd=some (.xd fs)∧fs.lookup f=some v∧Q v H1
theorem ZhX {e:Expr} {te:TE} {pos:Pos} {n:Str} (he:PE X e te) (hb:attributeBase e n X.env (eval e X.env)=eval e X.env:=by rfl):PE X (.Attribute e n pos) (Zfg X.K n te):=by
 refine ⟨fun pins s σ H Q I h=>?_⟩
 refine attr_of hb (thn (he.run pins s σ H _ I h) fun u s1 hh=>?_)
 obtain ⟨x,H1,I1,rx,a,C,dd,fs,v,ex,ea0,T,hno,ea,l,q⟩:=hh;subst ex;obtain rfl:u=Value.ref a:=rx;have ho1:ObjOk X.prog X.w H1 s1.heap a (ErO C (some dd) a):=I1.hok a _ ea0;obtain ⟨⟨oe,vs,ha,hz,hd⟩,_⟩:=ho1;have hx:ObjOk X.prog X.w H1 s1.heap dd (.xd fs):=I1.hok dd _ ea;obtain ⟨mA,hns,hr⟩:=hx;obtain ⟨od,ho,hl⟩:=lookIn_ns hns;obtain ⟨u,hu,ru⟩:=RelO.some_of (v:=v) (o:=mA n) (by rw [←l]; exact hr n);have J:PySem.W.InstAt s1.heap a oe C (some od):=⟨ha,hz.1,by unfold PySem.W.notCls; rw [hd]<;>rfl,by rw [hz.2]; exact ho⟩;exact HandSPX.exc_get I1.kIn J T.ga T.gg T.exC (PySem.W.findObj_own T.hdC hno rfl (by rw [hl,hu])) (handed_of ru) ⟨v,H1,I1.tok _,ru,q⟩
theorem ZhY {C:Addr} {bmB:List Value} {B newId initId:String} {x:Str} {e:Expr} {ta:TE} {p pos:Pos} (F:ExcBaseFacts B newId initId bmB) (q:PySem.W.excIn X.K C bmB newId=true) (gC:X.mg x=some (.ref C)) (kC:PySem.W.keepIn X.K (.ref C)=true) (hg:Gl X x)
  (he:PE X e ta) (hdb:(x ==("__debug__":Str))=false) (hs:starEach [e] X.env=(false,eval e X.env) ::starEach [] X.env):
  PE X (.Call (.Name x p) [e] [] pos) (fun σ H Q=>ta σ H fun _ H1=>∀ a,H1 a=none→Q (.ref a) (upd H1 a (ErO C none a))):=by
 refine ⟨fun pins s σ H Q I h=>?_⟩
 refine wpAny_Call_Name_kw (ld_glob I hg gC ?_ hdb)
 refine PySem.W.callWith_K (h₀:=X.base) I.ok.mod.kin kC ?_ hs (by rfl)
 rw [hs];show wpAny _ _ (spliced ((false,eval e X.env) ::backTo pos (starEach [] X.env))) _ _ s;refine Calls.spliced_cons (thn (he.run pins s σ H _ I h) fun u s1 ⟨v,H1,I1,r1,q1⟩=>?_)
 refine Calls.spliced_nil ⟨I1.kIn,?_⟩
 show wpAny _ _ (call (.ref C) [u]) _ _ _;obtain ⟨bm,N,nm,qn,bs,hdct,sn,sub,ab,col,dd,k0,k1,k2,k3,k5,mN,hC,hN,hni,T⟩:=exc_obj I1.kIn q;refine wpAny_call_exc_subT F T hC hN hni (fun h' a hm=>?_) (by show 1≤sizeLine; rw [sizeLine_eq]; omega)
 have hn:H1 a=none:=I1.hok.gone hm.new;obtain ⟨t,ht,_,_⟩:=hm.there;exact ⟨.ref a,upd H1 a (ErO C none a),I1.laidN hm.keeps hm.new hn (Zff ht ⟨rfl,rfl⟩ rfl),rfl,q1 a hn⟩
theorem ZhZ {e:Expr} {t:L2.St→Hp→XK→Prop} (hp:PMk X e t):PE X e (fun σ H Q=>t σ H fun cls od H'=>∃ C,cls=.ref C∧∀ a,H' a=none→Q (.ref a) (upd H' a (ErO C od a))):=by
 refine ⟨fun pins s σ H Q I h=>wpAny_mono (hp pins s σ H _ I h) (fun u s' hu=>?_) fun _ _ x=>x⟩
 obtain ⟨a,oe,vs,sI,H',cls,d,rfl,J,k,hne,ha,hz,hd,_,na,os,ag,_,C,rfl,q⟩:=hu;have K:=J.laidN (t':=s'.toks) k hne na (Zff ha hz hd);exact ⟨.ref a,upd H' a (ErO C d a),⟨K.ok,os.trans K.os,ag,K.base,K.loc,K.cell,K.free,K.freeC,K.pin,K.hok,K.len⟩,rfl,q a na⟩
end
noncomputable def ZaP (t:Str→Str→Option Bool) (c:Str):D→Option D
 | .err c' _ _=>(t c' c).map .bl
 | _=>none
noncomputable def Z2 (c f:Str):D→Option D
 | .err c' ks ds=>if c'=c then (ks.zip ds).lookup f else none
 | _=>none
noncomputable def Zdp (c f:Str) (r:Rv) (ρ:Rho):Option Rv:=match r with
 | .own d=>(Z2 c f d).map .own
 | .vw d=>(Z2 c f d).map vwR
 | .pend i _=>match ρ[i]? with
  | some (.own d)=>(Z2 c f d).bind fun x=>if noOwn x=true then some (.own x) else none
  | some (.vw d)=>(Z2 c f d).map vwR
  | _=>none
noncomputable def Zdq (c f:Str) (ma:ME):ME:=fun ρ=>(ma ρ).bind fun p=>(Zdp c f p.1 p.2).bind fun z=>some (z,p.2)
noncomputable def Zdr (c f:Str) (ma:MA):ME:=fun ρ=>(ma ρ).bind fun p=>(takes p.1 p.2).bind fun q=>match q.1 with
 | [d]=>some (.own (.err c [f] [strip d]),q.2)
 | _=>none
noncomputable def Zds (c:Str) (ma:ME):ME:=fun ρ=>(ma ρ).bind fun p=>(rd p.1 p.2).bind fun _=>some (.own (.err c [] []),p.2)
section
variable {ct:Str→Option Addr} {S S' H H' S2 H2:Hp} {F F' G R R' T T' Fr F2 R2 Y:FP} {ρ ρ' ρ2:Rho} {σ:L2.St}
theorem Zh0 {P:Addr→HO→Prop} {a C:Addr} {kv:List (Str×V)} (h:ErN P a C kv) (k:∀ b o,P b o→H b=some o):∃ od,H a=some (ErO C od a)∧Zaw H od:=by
 obtain ⟨od,h1,h2⟩:=h;refine ⟨od,k _ _ h1,?_⟩
 cases od with
 | none=>exact .inl rfl
 | some dx=>exact .inr ⟨dx,kv,rfl,k _ _ h2⟩
theorem Zh1 {K:PySem.W.Frag} {t:Str→Str→Option Bool} {c:Str} {w:V} {ma:ME} (hc:∀ c' b,t c' c=some b→∃ C' cv,ct c'=some C'∧ExcC K C'∧(∀ u,RelV w u→u=cv)∧PySem.W.kitOne K (.ref C') cv=some b):
  ∀ σ H Q,tI ct (m1 (ZaP t c) ma) σ H Q→tCB (Zdo K) (tCons (tI ct ma) (tCons (tC w) tNil)) σ H Q:=by
 rintro σ H Q ⟨ρ,S,F,R,rr,ρ',st,e,k⟩;obtain ⟨p,hp,e⟩:=bind_some e;obtain ⟨d,hd,e⟩:=bind_some e;obtain ⟨z,hz,e⟩:=bind_some e;cases e;refine ⟨ρ,S,F,R,p.1,p.2,st,hp,fun S1 H1 F1 Fa x P1=>?_⟩
 show Zdo K [x,w] H1 Q;have hv:=Zx P1.st P1.rv hd;cases d with
 | err c' ks ds=>
  obtain ⟨b,hb,rfl⟩:=Option.map_eq_some_iff.mp (show (t c' c).map D.bl=some z from hz);obtain ⟨C',cv,hC,ec,hcv,hk⟩:=hc c' b hb;obtain ⟨a,C,vs,rfl,hC2,_,hn,_⟩:=hv;rw [hC] at hC2; cases hC2;obtain ⟨od,ha,hdx⟩:=Zh0 hn fun b o z=>z.1
  exact ⟨a,C',od,w,cv,b,rfl,ha,hdx,ec,hcv,hk,k S1 H1 F1 No _ (Post.done P1.st (fun a z=>.inl z) P1.tr rfl)⟩
 | _=>cases hz
theorem Zfh {K:PySem.W.Frag} {c f:Str} {C:Addr} {d z:D} {x:V} {Q:VK} (hC:ct c=some C) (hk:XfC K C∧PySem.W.findIn K (.ref C) f=some none) (h:Vw ct H F d x) (hz:Z2 c f d=some z) (k:∀ v,Vw ct H F z v→Q v H):
  ∃ (a C dd:Addr) (fs:List (Str×V)) (v:V),x=.ref a∧H a=some (ErO C (some dd) a)∧XfC K C∧PySem.W.findIn K (.ref C) f=some none∧H dd=some (.xd fs)∧fs.lookup f=some v∧Q v H:=by
 cases d with
 | err c' ks ds=>
  unfold Z2 at hz;dsimp only at hz;split at hz
  ·rename_i ec
   subst ec;obtain ⟨a,C',vs,ex,hc,hl,hn,hs⟩:=h;rw [hC] at hc; cases hc;obtain ⟨j,v,ej,ev,hv⟩:=Za7 hl hs.len hz;obtain ⟨v',ev',q⟩:=hs.get ej;rw [ev] at ev'; cases ev';obtain ⟨od,h1,h2⟩:=hn;cases od with
   | none=>
    rw [show ks.zip vs=[] from h2] at hv;cases hv
   | some dx=>exact ⟨a,C,dx,_,v,ex,h1.1,hk.1,hk.2,(show H dx=some (.xd (ks.zip vs))∧¬ F dx from h2).1,hv,k v q⟩
  ·cases hz
 | _=>cases hz
theorem Zfi {K:PySem.W.Frag} {c f:Str} {C:Addr} {d z:D} {x:V} {Q:VK} (hC:ct c=some C) (hk:XfC K C∧PySem.W.findIn K (.ref C) f=some none) (w:WOk S H G) (h:Rep ct S H d x F) (hz:Z2 c f d=some z) (k:∀ v,Rep ct S H z v No→Q v H):
  ∃ (a C dd:Addr) (fs:List (Str×V)) (v:V),x=.ref a∧H a=some (ErO C (some dd) a)∧XfC K C∧PySem.W.findIn K (.ref C) f=some none∧H dd=some (.xd fs)∧fs.lookup f=some v∧Q v H:=by
 cases d with
 | err c' ks ds=>
  unfold Z2 at hz;dsimp only at hz;split at hz
  ·rename_i ec
   subst ec;obtain ⟨a,C',vs,ex,hc,hl,hn,hs⟩:=h;rw [hC] at hc; cases hc;obtain ⟨j,v,ej,ev,hv⟩:=Za7 hl hs.len hz;obtain ⟨v',F1,ev',s1,q⟩:=hs.get ej;rw [ev] at ev'; cases ev';obtain ⟨od,h1,h2⟩:=hn;cases od with
   | none=>
    rw [show ks.zip vs=[] from h2] at hv;cases hv
   | some dx=>exact ⟨a,C,dx,_,v,ex,w.sub _ _ h1,hk.1,hk.2,w.sub _ _ (show S dx=some (.xd (ks.zip vs)) from h2),hv,k v (q.mono s1)⟩
  ·cases hz
 | _=>cases hz
theorem Zh2 {K:PySem.W.Frag} {c f:Str} {C:Addr} {ma:ME} (hC:ct c=some C) (hk:XfC K C∧PySem.W.findIn K (.ref C) f=some none):∀ σ H Q,tI ct (Zdq c f ma) σ H Q→Zfg K f (tI ct ma) σ H Q:=by
 rintro σ H Q ⟨ρ,S,F,R,rr,ρ',st,e,k⟩;obtain ⟨p,hp,e⟩:=bind_some e;obtain ⟨z,hz,e⟩:=bind_some e;cases e;refine ⟨ρ,S,F,R,p.1,p.2,st,hp,fun S1 H1 F1 Fa x P1=>?_⟩
 have fin:∀ {r:Rv} {v:V} {G:FP},Sub G Fa→RvRep ct S1 H1 (Cup F1 (Cup R Fa)) σ G r v→rr=r→Q v H1:=fun {r v G} sG h er=>by
  subst er;exact k S1 H1 F1 Fa v ⟨P1.st,P1.djr,P1.tr,h.grow sG⟩
 have ra:=P1.rv;have st2:=P1.st;generalize p.1=r1 at ra hz;cases r1 with
 | own d1=>
  obtain ⟨z1,h1,h2⟩:=Option.map_eq_some_iff.mp hz;exact Zfi hC hk st2.w ra h1 fun v q1=>fin (r:=.own z1) Sub.no q1 h2.symm
 | vw d1=>
  obtain ⟨z1,h1,h2⟩:=Option.map_eq_some_iff.mp hz;exact Zfh hC hk ra h1 fun v q1=>fin Sub.no (Zao q1) h2.symm
 | pend i fz=>
  have hv:σ[i]?=some (some x):=ra;unfold Zdp at hz;dsimp only at hz;cases hs:p.2[i]? with
  | none=>rw [hs] at hz; cases hz
  | some sl=>
   rw [hs] at hz;obtain ⟨Fi,si,hsl⟩:=st2.slot hs;cases sl with
   | dead=>cases hz
   | own d1=>
    obtain ⟨z1,h1,h2⟩:=bind_some hz;split at h2
    ·rename_i hn
     cases h2;obtain ⟨v',e1,q1⟩:=hsl;rw [hv] at e1; cases e1;exact Zfi hC hk st2.w q1 h1 fun v q2=>fin (r:=.own z1) Sub.no q2 rfl
    ·cases h2
   | vw d1=>
    obtain ⟨z1,h1,h2⟩:=Option.map_eq_some_iff.mp hz;obtain ⟨v',e1,q1⟩:=hsl;rw [hv] at e1; cases e1;exact Zfh hC hk q1 h1 fun v q2=>fin Sub.no (Zao q2) h2.symm
theorem Zdt {a:Addr} {o:HO} (st:State ct S H F R ρ σ) (hp:H a=none):∃ S',(∀ b o,S b=some o→S' b=some o)∧S' a=some o∧State ct S' (upd H a o) F R ρ σ∧Tr S H F S' (upd H a o) F:=by
 have st4:=st.alloc (o:=o) hp;obtain ⟨S5,ext5,fz5,nw5,st5⟩:=st4.freezeT (Fx:=One a) Sub.cupR;refine ⟨S5,ext5,fz5 a _ rfl upd_same,st5.drop fun b z=>?_,(Tr.alloc hp).trans (Tr.froze (F':=F) ext5 (fun b o z=>(nw5 b o z).imp id .inr) Sub.cupL)⟩
 refine ⟨.inl z,fun z2=>?_⟩
 have : H a≠none:=by rw [←show b=a from z2]; exact (st.w.out b (.inr z)).2
 exact this hp
theorem Zh3 {c:Str} {C:Addr} {ma:ME} (hC:ct c=some C):∀ σ H Q,tI ct (Zds c ma) σ H Q→tI ct ma σ H fun _ H1=>∀ a,H1 a=none→Q (.ref a) (upd H1 a (ErO C none a)):=by
 rintro σ H Q ⟨ρ,S,F,R,rr,ρ',st,e,k⟩;obtain ⟨p,hp,e⟩:=bind_some e;obtain ⟨d,hd,e⟩:=bind_some e;cases e;refine ⟨ρ,S,F,R,p.1,p.2,st,hp,fun S1 H1 F1 Fa x P1 a ha=>?_⟩
 obtain ⟨S2,ext,hs,st2,t2⟩:=Zdt (o:=ErO C none a) (P1.st.drop (R':=R) fun a z=>.inl z) ha;refine k S2 (upd H1 a (ErO C none a)) F1 No (.ref a) (Post.done (Y:=No) st2 (fun a z=>z) (((P1.tr.trans (Tr.refl Sub.cupL)).trans t2).grow fun a z=>z.elim id fun z=>z.elim) ?_)
 exact ⟨a,C,[],rfl,hC,rfl,⟨none,hs,rfl⟩,rfl⟩
theorem Zh4 {c f:Str} {C:Addr} {ma:MA} (hC:ct c=some C):∀ σ H Q,tI ct (Zdr c f ma) σ H Q→tMkO C (Zbm C f) [] (tIA ct ma) σ H fun cls od H'=>∃ C,cls=.ref C∧∀ a,H' a=none→Q (.ref a) (upd H' a (ErO C od a)):=by
 rintro σ H Q ⟨ρ,S,F,R,rr,ρ0,st,e,k⟩;obtain ⟨p,hp,e⟩:=bind_some e;obtain ⟨q,hq,e⟩:=bind_some e;obtain ⟨ds,ρ'⟩:=q;refine ⟨ρ,S,F,R,p.1,p.2,st,hp,fun S1 H1 F1 Fa vs P1=>?_⟩
 obtain ⟨S2,F2,Fm,st2,rep,djm,t2⟩:=P1.took (ds:=ds) (ρ':=ρ') hq
 match ds,e,rep with
 | [d],e,⟨v,vr,A,B,ev,s1,s2,dj,r1,r2⟩=>
  cases e;cases r2;subst ev;refine ⟨by show 1≤1000; decide,fun a ha=>?_⟩
  refine ⟨a,v,rfl,upd_same,fun dx hdx hne=>?_⟩
  rw [upd_ne hne] at hdx;refine ⟨rfl,dx,[(f,v)],upd_same,by rw [upd_ne hne,upd_same],hdx,?_⟩
  have eH:upd (del (upd (upd (upd H1 a (exo a C none)) dx (exd dx [(f,v)])) a (exo a C (some dx))) a) dx (.xd [(f,v)])=upd H1 dx (.xd [(f,v)]):=by
   funext b
   by_cases h1:b=dx
   ·rw [h1,upd_same,upd_same]
   ·rw [upd_ne h1,upd_ne h1]
    by_cases h2:b=a
    ·rw [h2,del_same,ha]
    ·rw [del_ne h2,upd_ne h2,upd_ne h1,upd_ne h2]
  rw [eH];refine ⟨C,rfl,fun b hb=>?_⟩
  obtain ⟨S3,ext,fz,nw,st3⟩:=st2.freezeT (Fx:=Fm) Sub.cupR;have t3:Tr S H F S3 H1 F2:=(t2.trans (Tr.froze (F':=F2) ext (fun a o z=>(nw a o z).imp id .inr) Sub.cupL));have rz:Rep ct S3 H1 (strip d) v No:=Rep.freeze ext (fun a o z e=>fz a o (s1 a z) e) r1;have st3':State ct S3 H1 F2 R ρ' σ:=st3.drop fun a z=>⟨.inl z,fun z2=>djm a z z2⟩
  obtain ⟨S4,ext4,hs4,st4,t4⟩:=Zdt (o:=.xd [(f,v)]) st3' hdx;obtain ⟨S5,ext5,hs5,st5,t5⟩:=Zdt (o:=ErO C (some dx) b) st4 hb;refine k S5 _ F2 No (.ref b) (Post.done (Y:=No) st5 (fun a z=>z) ((t3.trans (t4.trans t5)).grow fun a z=>z.elim id fun z=>z.elim) ?_)
  have rz2:Rep ct S5 (upd (upd H1 dx (.xd [(f,v)])) b (ErO C (some dx) b)) (strip d) v No:=Rep.tr ext5 (fun a vs e=>Zm hb e) (Rep.tr ext4 (fun a vs e=>Zm hdx e) rz fun a o e z=>z.elim) fun a o e z=>z.elim
  exact ⟨b,C,[v],rfl,hC,rfl,⟨some dx,hs5,ext5 _ _ hs4⟩,⟨v,[],No,No,rfl,Sub.no,Sub.no,Dj.no,rz2,rfl⟩⟩
end
end VS
set_option maxHeartbeats 4000000
namespace VS
open PySem PySem.Spec PyProof.Rows L2
section
variable {ct:Str→Option Addr}
theorem Tr.more {S H S' H':Hp} {F G F':FP} (t:Tr S H F S' H' F') (k:Sub F G):Tr S H G S' H' F':=
 ⟨t.ext,fun a o x n=>t.frm a o x fun z=>n (k a z),t.tup,fun a z=>(t.new a z).imp (k a) id,fun a o z=>(t.nws a o z).imp id fun z=>z.imp (k a) id,t.ins⟩
end
noncomputable def Zo:Expr→Bool
 | .UnaryOp .Not _ _=>false
 | .BoolOp _ _ _=>false
 | .IfExp _ _ _ _=>false
 | .Compare _ _ _ _=>false
 | .ListComp _ _ _ _=>false
 | _=>true
structure ErT where
 isi : Str→Str→Option Bool
 fld : Str→Str→Bool
 mk0 : Str→Bool
 mk1 : Str→Option Str
 cls : Str→Bool
noncomputable def erE:ErT:=⟨fun _ _=>none,fun _ _=>false,fun _=>false,fun _=>none,fun _=>false⟩
structure Gam where
 fn : Str→Option FnS
 me : Str→Str→Option FnS
 made : Str→Option FnS
 gl : Str→Option D
 fr : Str→Bool
 fd : Str→Str→Bool
 rp : Bool
 dn : Str→Str→Option FnS
 er : ErT
mutual
inductive IE where
 | cN | cB (b:Bool) | cI (i:Int) | cS (x:Str)
 | v (i:Nat) (fz:Bool)
 | bin (k:BK) (a b:IE)
 | cat (a b:IE)
 | cmp (k:CK) (a b:IE)
 | conj (es:List IE) | disj (es:List IE) | not (a:IE)
 | ix (a b:IE)
 | tup (es:List IE) | lst (es:List IE)
 | comp (e:IE) (p:Pat) (s:IW) (c:Option IE) (own:List (Str×Nat))
 | call (f:Str) (es:List IE)
 | bi (k:BI) (es:List IE)
 | isi (a:IE) (t:TK)
 | copy (t:Bool) (a:IE)
 | fld (a:IE) (c f:Str)
 | erI (a:IE) (c:Str) | erF (a:IE) (c f:Str) | er0 (c:Str) (a:IE) | erM (c f:Str) (a:IE)
inductive IW where
 | any (e:IE) | enum (e:IE) | r1 (e:IE)
end
section
variable (G:Gam)
noncomputable def fnOr (o:Option FnS):FnS:=o.getD ⟨[],fun _=>none⟩
mutual
noncomputable def ev:IE→ME
 | .cN=>mC .non
 | .cB b=>mC (.bl b)
 | .cI i=>mC (.int i)
 | .cS x=>mC (.str x)
 | .v i fz=>mV i fz
 | .bin k a b=>m2 (binD k) (ev a) (ev b)
 | .cat a b=>Za3 (ev a) (ev b)
 | .cmp k a b=>m2 (cmpD k) (ev a) (ev b)
 | .conj es=>evAnd es
 | .disj es=>evOr es
 | .not a=>ofB (mNot (asB (ev a)))
 | .ix a b=>mIx (ev a) (ev b)
 | .tup es=>mTup (evs es)
 | .lst es=>mLst (evs es)
 | .comp e p s c own=>ZbQ p (own.map (·.2)) (evW s) (evC c) (ev e)
 | .call f es=>mCall (fnOr (G.fn f)) (evs es)
 | .bi k es=>mB (biD k) (evs es)
 | .isi a t=>m1 (ZeY t) (ev a)
 | .copy t a=>mCopy t (mCons (ev a) mNil)
 | .fld a c f=>mFld c f (ev a)
 | .erI a c=>m1 (ZaP G.er.isi c) (ev a)
 | .erF a c f=>Zdq c f (ev a)
 | .er0 c a=>Zds c (ev a)
 | .erM c f a=>Zdr c f (mCons (ev a) mNil)
noncomputable def evs:List IE→MA
 | []=>mNil
 | e ::es=>mCons (ev e) (evs es)
noncomputable def evAnd:List IE→ME
 | []=>fun _=>none
 | [e]=>ev e
 | e ::f ::es=>ofB (mAnd (asB (ev e)) (asB (evAnd (f ::es))))
noncomputable def evOr:List IE→ME
 | []=>fun _=>none
 | [e]=>ev e
 | e ::f ::es=>ofB (mOr (asB (ev e)) (asB (evOr (f ::es))))
noncomputable def evO:Option IE→Option ME
 | none=>none
 | some e=>some (ev e)
noncomputable def evC:Option IE→MT
 | none=>Zba
 | some e=>asB (ev e)
noncomputable def evW:IW→MI
 | .any e=>Zet (ev e)
 | .enum e=>Zc0 (mCons (ev e) mNil)
 | .r1 e=>mRng1 (mCons (ev e) mNil)
end
end
noncomputable def nst:Expr→Bool
 | .Starred _ _=>false
 | _=>true
noncomputable def ZP:Expr→Bool
 | .Call (.Name _ _) [] [] _=>false
 | _=>true
noncomputable def vis (sc:Scope) (x:Str):Bool:=match sc.names.lookup x with
 | some .local=>true
 | some .cell=>true
 | some .free=>true
 | _=>false
noncomputable def glo (sc:Scope) (x:Str):Bool:=match sc.names.lookup x with
 | some .globalImplicit=>true
 | _=>false
noncomputable def okN (x:Str):Bool:=!(x ==("__debug__":Str)) && !(x ==("__classdict__":Str)) && decide (x≠ "__name__")
noncomputable def Zca:MK→Str
 | .append=> "append" | .insert=> "insert" | .pop=> "pop" | .popAt=> "pop" | .reverse=> "reverse" | .clear=> "clear"
noncomputable def Zw:Expr→Bool
 | .Slice _ _ _ _=>false
 | _=>true
noncomputable def Z3:Expr→Bool
 | .Set _ _ _=>false
 | _=>true
noncomputable def Zs (N:List Str) (sc:Scope):SX→Expr→Bool
 | .v i,.Name x _=>decide (N[i]?=some x) && vis sc x && okN x
 | .c n,.Constant (.int n') _ _=>decide (n=n')
 | .add a b,.BinOp a' .Add b' _=>Zs N sc a a' && Zs N sc b b'
 | .sub a b,.BinOp a' .Sub b' _=>Zs N sc a a' && Zs N sc b b'
 | _,_=>false
noncomputable def Z4 (a p:Pos):Bool:=a.endLine ==p.line
noncomputable def Zbn:Expr→Option (Str×Expr×Str)
 | .Call (.Name x _) [a,.Name y _] [] _=>some (x,a,y)
 | _=>none
theorem Zh5 {e a:Expr} {x y:Str} (h:Zbn e=some (x,a,y)):∃ p1 p2 p3,e=.Call (.Name x p1) [a,.Name y p2] [] p3:=by
 unfold Zbn at h;split at h
 ·cases h; exact ⟨_,_,_,rfl⟩
 ·cases h
noncomputable def Zbo:Expr→Option (Expr×Str)
 | .Attribute a f _=>some (a,f)
 | _=>none
theorem Zh6 {e a:Expr} {f:Str} (h:Zbo e=some (a,f)):∃ p,e=.Attribute a f p:=by
 unfold Zbo at h;split at h
 ·cases h; exact ⟨_,rfl⟩
 ·cases h
noncomputable def ZG:Expr→Option (Str×Expr)
 | .Call (.Name x _) [a] [] _=>some (x,a)
 | _=>none
theorem Zdu {e a:Expr} {x:Str} (h:ZG e=some (x,a)):∃ p1 p2,e=.Call (.Name x p1) [a] [] p2:=by
 unfold ZG at h;split at h
 ·cases h; exact ⟨_,_,rfl⟩
 ·cases h
noncomputable def Zcb:Expr→Option (Expr×Str×Pos×Expr×Pos)
 | .Call (.Attribute a m ap) [b] [] p=>some (a,m,ap,b,p)
 | _=>none
theorem Zh7 {e a b:Expr} {m:Str} {ap p:Pos} (h:Zcb e=some (a,m,ap,b,p)):e=.Call (.Attribute a m ap) [b] [] p:=by
 unfold Zcb at h;split at h
 ·cases h; rfl
 ·cases h
section
variable (G:Gam) (N:List Str)
mutual
noncomputable def okE (sc:Scope):IE→Expr→Bool
 | .cN,.Constant .none _ _=>true
 | .cB b,.Constant (.bool b') _ _=>decide (b=b')
 | .cI i,.Constant (.int i') _ _=>decide (i=i')
 | .cS x,.Constant (.str x') _ _=>decide (x=x')
 | .v i _,.Name x _=>decide (N[i]?=some x) && vis sc x && okN x
 | .bin k a b,.BinOp a' op b' _=>decide (op=opr k) && okE sc a a' && okE sc b b'
 | .cat a b,.BinOp a' .Add b' _=>okE sc a a' && okE sc b b'
 | .cmp k a b,.Compare a' [op] [b'] _=>decide (op=cop k) && !behindInMarks op b' && okE sc a a' && okE sc b b'
 | .conj es,.BoolOp .And es' _=>okEs sc es es'
 | .disj es,.BoolOp .Or es' _=>okEs sc es es'
 | .not a,.UnaryOp .Not a' _=>okE sc a a'
 | .ix a b,.Subscript a' b' _=>Zw b' && okE sc a a' && okE sc b b'
 | .tup es,.Tuple es' _ _=>decide (es.length≤1000) && okEs sc es es'
 | .lst es,.List es' _=>decide (es.length≤1000) && okEs sc es es'
 | .comp e p s c own,.ListComp e' [g] sc' _=>decide (g.is_async=0) && blkC N sc sc' own && okW sc s g.target g.iter && okP N sc' p g.target && (ZN p).all (fun i=>(own.map (·.2)).contains i) && Z3 g.iter && okC (relS sc' sc) c g.ifs && okE (relS sc' sc) e e'
 | .call f es,.Call (.Name x _) es' [] _=>decide (f=x) && glo sc x && (G.fn f).isSome && okN x && okEs sc es es'
 | .bi k es,.Call (.Name x _) es' [] _=>decide (x=Zbd k) && glo sc x && G.fr x && decide (es≠[]) && okEs sc es es'
 | .isi a t,.Call (.Name x _) [a',.Name y _] [] _=>decide (x= "isinstance") && glo sc x && G.fr x && decide (y=tkN t) && glo sc y && G.fr y && nst a' && okE sc a a'
 | .erI a c,e=>match Zbn e with
  | some (x,a',y)=>decide (x= "isinstance") && glo sc x && G.fr x && decide (y=c) && glo sc y && okN y && ((decide (y= "ValueError") && G.fr y) || G.er.cls y) && nst a' && okE sc a a'
  | none=>false
 | .erF a c f,e=>match Zbo e with
  | some (a',f')=>decide (f=f') && G.er.fld c f && ZP a' && okE sc a a'
  | none=>false
 | .er0 c a,e=>match ZG e with
  | some (x,a')=>decide (c=x) && glo sc x && G.er.mk0 c && okN x && nst a' && okE sc a a'
  | none=>false
 | .erM c f a,e=>match ZG e with
  | some (x,a')=>decide (c=x) && glo sc x && decide (G.er.mk1 c=some f) && okN x && nst a' && okE sc a a'
  | none=>false
 | .copy t a,e=>match ZG e with
  | some (x,a')=>decide (x=if t=true then ("tuple":Str) else "list") && glo sc x && G.fr x && nst a' && okE sc a a'
  | none=>false
 | .fld a c f,.Attribute a' f' _=>decide (f=f') && G.fd c f && ZP a' && okE sc a a'
 | _,_=>false
noncomputable def okEs (sc:Scope):List IE→List Expr→Bool
 | [],[]=>true
 | e ::es,e' ::es'=>nst e' && okE sc e e' && okEs sc es es'
 | _,_=>false
noncomputable def okO (sc:Scope):Option IE→Option Expr→Bool
 | none,none=>true
 | some e,some e'=>okE sc e e'
 | _,_=>false
noncomputable def okC (sc:Scope):Option IE→List Expr→Bool
 | none,[]=>true
 | some e,[e']=>okE sc e e'
 | _,_=>false
noncomputable def okW (sc:Scope):IW→Expr→Expr→Bool
 | .any e,_,e'=>okE sc e e'
 | .enum e,tg,it=>(dC1 it).any fun q=>Ze1 tg && (decide (q.1=("enumerate":Str)) && glo sc q.1 && G.fr q.1 && nst q.2 && okE sc e q.2)
 | .r1 e,_,it=>(dC1 it).any fun q=>decide (q.1=("range":Str)) && glo sc q.1 && G.fr q.1 && nst q.2 && okE sc e q.2
end
end
end VS
set_option maxHeartbeats 8000000
namespace VS
open PySem PySem.Spec PyProof.Rows L2
theorem Za {a b:Bool} (h:(a && b)=true):a=true∧b=true:=Bool.and_eq_true_iff.mp h
noncomputable def FnR (rp:Bool) (P:Program) (w:World) (K:PySem.W.Frag) (mg:Str→Option Value) (base:Heap) (k:Nat) (f:Addr) (fd:FuncData) (ps:List Str) (sp:Sp):Prop:=
 (∀ vs H Q E,sp vs H Q E→vs.length=ps.length)∧∀ (A:Around) (outer:List Env) (s:Shared) (H:Hp) (args:Args) (us:List Value) (vs:List V) (Q:VK) (E:XK),(rp=true→A.guards=some [])→Room k A→Env0 P w K mg base A outer s H→BindsTo s fd args (ps.zip us)→Vals vs us→sp vs H Q E→
  codeAny (model P w) A (.call (.ref f) args) (CR CX0 outer P w H s Q E) s
section
variable {rp:Bool} {P:Program} {w:World} {K:PySem.W.Frag} {mg:Str→Option Value} {base:Heap} {j k:Nat} {f:Addr} {fd:FuncData} {ps:List Str} {sp:Sp}
theorem FnR.of (F:FnOk P w K mg base CX0 k f fd ps sp):FnR rp P w K mg base k f fd ps sp:=⟨F.len,fun A outer s H args us vs Q E _=>F.run A outer s H args us vs Q E⟩
theorem FnR.run {X:Cx} {pins:List (Addr×Obj)} {σ:L2.St} {H:Hp} {s:Shared} {Q:VK} {us:List Value} {vs:List V} (F:FnR rp X.prog X.w X.K X.mg X.base k f fd ps sp) (hg:rp=true→X.A.guards=some []) (hr:Room k X.A) (hb:Binds X.K fd ps [])
  (I:Inv X pins σ H s) (r:Vals vs us) (h:sp vs H Q fun _ _ _=>False):wpAny (model X.prog X.w) X.A (call (.ref f) us) (EP X pins σ Q) X.xe s:=by
 have hl:us.length=ps.length:=by rw [←r.length]; exact F.1 _ _ _ _ h
 have hbs:=hb s us I.kIn (by rw [List.append_nil]; exact hl);rw [List.append_nil] at hbs;refine wpAny_call (codeAny_mono (F.2 X.A X.stack s H ⟨us,[]⟩ us vs Q _ hg hr I.env0 hbs r h) fun r s' hq=>?_)
 cases r with
 | error e=>exact False.elim hq
 | ok fl=>cases fl with
  | ret u=>exact I.after hq
  | next=>exact False.elim hq
  | brk=>exact False.elim hq
  | cont=>exact False.elim hq
theorem Zh8 {X:Cx} {x:Str} {p pos:Pos} {e:Expr} {es:List Expr} {t:TA} (F:FnR rp X.prog X.w X.K X.mg X.base k f fd ps sp) (hrp:rp=true→X.A.guards=some []) (hr:Room k X.A) (hg:Gl X x) (hm:X.mg x=some (.ref f)) (hk:PySem.W.keepIn X.K (.ref f)=true) (hb:Binds X.K fd ps [])
  (ha:PA X (e ::es) t) (hdb:(x ==("__debug__":Str))=false) (he:starEach (e ::es) X.env=(false,eval e X.env) ::starEach es X.env) (hpl:(backTo pos (starEach es X.env)).any (·.1)=false):
  PE X (.Call (.Name x p) (e ::es) [] pos) (tCall sp [] (fun _ _ _=>False) t):=⟨fun pins s σ H Q I h=>
 wpAny_Call_Name_kw (ld_glob I hg hm (PySem.W.callWith_K (h₀:=X.base) I.ok.mod.kin hk (thn (ha.run pos pins s σ H _ I h) fun us s1 ⟨vs,H1,I1,r,q⟩=>⟨I1.kIn,F.run hrp hr hb I1 r (by have q:sp (vs++[]) H1 Q (fun _ _ _=>False):=q; rwa [List.append_nil] at q)⟩) he hpl) hdb)⟩
theorem Zh9 {X:Cx} {x:Str} {p pos:Pos} (F:FnR rp X.prog X.w X.K X.mg X.base k f fd ps sp) (hrp:rp=true→X.A.guards=some []) (hr:Room k X.A) (hg:Gl X x) (hm:X.mg x=some (.ref f)) (hk:PySem.W.keepIn X.K (.ref f)=true) (hb:Binds X.K fd ps [])
  (hdb:(x ==("__debug__":Str))=false):PE X (.Call (.Name x p) [] [] pos) (tCall sp [] (fun _ _ _=>False) tNil):=⟨fun pins s σ H Q I h=>
 wpAny_Call_Name_kw (ld_glob I hg hm (PySem.W.callWith_K0 I.kIn hk (F.run (us:=[]) hrp hr hb I .nil h)) hdb)⟩
end
noncomputable def spD (ct:Str→Option Addr) (g:Addr) (fn:FnS):Sp:=fun vs H Q E=>∃ vs',vs=.ref g ::vs'∧spI ct fn vs' H Q E
structure ErOk (ct:Str→Option Addr) (E:ErT) (k:Nat) (P:Program) (w:World) (K:PySem.W.Frag) (mg:Str→Option Value) (base:Heap):Prop where
 isi : ∀ c' c b,E.isi c' c=some b→∃ C',ct c'=some C'∧ExcC K C'∧((∃ C,mg c=some (.ref C)∧PySem.W.kitOne K (.ref C') (.ref C)=some b)∨(c= "ValueError"∧mg c=none∧PySem.W.kitOne K (.ref C') (.type "ValueError")=some b))
 fld : ∀ c f,E.fld c f=true→∃ C,ct c=some C∧XfC K C∧PySem.W.findIn K (.ref C) f=some none
 mk0 : ∀ c,E.mk0 c=true→∃ C,ct c=some C∧mg c=some (.ref C)∧PySem.W.excIn K C [.type "ValueError",.type "Exception",.type "BaseException",.type "object"] "ValueError.__new__"=true∧PySem.W.keepIn K (.ref C)=true
 mk1 : ∀ c f,E.mk1 c=some f→∃ C fI fd ps k0,ct c=some C∧mg c=some (.ref C)∧OexC K C∧PySem.W.findIn K (.ref C) "__init__"=some (some (.ref fI))∧PySem.W.typeIn K (.ref fI)=some (.type "function")∧FnOk P w K mg base CX0 k0 fI fd ps (Zbm C f)∧k0≤k∧Binds K fd ps []
 cls : ∀ c,E.cls c=true→∃ C,mg c=some (.ref C)
theorem Zia {ct:Str→Option Addr} {k:Nat} {P:Program} {w:World} {K:PySem.W.Frag} {mg:Str→Option Value} {base:Heap}:ErOk ct erE k P w K mg base:=
 ⟨fun _ _ _ h=>(nomatch h),fun _ _ h=>(nomatch h),fun _ h=>(nomatch h),fun _ _ h=>(nomatch h),fun _ h=>(nomatch h)⟩
structure CG (ct:Str→Option Addr) (G:Gam) (N:List Str) (k:Nat) (sc:Scope) (X:Cx):Prop where
 calm : X.calm=true
 nm : X.N=N
 nd : N.Nodup
 scp : X.env.scope=sc
 room : Room (k+1) X.A
 fn : ∀ x fn,G.fn x=some fn→∃ f fd ps,FnR G.rp X.prog X.w X.K X.mg X.base k f fd ps (spI ct fn)∧X.mg x=some (.ref f)∧PySem.W.keepIn X.K (.ref f)=true∧Binds X.K fd ps []
 me : ∀ c m fn,G.me c m=some fn→∃ C f fd ps,ct c=some C∧Cls X.K C∧Meth X.K C m f∧FnOk X.prog X.w X.K X.mg X.base CX0 k f fd ps (spI ct fn)∧Binds X.K fd ps []
 mak : ∀ c fn,G.made c=some fn→∃ C f fd ps,ct c=some C∧X.mg c=some (.ref C)∧Mk X.K C f∧FnOk X.prog X.w X.K X.mg X.base CX0 k f fd ps (spI ct fn)∧Binds X.K fd ps []∧∃ ms,fn.md=.io ::ms
 gl : ∀ x d,G.gl x=some d→∃ v u,X.mg x=some u∧RelV v u∧Sc d v
 fr : ∀ x,G.fr x=true→X.mg x=none
 fd : ∀ c f,G.fd c f=true→∃ C,ct c=some C∧Cls X.K C∧NoAttr X.K C f
 dn : ∀ f g fn,G.dn f g=some fn→∃ fa ga fd ps,FnOk X.prog X.w X.K X.mg X.base CX0 k fa fd ps (spD ct ga fn)∧X.mg f=some (.ref fa)∧PySem.W.keepIn X.K (.ref fa)=true∧Binds X.K fd ps []∧X.mg g=some (.ref ga)
 gd : G.rp=true→X.A.guards=some []
 er : ErOk ct G.er k X.prog X.w X.K X.mg X.base
section
variable {ct:Str→Option Addr} {G:Gam} {N:List Str} {k:Nat} {sc:Scope} {X:Cx}
theorem CG.blk (cg:CG ct G N k sc X) {sc':Scope} {s:Shared} {H:Hp} {C:Addr} {cl:List (Str×Addr)} {fp:List Addr}:CG ct G N k (relS sc' sc) (X.blk s H sc' (compEnvC sc' cl C X.env) fp):=
 ⟨cg.calm,cg.nm,cg.nd,by rw [←cg.scp]; rfl,cg.room,cg.fn,cg.me,cg.mak,cg.gl,cg.fr,cg.fd,cg.dn,cg.gd,cg.er⟩
theorem CG.pat (cg:CG ct G N k sc X) {sc':Scope} {s:Shared} {H:Hp} {C:Addr} {cl:List (Str×Addr)} {fp:List Addr} {p:Pat} {e:Expr} (h:okP N sc' p e=true):PG (X.blk s H sc' (compEnvC sc' cl C X.env) fp) e (gP X.K p):=
 ZbR (X:=X.blk s H sc' (compEnvC sc' cl C X.env) fp) cg.nm cg.nd (fun x e=>lookup_relS_keep (fun z=>nomatch z) e) cg.calm (fun x e=>⟨lookup_relS_keep (fun z=>nomatch z) e,by show (sc'.names.lookup x ==some .cell)=true; rw [e]; rfl⟩) h
theorem ZaQ (h:vis sc x=true):Vis sc x:=by
 unfold vis at h;split at h
 ·rename_i e; exact .inl e
 ·rename_i e; exact .inr (.inl e)
 ·rename_i e; exact .inr (.inr e)
 ·cases h
theorem Zj (cg:CG ct G N k sc X) {x:Str} (h:glo sc x=true):Gl X x:=by
 unfold glo at h;split at h
 ·rename_i e
  show X.env.scope.names.lookup x=some .globalImplicit;rw [cg.scp]; exact e
 ·cases h
theorem Zk {x:Str} (h:okN x=true):(x ==("__debug__":Str))=false∧(x ==("__classdict__":Str))=false∧x≠ "__name__":=by
 obtain ⟨h12,h3⟩:=Za h;obtain ⟨h1,h2⟩:=Za h12;refine ⟨?_,?_,of_decide_eq_true h3⟩
 ·revert h1; cases (x ==("__debug__":Str))<;>simp
 ·revert h2; cases (x ==("__classdict__":Str))<;>simp
theorem Ze {e:Expr} (h:nst e=true) (es:List Expr) (env:Env):starEach (e ::es) env=(false,eval e env) ::starEach es env:=by
 cases e<;>first | rfl | exact nomatch (show false=true from h)
theorem Zaj:∀ {es:List IE} {es':List Expr},okEs G N sc es es'=true→es'.all nst=true
 | [],[],_=>rfl
 | [],_ ::_,h=>nomatch (show false=true from h)
 | _ ::_,[],h=>nomatch (show false=true from h)
 | e ::es,e' ::es',h=>by
  have h:(nst e' && okE G N sc e e' && okEs G N sc es es')=true:=h;obtain ⟨h1,h2⟩:=Za h;obtain ⟨h3,h4⟩:=Za h1;rw [List.all_cons,h3,Zaj h2];rfl
theorem Zfj:∀ {es:List IE} {es':List Expr},okEs G N sc es es'=true→es'.length=es.length
 | [],[],_=>rfl
 | [],_ ::_,h=>nomatch (show false=true from h)
 | _ ::_,[],h=>nomatch (show false=true from h)
 | e ::es,e' ::es',h=>by
  have h:(nst e' && okE G N sc e e' && okEs G N sc es es')=true:=h;rw [List.length_cons,List.length_cons,Zfj (Za h).2]
theorem Zdv:∀ {es:List Expr},es.all nst=true→∀ (env:Env),∀ p∈starEach es env,p.1=false
 | [],_,env,p,hp=>by simp [starEach] at hp
 | e ::es,h,env,p,hp=>by
  rw [List.all_cons] at h;obtain ⟨h1,h2⟩:=Za h;rw [Ze h1] at hp;rcases List.mem_cons.mp hp with rfl | hp
  ·rfl
  ·exact Zdv h2 env p hp
theorem ZQ {es:List Expr} (h:es.all nst=true) (pos:Pos) (env:Env):(backTo pos (starEach es env)).any (·.1)=false:=by
 rw [List.any_eq_false];intro p hp;unfold backTo at hp;obtain ⟨q,hq,rfl⟩:=List.mem_map.mp hp;show ¬ q.1=true;rw [Zdv h env q hq];exact Bool.false_ne_true
theorem Zfk {es:List Expr} (h:es.all nst=true) (pos:Pos) (env:Env):(backTo pos (starEach es env)).all (fun x=>!x.1)=true:=by
 rw [List.all_eq_true];intro p hp;unfold backTo at hp;obtain ⟨q,hq,rfl⟩:=List.mem_map.mp hp;show (!q.1)=true;rw [Zdv h env q hq];rfl
theorem Zdw:∀ {es:List IE} {ρ:Rho} {rs:List Rv} {ρ':Rho},evs G es ρ=some (rs,ρ')→rs.length=es.length
 | [],_,_,_,e=>by cases e; rfl
 | e ::es,_,_,_,h=>by
  obtain ⟨p,hp,h⟩:=bind_some h;obtain ⟨q,hq,h⟩:=bind_some h;cases h;rw [List.length_cons,List.length_cons,Zdw (ρ':=q.2) hq]
theorem Zcc {o:Expr} (h:ZP o=true) (f:Str) (env:Env) (w:Sem Value):attributeBase o f env w=w:=by
 unfold attributeBase;split
 ·rename_i id p pos
  exact nomatch (show false=true from h)
 ·rfl
theorem Zdx (m:MT):asB (ofB m)=m:=by
 funext ρ
 unfold asB ofB;cases m ρ with
 | none=>rfl
 | some p=>rfl
theorem Zcd {b:Expr} (h:Zw b=true):PlainIx b:=by
 intro o i;cases b<;>first | rfl | exact nomatch (show false=true from h)
theorem Zbp {e:Expr} (h:Z3 e=true) (env:Env) (x:Value):foldedSetIterable e env x=pure x:=by
 cases e<;>first | rfl | exact nomatch (show false=true from h)
theorem Zbq (cg:CG ct G N k sc X):X.A.units+65 < cLine:=by have:=cg.room.un; omega
theorem hu1 (cg:CG ct G N k sc X):X.A.units+1 < cLine:=by have:=cg.room.un; omega
theorem Zfl {o:Expr} {m:Str} {ap pos:Pos} {es:List Expr} {env:Env} (hb:ZP o=true) (hl:Z4 ap pos=true) (hs:es.all nst=true) (hn:es.length < 20):
  eval (.Call (.Attribute o m ap) es [] pos) env=(do
   let ov ←eval o env
   standAt ap.atName
   let (f,first) ←holding [ov] (getMethod ov m (do return (←importBound o env).getD true))
   callWith pos f first (backTo pos (starEach es env)) (backToKw pos (keywordEach [] env))):=by
 show (do
  let ov ←attributeBase o m env (eval o env)
  standAt ap.atName
  methodCall o m ap pos env ov (es.length+([]:List Keyword).length) (backTo pos (starEach es env)) (backToKw pos (keywordEach [] env)))=_
 rw [Zcc hb];have hf:methodCallForm (es.length+([]:List Keyword).length) (backTo pos (starEach es env)) (backToKw pos (keywordEach [] env))=true:=by
  unfold methodCallForm;rw [Zfk hs];show (true && true && decide (es.length+0+0 < 30))=true;rw [decide_eq_true (by omega)];rfl
 unfold methodCall;rw [hf];have hp:methodCallPos true o env ap pos=pure pos:=by
  unfold methodCallPos;rw [if_pos];unfold Z4 at hl;rw [hl];rfl
 rw [hp];rfl
end
end VS
namespace VS
open PySem PySem.Spec PyProof.Rows L2
structure Snd (ct:Str→Option Addr) (X:Cx) (e:Expr) (m:ME):Prop where
 pe : PE X e (tI ct m)
 pt : PT X e (tT ct (asB m))
section
variable {ct:Str→Option Addr} {G:Gam} {N:List Str} {k:Nat} {sc:Scope} {X:Cx}
theorem Snd.of {e:Expr} {m:ME} (h:PE X e (tI ct m)) (he:∀ whole,isTrue e X.env whole=(do let v ←whole; standAt e.pos; holding [v] (truthy v))):Snd ct X e m:=⟨h,Zgp h he⟩
theorem Z5 (cg:CG ct G N k sc X) {i:Nat} {x:Str} {pos:Pos} (h1:decide (N[i]?=some x)=true) (h2:vis sc x=true) (h3:okN x=true):PE X (.Name x pos) (tVar i):=
 pe_var (by rw [cg.nm]; exact of_decide_eq_true h1) (by rw [cg.scp]; exact ZaQ h2) (Zk h3).1 (Zk h3).2.1
noncomputable def Zdy:MK→String
 | .append=> "list.append" | .insert=> "list.insert" | .pop=> "list.pop" | .popAt=> "list.pop" | .reverse=> "list.reverse" | .clear=> "list.clear"
theorem Zib:∀ m:MK,PySem.Slot "list" (Zca m) (Zdy m)
 | .append=>F.slot_list_append | .insert=>F.slot_list_insert | .pop=>F.slot_list_pop | .popAt=>F.slot_list_pop | .reverse=>F.slot_list_reverse | .clear=>F.slot_list_clear
theorem Zic:∀ m:MK,typeOf (.builtin (Zdy m))=pure (.type "method_descriptor")
 | .append=>F.type_list_append | .insert=>F.type_list_insert | .pop=>F.type_list_pop | .popAt=>F.type_list_pop | .reverse=>F.type_list_reverse | .clear=>F.type_list_clear
theorem Zid:∀ m:MK,MtR X (Zdy m) (ZaH m)
 | .append=>mt_append | .insert=>mt_insert | .pop=>mt_pop | .popAt=>mt_popAt | .reverse=>mt_reverse | .clear=>mt_clear
theorem Zie {es:List Expr} {pos:Pos} {env:Env} (hs:es.all nst=true) (hn:es.length < 20):((backTo pos (starEach es env)).all (fun x=>!x.1) && (backToKw pos (keywordEach [] env)).all (fun x=>x.1.isSome)
   && decide (es.length+([]:List Keyword).length+(if ([]:List Keyword).isEmpty then 0 else 1) < 30))=true:=by
 rw [Zfk hs];show (true && true && decide (es.length+0+0 < 30))=true;rw [decide_eq_true (by omega)];rfl
theorem Zfm {m:MK} {o e:Expr} {es:List Expr} {to:TE} {t:TA} {ap pos:Pos} (ho:PE X o to) (ha:PA X (e ::es) t) (hb:ZP o=true) (hl:Z4 ap pos=true) (hs:(e ::es).all nst=true) (hn:(e ::es).length < 20):
  PE X (.Call (.Attribute o (Zca m) ap) (e ::es) [] pos) (tBM X.K "list" (ZaH m) to t):=
 pe_bm F.plainAttrs_list (Zib m) (Zic m) (Zid m) ho ha (Zcc hb _ _ _) (Zie hs hn) hl (Ze (Za (by rwa [List.all_cons] at hs)).1 _ _) (ZQ (Za (by rwa [List.all_cons] at hs)).2 _ _)
theorem no {P:Prop} (h:false=true):P:=nomatch h
theorem Z6 (cg:CG ct G N k sc X):∀ (a:SX) {e:Expr},Zs N sc a e=true→PE X e (tSx a)
 | .v i,e,h=>by
  cases e with
  | Name x p=>
   have h:(decide (N[i]?=some x) && vis sc x && okN x)=true:=h;obtain ⟨h,h3⟩:=Za h;obtain ⟨h1,h2⟩:=Za h;exact Z5 cg h1 h2 h3
  | _=>exact no h
 | .c n,e,h=>by
  cases e with
  | Constant c a p=>cases c with
   | int n'=>
    cases of_decide_eq_true (show decide (n=n')=true from h);exact pe_int
   | _=>exact no h
  | _=>exact no h
 | .add a b,e,h=>by
  cases e with
  | BinOp a' op b' p=>cases op with
   | Add=>
    have h:(Zs N sc a a' && Zs N sc b b')=true:=h;obtain ⟨h1,h2⟩:=Za h;exact pe_op (ZbT .add) (Z6 cg a h1) (Z6 cg b h2)
   | _=>exact no h
  | _=>exact no h
 | .sub a b,e,h=>by
  cases e with
  | BinOp a' op b' p=>cases op with
   | Sub=>
    have h:(Zs N sc a a' && Zs N sc b b')=true:=h;obtain ⟨h1,h2⟩:=Za h;exact pe_op (ZbT .sub) (Z6 cg a h1) (Z6 cg b h2)
   | _=>exact no h
  | _=>exact no h
theorem Zif {sc:Scope} {e:IE} {tg it:Expr} (h:okW G N sc (.enum e) tg it=true):∃ els kk tp x p e1 pos,tg=.Tuple els kk tp∧it=.Call (.Name x p) [e1] [] pos∧(decide (x= "enumerate") && glo sc x && G.fr x && nst e1 && okE G N sc e e1)=true:=by
 obtain ⟨q,hq,h⟩:=Zd (o:=dC1 it) h;obtain ⟨h1,h2⟩:=Za h;obtain ⟨els,kk,tp,rfl⟩:=ZhK h1;obtain ⟨p,pos,rfl⟩:=Zb5 hq;exact ⟨_,_,_,_,_,_,_,rfl,rfl,h2⟩
theorem Zig {sc:Scope} {e:IE} {tg it:Expr} (h:okW G N sc (.r1 e) tg it=true):∃ x p e1 pos,it=.Call (.Name x p) [e1] [] pos∧(decide (x= "range") && glo sc x && G.fr x && nst e1 && okE G N sc e e1)=true:=by
 obtain ⟨q,hq,h⟩:=Zd (o:=dC1 it) h;obtain ⟨p,pos,rfl⟩:=Zb5 hq;exact ⟨_,_,_,_,rfl,h⟩
mutual
theorem snd:∀ {sc:Scope} {X:Cx} (cg:CG ct G N k sc X) (ie:IE) {e:Expr},okE G N sc ie e=true→Snd ct X e (ev G ie)
 | sc,X,cg,.cN,e,h=>by
  cases e with
  | Constant c a p=>cases c with
   | none=>exact .of (pe_non.to (ZbH rfl)) fun _=>rfl
   | _=>exact no h
  | _=>exact no h
 | sc,X,cg,.cB b,e,h=>by
  cases e with
  | Constant c a p=>cases c with
   | bool b'=>cases of_decide_eq_true (show decide (b=b')=true from h); exact .of (pe_bl.to (ZbH rfl)) fun _=>rfl
   | _=>exact no h
  | _=>exact no h
 | sc,X,cg,.cI i,e,h=>by
  cases e with
  | Constant c a p=>cases c with
   | int i'=>cases of_decide_eq_true (show decide (i=i')=true from h); exact .of (pe_int.to (ZbH rfl)) fun _=>rfl
   | _=>exact no h
  | _=>exact no h
 | sc,X,cg,.cS x,e,h=>by
  cases e with
  | Constant c a p=>cases c with
   | str x'=>cases of_decide_eq_true (show decide (x=x')=true from h); exact .of (pe_str.to (ZbH rfl)) fun _=>rfl
   | _=>exact no h
  | _=>exact no h
 | sc,X,cg,.v i fz,e,h=>by
  cases e with
  | Name x p=>
   have h:(decide (N[i]?=some x) && vis sc x && okN x)=true:=h;obtain ⟨h,h3⟩:=Za h;obtain ⟨h1,h2⟩:=Za h;exact .of ((Z5 cg h1 h2 h3).to Zgn) fun _=>rfl
  | _=>exact no h
 | sc,X,cg,.bin kk a b,e,h=>by
  cases e with
  | BinOp a' op b' p=>
   have h:(decide (op=opr kk) && okE G N sc a a' && okE G N sc b b')=true:=h;obtain ⟨h,h3⟩:=Za h;obtain ⟨h1,h2⟩:=Za h;cases of_decide_eq_true h1;exact .of ((pe_op (ZbT kk) (snd cg a h2).pe (snd cg b h3).pe).to (ZcD (ZbU kk))) fun _=>rfl
  | _=>exact no h
 | sc,X,cg,.cat a b,e,h=>by
  cases e with
  | BinOp a' op b' p=>cases op with
   | Add=>
    have h:(okE G N sc a a' && okE G N sc b b')=true:=h;obtain ⟨h2,h3⟩:=Za h;exact .of ((pe_op op_cat (snd cg a h2).pe (snd cg b h3).pe).to ZgH) fun _=>rfl
   | _=>exact no h
  | _=>exact no h
 | sc,X,cg,.cmp kk a b,e,h=>by
  cases e with
  | Compare a' ops bs p=>cases ops with
   | nil=>exact no h
   | cons op ops=>cases ops with
    | cons _ _=>cases bs with
     | nil=>exact no h
     | cons b' bs=>exact no h
    | nil=>cases bs with
     | nil=>exact no h
     | cons b' bs=>cases bs with
      | cons _ _=>exact no h
      | nil=>
       have h:(decide (op=cop kk) && !behindInMarks op b' && okE G N sc a a' && okE G N sc b b')=true:=h;obtain ⟨h,h4⟩:=Za h;obtain ⟨h,h3⟩:=Za h;obtain ⟨h1,h2⟩:=Za h;cases of_decide_eq_true h1;have hm:behindInMarks (cop kk) b'=false:=by revert h2; cases behindInMarks (cop kk) b'<;>simp
       have ha:=(snd cg a h3).pe;have hb:=(snd cg b h4).pe;exact ⟨(pe_cmpR (ZbV (Zbq cg) kk) ha hb hm).to (ZcD (ZbW kk)),(pt_cmpR (ZbV (Zbq cg) kk) ha hb hm).to fun σ H Q q=>ZcD (ZbW kk) σ H _ (Zd5 σ H Q q)⟩
  | _=>exact no h
 | sc,X,cg,.conj es,e,h=>by
  cases e with
  | BoolOp op es' p=>cases op with
   | And=>exact ⟨(sndAnd cg es h).1,(sndAnd cg es h).2.pt⟩
   | Or=>exact no h
  | _=>exact no h
 | sc,X,cg,.disj es,e,h=>by
  cases e with
  | BoolOp op es' p=>cases op with
   | Or=>exact ⟨(sndOr cg es h).1,(sndOr cg es h).2.pt⟩
   | And=>exact no h
  | _=>exact no h
 | sc,X,cg,.not a,e,h=>by
  cases e with
  | UnaryOp op a' p=>cases op with
   | Not=>
    refine ⟨(pe_not (snd cg a h).pe).to Zgv,(pt_not (snd cg a h).pt).to fun σ H Q q=>Zgs σ H Q ?_⟩
    rw [←Zdx (mNot (asB (ev G a)))];exact q
   | _=>exact no h
  | _=>exact no h
 | sc,X,cg,.ix a b,e,h=>by
  cases e with
  | Subscript a' b' p=>
   have h:(Zw b' && okE G N sc a a' && okE G N sc b b')=true:=h;obtain ⟨h,h3⟩:=Za h;obtain ⟨h1,h2⟩:=Za h;exact .of ((pe_ix (ZbK (hu1 cg)) (snd cg a h2).pe (snd cg b h3).pe (Zcd h1)).to Zgz) fun _=>rfl
  | _=>exact no h
 | sc,X,cg,.tup es,e,h=>by
  cases e with
  | Tuple es' a p=>
   have h:(decide (es.length≤1000) && okEs G N sc es es')=true:=h;obtain ⟨h1,h2⟩:=Za h;have hn:=of_decide_eq_true h1;exact .of ((pe_tup (snds cg es h2)).to (Zgy fun ρ rs ρ' z=>by have:=Zdw z; omega)) fun _=>rfl
  | _=>exact no h
 | sc,X,cg,.lst es,e,h=>by
  cases e with
  | List es' p=>
   have h:(decide (es.length≤1000) && okEs G N sc es es')=true:=h;obtain ⟨h1,h2⟩:=Za h;have hn:=of_decide_eq_true h1;exact .of ((pe_lst (snds cg es h2)).to (Zgx fun ρ rs ρ' z=>by have:=Zdw z; omega)) fun _=>rfl
  | _=>exact no h
 | sc,X,cg,.comp e p s c own,e',h=>by
  cases e' with
  | ListComp elt gens sc' pos=>cases gens with
   | nil=>exact no h
   | cons g gens=>cases gens with
    | cons _ _=>exact no h
    | nil=>
     obtain ⟨tg,it,ifs,as⟩:=g;have h:(decide (as=0) && blkC N sc sc' own && okW G N sc s tg it && okP N sc' p tg && (ZN p).all (fun i=>(own.map (·.2)).contains i) && Z3 it && okC G N (relS sc' sc) c ifs && okE G N (relS sc' sc) e elt)=true:=h;obtain ⟨h,h7⟩:=Za h;obtain ⟨h,h6⟩:=Za h;obtain ⟨h,h5⟩:=Za h;obtain ⟨h,h4⟩:=Za h;obtain ⟨h,h3⟩:=Za h;obtain ⟨h,h2⟩:=Za h;obtain ⟨h0,h1⟩:=Za h;cases of_decide_eq_true h0;refine .of ((pe_lc cg.calm (by rw [cg.nm]; exact cg.nd) (sndW cg s h2) (by rw [cg.nm,cg.scp]; exact blkOk_by h1) (fun s H C cl fp=>cg.pat h3) (fun s H C cl fp=>sndC (cg.blk (s:=s) (H:=H) (C:=C) (cl:=cl) (fp:=fp)) c h6) (fun s H C cl fp=>(snd (cg.blk (s:=s) (H:=H) (C:=C) (cl:=cl) (fp:=fp)) e h7).pe) (Zbp h5 _)).to (ZeC fun i hi=>?_)) fun _=>rfl
     exact List.contains_iff_mem.mp (List.all_eq_true.mp h4 i hi)
  | _=>exact no h
 | sc,X,cg,.call f es,e,h=>by
  cases e with
  | Call fn es' kws pos=>cases fn with
   | Name x p=>cases kws with
    | cons _ _=>exact no h
    | nil=>
     have h:(decide (f=x) && glo sc x && (G.fn f).isSome && okN x && okEs G N sc es es')=true:=h;obtain ⟨h,h5⟩:=Za h;obtain ⟨h,h4⟩:=Za h;obtain ⟨h,h3⟩:=Za h;obtain ⟨h1,h2⟩:=Za h;cases of_decide_eq_true h1;obtain ⟨d,hd⟩:=Option.isSome_iff_exists.mp h3;obtain ⟨fa,fd,ps,F,hm,hk,hb⟩:=cg.fn f d hd;have he:ev G (.call f es)=mCall d (evs G es):=by show mCall (fnOr (G.fn f)) (evs G es)=_; rw [hd]; rfl
     rw [he];have hA:=snds cg es h5;have hs:=Zaj h5;cases es' with
     | nil=>exact .of ((Zh9 F cg.gd (cg.room.mono (Nat.le_succ _)) (Zj cg h2) hm hk hb (Zk h4).1).to fun σ H Q q=>by
       cases es with
       | nil=>obtain ⟨ρ,S,F,R,r,ρ',st,e,kk⟩:=Zem (E:=fun _ _ _=>False) σ H Q q; exact ZaD σ H _ ⟨ρ,S,F,R,r,ρ',st,e,kk⟩
       | cons _ _=>exact no h5) fun _=>rfl
     | cons e1 es1=>
      obtain ⟨n1,n2⟩:=Za (by rwa [List.all_cons] at hs);exact .of ((Zh8 F cg.gd (cg.room.mono (Nat.le_succ _)) (Zj cg h2) hm hk hb hA (Zk h4).1 (Ze n1 _ _) (ZQ n2 _ _)).to Zem) fun _=>rfl
   | _=>exact no h
  | _=>exact no h
 | sc,X,cg,.bi kk es,e,h=>by
  cases e with
  | Call fn es' kws pos=>cases fn with
   | Name x p=>cases kws with
    | cons _ _=>exact no h
    | nil=>
     have h:(decide (x=Zbd kk) && glo sc x && G.fr x && decide (es≠[]) && okEs G N sc es es')=true:=h;obtain ⟨h,h5⟩:=Za h;obtain ⟨h,h4⟩:=Za h;obtain ⟨h,h3⟩:=Za h;obtain ⟨h1,h2⟩:=Za h;cases of_decide_eq_true h1;have hA:=snds cg es h5;have hs:=Zaj h5;cases es' with
     | nil=>cases es with
      | nil=>exact absurd rfl (of_decide_eq_true h4)
      | cons _ _=>exact no h5
     | cons e1 es1=>
      obtain ⟨n1,n2⟩:=Za (by rwa [List.all_cons] at hs);have hc:=ZhD (X:=X) cg.calm (Zbq cg) kk;have hv:=Zdc kk;have hx:Zbd kk≠ "__name__"∧(Zbd kk ==("__debug__":Str))=false:=by cases kk<;>decide
      by_cases ht:Zdb kk=true
      ·rw [if_pos ht] at hc hv
       exact .of ((pe_callTy hc (Zj cg h2) (cg.fr _ h3) hv hA hx.1 hx.2 (Ze n1 _ _) (ZQ n2 _ _)).to (Zed (Zb1 kk))) fun _=>rfl
      ·rw [if_neg ht] at hc hv
       exact .of ((pe_callB hc (Zj cg h2) (cg.fr _ h3) hv hA hx.1 hx.2 (Ze n1 _ _) (ZQ n2 _ _)).to (Zed (Zb1 kk))) fun _=>rfl
   | _=>exact no h
  | _=>exact no h
 | sc,X,cg,.isi a t,e,h=>by
  cases e with
  | Call fn es' kws pos=>cases fn with
   | Name x p=>cases es' with
    | nil=>cases kws<;>exact no h
    | cons a' es1=>cases es1 with
     | nil=>cases kws<;>exact no h
     | cons b' es2=>cases es2 with
      | cons _ _=>cases b'<;>cases kws<;>exact no h
      | nil=>cases b' with
       | Name y p2=>cases kws with
        | cons _ _=>exact no h
        | nil=>
         have h:(decide (x= "isinstance") && glo sc x && G.fr x && decide (y=tkN t) && glo sc y && G.fr y && nst a' && okE G N sc a a')=true:=h;obtain ⟨h,h8⟩:=Za h;obtain ⟨h,h7⟩:=Za h;obtain ⟨h,h6⟩:=Za h;obtain ⟨h,h5⟩:=Za h;obtain ⟨h,h4⟩:=Za h;obtain ⟨h,h3⟩:=Za h;obtain ⟨h1,h2⟩:=Za h;cases of_decide_eq_true h1;cases of_decide_eq_true h4;have hy:PE X (.Name (tkN t) p2) (tC (.ty (ZaL t))):=pe_bltn (Zj cg h5) (cg.fr _ h6) (u:=.type (ZaL t)) (by cases t<;>decide +kernel) rfl (by cases t<;>decide) (by cases t<;>decide);exact .of ((pe_callB call_isi (Zj cg h2) (cg.fr _ h3) boot_isinstance (pa_cons (snd cg a h8).pe (pa_cons hy pa_nil (Ze rfl _ _)) (Ze h7 _ _)) (by decide) (by decide) (Ze h7 _ _) rfl).to (Zgo (ZhG t))) fun _=>rfl
       | _=>cases kws<;>exact no h
   | _=>cases es' with
    | nil=>exact no h
    | cons a' es1=>cases es1 with
     | nil=>exact no h
     | cons b' es2=>cases es2<;>cases b'<;>exact no h
  | _=>exact no h
 | sc,X,cg,.erI a c,e,h=>by
  have h:(match Zbn e with
   | some (x,a',y)=>decide (x= "isinstance") && glo sc x && G.fr x && decide (y=c) && glo sc y && okN y && ((decide (y= "ValueError") && G.fr y) || G.er.cls y) && nst a' && okE G N sc a a'
   | none=>false)=true:=h
  cases hd:Zbn e with
  | none=>rw [hd] at h; exact no h
  | some q=>
   obtain ⟨x,a2,y⟩:=q;rw [hd] at h;obtain ⟨p1,p2,pos,rfl⟩:=Zh5 hd;have h:(decide (x= "isinstance") && glo sc x && G.fr x && decide (y=c) && glo sc y && okN y && ((decide (y= "ValueError") && G.fr y) || G.er.cls y) && nst a2 && okE G N sc a a2)=true:=h;obtain ⟨h,h9⟩:=Za h;obtain ⟨h,h8⟩:=Za h;obtain ⟨h,h7⟩:=Za h;obtain ⟨h,h6⟩:=Za h;obtain ⟨h,h5⟩:=Za h;obtain ⟨h,h4⟩:=Za h;obtain ⟨h,h3⟩:=Za h;obtain ⟨h1,h2⟩:=Za h;cases of_decide_eq_true h1;cases of_decide_eq_true h4
   have fin:∀ (w:V) (cv:Value),PE X (.Name c p2) (tC w)→(∀ u,RelV w u→u=cv)→(∀ c' b,G.er.isi c' c=some b→∃ C',ct c'=some C'∧ExcC X.K C'∧PySem.W.kitOne X.K (.ref C') cv=some b)→
     Snd ct X (.Call (.Name "isinstance" p1) [a2,.Name c p2] [] pos) (m1 (ZaP G.er.isi c) (ev G a)):=fun w cv hy hw hq=>
    .of ((pe_callB ZhW (Zj cg h2) (cg.fr _ h3) boot_isinstance (pa_cons (snd cg a h9).pe (pa_cons hy pa_nil (Ze rfl _ _)) (Ze h8 _ _)) (by decide) (by decide) (Ze h8 _ _) rfl).to (Zh1 fun c' b e=>let ⟨C',e1,e2,e3⟩:=hq c' b e; ⟨C',cv,e1,e2,hw,e3⟩)) fun _=>rfl
   rcases Bool.or_eq_true_iff.mp h7 with h7 | h7
   ·obtain ⟨e1,e2⟩:=Za h7
    have e1:=of_decide_eq_true e1;have hm:=cg.fr _ e2;have hy:PE X (.Name c p2) (tC (.ty "ValueError")):=by
     rw [e1] at hm ⊢;exact pe_bltn (by rw [←e1]; exact Zj cg h5) hm (u:=.type "ValueError") (by decide +kernel) rfl (by decide) (by decide)
    refine fin (.ty "ValueError") (.type "ValueError") hy (fun u r=>r) fun c' b e=>?_
    obtain ⟨C',a1,a2,a3⟩:=cg.er.isi c' c b e;rcases a3 with ⟨C,a4,_⟩ | ⟨_,_,a5⟩
    ·rw [hm] at a4; cases a4
    ·exact ⟨C',a1,a2,a5⟩
   ·obtain ⟨C2,hm⟩:=cg.er.cls c h7
    have hy:PE X (.Name c p2) (tC (.ref C2)):=pe_glob (v:=.ref C2) (Zj cg h5) hm rfl (Zk h6).1;refine fin (.ref C2) (.ref C2) hy (fun u r=>r) fun c' b e=>?_
    obtain ⟨C',a1,a2,a3⟩:=cg.er.isi c' c b e;rcases a3 with ⟨C,a4,a5⟩ | ⟨_,a4,_⟩
    ·rw [hm] at a4; cases a4
     exact ⟨C',a1,a2,a5⟩
    ·rw [hm] at a4; cases a4
 | sc,X,cg,.erF a c f,e,h=>by
  have h:(match Zbo e with
   | some (a',f')=>decide (f=f') && G.er.fld c f && ZP a' && okE G N sc a a'
   | none=>false)=true:=h
  cases hd:Zbo e with
  | none=>rw [hd] at h; exact no h
  | some q=>
   obtain ⟨a2,f2⟩:=q;rw [hd] at h;obtain ⟨p,rfl⟩:=Zh6 hd;have h:(decide (f=f2) && G.er.fld c f && ZP a2 && okE G N sc a a2)=true:=h;obtain ⟨h,h4⟩:=Za h;obtain ⟨h,h3⟩:=Za h;obtain ⟨h1,h2⟩:=Za h;cases of_decide_eq_true h1;obtain ⟨C,hC,hk⟩:=cg.er.fld c f h2;exact .of ((ZhX (snd cg a h4).pe (Zcc h3 _ _ _)).to (Zh2 hC hk)) fun _=>rfl
 | sc,X,cg,.er0 c a,e,h=>by
  have h:(match ZG e with
   | some (x,a')=>decide (c=x) && glo sc x && G.er.mk0 c && okN x && nst a' && okE G N sc a a'
   | none=>false)=true:=h
  cases hd:ZG e with
  | none=>rw [hd] at h; exact no h
  | some q=>
   obtain ⟨x,a'⟩:=q;rw [hd] at h;obtain ⟨p,pos,rfl⟩:=Zdu hd;have h:(decide (c=x) && glo sc x && G.er.mk0 c && okN x && nst a' && okE G N sc a a')=true:=h;obtain ⟨h,h6⟩:=Za h;obtain ⟨h,h5⟩:=Za h;obtain ⟨h,h4⟩:=Za h;obtain ⟨h,h3⟩:=Za h;obtain ⟨h1,h2⟩:=Za h;cases of_decide_eq_true h1;obtain ⟨C,hC,hm,hx,hk⟩:=cg.er.mk0 c h3;exact .of ((ZhY PySem.F.excBase_ValueError hx hm hk (Zj cg h2) (snd cg a h6).pe (Zk h4).1 (Ze h5 _ _)).to (Zh3 hC)) fun _=>rfl
 | sc,X,cg,.erM c f a,e,h=>by
  have h:(match ZG e with
   | some (x,a')=>decide (c=x) && glo sc x && decide (G.er.mk1 c=some f) && okN x && nst a' && okE G N sc a a'
   | none=>false)=true:=h
  cases hd:ZG e with
  | none=>rw [hd] at h; exact no h
  | some q=>
   obtain ⟨x,a'⟩:=q;rw [hd] at h;obtain ⟨p,pos,rfl⟩:=Zdu hd;have h:(decide (c=x) && glo sc x && decide (G.er.mk1 c=some f) && okN x && nst a' && okE G N sc a a')=true:=h;obtain ⟨h,h6⟩:=Za h;obtain ⟨h,h5⟩:=Za h;obtain ⟨h,h4⟩:=Za h;obtain ⟨h,h3⟩:=Za h;obtain ⟨h1,h2⟩:=Za h;cases of_decide_eq_true h1;obtain ⟨C,fI,fd,ps,k0,hC,hm,T,iC,tI,F1,hk0,hb⟩:=cg.er.mk1 c f (of_decide_eq_true h3);have hA:PA X [a'] (tIA ct (mCons (ev G a) mNil)):=(pa_cons (snd cg a h6).pe (pa_nil.to ZaD) (Ze h5 _ _)).to Za1;exact .of ((ZhZ (pmk_oex T iC tI F1 (cg.room.mono (Nat.succ_le_succ hk0)) hb (.nil) pass0 (Zj cg h2) hm hA (Zk h4).1 (Ze h5 _ _) rfl)).to (Zh4 hC)) fun _=>rfl
 | sc,X,cg,.copy t a,e,h=>by
  have h:(match ZG e with
   | some (x,a')=>decide (x=if t=true then ("tuple":Str) else "list") && glo sc x && G.fr x && nst a' && okE G N sc a a'
   | none=>false)=true:=h
  cases hd:ZG e with
  | none=>rw [hd] at h; exact no h
  | some q=>
   obtain ⟨x,a'⟩:=q;rw [hd] at h;obtain ⟨p,pos,rfl⟩:=Zdu hd;have h:(decide (x=if t=true then ("tuple":Str) else "list") && glo sc x && G.fr x && nst a' && okE G N sc a a')=true:=h;obtain ⟨h,h5⟩:=Za h;obtain ⟨h,h4⟩:=Za h;obtain ⟨h,h3⟩:=Za h;obtain ⟨h1,h2⟩:=Za h;have hx:=of_decide_eq_true h1;have hA:PA X [a'] (tIA ct (mCons (ev G a) mNil)):=(pa_cons (snd cg a h5).pe (pa_nil.to ZaD) (Ze h4 _ _)).to Za1;cases t with
   | true=>
    rw [if_pos rfl] at hx;cases hx;exact .of ((pe_callTy call_tuple_of (Zj cg h2) (cg.fr _ h3) PyProof.Rows.boot_tuple hA (by decide) (by decide) (Ze h4 _ _) rfl).to fun σ H Q q=>Zee (K:=X.K) σ H Q q) fun _=>rfl
   | false=>
    rw [if_neg (by decide)] at hx;cases hx;exact .of ((pe_callTy call_list_of (Zj cg h2) (cg.fr _ h3) PyProof.Rows.boot_list hA (by decide) (by decide) (Ze h4 _ _) rfl).to fun σ H Q q=>Zee (K:=X.K) σ H Q q) fun _=>rfl
 | sc,X,cg,.fld a c f,e,h=>by
  cases e with
  | Attribute a' f' p=>
   have h:(decide (f=f') && G.fd c f && ZP a' && okE G N sc a a')=true:=h;obtain ⟨h,h4⟩:=Za h;obtain ⟨h,h3⟩:=Za h;obtain ⟨h1,h2⟩:=Za h;cases of_decide_eq_true h1;obtain ⟨C,hC,hk⟩:=cg.fd c f h2;exact .of ((pe_fld (snd cg a h4).pe (Zcc h3 _ _ _)).to (ZgS hC hk)) fun _=>rfl
  | _=>exact no h
theorem snds:∀ {sc:Scope} {X:Cx} (cg:CG ct G N k sc X) (es:List IE) {es':List Expr},okEs G N sc es es'=true→PA X es' (tIA ct (evs G es))
 | sc,X,cg,[],es',h=>by
  cases es' with
  | nil=>exact pa_nil.to ZaD
  | cons _ _=>exact no h
 | sc,X,cg,e ::es,es',h=>by
  cases es' with
  | nil=>exact no h
  | cons e' es'=>
   have h:(nst e' && okE G N sc e e' && okEs G N sc es es')=true:=h;obtain ⟨h,h3⟩:=Za h;obtain ⟨h1,h2⟩:=Za h;exact (pa_cons (snd cg e h2).pe (snds cg es h3) (Ze h1 _ _)).to Za1
theorem sndAnd:∀ {sc:Scope} {X:Cx} (cg:CG ct G N k sc X) (es:List IE) {es':List Expr} {pos:Pos},okEs G N sc es es'=true→PE X (.BoolOp .And es' pos) (tI ct (evAnd G es))∧PW X (.BoolOp .And es' pos) (tT ct (asB (evAnd G es)))
 | sc,X,cg,[],es',pos,h=>⟨⟨fun pins s σ H Q I ⟨_,_,_,_,_,_,_,e,_⟩=>nomatch e⟩,⟨fun wh pins s σ H Q I ⟨_,_,_,_,_,_,_,e,_⟩=>nomatch e⟩⟩
 | sc,X,cg,[e],es',pos,h=>by
  cases es' with
  | nil=>exact no h
  | cons e' es'=>
   have h:(nst e' && okE G N sc e e' && okEs G N sc [] es')=true:=h;obtain ⟨h,h3⟩:=Za h;obtain ⟨h1,h2⟩:=Za h;cases es' with
   | cons _ _=>exact no h3
   | nil=>exact ⟨pe_one (snd cg e h2).pe,pw_and1 (snd cg e h2).pt⟩
 | sc,X,cg,e ::f ::es,es',pos,h=>by
  cases es' with
  | nil=>exact no h
  | cons e' es'=>
   have h:(nst e' && okE G N sc e e' && okEs G N sc (f ::es) es')=true:=h;obtain ⟨h,h3⟩:=Za h;obtain ⟨h1,h2⟩:=Za h;cases es' with
   | nil=>exact no h3
   | cons f' es'=>
    have hr:=sndAnd cg (f ::es) (pos:=pos) h3;refine ⟨(pe_and (snd cg e h2).pe hr.1).to Zgt,(pw_and (snd cg e h2).pt hr.2).to fun σ H Q q=>Zgq σ H Q ?_⟩
    rw [←Zdx (mAnd _ _)];exact q
theorem sndOr:∀ {sc:Scope} {X:Cx} (cg:CG ct G N k sc X) (es:List IE) {es':List Expr} {pos:Pos},okEs G N sc es es'=true→PE X (.BoolOp .Or es' pos) (tI ct (evOr G es))∧PW X (.BoolOp .Or es' pos) (tT ct (asB (evOr G es)))
 | sc,X,cg,[],es',pos,h=>⟨⟨fun pins s σ H Q I ⟨_,_,_,_,_,_,_,e,_⟩=>nomatch e⟩,⟨fun wh pins s σ H Q I ⟨_,_,_,_,_,_,_,e,_⟩=>nomatch e⟩⟩
 | sc,X,cg,[e],es',pos,h=>by
  cases es' with
  | nil=>exact no h
  | cons e' es'=>
   have h:(nst e' && okE G N sc e e' && okEs G N sc [] es')=true:=h;obtain ⟨h,h3⟩:=Za h;obtain ⟨h1,h2⟩:=Za h;cases es' with
   | cons _ _=>exact no h3
   | nil=>exact ⟨pe_one (snd cg e h2).pe,pw_or1 (snd cg e h2).pt⟩
 | sc,X,cg,e ::f ::es,es',pos,h=>by
  cases es' with
  | nil=>exact no h
  | cons e' es'=>
   have h:(nst e' && okE G N sc e e' && okEs G N sc (f ::es) es')=true:=h;obtain ⟨h,h3⟩:=Za h;obtain ⟨h1,h2⟩:=Za h;cases es' with
   | nil=>exact no h3
   | cons f' es'=>
    have hr:=sndOr cg (f ::es) (pos:=pos) h3;refine ⟨(pe_or (snd cg e h2).pe hr.1).to Zgu,(pw_or (snd cg e h2).pt hr.2).to fun σ H Q q=>Zgr σ H Q ?_⟩
    rw [←Zdx (mOr _ _)];exact q
theorem Zj8:∀ {sc:Scope} {X:Cx} (cg:CG ct G N k sc X) (o:Option IE) {e:Option Expr},okO G N sc o e=true→PO X e (tO ct (ZcH (evO G o)))
 | sc,X,cg,none,e,h=>by
  cases e with
  | none=>exact ⟨fun pins s σ H Q I q=>po_none.run pins s σ H Q I (ZgD σ H Q q)⟩
  | some _=>exact no h
 | sc,X,cg,some a,e,h=>by
  cases e with
  | none=>exact no h
  | some e=>exact ⟨fun pins s σ H Q I q=>(po_some (snd cg a h).pe).run pins s σ H Q I (ZgE σ H Q q)⟩
theorem sndC:∀ {sc:Scope} {X:Cx} (cg:CG ct G N k sc X) (o:Option IE) {e:List Expr},okC G N sc o e=true→PTs X e (tT ct (evC G o))
 | sc,X,cg,none,e,h=>by
  cases e with
  | nil=>exact ⟨fun pins s σ H Q I q=>pts_nil.run pins s σ H Q I (Zhi σ H Q q)⟩
  | cons _ _=>exact no h
 | sc,X,cg,some a,e,h=>by
  cases e with
  | nil=>exact no h
  | cons e es=>cases es with
   | nil=>exact pts_one (snd cg a h).pt
   | cons _ _=>exact no h
theorem sndW:∀ {sc:Scope} {X:Cx} (cg:CG ct G N k sc X) (w:IW) {tg it:Expr},okW G N sc w tg it=true→PI X tg it (tW ct (evW G w))
 | sc,X,cg,.any e,tg,it,h=>⟨fun pins s σ H Q I q=>(Zeu (snd cg e h).pe).run pins s σ H Q I (Zg9 σ H Q q)⟩
 | sc,X,cg,.enum e,tg,it,h=>by
  obtain ⟨els,kk,tp,x,p,e1,pos,rfl,rfl,h⟩:=Zif h;obtain ⟨h,h5⟩:=Za h;obtain ⟨h,h4⟩:=Za h;obtain ⟨h,h3⟩:=Za h;obtain ⟨h1,h2⟩:=Za h;cases of_decide_eq_true h1;have hA:PA X [e1] (tIA ct (mCons (ev G e) mNil)):=(pa_cons (snd cg e h5).pe (pa_nil.to ZaD) (Ze h4 _ _)).to Za1;exact ⟨fun pins s σ H Q I q=>(Zg5 (Zj cg h2) (cg.fr _ h3) hA (Ze h4 _ _)).run pins s σ H Q I (Zhd σ H Q q)⟩
 | sc,X,cg,.r1 e,tg,it,h=>by
  obtain ⟨x,p,e1,pos,rfl,h⟩:=Zig h;obtain ⟨h,h5⟩:=Za h;obtain ⟨h,h4⟩:=Za h;obtain ⟨h,h3⟩:=Za h;obtain ⟨h1,h2⟩:=Za h;cases of_decide_eq_true h1;have hA:PA X [e1] (tIA ct (mCons (ev G e) mNil)):=(pa_cons (snd cg e h5).pe (pa_nil.to ZaD) (Ze h4 _ _)).to Za1;exact ⟨fun pins s σ H Q I q=>(pi_range1 (Zj cg h2) (cg.fr _ h3) hA (Ze h4 _ _)).run pins s σ H Q I (Zhg σ H Q q)⟩
end
end
end VS
namespace VS
open PySem PySem.Spec PyProof.Rows L2
section
variable {ct:Str→Option Addr} {io:List Nat} {S S' H H' S1 H1 S2 H2:Hp} {F F' G R R' T T' Fr F1 F2 R2 Y:FP} {ρ ρ' ρ2:Rho} {σ σ1:L2.St}
noncomputable def mNo:MS:=fun _=>none
theorem Zih:∀ D σ H,tS ct io mNo D σ H→tNever D σ H:=by
 rintro D σ H ⟨ρ,S,F,R,o,st,e,k⟩;cases e
noncomputable def mUnp (io:List Nat) (p:Pat) (m:ME):MS:=fun ρ=>(m ρ).bind fun q=>(Zas q.1 q.2).bind fun s=>(asP io p s.1 s.2).bind fun ρ'=>some (.nx ρ')
noncomputable def ownO (c:Str) (ρ:Rho) (j:Nat):Option (List Str×List D):=match ρ[j]? with
 | some (.own (.obj true c' ks ds))=>if c=c' then some (ks,ds) else none
 | _=>none
noncomputable def mFldS (j:Nat) (c f:Str) (mv:ME):MS:=fun ρ=>(mv ρ).bind fun p=>(ownO c p.2 j).bind fun _=>(take p.1 p.2).bind fun s=>(ownO c s.2 j).bind fun o=>
 if o.1.contains f=false∧o.1.length < 900 then some (.nx (s.2.set j (.own (.obj true c (o.1++[f]) (o.2++[s.1]))))) else none
end
inductive IS where
 | stop
 | ret (e:IE)
 | asg (i:Nat) (e:IE)
 | set (j:Nat) (i e:IE)
 | ifs (c:IE) (a b:List IS)
 | for (p:Pat) (w:IW) (b:List IS) (kl:List Nat)
 | swpA (l j:Nat) (r a b c d:SX)
section
variable (G:Gam)
mutual
noncomputable def evS:List Nat→IS→MS
 | io,.stop=>mNo
 | io,.ret e=>mRet (ev G e)
 | io,.asg i e=>mAsg io i (ev G e)
 | io,.set j i e=>mSet j (ev G i) (ev G e)
 | io,.ifs c a b=>mIfS (asB (ev G c)) (evSs io a) (evSs io b)
 | io,.for p w b kl=>mFor io p (evW G w) (evSs io b) kl
 | io,.swpA l j r a b c d=>Zdd io l j r a b c d
noncomputable def evSs:List Nat→List IS→MS
 | io,[]=>mSkip
 | io,s ::ss=>mSeq (evS io s) (evSs io ss)
end
end
end VS
namespace VS
open PySem PySem.Spec PyProof.Rows L2
noncomputable def ZR:Expr→Bool
 | .ListComp _ _ _ _=>false
 | .SetComp _ _ _ _=>false
 | .DictComp _ _ _ _ _=>false
 | _=>true
noncomputable def Zfn:Expr→Bool
 | .Tuple _ _ _=>false
 | _=>true
noncomputable def swp (sc:Scope) (x:Str) (px:Pos):Expr→Bool
 | .ListComp _ _ s p=>decide (sc.names.lookup x=some .local) && (px.line ==p.line) && !(s.names.any fun (n,k)=>n ==x && (k ==.local || k ==.cell))
 | _=>false
noncomputable def nsw (sc:Scope) (x:Str) (px:Pos):Expr→Bool
 | .ListComp _ _ s p=>!(sc.names.lookup x ==some .local && px.line ==p.line && !(s.names.any fun (n,k)=>n ==x && (k ==.local || k ==.cell)))
 | e=>ZR e
noncomputable def ZD (sc:Scope) (x:Str):Bool:=match sc.names.lookup x with | some .local=>true | some .cell=>true | _=>false
structure SwT where
 (x1 x2 x3 x4:Str) (a b c d:Expr)
noncomputable def Zdz (s:Stmt):Option SwT:=(Zb7 s).bind fun q=>(dTp q.1).bind fun l=>(dTp q.2).bind fun r=>(ls2 l).bind fun l=>(ls2 r).bind fun r=>(dSb l.1).bind fun a=>(dSb l.2).bind fun b=>(dSb r.1).bind fun c=>(dSb r.2).map fun d=>⟨a.1,b.1,c.1,d.1,a.2,b.2,c.2,d.2⟩
theorem Zii {s:Stmt} {t:SwT} (h:Zdz s=some t):∃ q1 q2 q3 q4 p1 p2 p3 p4 k1 k2 p5 p6 p7,s=.Assign [.Tuple [.Subscript (.Name t.x1 q1) t.a p1,.Subscript (.Name t.x2 q2) t.b p2] k1 p5] (.Tuple [.Subscript (.Name t.x3 q3) t.c p3,.Subscript (.Name t.x4 q4) t.d p4] k2 p6) p7:=by
 obtain ⟨⟨e1,e2⟩,hq,h⟩:=bind_some h;obtain ⟨l,hl,h⟩:=bind_some h;obtain ⟨r,hr,h⟩:=bind_some h;obtain ⟨⟨l1,l2⟩,hl2,h⟩:=bind_some h;obtain ⟨⟨r1,r2⟩,hr2,h⟩:=bind_some h;obtain ⟨⟨a1,a2⟩,ha,h⟩:=bind_some h;obtain ⟨⟨b1,b2⟩,hb,h⟩:=bind_some h;obtain ⟨⟨c1,c2⟩,hc,h⟩:=bind_some h;obtain ⟨⟨d1,d2⟩,hd,h⟩:=Option.map_eq_some_iff.mp h;cases h;obtain ⟨p,rfl⟩:=Zfb hq;cases Zb2 hl2;cases Zb2 hr2;obtain ⟨k1,p5,e5⟩:=Zbg hl;obtain ⟨k2,p6,e6⟩:=Zbg hr;obtain ⟨q1,p1,e7⟩:=Zb4 ha;obtain ⟨q2,p2,e8⟩:=Zb4 hb;obtain ⟨q3,p3,e9⟩:=Zb4 hc;obtain ⟨q4,p4,e10⟩:=Zb4 hd;dsimp only at *;subst e5 e6 e7 e8 e9 e10;exact ⟨_,_,_,_,_,_,_,_,_,_,_,_,_,rfl⟩
noncomputable def Zce (N:List Str) (sc:Scope) (j:Nat) (a b c d:SX) (s:Stmt):Bool:=match Zdz s with
 | some t=>decide (N[j]?=some t.x1) && decide (t.x2=t.x1) && decide (t.x3=t.x1) && decide (t.x4=t.x1) && vis sc t.x1 && okN t.x1 && Zw t.a && Zw t.b && Zw t.c && Zw t.d && Zs N sc a t.a && Zs N sc b t.b && Zs N sc c t.c && Zs N sc d t.d
 | none=>false
noncomputable def Zbr:Stmt→Option (Str×Str×Expr)
 | .Assign [.Name l _] (.Subscript (.Name x _) r _) _=>some (l,x,r)
 | _=>none
theorem Zij {s:Stmt} {l x:Str} {r:Expr} (h:Zbr s=some (l,x,r)):∃ p1 p2 p3 p4,s=.Assign [.Name l p1] (.Subscript (.Name x p2) r p3) p4:=by
 unfold Zbr at h;split at h
 ·cases h; exact ⟨_,_,_,_,rfl⟩
 ·cases h
noncomputable def ZaR (N:List Str) (sc:Scope) (l j:Nat) (r a b c d:SX) (s1 s2:Stmt):Bool:=match Zbr s1 with
 | some (xl,x,e)=>decide (N[l]?=some xl) && ZD sc xl && decide (N[j]?=some x) && vis sc x && okN x && Zw e && Zs N sc r e && Zce N sc l a b c d s2
 | none=>false
inductive Ali where
 | sw (l j:Nat) (r a b c d:SX)
noncomputable def Zcf:IS→Option Ali
 | .swpA l j r a b c d=>some (.sw l j r a b c d)
 | _=>none
theorem Zik {s:IS} {l j:Nat} {r a b c d:SX} (h:Zcf s=some (.sw l j r a b c d)):s=.swpA l j r a b c d:=by
 unfold Zcf at h;split at h
 all_goals first | (cases h; done) | (cases h; rfl)
section
variable (G:Gam) (N:List Str)
mutual
noncomputable def okS (sc:Scope):IS→Stmt→Bool
 | .stop,_=>true
 | .ret e,.Return (some e') _=>okE G N sc e e'
 | .asg i e,.Assign [.Name x px] e' _=>decide (N[i]?=some x) && ZD sc x && (swp sc x px e' || nsw sc x px e') && okE G N sc e e'
 | .set j i e,.Assign [.Subscript (.Name x _) i' _] e' _=>decide (N[j]?=some x) && vis sc x && okN x && Zw i' && ZR e' && okE G N sc i i' && okE G N sc e e'
 | .ifs c a b,.If c' a' b' _=>okE G N sc c c' && okSs sc a a' && okSs sc b b'
 | .for p w b _,.For tg it b' [] _=>okW G N sc w tg it && okP N sc p tg && Z3 it && okSs sc b b'
 | _,_=>false
noncomputable def okSs (sc:Scope):List IS→List Stmt→Bool
 | [],[]=>true
 | s ::ss,ts=>match Zcf s with
  | some (.sw l j r a b c d)=>(match ts with
   | t1 ::t2 ::ts'=>ZaR N sc l j r a b c d t1 t2 && okSs sc ss ts'
   | _=>false)
  | none=>(match ts with
   | t ::ts'=>okS sc s t && okSs sc ss ts'
   | _=>false)
 | _,_=>false
noncomputable def Zil (sc:Scope):IS→List Stmt→Bool
 | _,_=>false
noncomputable def ZdA (sc:Scope):List IS→List Stmt→Bool
 | [],[]=>true
 | s ::ss,t ::ts=>okS sc s t && ZdA sc ss ts
 | _,_=>false
end
end
structure CS (ct:Str→Option Addr) (G:Gam) (N:List Str) (k:Nat) (sc:Scope) (X:Cx):Prop where
 cg : CG ct G N k sc X
 fnc : ∀ x,X.fn x=true
 kd : sc.kind=.function
 xe : X.xe=fun _ _=>False
section
variable {ct:Str→Option Addr} {G:Gam} {N:List Str} {k:Nat} {sc:Scope} {X:Cx} {io:List Nat}
theorem CS.nox (cs:CS ct G N k sc X):X.nox=X:=by
 have e:=cs.xe;show { X with xe:=fun _ _=>False }=X;rw [←e]
theorem CS.po (cs:CS ct G N k sc X):PassesOwn (model X.prog X.w) X.A X.env X.xe:=by rw [cs.xe]; exact PassesOwn.never
theorem CS.pat (cs:CS ct G N k sc X) {p:Pat} {e:Expr} (h:okP N sc p e=true):PG X e (gP X.K p):=
 ZbR cs.cg.nm cs.cg.nd (fun x e=>by rw [cs.cg.scp]; exact e) cs.cg.calm (fun x e=>⟨by rw [cs.cg.scp]; exact e,cs.fnc x⟩) h
theorem Zcg {e:Expr} {t:Option Expr} {l:Nat} {env:Env} (h:ZR e=true):swapsWith e t l env=pure false:=by
 cases e<;>first | rfl | exact no h
theorem Zim {sc:Scope} {x:Str} {px:Pos} {e:Expr} {l:Nat} {env:Env} (hs:env.scope=sc) (hk:sc.kind=.function) (h:nsw sc x px e=true):swapsWith e (some (.Name x px)) l env=pure false:=by
 cases e with
 | ListComp el gs s p=>
  have h:(!(sc.names.lookup x ==some .local && px.line ==p.line && !(s.names.any fun (n,k)=>n ==x && (k ==.local || k ==.cell))))=true:=h;have hb:env.blockKind=.function:=by unfold Env.blockKind; rw [hs,hk]; rfl
  have ky:env.kindOf x=sc.names.lookup x:=by rw [←hs]; rfl
  unfold swapsWith;simp only [hb,ky,Expr.pos];show pure (_ && _ && _ && _)=_;congr 1
  revert h
  cases (sc.names.lookup x ==some NameKind.local)<;>cases (px.line ==p.line)<;>cases (s.names.any fun (n,k)=>n ==x && (k ==.local || k ==.cell))<;>simp
 | SetComp _ _ _ _=>exact no h
 | DictComp _ _ _ _ _=>exact no h
 | _=>rfl
theorem Zin {tg e:Expr} {env:Env} (h:Zfn e=true∨Zfn tg=true) (hl:∀ es p,tg≠.List es p):swappedStores [tg] e env=pure none:=by
 cases tg with
 | List es p=>exact absurd rfl (hl es p)
 | Tuple ts a b=>
  rcases h with h | h
  ·cases e<;>first | rfl | exact no h
  ·exact no h
 | _=>cases e<;>rfl
theorem Zfo (cs:CS ct G N k sc X) {i:Nat} {x:Str} {px pos:Pos} {e:Expr} {te:TE} (hi:decide (N[i]?=some x)=true) (hl:ZD sc x=true) (hn:nsw sc x px e=true) (he:PE X e te):PS X (.Assign [.Name x px] e pos) (tAsg te (gName i)):=by
 have hx:Loc X.env.scope x:=by
  rw [cs.cg.scp];unfold ZD at hl;split at hl
  ·rename_i z; exact .inl z
  ·rename_i z; exact .inr z
  ·cases hl
 exact ps_set (by rw [cs.cg.nm]; exact cs.cg.nd) (by rw [cs.cg.nm]; exact of_decide_eq_true hi) hx he (Zim cs.cg.scp cs.kd hn) (.inl (cs.fnc x))
theorem Zio {is:IS} {t1 t2:Expr} {ts:List Expr} {e:Expr} {p:Pos} (h:okS G N sc is (.Assign (t1 ::t2 ::ts) e p)=true):is=.stop:=by
 cases is with
 | stop=>rfl
 | set j i e=>cases t1 with
  | Subscript o i' p=>cases o<;>exact no h
  | _=>exact no h
 | asg i e=>cases t1<;>exact no h
 | _=>exact no h
theorem Zfp {o i:Expr} {pos:Pos} {env:Env} (h:Zw i=true) (v:Value):assign (.Subscript o i pos) env v=(do
   let ov ←holding [v] (eval o env);let iv ←holding [v,ov] (eval i env)
   standAt pos
   holding [v,ov,iv] (setItem ov iv v)
   release [v,ov,iv] []):=by
 cases i<;>first | rfl | exact no h
theorem Ziq {x1 x2:Str} {q1 q2 p1 p2 p5 p6:Pos} {k1 k2:Nat} {a b u v:Expr} {env:Env}:swappedStores [.Tuple [.Subscript (.Name x1 q1) a p1,.Subscript (.Name x2 q2) b p2] k1 p5] (.Tuple [u,v] k2 p6) env=pure none:=by
 unfold swappedStores;dsimp only;split
 ·rfl
 ·split
  ·rfl
  ·rfl
theorem Zir (cs:CS ct G N k sc X) {j:Nat} {a b c d:SX} {s:Stmt} (h:Zce N sc j a b c d s=true):PS X s (Zbf X.K j a b c d):=by
 unfold Zce at h;cases hd:Zdz s with
 | none=>rw [hd] at h; exact no h
 | some t=>
  rw [hd] at h;obtain ⟨q1,q2,q3,q4,p1,p2,p3,p4,k1,k2,p5,p6,p7,rfl⟩:=Zii hd;have h:(decide (N[j]?=some t.x1) && decide (t.x2=t.x1) && decide (t.x3=t.x1) && decide (t.x4=t.x1) && vis sc t.x1 && okN t.x1 && Zw t.a && Zw t.b && Zw t.c && Zw t.d && Zs N sc a t.a && Zs N sc b t.b && Zs N sc c t.c && Zs N sc d t.d)=true:=h;obtain ⟨h,h14⟩:=Za h;obtain ⟨h,h13⟩:=Za h;obtain ⟨h,h12⟩:=Za h;obtain ⟨h,h11⟩:=Za h;obtain ⟨h,h10⟩:=Za h;obtain ⟨h,h9⟩:=Za h;obtain ⟨h,h8⟩:=Za h;obtain ⟨h,h7⟩:=Za h;obtain ⟨h,h6⟩:=Za h;obtain ⟨h,h5⟩:=Za h;obtain ⟨h,h4⟩:=Za h;obtain ⟨h,h3⟩:=Za h;obtain ⟨h1,h2⟩:=Za h;obtain ⟨x1,x2,x3,x4,ea,eb,ec,ed⟩:=t;dsimp only at *;have e2:=of_decide_eq_true h2;have e3:=of_decide_eq_true h3;have e4:=of_decide_eq_true h4;subst e2 e3 e4;have n1:=Z5 cs.cg (pos:=q1) h1 h5 h6;have n2:=Z5 cs.cg (pos:=q2) h1 h5 h6;have n3:=Z5 cs.cg (pos:=q3) h1 h5 h6;have n4:=Z5 cs.cg (pos:=q4) h1 h5 h6;have v1:=pe_ix (pos:=p3) (ZbK (hu1 cs.cg)) n3 (Z6 cs.cg c h13) (Zcd h9);have v2:=pe_ix (pos:=p4) (ZbK (hu1 cs.cg)) n4 (Z6 cs.cg d h14) (Zcd h10);have hv:=pe_tup (x1:=k2) (pos:=p6) (pa_cons v1 (pa_cons v2 pa_nil (Ze rfl _ _)) (Ze rfl _ _));have g1:=pg_sub (pos:=p1) n1 (Z6 cs.cg a h11) set_list (Zfp h7);have g2:=pg_sub (pos:=p2) n2 (Z6 cs.cg b h12) set_list (Zfp h8);have hg:=pg_tup (k:=k1) (pos:=p5) (n:=2) cs.cg.calm (pgs_cons g1 (pgs_cons g2 pgs_nil));exact ps_asg (pos:=p7) hv hg rfl Ziq
theorem Zis (cs:CS ct G N k sc X) {i:Nat} {e:IE} {s:Stmt} (h:okS G N sc (.asg i e) s=true):PS X s (tS ct io (mAsg io i (ev G e))):=by
 cases s with
 | Assign ts e' p=>cases ts with
  | nil=>exact no h
  | cons t ts=>cases ts with
   | cons _ _=>cases t<;>exact no h
   | nil=>cases t with
    | Name x px=>
     have h:(decide (N[i]?=some x) && ZD sc x && (swp sc x px e' || nsw sc x px e') && okE G N sc e e')=true:=h;obtain ⟨h,h4⟩:=Za h;obtain ⟨h,h3⟩:=Za h;obtain ⟨h1,h2⟩:=Za h;rcases Bool.or_eq_true_iff.mp h3 with h3 | h3
     ·cases e' with
      | ListComp elt gens sc' pos=>cases e with
       | comp e p' w c own=>
        cases gens with
        | nil=>exact no h4
        | cons g gens=>cases gens with
         | cons _ _=>exact no h4
         | nil=>
          obtain ⟨tg,it,ifs,as⟩:=g;have h:(decide (as=0) && blkC N sc sc' own && okW G N sc w tg it && okP N sc' p' tg && (ZN p').all (fun i=>(own.map (·.2)).contains i) && Z3 it && okC G N (relS sc' sc) c ifs && okE G N (relS sc' sc) e elt)=true:=h4;obtain ⟨h,q7⟩:=Za h;obtain ⟨h,q6⟩:=Za h;obtain ⟨h,q5⟩:=Za h;obtain ⟨h,q4⟩:=Za h;obtain ⟨h,q3⟩:=Za h;obtain ⟨h,q2⟩:=Za h;obtain ⟨q0,q1⟩:=Za h;cases of_decide_eq_true q0;have h3:(decide (sc.names.lookup x=some .local) && (px.line ==pos.line) && !(sc'.names.any fun (n,k)=>n ==x && (k ==.local || k ==.cell)))=true:=h3;obtain ⟨r,r3⟩:=Za h3;obtain ⟨r1,r2⟩:=Za r;have hxl:X.env.scope.names.lookup x=some .local:=by rw [cs.cg.scp]; exact of_decide_eq_true r1
          have ha:(sc'.names.any fun (n,k)=>n ==x && (k ==.local || k ==.cell))=false:=by revert r3; cases (sc'.names.any fun (n,k)=>n ==x && (k ==.local || k ==.cell))<;>simp
          refine (ps_setLc cs.cg.calm (by rw [cs.cg.nm]; exact cs.cg.nd) (by rw [cs.cg.nm]; exact of_decide_eq_true h1) hxl (sw_true (by rw [cs.cg.scp]; exact cs.kd) hxl r2 ha) (sndW cs.cg w q2) (by rw [cs.cg.nm,cs.cg.scp]; exact blkOk_by q1) (fun s H C cl fp=>cs.cg.pat q3) (fun s H C cl fp=>sndC (cs.cg.blk (s:=s) (H:=H) (C:=C) (cl:=cl) (fp:=fp)) c q6) (fun s H C cl fp=>(snd (cs.cg.blk (s:=s) (H:=H) (C:=C) (cl:=cl) (fp:=fp)) e q7).pe) (Zbp q5 _)).to fun D σ H q=>?_
          exact ZeC (fun i hi=>List.contains_iff_mem.mp (List.all_eq_true.mp q4 i hi)) σ H _ (Zeq D σ H q)
       | _=>exact no h4
      | _=>exact no h3
     ·exact (Zfo cs h1 h2 h3 (snd cs.cg e h4).pe).to Zeq
    | _=>exact no h
 | _=>exact no h
theorem Zit (cs:CS ct G N k sc X) {l j:Nat} {r a b c d:SX} {s1 s2:Stmt} (h:ZaR N sc l j r a b c d s1 s2=true):PS X s1 (tAsg (tOp (Zad X.K) (tVar j) (tSx r)) (gName l)):=by
 unfold ZaR at h;cases hd:Zbr s1 with
 | none=>rw [hd] at h; exact no h
 | some q=>
  obtain ⟨xl,x,e⟩:=q;rw [hd] at h;obtain ⟨p1,p2,p3,p4,rfl⟩:=Zij hd;have h:(decide (N[l]?=some xl) && ZD sc xl && decide (N[j]?=some x) && vis sc x && okN x && Zw e && Zs N sc r e && Zce N sc l a b c d s2)=true:=h;obtain ⟨h,h8⟩:=Za h;obtain ⟨h,h7⟩:=Za h;obtain ⟨h,h6⟩:=Za h;obtain ⟨h,h5⟩:=Za h;obtain ⟨h,h4⟩:=Za h;obtain ⟨h,h3⟩:=Za h;obtain ⟨h1,h2⟩:=Za h;exact Zfo cs h1 h2 rfl (pe_ix (pos:=p3) (ZbK (hu1 cs.cg)) (Z5 cs.cg (pos:=p2) h3 h4 h5) (Z6 cs.cg r h7) (Zcd h6))
theorem Ziu (cs:CS ct G N k sc X) {l j:Nat} {r a b c d:SX} {s1 s2:Stmt} (h:ZaR N sc l j r a b c d s1 s2=true):PS X s2 (Zbf X.K l a b c d):=by
 unfold ZaR at h;cases hd:Zbr s1 with
 | none=>rw [hd] at h; exact no h
 | some q=>
  obtain ⟨xl,x,e⟩:=q;rw [hd] at h;exact Zir cs (Za h).2
mutual
theorem ZdB:∀ {io:List Nat} (cs:CS ct G N k sc X) (is:IS) {s:Stmt},okS G N sc is s=true→PS X s (tS ct io (evS G io is))
 | io,cs,.stop,s,h=>ps_never.to Zih
 | io,cs,.ret e,s,h=>by
  cases s with
  | Return o p=>cases o with
   | none=>exact no h
   | some e'=>exact (ps_ret (snd cs.cg e h).pe).to ZgX
  | _=>exact no h
 | io,cs,.asg i e,s,h=>Zis cs h
 | io,cs,.set j i e,s,h=>by
  cases s with
  | Assign ts e' pos=>cases ts with
   | nil=>exact no h
   | cons t ts=>cases ts with
    | cons _ _=>exact nomatch Zio h
    | nil=>cases t with
     | Subscript o i' sp=>cases o with
      | Name x px=>
       have h:(decide (N[j]?=some x) && vis sc x && okN x && Zw i' && ZR e' && okE G N sc i i' && okE G N sc e e')=true:=h;obtain ⟨h,h7⟩:=Za h;obtain ⟨h,h6⟩:=Za h;obtain ⟨h,h5⟩:=Za h;obtain ⟨h,h4⟩:=Za h;obtain ⟨h,h3⟩:=Za h;obtain ⟨h1,h2⟩:=Za h;refine (ps_asg (snd cs.cg e h7).pe (pg_sub (Z5 cs.cg h1 h2 h3) (snd cs.cg i h6).pe set_list ?_) (show swapsWith e' (some (.Subscript (.Name x px) i' sp)) pos.line X.env=pure false from Zcg h5) (Zin (.inr rfl) fun es p z=>nomatch z)).to Zhp
       intro v;cases i'<;>first | rfl | exact no h4
      | _=>exact no h
     | _=>exact no h
  | _=>exact no h
 | io,cs,.ifs c a b,s,h=>by
  cases s with
  | If c' a' b' p=>
   have h:(okE G N sc c c' && okSs G N sc a a' && okSs G N sc b b')=true:=h;obtain ⟨h,h3⟩:=Za h;obtain ⟨h1,h2⟩:=Za h;exact (ps_if (snd cs.cg c h1).pt (sndSs cs a h2) (sndSs cs b h3)).to ZgV
  | _=>exact no h
 | io,cs,.for p w b kl,s,h=>by
  cases s with
  | For tg it b' oe pos=>cases oe with
   | cons _ _=>exact no h
   | nil=>
    have h:(okW G N sc w tg it && okP N sc p tg && Z3 it && okSs G N sc b b')=true:=h;obtain ⟨h,h4⟩:=Za h;obtain ⟨h,h3⟩:=Za h;obtain ⟨h1,h2⟩:=Za h;exact (ps_for cs.po cs.cg.calm (sndW cs.cg w h1) (cs.pat h2) (sndSs cs b h4) (Zbp h3 _)).to Zg1
  | _=>exact no h
 | io,cs,.swpA l j r a b c d,s,h=>no h
theorem sndSs:∀ {io:List Nat} (cs:CS ct G N k sc X) (ss:List IS) {ts:List Stmt},okSs G N sc ss ts=true→PSs X ts (tS ct io (evSs G io ss))
 | io,cs,[],ts,h=>by
  cases ts with
  | nil=>exact pss_nil.to ZbO
  | cons _ _=>exact no h
 | io,cs,s ::ss,ts,h=>by
  unfold okSs at h;cases hd:Zcf s with
  | none=>
   rw [hd] at h;cases ts with
   | nil=>exact no h
   | cons t ts=>
    have h:(okS G N sc s t && okSs G N sc ss ts)=true:=h;obtain ⟨h1,h2⟩:=Za h;exact (pss_cons (ZdB cs s h1) (sndSs cs ss h2)).to ZcR
  | some q=>cases q with
   | sw l j r a b c d=>
   rw [hd] at h;cases Zik hd;cases ts with
   | nil=>exact no h
   | cons t1 ts=>cases ts with
    | nil=>exact no h
    | cons t2 ts=>
     have h:(ZaR N sc l j r a b c d t1 t2 && okSs G N sc ss ts)=true:=h;obtain ⟨h1,h2⟩:=Za h;refine (pss_cons (Zit cs h1) (pss_cons (Ziu cs h1) (sndSs (io:=io) cs ss h2))).to fun D σ H q=>?_
     exact ZhJ (K:=X.K) _ σ H (ZcR D σ H q)
theorem Zj9:∀ {io:List Nat} (cs:CS ct G N k sc X) (s:IS) {ts:List Stmt},Zil G N sc s ts=true→∀ {ts2:List Stmt} {u:TS},PSs X ts2 u→PSs X (ts++ts2) (tSeq (tS ct io (evS G io s)) u)
 | _,_,.stop,_,h,_,_,_=>no h
 | _,_,.ret _,_,h,_,_,_=>no h
 | _,_,.asg _ _,_,h,_,_,_=>no h
 | _,_,.set _ _ _,_,h,_,_,_=>no h
 | _,_,.ifs _ _ _,_,h,_,_,_=>no h
 | _,_,.for _ _ _ _,_,h,_,_,_=>no h
 | _,_,.swpA _ _ _ _ _ _ _,_,h,_,_,_=>no h
theorem Ziv:∀ {io:List Nat} (cs:CS ct G N k sc X) (ss:List IS) {ts:List Stmt},ZdA G N sc ss ts=true→∀ {ts2:List Stmt} {u:TS},PSs X ts2 u→PSs X (ts++ts2) (tSeq (tS ct io (evSs G io ss)) u)
 | io,cs,[],ts,h,ts2,u,hp=>by
  cases ts with
  | nil=>exact hp.to fun D σ H q=>ZbO _ σ H q
  | cons _ _=>exact no h
 | io,cs,s ::ss,ts,h,ts2,u,hp=>by
  cases ts with
  | nil=>exact no h
  | cons t ts=>
   have h:(okS G N sc s t && ZdA G N sc ss ts)=true:=h;obtain ⟨h1,h2⟩:=Za h;exact (pss_cons (ZdB cs s h1) (Ziv cs ss h2 hp)).to fun D σ H q=>ZcR _ σ H q
end
end
end VS
namespace VS
open PySem PySem.Spec PyProof.Rows L2
noncomputable def slots0:List Md→List D→List Slot
 | .vw ::ms,d ::ds=>.vw d ::slots0 ms ds
 | .val ::ms,d ::ds=>.own d ::slots0 ms ds
 | .io ::ms,d ::ds=>.own d ::slots0 ms ds
 | .mv ::ms,d ::ds=>(if noOwn d=true then .vw d else .own d) ::slots0 ms ds
 | _,_=>[]
noncomputable def iosFrom (k:Nat):List Md→List Nat
 | []=>[]
 | .io ::ms=>k ::iosFrom (k+1) ms
 | _ ::ms=>iosFrom (k+1) ms
noncomputable def outsR:List Md→Rho→Option (List D)
 | [],_=>some []
 | .io ::ms,.own d ::ρ=>(outsR ms ρ).bind fun os=>some (d ::os)
 | .vw ::ms,_ ::ρ=>outsR ms ρ
 | .val ::ms,_ ::ρ=>outsR ms ρ
 | .mv ::ms,_ ::ρ=>outsR ms ρ
 | _,_=>none
noncomputable def ZH (G:Gam) (md:List Md) (n:Nat) (b:List IS) (ds:List D):Option (D×List D):=
 if ds.length=md.length∧md.length≤n then
  match evSs G (iosFrom 0 md) b (slots0 md ds++List.replicate (n - md.length) .dead) with
  | some (.nx ρ)=>(outsR md ρ).bind fun os=>some (.non,os)
  | some (.rt d ρ)=>(outsR md ρ).bind fun os=>some (d,os)
  | _=>none
 else none
noncomputable def fnI (G:Gam) (md:List Md) (n:Nat) (b:List IS):FnS:=⟨md,ZH G md n b⟩
section
variable {ct:Str→Option Addr} {S S' H H':Hp} {F F' G R T:FP} {ρ ρ':Rho} {σ σ':L2.St}
theorem ZdC:∀ {ms:List Md} {ds:List D},ds.length=ms.length→(slots0 ms ds).length=ms.length
 | [],[],_=>rfl
 | [],_ ::_,h=>by cases h
 | _ ::_,[],h=>by cases h
 | m ::ms,d ::ds,h=>by
  have i:=ZdC (ms:=ms) (ds:=ds) (by simpa using h);cases m<;>(show _+1=_+1; rw [i])
theorem Z7:∀ {ms:List Md} {ds:List D} {vs:List V} {F:FP},ArgsRep ct S H T ms ds vs F→ds.length=ms.length∧vs.length=ms.length
 | [],_,_,_,⟨rfl,rfl⟩=>⟨rfl,rfl⟩
 | .vw ::ms,_,_,_,⟨d,dr,v,vr,e1,e2,_,h⟩=>by subst e1 e2; have:=Z7 h; simp [this]
 | .val ::ms,_,_,_,⟨d,dr,v,vr,e1,e2,_,_,h⟩=>by subst e1 e2; have:=Z7 h; simp [this]
 | .io ::ms,_,_,_,⟨d,dr,v,vr,F1,F2,e1,e2,_,_,_,_,h⟩=>by subst e1 e2; have:=Z7 h; simp [this]
 | .mv ::ms,_,_,_,⟨d,dr,v,vr,F1,F2,e1,e2,_,_,_,_,h⟩=>by subst e1 e2; have:=Z7 h; simp [this]
noncomputable def Zch (A:FP) (fs:Nat→FP):Nat→FP
 | 0=>A
 | i+1=>fs i
theorem ZaS:∀ {ms:List Md} {ds:List D} {vs:List V} {F:FP},ArgsRep ct S H T ms ds vs F→
  ∃ fs:Nat→FP,(∀ i,Sub (fs i) F)∧(∀ i j,i≠j→Dj (fs i) (fs j))∧∀ i s,(slots0 ms ds)[i]?=some s→ZbG ct S H T s ((vs.map some)[i]?) (fs i)
 | [],_,_,F,⟨rfl,rfl⟩=>⟨fun _=>No,fun _ _ z=>z.elim,fun _ _ _ _ z=>z.elim,fun i s e=>by simp [slots0] at e⟩
 | .vw ::ms,_,_,F,⟨d,dr,v,vr,e1,e2,q,h⟩=>by
  subst e1 e2;obtain ⟨fs,h1,h2,h3⟩:=ZaS h;refine ⟨Zch No fs,fun i=>?_,fun i j n=>?_,fun i s e=>?_⟩
  ·cases i with
   | zero=>exact fun _ z=>z.elim
   | succ i=>exact h1 i
  ·cases i with
   | zero=>exact fun _ z=>z.elim
   | succ i=>cases j with
    | zero=>exact fun _ _ z=>z.elim
    | succ j=>exact h2 i j fun z=>n (by rw [z])
  ·cases i with
   | zero=>cases e; exact ⟨v,rfl,q⟩
   | succ i=>exact h3 i s e
 | .val ::ms,_,_,F,⟨d,dr,v,vr,e1,e2,_,q,h⟩=>by
  subst e1 e2;obtain ⟨fs,h1,h2,h3⟩:=ZaS h;refine ⟨Zch No fs,fun i=>?_,fun i j n=>?_,fun i s e=>?_⟩
  ·cases i with
   | zero=>exact fun _ z=>z.elim
   | succ i=>exact h1 i
  ·cases i with
   | zero=>exact fun _ z=>z.elim
   | succ i=>cases j with
    | zero=>exact fun _ _ z=>z.elim
    | succ j=>exact h2 i j fun z=>n (by rw [z])
  ·cases i with
   | zero=>cases e; exact ⟨v,rfl,q⟩
   | succ i=>exact h3 i s e
 | .io ::ms,_,_,F,⟨d,dr,v,vr,F1,F2,e1,e2,s1,s2,dj,q,h⟩=>by
  subst e1 e2;obtain ⟨fs,h1,h2,h3⟩:=ZaS h;refine ⟨Zch F1 fs,fun i=>?_,fun i j n=>?_,fun i s e=>?_⟩
  ·cases i with
   | zero=>exact s1
   | succ i=>exact fun a z=>s2 a (h1 i a z)
  ·cases i with
   | zero=>cases j with
    | zero=>exact absurd rfl n
    | succ j=>exact fun a z z2=>dj a z (h1 j a z2)
   | succ i=>cases j with
    | zero=>exact fun a z z2=>dj a z2 (h1 i a z)
    | succ j=>exact h2 i j fun z=>n (by rw [z])
  ·cases i with
   | zero=>cases e; exact ⟨v,rfl,q⟩
   | succ i=>exact h3 i s e
 | .mv ::ms,_,_,F,⟨d,dr,v,vr,F1,F2,e1,e2,s1,s2,dj,q,h⟩=>by
  subst e1 e2;obtain ⟨fs,h1,h2,h3⟩:=ZaS h;refine ⟨Zch F1 fs,fun i=>?_,fun i j n=>?_,fun i s e=>?_⟩
  ·cases i with
   | zero=>exact s1
   | succ i=>exact fun a z=>s2 a (h1 i a z)
  ·cases i with
   | zero=>cases j with
    | zero=>exact absurd rfl n
    | succ j=>exact fun a z z2=>dj a z (h1 j a z2)
   | succ i=>cases j with
    | zero=>exact fun a z z2=>dj a z2 (h1 i a z)
    | succ j=>exact h2 i j fun z=>n (by rw [z])
  ·cases i with
   | zero=>
    have e:some (if noOwn d=true then Slot.vw d else Slot.own d)=some s:=e;cases e;by_cases hn:noOwn d=true
    ·rw [if_pos hn] at q ⊢
     exact ⟨v,rfl,q⟩
    ·rw [if_neg hn] at q ⊢
     exact ⟨v,rfl,q⟩
   | succ i=>exact h3 i s e
theorem OutsRep.mono:∀ {ms:List Md} {os:List D} {vs:List V} {F G:FP},OutsRep ct S H ms os vs F→Sub F G→OutsRep ct S H ms os vs G
 | [],_,_,_,_,h,_=>h
 | .vw ::ms,_,_,_,_,h,k=>OutsRep.mono (ms:=ms) h k
 | .val ::ms,_,_,_,_,h,k=>OutsRep.mono (ms:=ms) h k
 | .mv ::ms,_,_,_,_,h,k=>OutsRep.mono (ms:=ms) h k
 | .io ::ms,_,_,_,_,⟨o,os,v,vr,F1,F2,e1,e2,s1,s2,dj,q,h⟩,k=>⟨o,os,v,vr,F1,F2,e1,e2,fun a z=>k a (s1 a z),fun a z=>k a (s2 a z),dj,q,h⟩
noncomputable def Zfq (fs:Nat→FP):FP:=fun a=>∃ i,fs i a
theorem Zbs:∀ {ms:List Md} {ρ:Rho} {vs:List V} {os:List D} {fs:Nat→FP} {k:Nat},outsR ms ρ=some os→vs.length=ms.length→(∀ i j,i≠j→Dj (fs i) (fs j))→
  (∀ i s,ρ[i]?=some s→ZbG ct S H T s (σ[k+i]?) (fs i))→(∀ i,k+i∈iosFrom k ms→σ[k+i]?=(vs.map some)[i]?)→OutsRep ct S H ms os vs (Zfq fs)
 | [],_,_,_,_,_,e,_,_,_,_=>by cases e; rfl
 | .io ::ms,[],_,_,_,_,e,_,_,_,_=>by cases e
 | .vw ::ms,[],_,_,_,_,e,_,_,_,_=>by cases e
 | .val ::ms,[],_,_,_,_,e,_,_,_,_=>by cases e
 | .mv ::ms,[],_,_,_,_,e,_,_,_,_=>by cases e
 | .vw ::ms,s ::ρ,[],_,_,_,_,hl,_,_,_=>by cases hl
 | .val ::ms,s ::ρ,[],_,_,_,_,hl,_,_,_=>by cases hl
 | .mv ::ms,s ::ρ,[],_,_,_,_,hl,_,_,_=>by cases hl
 | .io ::ms,s ::ρ,[],_,_,_,_,hl,_,_,_=>by cases hl
 | .vw ::ms,s ::ρ,v ::vs,os,fs,k,e,hl,hd,h3,hs=>by
  have i:=Zbs (ms:=ms) (ρ:=ρ) (vs:=vs) (os:=os) (fs:=fun i=>fs (i+1)) (k:=k+1) e (by simpa using hl) (fun i j n=>hd _ _ (by omega)) (fun i s e=>by have:=h3 (i+1) s e; rwa [show k+(i+1)=k+1+i by omega] at this) (fun i z=>by
   have:=hs (i+1) (by rw [show k+(i+1)=k+1+i by omega]; exact z)
   rw [show k+(i+1)=k+1+i by omega] at this;exact this)
  exact OutsRep.mono (ms:=ms) i fun a ⟨j,z⟩=>⟨j+1,z⟩
 | .val ::ms,s ::ρ,v ::vs,os,fs,k,e,hl,hd,h3,hs=>by
  have i:=Zbs (ms:=ms) (ρ:=ρ) (vs:=vs) (os:=os) (fs:=fun i=>fs (i+1)) (k:=k+1) e (by simpa using hl) (fun i j n=>hd _ _ (by omega)) (fun i s e=>by have:=h3 (i+1) s e; rwa [show k+(i+1)=k+1+i by omega] at this) (fun i z=>by
   have:=hs (i+1) (by rw [show k+(i+1)=k+1+i by omega]; exact z)
   rw [show k+(i+1)=k+1+i by omega] at this;exact this)
  exact OutsRep.mono (ms:=ms) i fun a ⟨j,z⟩=>⟨j+1,z⟩
 | .mv ::ms,s ::ρ,v ::vs,os,fs,k,e,hl,hd,h3,hs=>by
  have i:=Zbs (ms:=ms) (ρ:=ρ) (vs:=vs) (os:=os) (fs:=fun i=>fs (i+1)) (k:=k+1) e (by simpa using hl) (fun i j n=>hd _ _ (by omega)) (fun i s e=>by have:=h3 (i+1) s e; rwa [show k+(i+1)=k+1+i by omega] at this) (fun i z=>by
   have:=hs (i+1) (by rw [show k+(i+1)=k+1+i by omega]; exact z)
   rw [show k+(i+1)=k+1+i by omega] at this;exact this)
  exact OutsRep.mono (ms:=ms) i fun a ⟨j,z⟩=>⟨j+1,z⟩
 | .io ::ms,s ::ρ,v ::vs,os,fs,k,e,hl,hd,h3,hs=>by
  cases s with
  | dead=>cases e
  | vw d=>cases e
  | own d=>
   obtain ⟨os',e',e⟩:=bind_some (show (outsR ms ρ).bind (fun os=>some (d ::os))=some os from e);cases e;have i:=Zbs (ms:=ms) (ρ:=ρ) (vs:=vs) (os:=os') (fs:=fun i=>fs (i+1)) (k:=k+1) e' (by simpa using hl) (fun i j n=>hd _ _ (by omega)) (fun i s e=>by have:=h3 (i+1) s e; rwa [show k+(i+1)=k+1+i by omega] at this) (fun i z=>by
    have:=hs (i+1) (by rw [show k+(i+1)=k+1+i by omega]; exact List.mem_cons_of_mem _ z)
    rw [show k+(i+1)=k+1+i by omega] at this;exact this)
   obtain ⟨w',ew,q⟩:=h3 0 (.own d) rfl;have e0:=hs 0 (List.mem_cons_self ..);rw [ew] at e0;cases e0;exact ⟨d,os',_,vs,fs 0,Zfq fun i=>fs (i+1),rfl,rfl,fun a z=>⟨0,z⟩,fun a ⟨j,z⟩=>⟨j+1,z⟩,fun a z ⟨j,z2⟩=>hd 0 (j+1) (by omega) a z z2,q,i⟩
theorem Zbt:∀ {ms:List Md} {k i:Nat},i∈iosFrom k ms→k≤i∧i < k+ms.length
 | [],_,_,h=>by simp [iosFrom] at h
 | .io ::ms,k,i,h=>by
  rcases List.mem_cons.mp h with rfl | h
  ·simp
  ·have:=Zbt h; simp; omega
 | .vw ::ms,k,i,h=>by have:=Zbt (ms:=ms) h; simp; omega
 | .val ::ms,k,i,h=>by have:=Zbt (ms:=ms) h; simp; omega
 | .mv ::ms,k,i,h=>by have:=Zbt (ms:=ms) h; simp; omega
theorem Zci {ms:List Md} {os:List D} {vs:List V} {N:List Str} (st:State ct S' H' F' R ρ' σ') (sy:Stay (iosFrom 0 ms) (L2.start N vs) σ') (hl:vs.length=ms.length) (e:outsR ms ρ'=some os):OutsRep ct S' H' ms os vs F':=by
 obtain ⟨fs,h1,h2,h3⟩:=st.fs;refine OutsRep.mono (Zbs (σ:=σ') (fs:=fs) (k:=0) e hl h2 (fun i s e=>by rw [Nat.zero_add]; exact h3 i s e) fun i hi=>?_) fun a ⟨i,z⟩=>h1 i a z
 rw [Nat.zero_add] at hi ⊢;rw [sy i hi]
 have:=Zbt hi
 unfold L2.start;rw [List.getElem?_append_left (by rw [List.length_map]; omega)]
end
section
variable {ct:Str→Option Addr} {P:Program} {w:World} {K:PySem.W.Frag} {mg:Str→Option Value} {base:Heap} {G:Gam}
structure Ctx (ct:Str→Option Addr) (P:Program) (w:World) (K:PySem.W.Frag) (mg:Str→Option Value) (base:Heap) (G:Gam) (k:Nat):Prop where
 fn : ∀ x fn,G.fn x=some fn→∃ f fd ps,FnR G.rp P w K mg base k f fd ps (spI ct fn)∧mg x=some (.ref f)∧PySem.W.keepIn K (.ref f)=true∧Binds K fd ps []
 me : ∀ c m fn,G.me c m=some fn→∃ C f fd ps,ct c=some C∧Cls K C∧Meth K C m f∧FnOk P w K mg base CX0 k f fd ps (spI ct fn)∧Binds K fd ps []
 mak : ∀ c fn,G.made c=some fn→∃ C f fd ps,ct c=some C∧mg c=some (.ref C)∧Mk K C f∧FnOk P w K mg base CX0 k f fd ps (spI ct fn)∧Binds K fd ps []∧∃ ms,fn.md=.io ::ms
 gl : ∀ x d,G.gl x=some d→∃ v u,mg x=some u∧RelV v u∧Sc d v
 fr : ∀ x,G.fr x=true→mg x=none
 fd : ∀ c f,G.fd c f=true→∃ C,ct c=some C∧Cls K C∧NoAttr K C f
 dn : ∀ f g fn,G.dn f g=some fn→∃ fa ga fd ps,FnOk P w K mg base CX0 k fa fd ps (spD ct ga fn)∧mg f=some (.ref fa)∧PySem.W.keepIn K (.ref fa)=true∧Binds K fd ps []∧mg g=some (.ref ga)
 rp : True
 er : ErOk ct G.er k P w K mg base
theorem Ziw {qual:Str} {st:Stmt} {f:Addr} {N ps:List Str} {k:Nat} {md:List Md} {b:List IS} {cdv:Value} {A:Around} {outer:List Env} {s:Shared} {H:Hp} {vs:List V} {Q:VK} {E:XK} (Sc':FnScope N ps (defScope st)) (ok:okSs G N (defScope st) b (defBody st)=true)
  (cg:CG ct G N k (defScope st) (cxOf CX0 P w K mg base N qual (defScope st) f cdv A outer s H E).nox) (hsp:spI ct (fnI G md N.length b) vs H Q E):
  ∃ t,PSs (cxOf CX0 P w K mg base N qual (defScope st) f cdv A outer s H E).nox (defBody st) t∧t { nx:=fun _ H'=>Q .non H',rt:=Q } (L2.start N vs) H:=by
 obtain ⟨S,F,ds,r,outs,wk,ar,hs,q⟩:=hsp;have cs:CS ct G N k (defScope st) (cxOf CX0 P w K mg base N qual (defScope st) f cdv A outer s H E).nox:=⟨cg,fun _=>rfl,Sc'.kind,rfl⟩;refine ⟨_,sndSs (io:=iosFrom 0 md) cs b ok,?_⟩
 have hs:ZH G md N.length b ds=some (r,outs):=hs;unfold ZH at hs;split at hs
 ·rename_i hl
  obtain ⟨fs,h1,h2,h3⟩:=ZaS ar;have lv:vs.length=md.length:=(Z7 ar).2;have ls:=ZdC hl.1;have st0:State ct S H F No (slots0 md ds++List.replicate (N.length - md.length) .dead) (L2.start N vs):=by
   refine ⟨wk.anti fun a z=>z.elim id fun z=>z.elim,fun _ _ z=>z,?_,fs,h1,h2,fun i s e=>?_⟩
   ·unfold L2.start; simp [ls,lv]
   ·by_cases hi:i < (slots0 md ds).length
    ·rw [List.getElem?_append_left hi] at e
     have q:=h3 i s e;have e2:(L2.start N vs)[i]?=(vs.map some)[i]?:=by
      unfold L2.start;rw [List.getElem?_append_left (by rw [List.length_map,lv,←ls]; exact hi)]
     rw [e2];cases s with
     | dead=>trivial
     | own d=>exact q
     | vw d=>
      obtain ⟨v,ev,q⟩:=q;exact ⟨v,ev,Vw.anti (fun a z=>z.elim id fun z=>z.elim) q⟩
    ·rw [List.getElem?_append_right (by omega)] at e
     have : s=.dead:=List.eq_of_mem_replicate (List.mem_of_getElem? e);subst this;trivial
  cases ho:evSs G (iosFrom 0 md) b (slots0 md ds++List.replicate (N.length - md.length) .dead) with
  | none=>rw [ho] at hs; cases hs
  | some o=>
   rw [ho] at hs;refine ⟨_,S,F,No,o,st0,ho,?_⟩
   cases o with
   | ct ρ=>cases hs
   | bk ρ=>cases hs
   | nx ρ=>
    obtain ⟨os,h4,hs⟩:=bind_some hs;cases hs;intro S' H' F' σ' P;exact q S' H' F' No .non ⟨P.st.w,fun _ _ z=>z,P.tr.grow fun a z=>z.elim id fun z=>z.elim,rfl,Zci P.st P.stay lv h4⟩
   | rt d ρ=>
    obtain ⟨os,h4,hs⟩:=bind_some hs;cases hs;intro S' H' F' Fr σ' v P;exact q S' H' F' Fr v ⟨P.st.w.anti fun a z=>z.imp id .inr,fun a z z2=>P.st.dj a z (.inr z2),P.tr,P.rep,Zci P.st P.stay lv h4⟩
 ·cases hs
theorem fn_ok {x qual:Str} {st:Stmt} {f:Addr} {fd:FuncData} {N ps:List Str} {k:Nat} {md:List Md} {b:List IS} (cx:Ctx ct P w K mg base G k) (Fu:Fun K x qual st f fd) (Sc':FnScope N ps (defScope st)) (hm:md.length=ps.length) (ok:okSs G N (defScope st) b (defBody st)=true) (hrp:G.rp=false:=by rfl):
  FnOk P w K mg base CX0 (k+2) f fd ps (spI ct (fnI G md N.length b)):=
 Fu.ok Sc' (fun vs H Q E ⟨S,F,ds,r,outs,w,a,_⟩=>by rw [(Z7 a).2]; exact hm) fun cdv A outer s H vs Q E hr hsp=>
  Ziw Sc' ok ⟨rfl,rfl,Sc'.nd,rfl,hr,cx.fn,cx.me,cx.mak,cx.gl,cx.fr,cx.fd,cx.dn,fun z=>(by rw [hrp] at z; cases z),cx.er⟩ hsp
end
end VS
namespace VS
open PySem PySem.Spec PyProof.Rows L2
noncomputable def Gam.fnAdd (G:Gam) (x:Str) (f:FnS):Gam:={ G with fn:=fun y=>if y=x then some f else G.fn y }
section
variable {ct:Str→Option Addr} {P:Program} {w:World} {K:PySem.W.Frag} {mg:Str→Option Value} {base:Heap} {G:Gam} {k:Nat}
theorem Ctx.fnAdd {x:Str} {fn:FnS} {f:Addr} {fd:FuncData} {ps:List Str} (cx:Ctx ct P w K mg base G k) (F:FnOk P w K mg base CX0 k f fd ps (spI ct fn)) (hm:mg x=some (.ref f)) (hk:PySem.W.keepIn K (.ref f)=true) (hb:Binds K fd ps []):Ctx ct P w K mg base (G.fnAdd x fn) k:=by
 refine ⟨fun y g e=>?_,cx.me,cx.mak,cx.gl,cx.fr,cx.fd,cx.dn,cx.rp,cx.er⟩
 by_cases h:y=x
 ·have e:(if y=x then some fn else G.fn y)=some g:=e
  rw [if_pos h] at e;cases e;exact ⟨f,fd,ps,FnR.of F,h▸hm,hk,hb⟩
 ·have e:(if y=x then some fn else G.fn y)=some g:=e
  rw [if_neg h] at e;exact cx.fn y g e
end
end VS
namespace VS
open PySem PySem.Spec PyProof.Rows L2
theorem Zfr {io:List Nat} {p:Pat} {mb:MS} {kl:List Nat} (I:List Rv→Rho→Prop) (step:∀ r rs ρ,I (r ::rs) ρ→∃ ρ1 ρ2,asP io p r ρ=some ρ1∧mb ρ1=some (.nx ρ2)∧I rs (kills kl ρ2)):
  ∀ its ρ,I its ρ→∃ ρ',ZL io p mb kl its ρ=some (.nx ρ')∧I [] ρ'
 | [],ρ,h=>⟨ρ,rfl,h⟩
 | r ::rs,ρ,h=>by
  obtain ⟨ρ1,ρ2,h1,h2,h3⟩:=step r rs ρ h;obtain ⟨ρ',h4,h5⟩:=Zfr I step rs _ h3;refine ⟨ρ',?_,h5⟩
  unfold ZL;rw [h1];show (mb ρ1).bind _=_;rw [h2];exact h4
theorem Zfs {p:Pat} {vs:List Nat} {mc:MT} {me:ME} {ρ0:Rho} (f:Rv→Option D):∀ (its:List Rv) (acc:List D),(∀ r∈its,∃ ρ1 ρ2,asP [] p r ρ0=some ρ1∧mc ρ1=some ((f r).isSome,ρ2)∧(f r=none→kills vs ρ2=ρ0)∧(∀ d,f r=some d→∃ q ρ3 ρ4,me ρ2=some (q,ρ3)∧take q ρ3=some (d,ρ4)∧kills vs ρ4=ρ0))→
  ZA p vs mc me its ρ0 acc=some (acc++its.filterMap f,ρ0)
 | [],acc,_=>by rw [List.filterMap_nil,List.append_nil]; rfl
 | r ::rs,acc,h=>by
  obtain ⟨ρ1,ρ2,h1,h2,h3,h4⟩:=h r (List.mem_cons_self ..);have hr:=fun acc=>Zfs f rs acc fun x hx=>h x (List.mem_cons_of_mem _ hx)
  unfold ZA;cases hf:f r with
  | none=>
   rw [hf] at h2;simp only [h1,h2,Option.bind_some,Option.isSome_none,Bool.false_eq_true,if_false,h3 hf,hr,List.filterMap_cons,hf]
  | some d=>
   obtain ⟨q,ρ3,ρ4,a1,a2,a3⟩:=h4 d hf;rw [hf] at h2;simp only [h1,h2,Option.bind_some,Option.isSome_some,if_true,a1,a2,a3,hr,List.filterMap_cons,hf,List.append_assoc,List.singleton_append]
section
variable {G:Gam} {io:List Nat} {s:IS} {ss:List IS} {ρ ρ1:Rho} {o:Option Out} {d:D} {md:List Md} {n:Nat} {b:List IS} {ds os:List D}
theorem ZB (ρ1:Rho) (h:evS G io s ρ=some (.nx ρ1)) (k:evSs G io ss ρ1=o):evSs G io (s ::ss) ρ=o:=by
 show mSeq (evS G io s) (evSs G io ss) ρ=o;unfold mSeq;rw [h];exact k
theorem Zcj (h:evS G io s ρ=some (.rt d ρ1)):evSs G io (s ::ss) ρ=some (.rt d ρ1):=by
 show mSeq (evS G io s) (evSs G io ss) ρ=_;unfold mSeq;rw [h];rfl
theorem Zbu:evSs G io [] ρ=some (.nx ρ):=rfl
theorem ZdD {ρ:Rho} (hl:ds.length=md.length∧md.length≤n) (h:evSs G (iosFrom 0 md) b (slots0 md ds++List.replicate (n - md.length) .dead)=some (.rt d ρ)) (ho:outsR md ρ=some os):(fnI G md n b).sem ds=some (d,os):=by
 show ZH G md n b ds=_;unfold ZH;rw [if_pos hl,h];show (outsR md ρ).bind _=_;rw [ho];rfl
theorem Zft {p:Pat} {w:IW} {kl:List Nat} {its:List Rv} (h:evW G w ρ=some (its,ρ1)) (k:ZL io p (evSs G io b) kl its ρ1=o):evS G io (.for p w b kl) ρ=o:=by
 show mFor io p (evW G w) (evSs G io b) kl ρ=o;unfold mFor;rw [h];exact k
theorem Zbv {c:IE} {a b:List IS} {t:Bool} (h:asB (ev G c) ρ=some (t,ρ1)) (k:evSs G io (if t=true then a else b) ρ1=o):evS G io (.ifs c a b) ρ=o:=by
 show mIfS (asB (ev G c)) (evSs G io a) (evSs G io b) ρ=o;unfold mIfS;rw [h];cases t with
 | true=>exact k
 | false=>exact k
theorem Zix {i:Nat} {e:IE} {r:Rv} {ρ2:Rho} (hi:io.contains i=false) (h:ev G e ρ=some (r,ρ1)) (k:sto i r ρ1=some ρ2):evS G io (.asg i e) ρ=some (.nx ρ2):=by
 show mAsg io i (ev G e) ρ=_;unfold mAsg;rw [hi,h];show (sto i r ρ1).bind _=_;rw [k];rfl
theorem Zfu {e:IE} {p:Pat} {w:IW} {c:Option IE} {own:List (Str×Nat)} {its:List Rv} {acc:List D} {ρ2:Rho} (h:evW G w ρ=some (its,ρ1)) (hn:its.length≤1000000) (k:ZA p (own.map (·.2)) (evC G c) (ev G e) its (kills (own.map (·.2)) ρ1) []=some (acc,ρ2)):
  ev G (.comp e p w c own) ρ=some (.own (.lst true acc),kills (own.map (·.2)) ρ2):=by
 show ZbQ p (own.map (·.2)) (evW G w) (evC G c) (ev G e) ρ=_;unfold ZbQ;simp only [h,Option.bind_some,if_pos hn,k]
end
end VS
namespace VS
open PySem PySem.Spec PyProof.Rows L2
noncomputable def arr (p:Int×Int):D:=.tup [.int p.1,.int p.2]
section
variable {α:Type} (f:α→D)
theorem Zfv:∀ (xs:List α),(∀ x∈xs,(toP (f x)).canLay0=true)→PyData.canLayAll0 (toPs (xs.map f))=true
 | [],_=>rfl
 | x ::xs,h=>by
  show ((toP (f x)).canLay0 && PyData.canLayAll0 (toPs (xs.map f)))=true;rw [h x (List.mem_cons_self ..),Zfv xs fun y hy=>h y (List.mem_cons_of_mem _ hy)];rfl
theorem Zfw (k:Nat):∀ (xs:List α),(∀ x∈xs,(toP (f x)).depth≤k)→PyData.depthAll (toPs (xs.map f))≤k
 | [],_=>Nat.zero_le _
 | x ::xs,h=>by
  show max (toP (f x)).depth (PyData.depthAll (toPs (xs.map f)))≤k;exact Nat.max_le.mpr ⟨h x (List.mem_cons_self ..),Zfw k xs fun y hy=>h y (List.mem_cons_of_mem _ hy)⟩
theorem Zfx {m:Bool} {xs:List α} {k:Nat} (hk:k≤60) (h1:∀ x∈xs,(toP (f x)).canLay0=true) (h2:∀ x∈xs,(toP (f x)).depth≤k):shp (.lst m (xs.map f))=true:=by
 show (PyData.canLayAll0 (toPs (xs.map f)) && decide (PyData.depth (.list (toPs (xs.map f)))≤64))=true;rw [Zfv f xs h1]
 have:=Zfw f k xs h2
 refine decide_eq_true ?_
 show PyData.depthAll (toPs (xs.map f))+1≤64;omega
theorem ZdE:∀ (xs:List α),(∀ x∈xs,PyData.eqv (toP (f x)) (toP (f x))=true)→PyData.eqvAll (toPs (xs.map f)) (toPs (xs.map f))=true
 | [],_=>rfl
 | x ::xs,h=>by
  show (PyData.eqv (toP (f x)) (toP (f x)) && PyData.eqvAll (toPs (xs.map f)) (toPs (xs.map f)))=true;rw [h x (List.mem_cons_self ..),ZdE xs fun y hy=>h y (List.mem_cons_of_mem _ hy)];rfl
theorem ZdF:∀ (xs:List α),(∀ x∈xs,strip (f x)=f x)→strips (xs.map f)=xs.map f
 | [],_=>rfl
 | x ::xs,h=>by
  rw [List.map_cons,strips,h x (List.mem_cons_self ..),ZdF xs fun y hy=>h y (List.mem_cons_of_mem _ hy)]
theorem Zfy:∀ (xs:List α),(∀ x∈xs,flat (f x)=true)→flats (xs.map f)=true
 | [],_=>rfl
 | x ::xs,h=>by
  rw [List.map_cons,flats,h x (List.mem_cons_self ..),Zfy xs fun y hy=>h y (List.mem_cons_of_mem _ hy)];rfl
theorem Zfz:∀ (xs:List α),(∀ x∈xs,noOwn (f x)=true)→noOwns (xs.map f)=true
 | [],_=>rfl
 | x ::xs,h=>by
  rw [List.map_cons,noOwns,h x (List.mem_cons_self ..),Zfz xs fun y hy=>h y (List.mem_cons_of_mem _ hy)];rfl
end
section
variable (ns:List Int) (zs:List Str) (ps:List (Int×Int)) (m:Bool)
theorem ZaT:strips (ns.map D.int)=ns.map D.int:=ZdF _ _ fun _ _=>rfl
theorem Ziy:flats (ns.map D.int)=true:=Zfy _ _ fun _ _=>rfl
theorem ZdG:noOwns (ns.map D.int)=true:=Zfz _ _ fun _ _=>rfl
theorem ZfA:shp (.lst m (ns.map D.int))=true:=Zfx _ (k:=0) (by decide) (fun _ _=>rfl) fun _ _=>Nat.le_refl _
theorem ZfB (m':Bool):PyData.eqv (toP (.lst m (ns.map D.int))) (toP (.lst m' (ns.map D.int)))=true:=ZdE _ ns fun x _=>beq_self_eq_true x
end
theorem Ziz {α β:Type} (f:α→β) (xs:List α) (i:Int):atI (xs.map f) i=(atI xs i).map f:=by
 unfold atI;rw [List.length_map];cases ixN xs.length i with
 | none=>rfl
 | some j=>simp
theorem ZiA {α:Type} {xs:List α} {k:Nat} (h:k < xs.length):atI xs (k:Int)=some xs[k]:=atI_nat (by simp [h])
theorem ZfC:∀ (ds:List D) (k:Nat),Zy k (ds.map Rv.own)=(ds.zipIdx k).map fun p=>Rv.own (.tup [.int p.2,p.1])
 | [],_=>rfl
 | d ::ds,k=>by
  rw [List.map_cons,Zy,ZfC ds,List.zipIdx_cons,List.map_cons];rfl
end VS
namespace VS
open PySem PySem.Spec PyProof.Rows L2
noncomputable def gamE:Gam:=⟨fun _=>none,fun _ _=>none,fun _=>none,fun _=>none,fun _=>false,fun _ _=>false,false,fun _ _=>none,erE⟩
noncomputable def ZdH (ns:List Str):Str→Str→Option Bool:=fun a b=>if ns.contains a=true then (if b= "ValueError"∨b= "DrawError" then some true else if ns.contains b=true then some (decide (a=b)) else none) else none
noncomputable def Zt (ns:List Str) (fs:List (Str×Str)):ErT:=⟨ZdH ns,fun c f=>fs.any fun p=>decide (p.1=c) && decide (p.2=f),fun c=>ns.contains c && !(fs.any fun p=>decide (p.1=c)),fun c=>(fs.find? fun p=>decide (p.1=c)).map (·.2),fun c=>decide (c= "DrawError") || ns.contains c⟩
noncomputable def Gam.erAdd (G:Gam) (E:ErT):Gam:={ G with er:=E }
noncomputable def Gam.frAdd (G:Gam) (x:Str):Gam:={ G with fr:=fun y=>if y=x then true else G.fr y }
section
variable {ct:Str→Option Addr} {P:Program} {w:World} {K:PySem.W.Frag} {mg:Str→Option Value} {base:Heap} {G:Gam} {k:Nat}
theorem ZS:Ctx ct P w K mg base gamE k:=
 ⟨fun _ _ h=>(nomatch h),fun _ _ _ h=>(nomatch h),fun _ _ h=>(nomatch h),fun _ _ h=>(nomatch h),fun _ h=>(nomatch (show false=true from h)),fun _ _ h=>(nomatch (show false=true from h)),fun _ _ _ h=>(nomatch h),trivial,Zia⟩
theorem Ctx.frAdd {x:Str} (cx:Ctx ct P w K mg base G k) (h:mg x=none):Ctx ct P w K mg base (G.frAdd x) k:=by
 refine ⟨cx.fn,cx.me,cx.mak,cx.gl,fun y e=>?_,cx.fd,cx.dn,cx.rp,cx.er⟩
 by_cases hy:y=x
 ·rw [hy]; exact h
 ·have e:(if y=x then true else G.fr y)=true:=e
  rw [if_neg hy] at e;exact cx.fr y e
end
section
variable {ct:Str→Option Addr} {P:Program} {w:World} {K:PySem.W.Frag} {mg:Str→Option Value} {base:Heap} {G:Gam} {k:Nat}
theorem Ctx.erAdd {E:ErT} (cx:Ctx ct P w K mg base G k) (h:ErOk ct E k P w K mg base):Ctx ct P w K mg base (G.erAdd E) k:=⟨cx.fn,cx.me,cx.mak,cx.gl,cx.fr,cx.fd,cx.dn,cx.rp,h⟩
end
end VS
namespace VS
open PySem PySem.Spec PyProof.Rows L2
theorem ZdI {io:List Nat} {i:Nat} {r:Rv} {ρ:Rho}:asP io (.nm i) r ρ=if io.contains i=true then none else sto i r ρ:=rfl
theorem ZiB {io:List Nat} {ps:List Pat} {ds:List D} {ρ:Rho}:asP io (.tp ps) (.own (.tup ds)) ρ=asPs io ps (ds.map .own) ρ:=rfl
theorem ZiC {io:List Nat} {p:Pat} {ps:List Pat} {r:Rv} {rs:List Rv} {ρ:Rho}:asPs io (p ::ps) (r ::rs) ρ=(asP io p r ρ).bind fun ρ1=>asPs io ps rs ρ1:=rfl
theorem ZiD {io:List Nat} {ρ:Rho}:asPs io [] [] ρ=some ρ:=rfl
theorem ZfD (n:Nat):ZM 0 1 n=(List.range n).map fun (i:Nat)=>Rv.own (.int (i:Int)):=by
 unfold ZM;refine List.map_congr_left fun i _=>?_
 rw [Int.zero_add,Int.mul_one]
theorem ZiE {α:Type} (f:α→D) (xs:List α):Zy 0 ((xs.map f).map Rv.own)=xs.zipIdx.map fun p=>Rv.own (.tup [.int p.2,f p.1]):=by
 rw [ZfC,List.zipIdx_map,List.map_map];rfl
end VS
namespace VS
open PySem PySem.Spec PyProof.Rows L2
theorem ZfE {α:Type} {io:List Nat} {p:Pat} {mb:MS} {kl:List Nat} (itm:α→Rv):∀ (xs:List α) (I:Nat→Rho→Prop),(∀ k (hk:k < xs.length) ρ,I k ρ→∃ ρ1 ρ2,asP io p (itm xs[k]) ρ=some ρ1∧mb ρ1=some (.nx ρ2)∧I (k+1) (kills kl ρ2))→
  ∀ ρ,I 0 ρ→∃ ρ',ZL io p mb kl (xs.map itm) ρ=some (.nx ρ')∧I xs.length ρ'
 | [],I,_,ρ,h0=>⟨ρ,rfl,h0⟩
 | x ::xs,I,h,ρ,h0=>by
  obtain ⟨ρ1,ρ2,h1,h2,h3⟩:=h 0 (by simp) ρ h0;obtain ⟨ρ',e,q⟩:=ZfE itm xs (fun k=>I (k+1)) (fun k hk=>h (k+1) (by simpa using hk)) _ h3;refine ⟨ρ',?_,q⟩
  rw [List.map_cons];unfold ZL;rw [show asP io p (itm x) ρ=some ρ1 from h1];show (mb ρ1).bind _=_;rw [h2];exact e
end VS
set_option maxHeartbeats 4000000
namespace VS
open PySem PySem.Spec PyProof.Rows L2
end VS
namespace VS
open PySem PySem.Spec PyProof.Rows L2
theorem dfT {fs:List Tst} {fn:List He.FnD} {K:PySem.W.Frag} (c:SaysV fs fn K) {x:Str} {s:Stmt} (i j k:Nat) (h:fn[i]?=some (dT x s):=by rfl) (h1:fs[j]?=some (Zg x):=by rfl) (h2:fs[k]?=some (kpB x):=by rfl):
  ∃ fd,Fun K x x s (He.ga K x) fd∧PySem.W.nsIn K mainGlobals x=some (some (.ref (He.ga K x))):=by
 obtain ⟨oc,od,sl,kV,dc,pm,an,cd,ct,l,c0⟩:=c.def_ i h;exact ⟨_,fun_mk l c0 (c.fact k h2),Zr (c.fact j h1)⟩
section
variable {ct:Str→Option Addr} {P:Program} {w:World} {K:PySem.W.Frag} {mg:Str→Option Value} {base:Heap} {G:Gam} {k:Nat}
noncomputable def PkF (ct:Str→Option Addr) (P:Program) (w:World) (K:PySem.W.Frag) (mg:Str→Option Value) (base:Heap) (j:Nat) (x:Str) (fn:FnS):Prop:=∃ f fd ps,FnOk P w K mg base CX0 j f fd ps (spI ct fn)∧mg x=some (.ref f)∧PySem.W.keepIn K (.ref f)=true∧Binds K fd ps []
theorem Ctx.fA {x:Str} {fn:FnS} {j:Nat} (cx:Ctx ct P w K mg base G k) (q:PkF ct P w K mg base j x fn) (h:j≤k:=by decide):Ctx ct P w K mg base (G.fnAdd x fn) k:=
 let ⟨_,_,_,F,a,b,e⟩:=q; cx.fnAdd (F.mono h) a b e
end
end VS
namespace VS
open PySem PySem.Spec PyProof.Rows L2
section
variable {K:PySem.W.Frag} {h:Heap} {mg:Str→Option Value}
theorem ZaU (X:K.In h) (G:h.Ns mainGlobals mg) {x:Str} (e:ZV x K=true):mg x=none:=PySem.W.mg_none_of X G (ZgP e)
end
end VS
set_option maxHeartbeats 8000000
namespace L2
open PySem PySem.Spec PyProof.Rows
noncomputable abbrev Cx.blkX (X:Cx) (s:Shared) (H:Hp) (scope:Scope) (cenv:Env) (fp:List Addr) (xe:Value→Shared→Prop):Cx:={ X.blk s H scope cenv fp with xe:=xe }
theorem Inv.toX {X:Cx} {s0 s:Shared} {H0 H:Hp} {scope:Scope} {cenv:Env} {fp:List Addr} {pins:List (Addr×Obj)} {σ:St} (I:Inv (X.blk s0 H0 scope cenv fp) pins σ H s) (xe:Value→Shared→Prop):Inv (X.blkX s0 H0 scope cenv fp xe) pins σ H s:=
 ⟨by obtain ⟨⟩:=I.ok; constructor<;>assumption,I.os,I.bare,I.base,I.loc,I.cell,I.free,I.freeC,I.pin,I.hok,I.len⟩
theorem Inv.ofX {X:Cx} {s0 s:Shared} {H0 H:Hp} {scope:Scope} {cenv:Env} {fp:List Addr} {pins:List (Addr×Obj)} {σ:St} {xe:Value→Shared→Prop} (I:Inv (X.blkX s0 H0 scope cenv fp xe) pins σ H s):Inv (X.blk s0 H0 scope cenv fp) pins σ H s:=
 ⟨by obtain ⟨⟩:=I.ok; constructor<;>assumption,I.os,I.bare,I.base,I.loc,I.cell,I.free,I.freeC,I.pin,I.hok,I.len⟩
theorem ZiF {X:Cx} {W:WX} (hs:X.stack=X.env ::X.outer) (hf:X.env.frame=some X.env.locals) (tk:Takes X W) {ce:Env} (hcf:ce.frame=X.env.frame) {pins:List (Addr×Obj)} {σ:St} {H:Hp} {s s':Shared} (I:Inv X pins σ H s)
  (fC:FpOk X pins H ce.locals) (nsC:∃ m,s.heap.Ns ce.locals m) {E:XK} (hE:∀ cls d H',E cls d H'→W cls d σ H') {u:Value} (c:CX X.prog X.w X.stack H s E u s'):
  notedBy (model X.prog X.w) X.A ce (CompFails (model X.prog X.w) X.A X.xe ce) u s':=by
 obtain ⟨a,B,H',cls,d,rfl,fl,hok,ub,na,os,ag,hw⟩:=c;have hfr:X.A.frames=some (X.env ::X.outer):=by rw [I.ok.frames,hs]
 generalize hCe:ce.locals=C at *;have nC:C∉frs X.stack:=fun z=>by
  rw [hs] at z
  rcases List.mem_cons.mp (show C∈X.env.locals ::frs X.outer by
   have : frs (X.env ::X.outer)=X.env.locals ::frs X.outer:=by unfold frs; rw [List.filterMap_cons,hf]
   rwa [this] at z) with z | z
  ·exact fC.2.1 z
  ·exact fC.2.2.1 z
 obtain ⟨mC,oC,es,ep,eC,nr⟩:=nsC;have hHC:=fC.1;have BC:B.get? C=some oC:=ub.keep C oC eC hHC nC;have H'C:H' C=none:=ub.free C oC eC hHC;have aC:a≠C:=fun z=>by
  have:=fl.2.1
  rw [z,BC] at this; cases this
 show wpAny _ _ (noteFrame (.ref a) ce) _ _ s';rw [show noteFrame (.ref a) ce=noteFrame (.ref a) X.env from by unfold noteFrame PySem.frameOf; rw [hcf]];rw [hs] at fl;refine HandSPX.looks_onZ Zc.steady hfr hf fl fun h1 hh up=>?_
 have nsC1:h1.Ns C mC:=⟨oC,es,ep,hh.1 C oC BC,nr⟩;refine ⟨mC,by rw [hCe]; exact nsC1,fun h2 m2 ns2 sb=>?_⟩
 rw [hCe] at ns2 sb;obtain ⟨B2,b1,b2⟩:=restrict h2 fun b=>(B.get? b).isSome
 have dom:∀ b o,B2.get? b=some o→h2.get? b=some o∧(B.get? b).isSome=true:=fun b o e=>by
  cases q:(B.get? b).isSome with
  | false=>rw [b2 b q] at e; cases e
  | true=>exact ⟨(b1 b q).symm.trans e,rfl⟩
 have stay:∀ b o,b≠C→B.get? b=some o→B2.get? b=some o:=fun b o hb e=>by
  rw [b1 b (by rw [e]; rfl),sb.2 b hb];exact hh.1 b o e
 have some2:∀ b,(B.get? b).isSome=true→∃ o,B2.get? b=some o:=fun b q=>by
  obtain ⟨o,e⟩:=Option.isSome_iff_exists.mp q;by_cases hb:b=C
  ·obtain ⟨o2,_,_,e2,_⟩:=ns2
   exact ⟨o2,by rw [b1 b q,hb]; exact e2⟩
  ·exact ⟨o,stay b o hb e⟩
 have none2:∀ b,B.get? b=none→B2.get? b=none:=fun b e=>b2 b (by rw [e]; rfl)
 have st2:B2.StaysIn h2:=fun b o e=>(dom b o e).1
 obtain ⟨hh1,hh2,hh3,oe,vs,T,oT,ts,he,hz,hd,v1,hnT,hTe,hT,hdT,h3⟩:=hh;have TC:T≠C:=fun z=>by rw [z,BC] at hnT; cases hnT
 have frB:∀ L∈frs (X.env ::X.outer),B.get? L=none:=fun L hL=>by
  have key:∀ {l:List Env},h1.FunFrames B l→∀ L∈frs l,B.get? L=none:=fun {l}=>by
   induction l with
   | nil=>exact fun _ L hL=>nomatch hL
   | cons e l ih=>
    rintro ⟨_,⟨L',o,hf',hb,_⟩,hr⟩ L hL;have : frs (e ::l)=L' ::frs l:=by unfold frs; rw [List.filterMap_cons,hf']
    rw [this] at hL;rcases List.mem_cons.mp hL with rfl | hL
    ·exact hb
    ·exact ih hr L hL
  exact key hh3 L hL
 have fr2:h2.FunFrames B2 (X.env ::X.outer):=funFrames_none (Heap.FunFrames.sameBut sb ns2 hh3) fun L hL=>none2 L (frB L hL)
 have he2:h2.get? a=some oe:=(sb.2 a aC).trans he;have tr2:HandSPX.TracedZ h2 B2 a (Zc cls d) (rawInt X.env.locals):=⟨oe,vs,T,oT,ts,he2,hz,hd,v1,none2 T hnT,hTe,(sb.2 T TC).trans hT,hdT,h3⟩;unfold PySem.passOn;refine wpAny_bind (wpAny_field he2 hd v1 ?_)
 rw [if_neg (show ¬ ((Value.ref T ==Value.none)=true) from by simp)];have fin:wpAny (model X.prog X.w) X.A (setFlight (.ref a) ce.frame) (fun _ s4=>wpAny (model X.prog X.w) X.A (throw (.ref a):Sem Value) (fun _ _=>False) X.xe s4) X.xe { s' with heap:=h2 }:=by
  rw [hcf,hf];refine HandSPX.setFlight_anyZ st2 fr2 tr2 fun h4 k1 k2 k3 k4=>wpAny_throw (tk _ _ ?_)
  obtain ⟨G,g1,g2⟩:=restrict h4 fun b=>(B.get? b).isSome || decide (b∈frs X.stack)
  have og:∀ b o,G.get? b=some o→h4.get? b=some o∧((B.get? b).isSome=true∨b∈frs X.stack):=fun b o e=>by
   cases q:((B.get? b).isSome || decide (b∈frs X.stack)) with
   | false=>rw [g2 b q] at e; cases e
   | true=>
    rw [g1 b q] at e;exact ⟨e,by simpa [Bool.or_eq_true] using q⟩
  have gB:∀ b o,b≠C→B.get? b=some o→G.get? b=some o:=fun b o hb e=>by
   rw [g1 b (by rw [e]; rfl)];exact k1 b o (stay b o hb e)
  have gS:∀ b,(B.get? b).isSome=true→∃ o,G.get? b=some o:=fun b q=>by
   obtain ⟨o,e⟩:=some2 b q;exact ⟨o,by rw [g1 b (by rw [q]; rfl)]; exact k1 b o e⟩
  have gF:∀ b o,s.heap.get? b=some o→b∈frs X.stack→∃ sl,G.get? b=some { o with slots:=sl }:=fun b o e hb=>by
   obtain ⟨_,o',e',hnf⟩:=I.stack.mem hb;rw [e] at e'; cases e';obtain ⟨sl,q⟩:=ub.slot b o e hb;obtain ⟨sl2,q2⟩:=up b _ q hnf;have q3:h2.get? b=some { o with slots:=sl2 }:=(sb.2 b fun z=>nC (z▸hb)).trans q2;obtain ⟨sl4,q4⟩:=k4 b _ q3 hnf;exact ⟨sl4,by rw [g1 b (by rw [decide_eq_true hb,Bool.or_true])]; exact q4⟩
  have tr:∀ b v,H' b=some v→b≠C:=fun b v e z=>by rw [z,H'C] at e; cases e
  refine ⟨a,B2,{ s with heap:=G,gens:=s'.gens,drawn:=s'.drawn,toks:=s'.toks },pins,σ,H',cls,d,rfl,?_,fun b o e hb=>?_,Heap.UpToSlots.of_keeps fun b o e=>(og b o e).1,.inr (.inr (by rw [hs]; exact ⟨k1,none2 a hh2,k2,k3⟩)),na,os,ag,hE _ _ _ hw⟩
  ·refine I.call (ch:=[C]) ⟨fun b o e n hb hc=>gB b o (fun z=>hc (by simp [z])) (ub.keep b o e n hb),fun b o e n hb _=>gF b o e hb,fun b o e n _=>ub.free b o e n,fun b o e _=>?_,ub.tups,ub.frzs,ub.tbls⟩ (fun b v e=>?_) ag (fun b hb=>?_)
   ·by_cases hb:b∈frs X.stack
    ·obtain ⟨sl,q⟩:=gF b o e hb
     exact ⟨_,q⟩
    ·obtain ⟨o',q⟩:=ub.there b o e hb
     exact gS b (by rw [q]; rfl)
   ·refine (hok b v e).stay (fun c v hc q=>gB c v ?_ q) (fun _ q=>q) fun _ _ q=>q
    rcases hc with z | z
    ·rw [z]; exact tr b _ e
    ·exact tr c _ z
   ·have e:b=C:=by simpa using hb
    subst e;exact ⟨fC.2.2.2.1,fC.2.1,fC.2.2.2.2.1,fC.2.2.2.2.2⟩
  ·obtain ⟨e',h⟩:=og b o e
   rcases h with h | h
   ·obtain ⟨o',q⟩:=some2 b h
    have z:=k1 b o' q;rw [e'] at z; cases z;exact q
   ·exact absurd h hb
 first
  | exact wpAny_bind (wpAny_pure (wpAny_bind fin))
  | exact wpAny_bind fin
end L2
namespace L2
open PySem PySem.Spec PyProof.Rows
section
variable {X:Cx} {W:WX}
noncomputable def ZdJ (X:Cx) (W:WX) (scope:Scope) (σ:St) (elt:Expr) (te:TE):Prop:=∀ (s:Shared) (H:Hp) (C:Addr) (cl:List (Str×Addr)) (fp:List Addr) (xe:Value→Shared→Prop),
 (∀ σ',PassesAt (L2.CX X.prog X.w) (X.blkX s H scope (compEnvC scope cl C X.env) fp xe) σ' fun cls d H=>W cls d σ H)→PE (X.blkX s H scope (compEnvC scope cl C X.env) fp xe) elt te
set_option maxHeartbeats 16000000 in
theorem ZiG {pins:List (Addr×Obj)} {s:Shared} {σ:St} {H:Hp} {Q:VK} {elt tg iter:Expr} {ifs:List Expr} {scope:Scope} {own:List (Str×Nat)} {pos pos':Pos} {wi:TI} {g:TG} {tt:TT} {te:TE} {use:Option (Value→Sem Unit)} {Qf:Value→Shared→Prop}
  (hst:X.stack=X.env ::X.outer) (hfr:X.env.frame=some X.env.locals) (tk:Takes X W)
  (hc:X.calm=true) (hN:X.N.Nodup) (I:Inv X pins σ H s) (hi:PI X tg iter wi) (ok:BlkOk X.N X.env.scope scope own)
  (hg:∀ (s:Shared) (H:Hp) (C:Addr) (cl:List (Str×Addr)) (fp:List Addr),PG (X.blk s H scope (compEnvC scope cl C X.env) fp) tg g) (ht:∀ (s:Shared) (H:Hp) (C:Addr) (cl:List (Str×Addr)) (fp:List Addr),PTs (X.blk s H scope (compEnvC scope cl C X.env) fp) ifs tt)
  (he:ZdJ X W scope σ elt te) (hs:∀ x,foldedSetIterable iter X.env x=pure x)
  (h:tLc wi g tt te (own.map (·.2)) σ H Q)
  (hR:∀ D ce s' m H',Inv X pins σ H' s'→Q (.ref D) H'→s'.heap.Ns ce.locals m→FpOk X pins H' ce.locals→compEnds (model X.prog X.w) X.A X.xe use Qf (.ref D) ce (.ok .next) s'):
  wpAny (model X.prog X.w) X.A (comprehension (.ListComp elt [⟨tg,iter,ifs,0⟩] scope pos) scope X.env pos' (newList []) false (eval iter X.env) use) Qf X.xe s:=by
 have hfree:∀ y∈scope.names,y.2=.free→∃ c,X.env.cells.lookup y.1=some c:=fun y hy e=>(ok.free y hy e).elim (fun k=>I.ok.has _ (.inl k)) fun k=>I.ok.has _ (.inr k)
 refine comprehension_at (use:=use) rfl hs (closure_ok hfree) ok.kind (fun y hy e=>by rw [ok.uniq y hy,e]) (thn (hi.run pins s σ H _ I h) fun xv s1 hx=>thn hx fun itv s2 ⟨it,fp,tn,J,H2,e,I2,T,st2,f2,q⟩=>?_)
 subst e;refine wpAny_newObj_type (newEnv_comp ?_) (by show 0≤sizeLine; decide)
 obtain ⟨D,hD⟩:∃ D,s2.heap.objs.size=D:=⟨_,rfl⟩;rw [hD];have hDn:H2 D=none:=I2.hok.fresh (Nat.le_of_eq hD);obtain ⟨Wt,⟨m0,w0⟩,turn⟩:=q D hDn;let lo:Obj:={ cls:=.type "list",data:=.seq ([]:List Value).toArray };obtain ⟨s3,hs3⟩:∃ s3:Shared,{ s2 with heap:=s2.heap.push lo }=s3:=⟨_,rfl⟩;have h3:s3.heap=s2.heap.push lo:=by rw [←hs3]
 have kp:∀ b o,s2.heap.get? b=some o→s3.heap.get? b=some o:=fun b o e=>by rw [h3]; exact Heap.get?_push_of_some _ e
 have I3:Inv X pins σ (upd H2 D (.lst [])) s3:=by
  rw [←hs3];refine I2.laid (t':=s2.toks) (fun b o e=>Heap.get?_push_of_some _ e) (Nat.le_of_eq hD) ⟨Nat.zero_le _,[],0,.nil,?_⟩
  rw [←hD];exact Heap.get?_push_size _ rfl
 have below:∀ b∈fp,b < s2.heap.objs.size:=fun b hb=>let ⟨o,e,_⟩:=T.obj _ _ st2 b hb; Heap.lt_size e
 have f3:∀ b∈fp,FpOk X pins (upd H2 D (.lst [])) b∧b < s3.heap.objs.size:=fun b hb=>by
  have hlt:=below b hb;refine ⟨⟨?_,(f2 b hb).2⟩,by rw [h3,Heap.size_push]; exact Nat.lt_succ_of_lt hlt⟩
  rw [upd_ne (by rw [←hD]; exact Nat.ne_of_lt hlt)];exact (f2 b hb).1
 have I4:=block_start I3 ok hN f3;generalize hH3:upd H2 D (.lst [])=H3 at I3 I4 w0 f3;let cl:=cellsFrom (s3.heap.objs.size+1) scope.names (cloFrom X.env.cells scope.names []);let C:=s3.heap.objs.size;let ce:=compEnvC scope cl C X.env;have cL:ce.locals=C:=rfl;have cF:ce.frame=X.env.frame:=rfl;have pg:=hg s3 H3 C cl fp;have pt:=ht s3 H3 C cl fp;let xe:Value→Shared→Prop:=fun u s'=>∃ pins' σ' H' s,Inv (X.blk s3 H3 scope ce fp) pins' σ' H' s∧L2.CX X.prog X.w X.stack H' s (fun cls d H=>W cls d σ H) u s'
 have pe:=he s3 H3 C cl fp xe fun σ' pins' H' s e s' I c=>⟨pins',σ',H',s,I.ofX,c⟩
 obtain ⟨s4,hs4⟩:∃ s4:Shared,{ s3 with heap:=pushCells (s3.heap.push { cls:=.type "dict",data:=.dict #[] }) scope.names }=s4:=⟨_,rfl⟩;have e4:({ s2 with heap:=s2.heap.push lo }:Shared)=s3:=hs3;show codeAny _ _ (.compStart (.ListComp elt [⟨tg,iter,ifs,0⟩] scope pos) 0 (.ref it) (.ref D) (compEnvC scope (cellsFrom (({ s2 with heap:=s2.heap.push lo }:Shared).heap.objs.size+1) scope.names (cloFrom X.env.cells scope.names [])) ({ s2 with heap:=s2.heap.push lo }:Shared).heap.objs.size X.env)) (compEnds (model X.prog X.w) X.A X.xe use Qf (.ref D) (compEnvC scope (cellsFrom (({ s2 with heap:=s2.heap.push lo }:Shared).heap.objs.size+1) scope.names (cloFrom X.env.cells scope.names [])) ({ s2 with heap:=s2.heap.push lo }:Shared).heap.objs.size X.env)) { ({ s2 with heap:=s2.heap.push lo }:Shared) with heap:=pushCells (({ s2 with heap:=s2.heap.push lo }:Shared).heap.push { cls:=.type "dict",data:=.dict #[] }) scope.names };rw [e4,hs4];rw [hs4] at I4;show codeAny _ _ (.compStart (.ListComp elt [⟨tg,iter,ifs,0⟩] scope pos) 0 (.ref it) (.ref D) ce) (compEnds (model X.prog X.w) X.A X.xe use Qf (.ref D) ce) s4;have I4:Inv (X.blk s3 H3 scope ce fp) [] (wipe σ (own.map (·.2))) H3 s4:=I4;have st4:tn 0 s4.heap:=T.keep _ _ _ st2 fun b _ o e=>by rw [←hs4]; exact pushCells_keeps _ _ _ _ (Heap.get?_push_of_some _ (kp b o e))
 have stat:∀ {σ':St} {H':Hp} {s':Shared},Inv (X.blk s3 H3 scope ce fp) [] σ' H' s'→(∀ b∈fp,H' b=none)→∀ b∈fp,FpOk (X.blk s3 H3 scope ce fp) [] H' b:=fun {σ' H' s'} I' hn b hb=>
  ⟨hn b hb,(I'.ok.exf b hb).1,I'.ok.exfs b hb,.inl hb,fun x c e=>(I'.ok.exf b hb).2 x c e,fun p hp=>absurd (show p∈([]:List (Addr×Obj))++[] from hp) (by simp)⟩
 have up:∀ {pins':List (Addr×Obj)} {σ':St} {H':Hp} {s':Shared},Inv (X.blk s3 H3 scope ce fp) pins' σ' H' s'→Inv X pins σ H' s'∧H' C=none∧∃ m,s'.heap.Ns C m:=fun {pins' σ' H' s'} I'=>by
  refine ⟨I3.call' (ch:=fp) I'.os I'.base I'.hok I'.bare fun b hb=>⟨(f3 b hb).1.2.2.2.1,(f3 b hb).1.2.1,(f3 b hb).1.2.2.2.2.1,(f3 b hb).1.2.2.2.2.2⟩,I'.free,?_⟩
  obtain ⟨m,hn,_⟩:=I'.loc;exact ⟨m,hn⟩
 have fpC:∀ {H':Hp},H' C=none→FpOk X pins H' C:=fun hn=>I3.fpOk (Nat.le_refl _) hn
 have out:∀ u s',xe u s'→notedBy (model X.prog X.w) X.A ce (CompFails (model X.prog X.w) X.A X.xe ce) u s':=fun u s' ⟨pins',σ',H',s0,Ib,c⟩=>by
  obtain ⟨Iu,hn,hm⟩:=up Ib;exact ZiF hst hfr tk cF Iu (fpC hn) hm (E:=fun cls d H=>W cls d σ H) (fun _ _ _ z=>z) c
 have loop:codeAny (model X.prog X.w) X.A (.compLoop (.ListComp elt [⟨tg,iter,ifs,0⟩] scope pos) 0 (.ref it) (.ref D) ce) (compEnds (model X.prog X.w) X.A X.xe use Qf (.ref D) ce) s4:=by
  refine compLoop_any (fun n s'=>∃ i H',Inv (X.blk s3 H3 scope ce fp) [] (wipe σ (own.map (·.2))) H' s'∧tn i s'.heap∧(∀ b∈fp,H' b=none)∧Wt i n H') ?_ m0 ⟨0,H3,I4,st4,fun b hb=>(f3 b hb).1.1,w0⟩
  rintro n s5 ⟨i,H5,I5,st5,n5,w5⟩;rcases turn i n H5 w5 with ⟨stop,qq⟩ | ⟨go,Nx,hNx,step⟩
  ·refine thnF (T.done (X.blk s3 H3 scope ce fp) rfl rfl rfl hc i [] s5 _ H5 (fun _ _=>False) I5 (stat I5 n5) st5 stop) fun r s6 ⟨hr,I6⟩=>?_
   subst hr;obtain ⟨Iu,hn,m,hm⟩:=up I6;exact hR D ce s6 m H5 Iu qq hm (fpC hn)
  ·refine thnF (T.item (X.blk s3 H3 scope ce fp) rfl rfl rfl hc i [] s5 _ H5 (fun _ _=>False) I5 (stat I5 n5) st5 go) fun r s6 ⟨u,hr,h6⟩=>?_
   subst hr;refine thnF h6 fun _ s7 ⟨x,H7,I7,r7,y7,st7,n7⟩=>?_
   refine thnF (pg.run _ s7 _ H7 x u _ (I7.pinned (stat I7 n7) (T.obj _ _ st7)) r7 (step x H7 y7)) fun _ s8 ⟨σ8,H8,I8,hw8,q8⟩=>?_
   refine thnF (pt.run _ s8 σ8 H8 _ I8 q8) fun b s9 ⟨H9,I9,q9⟩=>?_
   have fin:∀ {s':Shared} {H':Hp},Inv (X.blk s3 H3 scope ce fp) ([]++pinsAt fp s7.heap) σ8 H' s'→Nx H'→∃ m,m < n∧∃ i H',Inv (X.blk s3 H3 scope ce fp) [] (wipe σ (own.map (·.2))) H' s'∧tn i s'.heap∧(∀ b∈fp,H' b=none)∧Wt i m H':=fun {s' H'} I' nx=>by
    obtain ⟨m',hm,w'⟩:=hNx H' nx;have pin':∀ b∈fp,∀ o,s7.heap.get? b=some o→s'.heap.get? b=some o∧H' b=none:=fun b hb o e=>
     let z:=I'.pin (b,o) (List.mem_append_right _ (List.mem_append_right _ (mem_pinsAt hb e)))
     ⟨z.1,z.2.1⟩
    refine ⟨m',hm,i+1,H',(I'.unpinned (pins:=[])).weak (by rw [←hw8,wipe_length]) (fun j v e=>by rw [←hw8] at e; exact (wipe_some e).1),T.keep _ _ _ st7 fun b hb o e=>(pin' b hb o e).1,fun b hb=>?_,w'⟩
    obtain ⟨o,e,_⟩:=T.obj _ _ st7 b hb;exact (pin' b hb o e).2
   cases b with
   | false=>
    simp only [Bool.false_eq_true,if_false] at q9 ⊢;exact fin I9 q9
   | true=>
    simp only [if_true] at q9 ⊢;refine wpAny_mono (pe.run _ s9 σ8 H9 _ (I9.toX xe) q9) (fun z s10 ⟨yv,H10,I10,r10,acc,hD10,hz10,nx⟩=>?_) out
    exact app_ok (X:=X.blk s3 H3 scope ce fp) I10.ofX hD10 hz10 r10 fun s11 I11=>fin I11 nx
 exact codeAny_compStart_list loop (T.self X.A 0 _ _ _ st4 loop)
theorem ZiH {i:Nat} {y:Str} {py:Pos} {elt tg iter:Expr} {ifs:List Expr} {scope:Scope} {own:List (Str×Nat)} {pos spos:Pos} {wi:TI} {g:TG} {tt:TT} {te:St→TE} (hst:X.stack=X.env ::X.outer) (hfr:X.env.frame=some X.env.locals) (tk:Takes X W)
  (hc:X.calm=true) (hN:X.N.Nodup) (hy:X.N[i]?=some y) (hyl:X.env.scope.names.lookup y=some .local) (hsw:swapsWith (.ListComp elt [⟨tg,iter,ifs,0⟩] scope pos) (some (.Name y py)) spos.line X.env=pure true) (hi:PI X tg iter wi) (ok:BlkOk X.N X.env.scope scope own)
  (hg:∀ (s:Shared) (H:Hp) (C:Addr) (cl:List (Str×Addr)) (fp:List Addr),PG (X.blk s H scope (compEnvC scope cl C X.env) fp) tg g) (ht:∀ (s:Shared) (H:Hp) (C:Addr) (cl:List (Str×Addr)) (fp:List Addr),PTs (X.blk s H scope (compEnvC scope cl C X.env) fp) ifs tt)
  (he:∀ σ,ZdJ X W scope σ elt (te σ)) (hs:∀ x,foldedSetIterable iter X.env x=pure x:=by intro _; rfl):
  PS X (.Assign [.Name y py] (.ListComp elt [⟨tg,iter,ifs,0⟩] scope pos) spos) (tAsg (fun σ=>tLc wi g tt (te σ) (own.map (·.2)) σ) (gName i)):=by
 refine ⟨fun pins s σ H D I h=>?_⟩
 rw [exec_Assign_Name_used _ _ _ _ hsw];refine wpAny_bind (wpAny_standAt (wpAny_bind ?_))
 show wpAny _ X.A (do let _ ←comprehension (.ListComp elt [⟨tg,iter,ifs,0⟩] scope pos) scope X.env (firstIterPos [⟨tg,iter,ifs,0⟩] pos) (newList []) false (eval iter X.env) (some (assign (.Name y py) X.env))) _ _ s;have h:tLc wi g tt (te σ) (own.map (·.2)) σ H (fun x H1=>gName i x σ H1 D.nx):=h;refine wpAny_bind (thn (ZiG (Qf:=fun _ s'=>SP X pins D .next s') hst hfr tk hc hN I hi ok hg ht (he σ) hs h fun L ce s' m H' I' q hn f=>?_) fun _ s' hq=>wpAny_pure (wpAny_pure hq))
 obtain ⟨f0,f1,f2,f3,f4,f5⟩:=f;show wpAny _ _ (assign (.Name y py) X.env (.ref L)) _ _ _;refine wpAny_assign_Name (store_ok2 (v:=V.ref L) I' hN hy (.inl hyl) rfl (fun s2 I2 ⟨a,sb,ha⟩=>?_) (.inr hyl))
 have ne:ce.locals≠a:=by
  rcases ha with z | z
  ·exact fun e=>f1 (e.trans z)
  ·exact fun e=>f4 y a z e.symm
 exact ⟨m,hn.sameBut sb ne,fun h3 sb3=>⟨_,H',I2.turned (t':=s2.toks) (fun b o hb e=>(sb3.2 b hb).trans e) f0 f1 f3 f4 f5,q⟩⟩
end
end L2
namespace VS
open PySem PySem.Spec PyProof.Rows L2
section
variable {X:Cx} {CX:CXT} {k:Nat} {f C:Addr} {fd:FuncData} {ps:List Str} {sp:Sp} {E:L2.St→XK} {x m:Str} {p pos apos:Pos} {e o:Expr} {es:List Expr} {ta:TE} {t:TA}
theorem ZiI {pins:List (Addr×Obj)} {σ:L2.St} {H:Hp} {s:Shared} {Q:VK} {us:List Value} {vs:List V} (M:Mk X.K C f) (F:FnOk X.prog X.w X.K X.mg X.base CX k f fd ps sp) (room:Room (k+1) X.A) (bi:Binds X.K fd ps []) (out:PassesAt CX X σ (E σ))
  (J:Inv X pins σ H s) (rv:Vals vs us) (hq:∀ x dx,H x=none→H dx=none→dx≠x→sp (.ref x ::vs) (upd (upd H dx (.own x)) x (.ins C dx [])) (fun v H2=>v=.non∧Q (.ref x) H2) (E σ)):
  wpAny (model X.prog X.w) X.A (call (.ref C) us) (EP X pins σ Q) X.xe s:=by
 let n:=s.heap.objs.size;have h0:=hq (n+1) n (J.hok.fresh (Nat.le_succ _)) (J.hok.fresh (Nat.le_refl _)) (Nat.ne_of_lt (Nat.lt_succ_self _));have J2:=Inv.made (C:=C) J;have rv2:Vals (V.ref (n+1) ::vs) (Value.ref (n+1) ::us):=.cons rfl rv;have len:(Value.ref (n+1) ::us).length=ps.length:=rv2.length.symm.trans (F.len _ _ _ _ h0);have bi2:=bi _ (Value.ref (n+1) ::us) J2.kIn (by rw [List.append_nil]; exact len);rw [List.append_nil] at bi2;have run:=F.run _ X.stack _ _ ⟨Value.ref (n+1) ::us,[]⟩ _ _ _ (E σ) (room.make C us []) (J2.env0.make C us []) bi2 rv2 h0;refine wpAny_call (make_map (f:=f) J.kIn M.makes M.init (beq_iff_eq.mp M.fn) (codeAny_mono run ?_))
 intro r s' end_
 match r,end_ with
 | .error e,end_=>exact out pins _ _ e s' J2 end_
 | .ok (.ret u),end_=>
  obtain ⟨v,H',J3,rv3,ev,q⟩:=J2.after end_;cases ev;exact ⟨rv3,V.ref (n+1),H',J3,rfl,q⟩
 | .ok .next,end_=>exact end_.elim
 | .ok .brk,end_=>exact end_.elim
 | .ok .cont,end_=>exact end_.elim
noncomputable def ZfF (C:Addr) (sp:Sp) (E:L2.St→XK) (t:TA):TE:=fun σ H Q=>t σ H fun vs H1=>∀ x dx,H1 x=none→H1 dx=none→dx≠x→sp (.ref x ::vs) (upd (upd H1 dx (.own x)) x (.ins C dx [])) (fun v H2=>v=.non∧Q (.ref x) H2) (E σ)
theorem ZiJ (M:Mk X.K C f) (F:FnOk X.prog X.w X.K X.mg X.base CX k f fd ps sp) (room:Room (k+1) X.A) (gl:Gl X x) (hm:X.mg x=some (.ref C)) (bi:Binds X.K fd ps []) (out:∀ σ,PassesAt CX X σ (E σ))
  (args:PA X (e ::es) t) (nd:(x ==("__debug__":Str))=false) (st:starEach (e ::es) X.env=(false,eval e X.env) ::starEach es X.env) (sp2:(backTo pos (starEach es X.env)).any (·.1)=false):
  PE X (.Call (.Name x p) (e ::es) [] pos) (ZfF C sp E t):=by
 constructor
 intro pins s σ H Q J h;exact wpAny_Call_Name_kw (ld_glob J gl hm (PySem.W.callWith_K (h₀:=X.base) J.ok.mod.kin M.kp (thn (args.run pos pins s σ H _ J h) fun us s1 ⟨vs,H1,J1,rv,q⟩=>⟨J1.kIn,ZiI M F room bi (out σ) J1 rv q⟩) st sp2) nd)
noncomputable def ZfG (C:Addr) (m:Str) (sp:Sp) (E:L2.St→XK) (ta:TE) (t:TA):TE:=fun σ H Q=>ta σ H fun x H1=>∃ a dx fs,x=.ref a∧H1 a=some (.ins C dx fs)∧fs.lookup m=none∧t σ H1 fun vs H2=>sp (x ::vs) H2 Q (E σ)
theorem ZiK {pl:Sem Bool} (ob:PE X o ta) (c:Cls X.K C) (hm:Meth X.K C m f) (F:FnOk X.prog X.w X.K X.mg X.base CX k f fd ps sp) (room:Room k X.A) (bi:Binds X.K fd ps []) (out:∀ σ,PassesAt CX X σ (E σ)) (args:PA X (e ::es) t)
  (st:starEach (e ::es) X.env=(false,eval e X.env) ::starEach es X.env) (sp2:(backTo pos (starEach es X.env)).any (·.1)=false)
  (whole:eval (.Call (.Attribute o m apos) (e ::es) [] pos) X.env=(do
   let ov ←eval o X.env
   standAt apos.atName
   let (f,first) ←holding [ov] (getMethod ov m pl)
   callWith pos f first (backTo pos (starEach (e ::es) X.env)) (backToKw pos (keywordEach [] X.env)))):
  PE X (.Call (.Attribute o m apos) (e ::es) [] pos) (ZfG C m sp E ta t):=by
 constructor
 intro pins s σ H Q J h;refine PySem.W.methodCall_KW (pl:=pl) (thn (ob.run pins s σ H _ J h) ?_) whole
 rintro u s1 ⟨x,H1,J1,rx,a,dx,fs,rfl,ea,l,q⟩;cases rx;refine getmeth_ok J1 ea c hm l (PySem.W.callWith_K (first:=[.ref a]) (h₀:=X.base) J.ok.mod.kin hm.kp (thn (args.run pos pins s1 σ H1 _ J1 q) ?_) st sp2)
 rintro us s2 ⟨vs,H2,J2,rv,q2⟩;exact ⟨J2.kIn,run_fnS (us:=.ref a ::us) (vs:=.ref a ::vs) F room bi (out σ) J2 (.cons rfl rv) q2⟩
end
noncomputable abbrev ClT:=Value×Option Nat×(Addr→Value→Option Addr→TS)
noncomputable def ZiL (D:Ends) (i:Nat):Ends:={ nx:=fun σ H=>D.nx (σ.set i none) H,rt:=D.rt,bk:=fun σ H=>D.bk (σ.set i none) H,ct:=fun σ H=>D.ct (σ.set i none) H }
noncomputable def Zax (K:PySem.W.Frag) (Wo:WX) (D:Ends):List ClT→WX
 | []=>Wo
 | (c,j,ts) ::r=>fun cls d σ H=>∃ b,PySem.W.exmOne K cls c=some b∧
   (b=true→∀ a,H a=none→match j with | none=>ts a cls d D σ H | some i=>ts a cls d (ZiL D i) (σ.set i (some (.ref a))) H)∧(b=false→Zax K Wo D r cls d σ H)
inductive Cls2 (X:Cx):List ExceptHandler→List ClT→Prop
 | nil:Cls2 X [] []
 | bare {x:Str} {c:Value} {ts:Addr→Value→Option Addr→TS} {b:Stmt} {bs:List Stmt} {p1 p2:Pos} {hs:List ExceptHandler} {l:List ClT} (nm:Names X x c)
   (su:∀ (a:Addr) (oe:Obj) (cls:Value) (d:Option Addr) (pn:List (Addr×Obj)),Zc cls d oe→(∃ vs,oe.data=.fields vs)→PSs (X.suite a ((a,oe) ::pn)) (b ::bs) (ts a cls d)) (r:Cls2 X hs l):
   Cls2 X (.ExceptHandler (some (.Name x p1)) none (b ::bs) p2 ::hs) ((c,none,ts) ::l)
 | as {x n:Str} {i:Nat} {c:Value} {ts:Addr→Value→Option Addr→TS} {b:Stmt} {bs:List Stmt} {p1 p2:Pos} {hs:List ExceptHandler} {l:List ClT} (nm:Names X x c) (hi:X.N[i]?=some n) (hl:X.env.kindOf n=some .local)
   (su:∀ (a:Addr) (oe:Obj) (cls:Value) (d:Option Addr) (pn:List (Addr×Obj)),Zc cls d oe→(∃ vs,oe.data=.fields vs)→PSs (X.suite a ((a,oe) ::pn)) (b ::bs) (ts a cls d)) (r:Cls2 X hs l):
   Cls2 X (.ExceptHandler (some (.Name x p1)) (some n) (b ::bs) p2 ::hs) ((c,some i,ts) ::l)
section
variable {X:Cx} {body:List Stmt} {h0:ExceptHandler} {hds:List ExceptHandler} {l:List ClT} {pos:Pos} {tb:WX→TS} {Wo:WX}
theorem ZiM {pins:List (Addr×Obj)} {D:Ends} {xe:Value→Shared→Prop} {f:Flow} {s:Shared} (ok:X.Ok) (h:SP (X.tr (X.pn++pins) xe) [] D f s):SP X pins D f s:=by
 match f,h with
 | .next,⟨σ,H,J,q⟩=>exact ⟨σ,H,J.ofTry ok,q⟩
 | .brk,⟨σ,H,J,q⟩=>exact ⟨σ,H,J.ofTry ok,q⟩
 | .cont,⟨σ,H,J,q⟩=>exact ⟨σ,H,J.ofTry ok,q⟩
 | .ret u,⟨v,σ,H,J,r,q⟩=>exact ⟨v,σ,H,J.ofTry ok,r,q⟩
theorem ZiN {pins:List (Addr×Obj)} {D:Ends} {a:Addr} {z:Addr×Obj} {f:Flow} {s:Shared} (ok:X.Ok) (h:SP (X.suite a (z ::(X.pn++pins))) [] D f s):SP X pins D f s:=by
 match f,h with
 | .next,⟨σ,H,J,q⟩=>exact ⟨σ,H,J.unsuite ok,q⟩
 | .brk,⟨σ,H,J,q⟩=>exact ⟨σ,H,J.unsuite ok,q⟩
 | .cont,⟨σ,H,J,q⟩=>exact ⟨σ,H,J.unsuite ok,q⟩
 | .ret u,⟨v,σ,H,J,r,q⟩=>exact ⟨v,σ,H,J.unsuite ok,r,q⟩
theorem ZiO (hst:X.stack=X.env ::X.outer) (hfr:X.env.frame=some X.env.locals) (hN:X.N.Nodup) (tk:Takes X Wo)
  (bd:∀ (W:WX) (pn:List (Addr×Obj)) (xe:Value→Shared→Prop),Takes (X.tr pn xe) W→PassesOwn (model X.prog X.w) X.A X.env xe→PSs (X.tr pn xe) body (tb W))
  (cl:Cls2 X (h0 ::hds) l):PS X (.Try body (h0 ::hds) [] [] pos) (fun D σ H=>tb (Zax X.K Wo D l) D σ H):=by
 constructor
 intro pins s σ H D I h;have ok:=I.ok;have frs2:X.A.frames=some (X.env ::X.outer):=ok.frames.trans (congrArg some hst);refine wpAny_Try_except ?_
 refine wpAny_mono ((bd (Zax X.K Wo D l) (X.pn++pins) (fun e s₁=>wpAny (model X.prog X.w) X.A (noteFrame e X.env) (fun _ s₂=>wpAny (model X.prog X.w) X.A (setFlight e none) (fun _ s₃=>
  wpAny (model X.prog X.w) X.A (handleBy e X.env (h0 ::hds)) (SP X pins D) X.xe s₃) X.xe s₂) X.xe s₁) ?_ PassesOwn.looking).run [] s σ H D (I.toTry _) h) ?_ fun _ _ z=>z
 ·rintro u s' ⟨a,B,sI,pins',σ',H',cls,d,rfl,J',nb,up,sky,na,os,ag,w⟩
  have J:Inv X pins σ' H' sI:=J'.ofTry ok;have sk:Sky B (X.env ::X.outer) a (Zc cls d) X.env.locals s'.heap:=hst▸sky;show wpAny (model X.prog X.w) X.A (noteFrame (.ref a) X.env) _ _ _;refine Sky.land Zc.steady frs2 hfr sk fun g fg ug=>?_
  have Jg:Inv X pins σ' H' { s' with heap:=g }:=J.landed nb fg.1 (up.trans ug) os ag;obtain ⟨oe,fs,he,hz,hd⟩:=fg.there;have nin:a∉frs (X.env ::X.outer):=fun hm=>by
   obtain ⟨_,o',e',hnf⟩:=fg.2.2.1.mem hm;rw [he] at e';cases e';exact hnf _ hd
  have n1:a≠X.env.locals:=fun z=>nin (List.mem_filterMap.mpr ⟨X.env,.head _,by rw [hfr,z]⟩)
  have n2:a∉X.fs:=fun hm=>by
   obtain ⟨en,hen,q⟩:=List.mem_filterMap.mp hm;exact nin (List.mem_filterMap.mpr ⟨en,.tail _ hen,q⟩)
  have Sg:=Jg.suite he hd na n1 n2;have named:∀ {x:Str} {c:Value} {np:Pos} {Q:Value→Shared→Prop} {E:Value→Shared→Prop},Names X x c→Q c { s' with heap:=g }→wpAny (model X.prog X.w) (X.A.mark (some (.ref a))) (eval (.Name x np) X.env) Q E { s' with heap:=g }:=by
   rintro x c np Q E ⟨hg,hdb,hm | ⟨hm,hv,hnn⟩⟩ q
   ·exact ld_glob (X:=X.suite a ((a,oe) ::(X.pn++pins))) Sg hg hm q hdb
   ·exact ld_blt (X:=X.suite a ((a,oe) ::(X.pn++pins))) Sg hg hm hv q hnn hdb
  have look:PySem.W.Looks (model X.prog X.w) g (typeOf (.ref a)) cls:=fun A Q E s k q=>wpAny_typeOf_ref (k _ _ he) (by rw [hz.1]; exact q)
  have go:∀ {hs':List ExceptHandler} {l':List ClT},Cls2 X hs' l'→Zax X.K Wo D l' cls d σ' H'→wpAny (model X.prog X.w) X.A (handleBy (.ref a) X.env hs') (SP X pins D) X.xe { s' with heap:=g }:=by
   intro hs' l' hk;induction hk with
   | nil=>
    intro w;refine wpAny_handleBy_nil ?_
    obtain ⟨_,_,_,oe',vs',T,oT,ts',he',hz',hd',h1',hr'⟩:=id fg;unfold PySem.passOn;refine wpAny_bind (wpAny_field he' hd' h1' ?_)
    rw [if_neg (show ¬ ((Value.ref T ==Value.none)=true) from by simp)];have last:wpAny (model X.prog X.w) X.A (setFlight (.ref a) X.env.frame) (fun _ s4=>wpAny (model X.prog X.w) X.A (throw (.ref a):Sem Flow) (SP X pins D) X.xe s4) X.xe { s' with heap:=g }:=by
     rw [hfr];exact HandSPX.setFlight_upZ fg fun g4 hg4 ug4=>wpAny_throw (tk _ _ ⟨a,B,sI,pins,σ',H',cls,d,rfl,J,nb,(up.trans ug).trans ug4,.inr (.inr (by rw [hst]; exact hg4)),na,os,ag,w⟩)
    first
     | exact wpAny_bind (wpAny_pure (wpAny_bind last))
     | exact wpAny_bind last
   | bare nm su r ih=>
    rintro ⟨b,hb,yes,no_⟩;have lm:=PySem.W.exm_one (M:=model X.prog X.w) (Jg.kIn) look hb;refine wpAny_handleBy_cons (codeAny_handlers_test (named nm (lm.here ?_))) (by intro q; cases q)
    match b,yes,no_ with
    | false,_,no_=>exact ih (no_ rfl)
    | true,yes,_=>
     refine codeAny_handlers_suite (HandSPX.lands_againZ fg fun g4 fg4 ug4=>?_)
     have J4:Inv X pins σ' H' { s' with heap:=g4 }:=J.landed nb fg4.1 ((up.trans ug).trans ug4) os ag;obtain ⟨oe4,vs4,he4,hz4,hd4⟩:=fg4.there;exact wpAny_mono ((su a oe4 cls d (X.pn++pins) hz4 ⟨_,hd4⟩).run [] _ _ H' _ (J4.suite he4 hd4 na n1 n2) (yes rfl a na)) (fun f s6 q=>ZiN ok q) fun _ _ z=>z.elim
   | @as x n i c ts b1 bs p1 p2 hs2 l2 nm hi hl su r ih=>
    rintro ⟨b,hb,yes,no_⟩;have lm:=PySem.W.exm_one (M:=model X.prog X.w) (Jg.kIn) look hb;refine wpAny_handleBy_cons (codeAny_handlers_test (named nm (lm.here ?_))) (by intro q; cases q)
    match b,yes,no_ with
    | false,_,no_=>exact ih (no_ rfl)
    | true,yes,_=>
     refine codeAny_handlers_suite_as (HandSPX.lands_againZ fg fun g4 fg4 ug4=>?_)
     have J4:Inv X pins σ' H' { s' with heap:=g4 }:=J.landed nb fg4.1 ((up.trans ug).trans ug4) os ag;obtain ⟨oe4,vs4,he4,hz4,hd4⟩:=fg4.there;refine store_ok (X:=X.suite a ((a,oe4) ::(X.pn++pins))) (v:=.ref a) (J4.suite he4 hd4 na n1 n2) hN hi (.inl hl) rfl (fun s5 S5=>?_) (.inr hl)
     refine wpAny_mono ((su a oe4 cls d (X.pn++pins) hz4 ⟨_,hd4⟩).run [] s5 _ H' _ S5 (yes rfl a na)) ?_ fun _ _ z=>z.elim
     have away:∀ {σ6:L2.St} {H6:Hp} {s6:Shared} {Q:Shared→Prop},Inv (X.suite a ((a,oe4) ::(X.pn++pins))) [] σ6 H6 s6→(∀ s7,Inv X pins (σ6.set i none) H6 s7→Q s7)→
       wpAny (model X.prog X.w) X.A (do bindName X.env n .none; unbindBehindTheSuite X.env n p2) (fun _ s7=>Q s7) X.xe s6:=fun J6 hq=>gone_ok (J6.unsuite ok) hN hi hl hq
     intro f s6 q
     match f,q with
     | .next,⟨_,_,J6,q6⟩=>exact away J6 fun s7 J7=>⟨_,_,J7,q6⟩
     | .brk,⟨_,_,J6,q6⟩=>exact away J6 fun s7 J7=>⟨_,_,J7,q6⟩
     | .cont,⟨_,_,J6,q6⟩=>exact away J6 fun s7 J7=>⟨_,_,J7,q6⟩
     | .ret u,⟨_,_,_,J6,r6,q6⟩=>exact away J6 fun s7 J7=>⟨_,_,_,J7,r6,q6⟩
  exact go cl w
 ·intro f s1 q
  have q:=ZiM ok q
  match f,q with
  | .next,q=>exact wpAny_execs_nil q
  | .brk,q=>exact q
  | .cont,q=>exact q
  | .ret u,q=>exact q
end
end VS
namespace VS
open PySem PySem.Spec PyProof.Rows L2
noncomputable def ZiP (K:PySem.W.Frag) (D a:Addr) (d:Option Addr):List V→Hp→VK→Prop:=fun xs H Q=>∃ (c:V) (cv:Value) (b:Bool),Zaw H d∧xs=[.ref a,c]∧(∀ u,RelV c u→u=cv)∧PySem.W.kitOne K (.ref D) cv=some b∧Q (.bl b) H
theorem ZfH {X:Cx} {a D:Addr} {oe:Obj} {d:Option Addr} {pn:List (Addr×Obj)} (C:ExcC X.K D) (hz:Zc (.ref D) d oe) (hf:∃ vs,oe.data=.fields vs):CallR (X.suite a ((a,oe) ::pn)) (.builtin "isinstance") (ZiP X.K D a d):=by
 rintro pins s σ H xs us Q I r ⟨c,cv,b,hd,rfl,hcv,e,q⟩;cases r with
 | cons rx rr=>
  cases rr with
  | cons rt rr=>
   cases rr;cases rx;obtain rfl:=hcv _ rt;obtain ⟨hget,_⟩:=I.pin (a,oe) (List.mem_append.mpr (.inl (.head _)));obtain ⟨od,J⟩:=Zdn I hget hz hf hd;exact PySem.W.kia_one (Zdm C) I.kIn J e (fun z=>nomatch z) fun tk=>⟨.bl b,H,I.kept (t':=tk) fun _ _ z=>z,rfl,q⟩
end VS
namespace VS
open PySem PySem.Spec PyProof.Rows L2
noncomputable abbrev Zl:=Option (Str×D)
inductive OutY where
 | o (x:Out) | xc (c:Str) (e:Zl) (ρ:Rho)
noncomputable abbrev MY:=Rho→Option OutY
structure FnY where
 md : List Md
 sem : List D→Option ((D×List D) ⊕ (Str×Zl))
noncomputable def FnY.val (fn:FnY):FnS:=⟨fn.md,fun ds=>match fn.sem ds with | some (.inl q)=>some q | _=>none⟩
section
variable (ct:Str→Option Addr)
noncomputable def XD (S H:Hp) (e:Zl) (od:Option Addr):Prop:=match e with
 | none=>od=none
 | some (f,d)=>∃ dx v,od=some dx∧S dx=some (.xd [(f,v)])∧noOwn d=true∧Rep ct S H d v No
noncomputable def spY (fn:FnY):Sp:=fun vs H Q E=>∃ S F ds,WOk S H F∧ArgsRep ct S H F fn.md ds vs F∧
 ((∃ r outs,fn.sem ds=some (.inl (r,outs))∧∀ S' H' F' Fr v,EndRep ct S H F fn.md vs r outs S' H' F' Fr v→Q v H')∨
  (∃ c e,fn.sem ds=some (.inr (c,e))∧∀ S' H' F' C od,ct c=some C→XD ct S' H' e od→WOk S' H' F'→Tr S H F S' H' F'→E (.ref C) od H'))
noncomputable def EndY (io:List Nat) (W:WX) (S H:Hp) (F R:FP) (σ:L2.St) (o:OutY) (D:Ends):Prop:=match o with
 | .o x=>EndS ct io S H F R σ x D
 | .xc c e ρ'=>∀ S' H' F' σ' C od,ct c=some C→XD ct S' H' e od→PostN ct io S H F R σ ρ' S' H' F' σ'→W (.ref C) od σ' H'
noncomputable def tSY (io:List Nat) (W:WX) (m:MY):TS:=fun D σ H=>∃ ρ S F R o,State ct S H F R ρ σ∧m ρ=some o∧EndY ct io W S H F R σ o D
end
inductive OutV where
 | v (r:D) (ρ:Rho) | x (c:Str) (e:Zl) (ρ:Rho)
noncomputable abbrev MEY:=Rho→Option OutV
section
variable (ct:Str→Option Addr)
noncomputable def ZiQ (W:WX) (S H:Hp) (F R:FP) (σ:L2.St) (o:OutV) (Q:VK):Prop:=match o with
 | .v r ρ'=>∀ S' H' F' Fx v,State ct S' H' F' (Cup R Fx) ρ' σ→Dj R Fx→Tr S H F S' H' (Cup F' Fx)→Rep ct S' H' r v Fx→Q v H'
 | .x c e ρ'=>∀ S' H' F' C od,ct c=some C→XD ct S' H' e od→State ct S' H' F' R ρ' σ→Tr S H F S' H' F'→W (.ref C) od σ H'
noncomputable def tIY (W:WX) (m:MEY):TE:=fun σ H Q=>∃ ρ S F R o,State ct S H F R ρ σ∧m ρ=some o∧ZiQ ct W S H F R σ o Q
end
noncomputable def Zbw (fn:FnY) (rs:List Rv) (ρ:Rho):Option (OutV×List D):=
 (preps fn.md rs ρ).bind fun p=>(bind2 fn.md p.1 p.2).bind fun ds=>(fn.sem ds).bind fun o=>match o with
  | .inl q=>(backs fn.md rs q.2 p.2).bind fun ρ2=>some (.v q.1 ρ2,q.2)
  | .inr q=>some (.x q.1 q.2 p.2,[])
section
open Classical
variable {ct:Str→Option Addr} {S S' H H' S2 H2:Hp} {F F' G R R' T T' Fr F2 R2 Y Fc Fx Fo:FP} {ρ ρ' ρ2:Rho} {σ:L2.St}
theorem ZdK {fn:FnY} {vs:List V} {Q:VK} {E E':XK} (h:spI ct fn.val vs H Q E'):spY ct fn vs H Q E:=by
 obtain ⟨S,F,ds,r,outs,w,a,e,k⟩:=h;refine ⟨S,F,ds,w,a,.inl ⟨r,outs,?_,k⟩⟩
 have e:(match fn.sem ds with | some (.inl q)=>some q | _=>none)=some (r,outs):=e;split at e
 ·rename_i q hq
  cases e; exact hq
 ·cases e
theorem ZdL {fn:FnY} {rs:List Rv} {r:D} {outs:List D} (h:Zbw fn rs ρ=some (.v r ρ',outs)):applyF fn.val rs ρ=some (r,outs,ρ'):=by
 obtain ⟨p,hp,h⟩:=bind_some h;obtain ⟨ds,hds,h⟩:=bind_some h;obtain ⟨o,ho,h⟩:=bind_some h;cases o with
 | inr q=>cases h
 | inl q=>
  obtain ⟨ρ2,hb,h⟩:=bind_some h;cases h;unfold applyF;rw [show preps fn.val.md rs ρ=some p from hp,Option.bind_some,show bind2 fn.val.md p.1 p.2=some ds from hds,Option.bind_some];show (match fn.sem ds with | some (.inl q)=>some q | _=>none).bind _=_;rw [ho];show (backs fn.md rs q.2 p.2).bind _=_;rw [hb]; rfl
theorem ZdM {fn:FnY} {rs:List Rv} {vs:List V} {c:Str} {e:Zl} {outs:List D} {S0:Hp} {F0:FP} {H0:Hp} (st:State ct S H F (Cup R Fr) ρ σ) (djr:Dj R Fr) (tr:Tr S0 H0 F0 S H (Cup F Fr)) (rv:RvReps ct S H (Cup F (Cup R Fr)) σ rs vs Fr) (h:Zbw fn rs ρ=some (.x c e ρ',outs))
  {Q:VK} {E:XK} (k:∀ S' H' F' C od,ct c=some C→XD ct S' H' e od→State ct S' H' F' R ρ' σ→Tr S0 H0 F0 S' H' F'→E (.ref C) od H'):spY ct fn vs H Q E:=by
 obtain ⟨p,hp,h⟩:=bind_some h;obtain ⟨ds,hds,h⟩:=bind_some h;obtain ⟨o,ho,h⟩:=bind_some h;cases o with
 | inl q=>
  obtain ⟨ρ2,hb,h⟩:=bind_some h;cases h
 | inr q=>
  cases h;obtain ⟨S2,F2,R2,Fm,M,rv2⟩:=ZbL (rs':=p.1) (ρ':=p.2) st Sub.cupR (Sub.refl _) rv hp;have kT:Sub (Cup F2 R2) (Cup F (Cup R Fr)):=fun a z=>z.elim (fun z=>.inl (M.sF a z)) fun z=>(M.new a z).elim .inr .inl
  have ar:=Zap M.st M.fm kT rv2 ⟨_,hp⟩ hds;refine ⟨S2,Fm,ds,M.st.w.anti fun a z=>.inr (M.fm a z),ar,.inr ⟨q.1,q.2,ho,fun S3 H3 F' C od hC hx w t=>?_⟩⟩
  have nR:∀ a,R a→¬ Fm a:=fun a z z2=>by
   rcases M.fr a z2 with z3 | z3
   ·exact djr a z z3
   ·exact z3.2 (.inl z)
  have hR2:∀ a,R a→R2 a:=fun a z=>M.keep a (.inl z) fun z2=>djr a z z2
  have st3:=M.st.callee M.fm t w;have tfz:Tr S H (Cup F Fr) S2 H (Cup Fm F2):=Tr.froze M.ext (fun a o z=>(M.nws a o z).imp id fun z=>z) fun a z=>by
   rcases z with z | z
   ·rcases M.fr a z with z | z
    ·exact .inr z
    ·exact .inl z.1
   ·exact .inl (M.sF a z)
  refine k S3 H3 F2 C od hC hx (st3.drop fun a z=>.inl ⟨hR2 a z,nR a z⟩) (((tr.trans tfz).trans (t.wide (R:=F2))).grow fun a z=>.inr z)
end
noncomputable def Zck (fn:FnY) (ma:MA):MEY:=fun ρ=>(ma ρ).bind fun p=>(Zbw fn p.1 p.2).map (·.1)
noncomputable def ZdN (c m:Str) (fn:FnY) (ma:ME) (mr:MA):MEY:=fun ρ=>(ma ρ).bind fun p=>(rd p.1 p.2).bind fun d=>if ZcQ c m d=true then (mr p.2).bind fun q=>(Zbw fn (p.1 ::q.1) q.2).map (·.1) else none
noncomputable def ZdO (c:Str) (fn:FnY) (mr:MA):MEY:=fun ρ=>(mr ρ).bind fun p=>(Zbw fn (.own (.obj true c [] []) ::p.1) p.2).bind fun z=>match z with
 | (.v .non ρ2,[o])=>some (.v o ρ2)
 | (.x c e ρ2,_)=>some (.x c e ρ2)
 | _=>none
section
variable {ct:Str→Option Addr} {W:WX}
theorem ZfI {fn:FnY} {ma:MA}:∀ σ H Q,tIY ct W (Zck fn ma) σ H Q→tCallS (spY ct fn) (WE W) (tIA ct ma) σ H Q:=by
 rintro σ H Q ⟨ρ,S,F,R,o,st,e,k⟩;obtain ⟨p,hp,e⟩:=bind_some e;obtain ⟨z,hz,rfl⟩:=Option.map_eq_some_iff.mp e;obtain ⟨o,outs⟩:=z;refine ⟨ρ,S,F,R,p.1,p.2,st,hp,fun S1 H1 F1 Fa vs P1=>?_⟩
 cases o with
 | v r ρ'=>
  exact ZdK (E':=fun _ _ _=>False) (ZcP P1.st P1.djr P1.tr P1.rv (ZdL hz) fun S' H' F' Fo Fx v st' dj tr rep=>
   k S' H' F' Fx v st' dj (tr.grow fun a z=>z.elim .inl fun z=>.inr (.inr z)) rep)
 | x c e ρ'=>exact ZdM P1.st P1.djr P1.tr P1.rv hz k
theorem ZiR {c m:Str} {C:Addr} {fn:FnY} {ma:ME} {mr:MA} (hC:ct c=some C):∀ σ H Q,tIY ct W (ZdN c m fn ma mr) σ H Q→ZfG C m (spY ct fn) (WE W) (tI ct ma) (tIA ct mr) σ H Q:=by
 rintro σ H Q ⟨ρ,S,F,R,o,st,e,k⟩;obtain ⟨p,hp,e⟩:=bind_some e;obtain ⟨d,hd,e⟩:=bind_some e;split at e
 ·rename_i hob
  obtain ⟨q,hq,e⟩:=bind_some e;obtain ⟨z,hz,rfl⟩:=Option.map_eq_some_iff.mp e;obtain ⟨o,outs⟩:=z;refine ⟨ρ,S,F,R,p.1,p.2,st,hp,fun S1 H1 F1 Fa x P1=>?_⟩
  obtain ⟨a,dx,fs,ex,hH,hl⟩:=ZgT hC (Zx P1.st P1.rv hd) hob;refine ⟨a,dx,fs,ex,hH,hl,p.2,S1,F1,Cup R Fa,q.1,q.2,P1.st,hq,fun S2 H2 F2 Fb ys P2=>?_⟩
  have d1:Dj F1 Fa:=fun a u z=>P1.st.dj a u (.inr z)
  have ra:=RvRep.keep P2.tr d1 P1.rv;have t2:Tr S1 H1 (Cup F1 Fa) S2 H2 (Cup (Cup F2 Fb) Fa):=P2.tr.wide;have stA:State ct S2 H2 F2 (Cup R (Cup Fa Fb)) q.2 σ:=P2.st.drop fun a z=>z.elim (fun z=>.inl (.inl z)) fun z=>z.elim (fun z=>.inl (.inr z)) .inr
  have djA:Dj R (Cup Fa Fb):=fun a u z=>z.elim (P1.djr a u) (P2.djr a (.inl u))
  have trA:Tr S H F S2 H2 (Cup F2 (Cup Fa Fb)):=(P1.tr.trans t2).grow fun a z=>z.elim (fun z=>.inl (.inl z)) fun z=>z.elim .inr fun z=>.inl (.inr z)
  have rvA:RvReps ct S2 H2 (Cup F2 (Cup R (Cup Fa Fb))) σ (p.1 ::q.1) (x ::ys) (Cup Fa Fb):=⟨x,ys,Fa,Fb,rfl,Sub.cupL,Sub.cupR,fun a u z=>P2.djr a (.inr u) z,ra.anti fun a z=>by
   exact z.elim (fun z=>.inl (.inl z)) fun z=>z.elim (fun z=>.inr (.inl z)) fun z=>z.elim (fun z=>.inr (.inr z)) fun z=>.inl (.inr z),P2.rv.anti fun a z=>by
   exact z.elim .inl fun z=>z.elim (fun z=>.inr (.inl (.inl z))) fun z=>z.elim (fun z=>.inr (.inl (.inr z))) fun z=>.inr (.inr z)⟩
  cases o with
  | v r ρ'=>
   exact ZdK (E':=fun _ _ _=>False) (ZcP stA djA trA rvA (ZdL hz) fun S' H' F' Fo Fx v st' dj tr rep=>
    k S' H' F' Fx v st' dj (tr.grow fun a z=>z.elim .inl fun z=>.inr (.inr z)) rep)
  | x c e ρ'=>exact ZdM stA djA trA rvA hz k
 ·cases e
theorem ZiS {c:Str} {C:Addr} {fn:FnY} {mr:MA} (hC:ct c=some C) (hio:∃ ms,fn.md=.io ::ms):∀ σ H Q,tIY ct W (ZdO c fn mr) σ H Q→ZfF C (spY ct fn) (WE W) (tIA ct mr) σ H Q:=by
 rintro σ H Q ⟨ρ,S,F,R,oo,st,e,k⟩;obtain ⟨p,hp,e⟩:=bind_some e;obtain ⟨z,hz,e⟩:=bind_some e;refine ⟨ρ,S,F,R,p.1,p.2,st,hp,fun S1 H1 F1 Fa vs P1 x dx hx hdx ne=>?_⟩
 have st1:=P1.st.alloc (o:=.own x) hdx;have hx2:upd H1 dx (.own x) x=none:=by rw [upd_ne (Ne.symm ne)]; exact hx
 have st2:=st1.alloc (o:=.ins C dx []) hx2;have t1:Tr S1 H1 (Cup F1 Fa) S1 (upd H1 dx (.own x)) (Cup (Cup F1 Fa) (One dx)):=Tr.alloc hdx;have t2:Tr S1 (upd H1 dx (.own x)) (Cup (Cup F1 Fa) (One dx)) S1 (upd (upd H1 dx (.own x)) x (.ins C dx [])) (Cup (Cup (Cup F1 Fa) (One dx)) (One x)):=Tr.alloc hx2;have nFx:¬ Fa x:=fun z=>(P1.st.w.out x (.inr (.inr z))).2 hx
 have keep:∀ a o,H1 a=some o→upd (upd H1 dx (.own x)) x (.ins C dx []) a=some o:=fun a o e=>Zm hx2 (Zm hdx e)
 have rvs:RvReps ct S1 (upd (upd H1 dx (.own x)) x (.ins C dx [])) (Cup F1 (Cup R (Cup Fa (One x)))) σ p.1 vs Fa:=by
  have gen:∀ {rs:List Rv} {vs:List V} {Fr:FP},RvReps ct S1 H1 (Cup F1 (Cup R Fa)) σ rs vs Fr→RvReps ct S1 (upd (upd H1 dx (.own x)) x (.ins C dx [])) (Cup F1 (Cup R (Cup Fa (One x)))) σ rs vs Fr:=by
   intro rs;induction rs with
   | nil=>intro vs Fr h; exact h
   | cons r rs ih=>
    rintro vs Fr ⟨v,vr,A,B,ev,s1,s2,dj,h1,h2⟩;refine ⟨v,vr,A,B,ev,s1,s2,dj,?_,ih h2⟩
    cases r with
    | own d=>exact Rep.tr (fun _ _ z=>z) (fun a vs e=>keep a _ e) h1 fun a o e _=>keep a o e
    | vw d=>exact Vw.tr (fun a vs e=>keep a _ e) (fun a o e _=>keep a o e) (fun a z=>by
      rcases z with z | z | z | z
      ·exact .inl (.inl z)
      ·exact .inl (.inr (.inl z))
      ·exact .inl (.inr (.inr z))
      ·exact .inr (by rw [z]; exact hx)) h1
    | pend i fz=>exact h1
  exact gen P1.rv
 have stA:State ct S1 (upd (upd H1 dx (.own x)) x (.ins C dx [])) F1 (Cup R (Cup Fa (One x))) p.2 σ:=st2.drop fun a z=>z.elim (fun z=>.inl (.inl (.inl z))) fun z=>z.elim (fun z=>.inl (.inl (.inr z))) .inr
 have djA:Dj R (Cup Fa (One x)):=fun a u z=>z.elim (P1.djr a u) fun z=>(P1.st.w.out a (.inr (.inl u))).2 (by rw [z]; exact hx)
 have trA:Tr S H F S1 (upd (upd H1 dx (.own x)) x (.ins C dx [])) (Cup F1 (Cup Fa (One x))):=(P1.tr.trans (t1.trans t2)).grow fun a z=>z.elim (fun z=>.inl (.inl (.inl z))) fun z=>z.elim (fun z=>.inl (.inl (.inr z))) .inr
 have rvA:RvReps ct S1 (upd (upd H1 dx (.own x)) x (.ins C dx [])) (Cup F1 (Cup R (Cup Fa (One x)))) σ (.own (.obj true c [] []) ::p.1) (.ref x ::vs) (Cup Fa (One x)):=⟨.ref x,vs,One x,Fa,rfl,Sub.cupR,Sub.cupL,fun a u z=>nFx (by rw [←u]; exact z),⟨x,C,dx,[],No,rfl,hC,rfl,⟨upd_same,rfl,fun z=>z,Sub.no⟩,rfl⟩,rvs⟩;obtain ⟨o,outs⟩:=z;cases o with
 | x c' e' ρ'=>
  cases e;exact ZdM stA djA trA rvA hz k
 | v r ρ'=>
  have hz2:r=.non∧∃ o,outs=[o]∧oo=.v o ρ':=by
   cases r<;>first | (cases e; done) | skip
   cases outs with
   | nil=>cases e
   | cons o os=>
    cases os with
    | cons _ _=>cases e
    | nil=>cases e; exact ⟨rfl,o,rfl,rfl⟩
  obtain ⟨rfl,o,rfl,rfl⟩:=hz2;exact ZdK (E':=fun _ _ _=>False) (ZgU stA djA trA rvA (ZdL hz) hio fun S' H' F' Fx st' dj tr rep=>⟨rfl,k S' H' F' Fx _ st' dj tr rep⟩)
noncomputable def ZfJ (m:MEY):MEY:=fun ρ=>(m ρ).bind fun o=>match o with
 | .v (.bl b) ρ'=>some (.v (.bl !b) ρ')
 | .x c e ρ'=>some (.x c e ρ')
 | _=>none
theorem ZfK {m:MEY}:∀ σ H Q,tIY ct W (ZfJ m) σ H Q→tNotV (tIY ct W m) σ H Q:=by
 rintro σ H Q ⟨ρ,S,F,R,o,st,e,k⟩;obtain ⟨o1,h1,e⟩:=bind_some e;refine ⟨ρ,S,F,R,o1,st,h1,?_⟩
 cases o1 with
 | x c e' ρ'=>cases e; exact k
 | v r ρ'=>
  cases r<;>first | (cases e; done) | skip
  rename_i b;cases e;intro S' H' F' Fx v st' dj tr rep;exact ⟨b,rep,k S' H' F' Fx _ st' dj tr rfl⟩
noncomputable def ZfL (m:MEY):MEY:=fun ρ=>(m ρ).bind fun o=>match o with
 | .v d ρ'=>some (.v (strip d) ρ')
 | .x c e ρ'=>some (.x c e ρ')
theorem ZiT {m:MEY}:∀ σ H Q,tIY ct W (ZfL m) σ H Q→tIY ct W m σ H Q:=by
 rintro σ H Q ⟨ρ,S,F,R,o,st,e,k⟩;obtain ⟨o1,h1,e⟩:=bind_some e;refine ⟨ρ,S,F,R,o1,st,h1,?_⟩
 cases o1 with
 | x c e' ρ'=>cases e; exact k
 | v r ρ'=>
  cases e;intro S' H' F' Fx v st' dj tr rep;obtain ⟨S3,ext,fz,nw,st3⟩:=st'.freezeT (Fx:=Fx) Sub.cupR;refine k S3 H' F' No v (st3.drop fun a z=>?_) (fun _ _ z=>z) ((tr.trans (Tr.froze ext (fun a o z=>(nw a o z).imp id .inr) Sub.cupL)).grow fun a z=>z.elim id fun z=>z.elim) (Rep.freeze ext (fun a o z e=>fz a o z e) rep)
  rcases z with z | z
  ·exact ⟨.inl z,fun z2=>dj a z z2⟩
  ·exact z.elim
end
noncomputable def mNY (m:MS):MY:=fun ρ=>(m ρ).map .o
noncomputable def Zcl (a b:MY):MY:=fun ρ=>(a ρ).bind fun o=>match o with
 | .o (.nx ρ1)=>b ρ1
 | o=>some o
noncomputable def ZfM (c:MT) (a b:MY):MY:=fun ρ=>(c ρ).bind fun p=>if p.1=true then a p.2 else b p.2
noncomputable def ZfN (c:MEY) (a b:MY):MY:=fun ρ=>(c ρ).bind fun o=>match o with
 | .v (.bl t) ρ'=>if t=true then a ρ' else b ρ'
 | .x c e ρ'=>some (.xc c e ρ')
 | _=>none
noncomputable def ZfO (c:Str):MY:=fun ρ=>some (.xc c none ρ)
noncomputable def ZaV (c f:Str) (ma:MA):MY:=fun ρ=>(ma ρ).bind fun p=>(takes p.1 p.2).bind fun q=>match q.1 with
 | [d]=>some (.xc c (some (f,strip d)) q.2)
 | _=>none
noncomputable def ZfP (m:MEY):MY:=fun ρ=>(m ρ).bind fun o=>match o with
 | .v _ ρ'=>some (.o (.nx ρ'))
 | .x c e ρ'=>some (.xc c e ρ')
noncomputable def Zbx (io:List Nat) (i:Nat) (m:MEY):MY:=fun ρ=>if io.contains i=true then none else (m ρ).bind fun o=>match o with
 | .v r ρ'=>if i < ρ'.length then some (.o (.nx (ρ'.set i (.own r)))) else none
 | .x c e ρ'=>some (.xc c e ρ')
noncomputable def ZfQ (m:MEY):MY:=fun ρ=>(m ρ).bind fun o=>match o with
 | .v r ρ'=>some (.o (.rt r ρ'))
 | .x c e ρ'=>some (.xc c e ρ')
noncomputable def Zby (io:List Nat) (p:Pat) (mb:MY) (kl:List Nat):List Rv→Rho→Option OutY
 | [],ρ=>some (.o (.nx ρ))
 | r ::rs,ρ=>(asP io p r ρ).bind fun ρ1=>(mb ρ1).bind fun o=>match o with
  | .o (.nx ρ2)=>Zby io p mb kl rs (kills kl ρ2)
  | .o (.ct ρ2)=>Zby io p mb kl rs (kills kl ρ2)
  | .o (.bk ρ2)=>some (.o (.nx ρ2))
  | .o (.rt d ρ2)=>some (.o (.rt d ρ2))
  | .xc c e ρ2=>some (.xc c e ρ2)
noncomputable def ZfR (io:List Nat) (p:Pat) (ms:MI) (mb:MY) (kl:List Nat):MY:=fun ρ=>(ms ρ).bind fun q=>Zby io p mb kl q.1 q.2
section
variable {ct:Str→Option Addr} {io:List Nat} {W:WX} {S S' H H' S1 H1 S2 H2:Hp} {F F' G R R' T T' Fr F1 F2 R2 Y:FP} {ρ ρ' ρ2:Rho} {σ σ1:L2.St}
theorem EndY.back {o:OutY} {D:Ends} (t:Tr S H F S1 H1 F1) (s:Stay io σ σ1) (h:EndY ct io W S H F R σ o D):EndY ct io W S1 H1 F1 R σ1 o D:=by
 cases o with
 | o x=>exact EndS.back t s h
 | xc c e ρ'=>exact fun S' H' F' σ' C od hC hb P=>h S' H' F' σ' C od hC hb ⟨P.st,t.trans P.tr,s.trans P.stay⟩
theorem ZfS {m:MS}:∀ D σ H,tSY ct io W (mNY m) D σ H→tS ct io m D σ H:=by
 rintro D σ H ⟨ρ,S,F,R,o,st,e,k⟩;obtain ⟨x,hx,rfl⟩:=Option.map_eq_some_iff.mp e;exact ⟨ρ,S,F,R,x,st,hx,k⟩
theorem ZiU:∀ D σ H,tSY ct io W (mNY mSkip) D σ H→tNext D σ H:=fun D σ H h=>ZbO D σ H (ZfS D σ H h)
theorem ZiV {a b:MY}:∀ D σ H,tSY ct io W (Zcl a b) D σ H→tSeq (tSY ct io W a) (tSY ct io W b) D σ H:=by
 rintro D σ H ⟨ρ,S,F,R,o,st,e,k⟩;obtain ⟨o1,h1,e⟩:=bind_some e;refine ⟨ρ,S,F,R,o1,st,h1,?_⟩
 cases o1 with
 | xc c e' ρ1=>cases e; exact k
 | o x=>cases x with
  | nx ρ1=>exact fun S1 H1 F1 σ1 P=>⟨ρ1,S1,F1,R,o,P.st,e,k.back P.tr P.stay⟩
  | rt d ρ1=>cases e; exact k
  | ct ρ1=>cases e; exact k
  | bk ρ1=>cases e; exact k
theorem ZiW {c:MT} {a b:MY}:∀ D σ H,tSY ct io W (ZfM c a b) D σ H→tIfS (tT ct c) (tSY ct io W a) (tSY ct io W b) D σ H:=by
 rintro D σ H ⟨ρ,S,F,R,o,st,e,k⟩;obtain ⟨p,hp,e⟩:=bind_some e;refine ⟨ρ,S,F,R,p.1,p.2,st,hp,fun S1 H1 F1 st1 t1=>?_⟩
 show if p.1=true then tSY ct io W a D σ H1 else tSY ct io W b D σ H1
 by_cases hc:p.1=true
 ·rw [if_pos hc] at e ⊢
  exact ⟨p.2,S1,F1,R,o,st1,e,k.back t1 Stay.refl⟩
 ·rw [if_neg hc] at e ⊢
  exact ⟨p.2,S1,F1,R,o,st1,e,k.back t1 Stay.refl⟩
noncomputable def tTY (ct:Str→Option Addr) (W:WX) (m:MEY):TT:=fun σ H Q=>tIY ct W m σ H fun x H1=>∃ b,x=.bl b∧Q b H1
theorem ZiX {c:MEY} {a b:MY}:∀ D σ H,tSY ct io W (ZfN c a b) D σ H→tIfS (tTY ct W c) (tSY ct io W a) (tSY ct io W b) D σ H:=by
 rintro D σ H ⟨ρ,S,F,R,o,st,e,k⟩;obtain ⟨o1,h1,e⟩:=bind_some e;refine ⟨ρ,S,F,R,o1,st,h1,?_⟩
 cases o1 with
 | x c e' ρ'=>
  cases e;exact fun S' H' F' C od hC hx st' t=>k S' H' F' σ C od hC hx ⟨st',t,Stay.refl⟩
 | v r ρ'=>
  cases r<;>first | (cases e; done) | skip
  rename_i t;intro S1 H1 F1 Fx v st1 dj t1 rep;refine ⟨t,rep,?_⟩
  have st2:=st1.drop (R':=R) fun a z=>.inl z
  have t2:=t1.grow (G:=F1) fun a z=>.inl z
  show if t=true then tSY ct io W a D σ H1 else tSY ct io W b D σ H1
  dsimp only at e;by_cases hc:t=true
  ·rw [if_pos hc] at e ⊢
   exact ⟨ρ',S1,F1,R,o,st2,e,k.back t2 Stay.refl⟩
  ·rw [if_neg hc] at e ⊢
   exact ⟨ρ',S1,F1,R,o,st2,e,k.back t2 Stay.refl⟩
theorem ZiY {c:Str} {C:Addr} (hC:ct c=some C):∀ D σ H,tSY ct io W (ZfO c) D σ H→W (.ref C) none σ H:=by
 rintro D σ H ⟨ρ,S,F,R,o,st,e,k⟩;cases e;exact k S H F σ C none hC rfl ⟨st,Tr.refl (Sub.refl _),Stay.refl⟩
theorem ZiZ {m:MEY}:∀ Dn σ H,tSY ct io W (ZfP m) Dn σ H→tDrop (tIY ct W m) Dn σ H:=by
 rintro D σ H ⟨ρ,S,F,R,o,st,e,k⟩;obtain ⟨o1,h1,e⟩:=bind_some e;refine ⟨ρ,S,F,R,o1,st,h1,?_⟩
 cases o1 with
 | x c e' ρ'=>cases e; exact fun S' H' F' C od hC hx st' t=>k S' H' F' σ C od hC hx ⟨st',t,Stay.refl⟩
 | v r ρ'=>cases e; exact fun S' H' F' Fx v st' dj t rep=>k S' H' F' σ ⟨st'.drop fun a z=>.inl z,t.grow fun a z=>.inl z,Stay.refl⟩
theorem ZfT {i:Nat} {m:MEY}:∀ Dn σ H,tSY ct io W (Zbx io i m) Dn σ H→tAsg (tIY ct W m) (gName i) Dn σ H:=by
 rintro D σ H ⟨ρ,S,F,R,o,st,e,k⟩;unfold Zbx at e;split at e
 ·cases e
 ·rename_i hn
  have ni:i∉io:=fun z=>hn (List.contains_iff_mem.mpr z)
  obtain ⟨o1,h1,e⟩:=bind_some e;refine ⟨ρ,S,F,R,o1,st,h1,?_⟩
  cases o1 with
  | x c e' ρ'=>cases e; exact fun S' H' F' C od hC hx st' t=>k S' H' F' σ C od hC hx ⟨st',t,Stay.refl⟩
  | v r ρ'=>
   dsimp only at e;split at e
   ·rename_i hl
    cases e;exact fun S' H' F' Fx v st' dj t rep=>k S' H' (Cup F' Fx) _ ⟨st'.store dj rep hl,t,Stay.set ni⟩
   ·cases e
theorem Zi0 {m:MEY}:∀ Dn σ H,tSY ct io W (ZfQ m) Dn σ H→tRet (tIY ct W m) Dn σ H:=by
 rintro D σ H ⟨ρ,S,F,R,o,st,e,k⟩;obtain ⟨o1,h1,e⟩:=bind_some e;refine ⟨ρ,S,F,R,o1,st,h1,?_⟩
 cases o1 with
 | x c e' ρ'=>cases e; exact fun S' H' F' C od hC hx st' t=>k S' H' F' σ C od hC hx ⟨st',t,Stay.refl⟩
 | v r ρ'=>cases e; exact fun S' H' F' Fx v st' dj t rep=>k S' H' F' Fx σ v ⟨st',dj,t,rep,Stay.refl⟩
theorem Zi1 {K:PySem.W.Frag} {p:Pat} {ms:MI} {mb:MY} {kl:List Nat}:∀ D σ H,tSY ct io W (ZfR io p ms mb kl) D σ H→tFor (tW ct ms) (gP K p) (tSY ct io W mb) D σ H:=by
 rintro D σ H ⟨ρ,S,F,R,o,st,e,k⟩;obtain ⟨q,hq,e⟩:=bind_some e;refine ⟨ρ,S,F,R,q.1,q.2,st,hq,fun S0 H0 F0 J st0 t0 wk=>?_⟩
 refine ⟨fun i m σ H=>i+m=q.1.length∧∃ ρ S F,State ct S H F R ρ σ∧Tr S0 H0 F0 S H F∧Zby io p mb kl (q.1.drop i) ρ=some o∧EndY ct io W S H F R σ o D,⟨q.1.length,by omega,q.2,S0,F0,st0,Tr.refl (Sub.refl _),by simpa using e,k.back t0 Stay.refl⟩,?_⟩
 rintro i m σ1 H1 ⟨him,ρ1,S1,F1,st1,t1,e1,k1⟩;cases hr:q.1[i]? with
 | none=>
  have hl:q.1.length≤i:=List.getElem?_eq_none_iff.mp hr;have hi:i=q.1.length:=by omega
  subst hi;rw [List.drop_length] at e1;cases e1;exact .inl ⟨wk.stop S1 H1 F1 t1 st1.w,k1 S1 H1 F1 σ1 ⟨st1,Tr.refl (Sub.refl _),Stay.refl⟩⟩
 | some r=>
  obtain ⟨hlt,hget⟩:=List.getElem?_eq_some_iff.mp hr;have hd:q.1.drop i=r ::q.1.drop (i+1):=by rw [←hget]; exact List.drop_eq_getElem_cons hlt
  rw [hd] at e1;obtain ⟨ρ2,ha,e1⟩:=bind_some e1;obtain ⟨o2,hb,e1⟩:=bind_some e1;obtain ⟨hgo,hy⟩:=wk.go i S1 H1 F1 r t1 st1.w hr;refine .inr ⟨hgo,fun σ' H'=>(i+1)+(m - 1)=q.1.length∧∃ ρ S F,State ct S H' F R ρ σ'∧Tr S0 H0 F0 S H' F∧Zby io p mb kl (q.1.drop (i+1)) ρ=some o∧EndY ct io W S H' F R σ' o D,fun σ' H' hN=>⟨m - 1,by omega,hN⟩,fun x H2 hyx=>?_⟩
  obtain ⟨hH,rv⟩:=hy x H2 hyx;obtain ⟨st2,t2⟩:=st1.turn hH;have np:Zi r=true:=List.all_eq_true.mp wk.np r (List.mem_of_getElem? hr);refine Za8 (R:=R) (Fr:=No) np (st2.drop fun a z=>z.elim id fun z=>z.elim) (fun _ _ z=>z) ((rv.anyσ np).anti fun a z=>z.imp id fun z=>z.elim id fun z=>z.elim) ha fun F3 σ3 st3 sF3 stay3=>?_
  have t3:Tr S1 H1 F1 S1 H2 F3:=t2.grow fun a z=>(sF3 a z).elim id fun z=>z.elim
  refine ⟨ρ2,S1,F3,R,o2,st3,hb,?_⟩
  cases o2 with
  | xc c e' ρ3=>cases e1; exact k1.back t3 stay3
  | o x=>cases x with
   | nx ρ3=>exact fun S4 H4 F4 σ4 P=>⟨by omega,_,S4,F4,P.st.kills kl,t1.trans (t3.trans P.tr),e1,k1.back (t3.trans P.tr) (stay3.trans P.stay)⟩
   | ct ρ3=>exact fun S4 H4 F4 σ4 P=>⟨by omega,_,S4,F4,P.st.kills kl,t1.trans (t3.trans P.tr),e1,k1.back (t3.trans P.tr) (stay3.trans P.stay)⟩
   | bk ρ3=>cases e1; exact fun S4 H4 F4 σ4 P=>k1 S4 H4 F4 σ4 ⟨P.st,t3.trans P.tr,stay3.trans P.stay⟩
   | rt d ρ3=>cases e1; exact k1.back t3 stay3
end
section
variable {ct:Str→Option Addr} {io:List Nat} {W:WX}
theorem Zi2 {c f:Str} {C:Addr} {ma:MA} (hC:ct c=some C):∀ D σ H,tSY ct io W (ZaV c f ma) D σ H→tMkO C (Zbm C f) [] (tIA ct ma) σ H fun cls d H'=>W cls d σ H':=by
 rintro D σ H ⟨ρ,S,F,R,o,st,e,k⟩;obtain ⟨p,hp,e⟩:=bind_some e;obtain ⟨q,hq,e⟩:=bind_some e;obtain ⟨ds,ρ'⟩:=q;refine ⟨ρ,S,F,R,p.1,p.2,st,hp,fun S1 H1 F1 Fa vs P1=>?_⟩
 obtain ⟨S2,F2,Fm,st2,rep,djm,t2⟩:=P1.took (ds:=ds) (ρ':=ρ') hq
 match ds,e,rep with
 | [d],e,⟨v,vr,A,B,ev,s1,s2,dj,r1,r2⟩=>
  cases e;cases r2;subst ev;refine ⟨by show 1≤1000; decide,fun a ha=>?_⟩
  refine ⟨a,v,rfl,upd_same,fun dx hdx hne=>?_⟩
  rw [upd_ne hne] at hdx;refine ⟨rfl,dx,[(f,v)],upd_same,by rw [upd_ne hne,upd_same],hdx,?_⟩
  have eH:upd (del (upd (upd (upd H1 a (exo a C none)) dx (exd dx [(f,v)])) a (exo a C (some dx))) a) dx (.xd [(f,v)])=upd H1 dx (.xd [(f,v)]):=by
   funext b
   by_cases h1:b=dx
   ·rw [h1,upd_same,upd_same]
   ·rw [upd_ne h1,upd_ne h1]
    by_cases h2:b=a
    ·rw [h2,del_same,ha]
    ·rw [del_ne h2,upd_ne h2,upd_ne h1,upd_ne h2]
  rw [eH];obtain ⟨S3,ext,fz,nw,st3⟩:=st2.freezeT (Fx:=Fm) Sub.cupR;have t3:Tr S H F S3 H1 F2:=(t2.trans (Tr.froze (F':=F2) ext (fun a o z=>(nw a o z).imp id .inr) Sub.cupL));have rz:Rep ct S3 H1 (strip d) v No:=Rep.freeze ext (fun a o z e=>fz a o (s1 a z) e) r1;have st4:=st3.alloc (o:=.xd [(f,v)]) hdx;obtain ⟨S5,ext5,fz5,nw5,st5⟩:=st4.freezeT (Fx:=One dx) Sub.cupR;have t5:Tr S H F S5 (upd H1 dx (.xd [(f,v)])) F2:=t3.trans ((Tr.alloc hdx).trans (Tr.froze (F':=F2) ext5 (fun a o z=>(nw5 a o z).imp id .inr) Sub.cupL));refine k S5 (upd H1 dx (.xd [(f,v)])) F2 σ C (some dx) hC ⟨dx,v,rfl,fz5 dx _ rfl upd_same,ZK d,?_⟩ ⟨st5.drop fun a z=>?_,t5,Stay.refl⟩
  ·exact Rep.tr ext5 (fun _ _ z=>z) (Rep.tr (fun _ _ z=>z) (fun a vs e=>Zm hdx e) rz fun a o e z=>z.elim) fun a o e z=>z.elim
  ·refine ⟨.inl ⟨.inl z,fun z2=>djm a z z2⟩,fun z2=>?_⟩
   have : H1 dx≠none:=by rw [←show a=dx from z2]; exact (st2.w.out a (.inr (.inl z))).2
   exact this hdx
end
end VS
namespace VS
open PySem PySem.Spec PyProof.Rows L2
inductive SrcO where
 | v (its:List Rv) (ρ:Rho) | x (c:Str) (e:Zl) (ρ:Rho)
noncomputable abbrev MIY:=Rho→Option SrcO
inductive CompO where
 | v (ds:List D) (ρ:Rho) | x (c:Str) (e:Zl) (ρ:Rho)
noncomputable def ZfU (m:MI):MIY:=fun ρ=>(m ρ).map fun q=>.v q.1 q.2
noncomputable def ZfV (m:MEY):MIY:=fun ρ=>(m ρ).bind fun o=>match o with
 | .x c e ρ'=>some (.x c e ρ')
 | .v d ρ1=>(Zas (.own d) ρ1).bind fun q=>(Za9 q.1).bind fun its=>some (.v its.2 q.2)
noncomputable def Zbz (p:Pat) (vs:List Nat) (mc:MT) (me:MEY):List Rv→Rho→List D→Option CompO
 | [],ρ,acc=>some (.v acc ρ)
 | r ::rs,ρ,acc=>(asP [] p r ρ).bind fun ρ1=>(mc ρ1).bind fun b=>if b.1=true then (me b.2).bind fun o=>match o with
   | .v d ρ2=>Zbz p vs mc me rs (kills vs ρ2) (acc++[d])
   | .x c e ρ2=>some (.x c e ρ2)
  else Zbz p vs mc me rs (kills vs b.2) acc
noncomputable def ZdP (p:Pat) (vs:List Nat) (ms:MIY) (mc:MT) (me:MEY):MEY:=fun ρ=>(ms ρ).bind fun q=>match q with
 | .x c e ρ1=>some (.x c e ρ1)
 | .v its ρ1=>if its.length≤1000000 then (Zbz p vs mc me its (kills vs ρ1) []).map fun z=>match z with
   | .v ds ρ2=>.v (.lst true ds) (kills vs ρ2)
   | .x c e ρ2=>.x c e (kills vs ρ2)
  else none
section
variable (ct:Str→Option Addr)
noncomputable def WAt (W:WX) (σ:L2.St):WX:=fun cls d _ H=>W cls d σ H
noncomputable def tWY (W:WX) (m:MIY):TI:=fun σ H Q=>∃ ρ S F R o,State ct S H F R ρ σ∧m ρ=some o∧match o with
 | .v its ρ'=>∀ S' H' F' J,State ct S' H' F' R ρ' σ→Tr S H F S' H' F'→Walk ct J its S' H' F' R→Q J H'
 | .x c e ρ'=>∀ S' H' F' C od,ct c=some C→XD ct S' H' e od→State ct S' H' F' R ρ' σ→Tr S H F S' H' F'→W (.ref C) od σ H'
end
section
variable {ct:Str→Option Addr} {W:WX}
theorem Zi3 {m:MI}:∀ σ H Q,tWY ct W (ZfU m) σ H Q→tW ct m σ H Q:=by
 rintro σ H Q ⟨ρ,S,F,R,o,st,e,k⟩;obtain ⟨q,hq,rfl⟩:=Option.map_eq_some_iff.mp e;exact ⟨ρ,S,F,R,q.1,q.2,st,hq,k⟩
theorem Zi4 {K:PySem.W.Frag} {m:MEY}:∀ σ H Q,tWY ct W (ZfV m) σ H Q→ZcY K (tIY ct W m) σ H Q:=by
 rintro σ H Q ⟨ρ,S,F,R,o,st,e,k⟩;obtain ⟨o1,h1,e⟩:=bind_some e;refine ⟨ρ,S,F,R,o1,st,h1,?_⟩
 cases o1 with
 | x c e' ρ'=>cases e; exact k
 | v d ρ1=>
  obtain ⟨q,hq,e⟩:=bind_some e;obtain ⟨bi,hi,e⟩:=bind_some e;cases e;intro S1 H1 F1 Fa x st1 dj1 tr1 rep1;obtain ⟨S2,F2,st2,t2,ld⟩:=ZcV (r':=q.1) (ρ':=q.2) (r:=.own d) (Fr:=Fa) (v:=x) st1 Sub.cupR rep1 hq;have sR:Sub R (Dif (Cup R Fa) Fa):=fun a z=>⟨.inl z,fun z2=>dj1 a z z2⟩
  have st3:=st2.drop sR;have ld3:ZaF ct S2 H1 (Cup F2 R) q.1 x:=by
   cases hq1:q.1 with
   | own d=>rw [hq1] at ld; exact ld
   | vw d=>rw [hq1] at ld; exact Vw.anti (fun a z=>z.imp id (sR a)) ld
   | pend i fz=>rw [hq1] at ld; exact ld
  have tt:=tr1.trans t2;obtain ⟨b,its⟩:=bi;obtain ⟨a,vs,ex,np,hr,hs⟩:=ZcW (K:=K) st3.w ld3 hi;cases b with
  | false=>exact .inl ⟨a,ex,⟨vs,(hs S2 H1 F2 (Tr.refl (Sub.refl _)) st3.w).1 rfl⟩,k S2 H1 F2 _ st3 tt (Zev np hr fun S' H' F' t w=>(hs S' H' F' t w).1 rfl)⟩
  | true=>exact .inr (.inl ⟨a,ex,⟨vs,(hs S2 H1 F2 (Tr.refl (Sub.refl _)) st3.w).2 rfl⟩,k S2 H1 F2 _ st3 tt (Zew np hr fun S' H' F' t w=>(hs S' H' F' t w).2 rfl)⟩)
variable {S S' H H' S1 H1 S2 H2:Hp} {F F' G R R' T T' Fr F1 F2 R2 Y:FP} {ρ ρ' ρ2:Rho} {σ σ1:L2.St}
theorem Zi5 {K:PySem.W.Frag} {p:Pat} {vs:List Nat} {ms:MIY} {mc:MT} {me:MEY} (hv:∀ i∈ZN p,i∈vs):∀ σ H Q,tIY ct W (ZdP p vs ms mc me) σ H Q→tLc (tWY ct W ms) (gP K p) (tT ct mc) (tIY ct (WAt W σ) me) vs σ H Q:=by
 rintro σ H Q ⟨ρ,S,F,R,oo,st,e,k⟩;obtain ⟨q,hq,e⟩:=bind_some e;refine ⟨ρ,S,F,R,q,st,hq,?_⟩
 cases q with
 | x c e' ρ'=>cases e; exact k
 | v its ρq=>
  dsimp only at e;split at e
  ·rename_i hlen
   obtain ⟨z,hz,rfl⟩:=Option.map_eq_some_iff.mp e;intro S0 H0 F0 J st0 t0 wk L hL;have σ0l:(wipe σ vs).length=σ.length:=wipe_length σ vs
   refine ⟨fun i m H=>i+m=its.length∧∃ ρ S F Ra acc ds,State ct S H F (Cup R (Cup (One L) Ra)) ρ (wipe σ vs)∧Tr S0 H0 F0 S H (Cup F (Cup (One L) Ra))∧H L=some (.lst acc)∧Reps ct S H ds acc Ra∧Dj R (Cup (One L) Ra)∧¬ Ra L∧ds.length≤i∧Zbz p vs mc me (its.drop i) ρ ds=some z,
    ⟨its.length,by omega,kills vs ρq,S0,F0,No,[],[],?_,(Tr.alloc hL).grow (fun a z=>z.imp id fun z=>z.elim id fun z=>z.elim),upd_same,rfl,fun a x y=>y.elim (fun y=>(st0.w.out a (.inr x)).2 (by rw [y]; exact hL)) id,fun z=>z,Nat.zero_le _,by simpa using hz⟩,?_⟩
   ·exact ((st0.alloc hL).drop fun a z=>z.imp id fun z=>z.elim id fun z=>z.elim).other σ0l fun j hj=>Zaf hj
   rintro i m H1 ⟨him,ρ1,S1,F1,Ra,acc,ds,st1,t1,hH,hr,djR,nL,hdl,e1⟩;have wk1:WOk S1 H1 (Cup F1 R):=st1.w.anti fun a z=>z.imp id .inl
   cases hri:its[i]? with
   | none=>
    have hl:its.length≤i:=List.getElem?_eq_none_iff.mp hri;have hi:i=its.length:=by omega
    subst hi;rw [List.drop_length] at e1;cases e1;exact .inl ⟨wk.stop S1 H1 F1 (t1.grow Sub.cupL) wk1,k S1 H1 F1 (Cup (One L) Ra) (.ref L) (st1.other (σ':=σ) (vs:=vs) σ0l.symm fun j hj=>(Zaf hj).symm) djR (t0.trans t1) ⟨L,acc,Ra,rfl,⟨hH,.inl rfl,nL,Sub.cupR⟩,hr⟩⟩
   | some r=>
    obtain ⟨hlt,hget⟩:=List.getElem?_eq_some_iff.mp hri;have hd:its.drop i=r ::its.drop (i+1):=by rw [←hget]; exact List.drop_eq_getElem_cons hlt
    rw [hd] at e1;obtain ⟨ρ2,ha,e1⟩:=bind_some e1;obtain ⟨b,hb,e1⟩:=bind_some e1;obtain ⟨hgo,hy⟩:=wk.go i S1 H1 (Cup F1 (Cup (One L) Ra)) r t1 (st1.w.anti fun a z=>z.elim (fun z=>z.imp id .inr) fun z=>.inr (.inl z)) hri;have np:Zi r=true:=List.all_eq_true.mp wk.np r (List.mem_of_getElem? hri);refine .inr ⟨hgo,fun H'=>(i+1)+(m - 1)=its.length∧∃ ρ S F Ra acc ds,State ct S H' F (Cup R (Cup (One L) Ra)) ρ (wipe σ vs)∧Tr S0 H0 F0 S H' (Cup F (Cup (One L) Ra))∧H' L=some (.lst acc)∧Reps ct S H' ds acc Ra∧Dj R (Cup (One L) Ra)∧¬ Ra L∧ds.length≤i+1∧Zbz p vs mc me (its.drop (i+1)) ρ ds=some z,fun H' hN=>⟨m - 1,by omega,hN⟩,fun x H2 hyx=>?_⟩
    obtain ⟨hH2,rv⟩:=hy x H2 hyx;obtain ⟨st2,t2⟩:=st1.turn hH2;have rv2:RvRep ct S1 H2 (Cup F1 (Cup (Cup R (Cup (One L) Ra)) No)) (wipe σ vs) No r x:=(rv.anyσ np).anti fun a z=>z.elim (fun z=>.inl (.inl z)) fun z=>z.elim (fun z=>z.elim .inr fun z=>.inl (.inr z)) fun z=>z.elim
    refine gP_mono (fun σ3 H3 h=>?_) (Zc5 (Q:=fun σ3 H3=>H3=H2∧∃ F3,State ct S1 H2 F3 (Cup R (Cup (One L) Ra)) ρ2 σ3∧Sub F3 (Cup F1 No)) hv (Za8 (io:=[]) (R:=Cup R (Cup (One L) Ra)) (Fr:=No) np (st2.drop fun a z=>z.elim id fun z=>z.elim) (fun _ _ z=>z) rv2 ha fun F3 σ3 st3 sF3 stay3=>⟨rfl,F3,st3,sF3⟩))
    obtain ⟨hw3,eH,F3,st3,sF3⟩:=h;subst eH;rw [Zez] at hw3;refine ⟨hw3,?_⟩
    have t3:Tr S1 H1 F1 S1 H3 F3:=t2.grow fun a z=>(sF3 a z).elim id fun z=>z.elim
    refine ⟨ρ2,S1,F3,Cup R (Cup (One L) Ra),b.1,b.2,st3,hb,fun S4 H4 F4 st4 t4=>?_⟩
    have t34:=t3.trans t4;have keepL:∀ {S5 H5 F5},Tr S1 H1 F1 S5 H5 F5→H5 L=some (.lst acc):=fun t=>t.frm L _ hH fun z=>st1.dj L z (.inr (.inl rfl))
    have keepA:∀ {S5 H5 F5},Tr S1 H1 F1 S5 H5 F5→Reps ct S5 H5 ds acc Ra:=fun t=>Reps.tr t.ext t.tup hr fun a o x y=>t.frm a o x fun z=>st1.dj a z (.inr (.inr y))
    have wide:∀ {S5 H5 F5},Tr S1 H1 F1 S5 H5 F5→Tr S0 H0 F0 S5 H5 (Cup F5 (Cup (One L) Ra)):=fun t=>t1.trans t.wide
    have hwl:∀ {S5 H5 F5 R5 ρ5},State ct S5 H5 F5 R5 ρ5 σ3→State ct S5 H5 F5 R5 (kills vs ρ5) (wipe σ vs):=fun st=>by
     rw [←hw3];exact st.other (wipe_length σ3 vs) fun j hj=>Zaf hj
    have hwo:∀ {S5 H5 F5 R5 ρ5},State ct S5 H5 F5 R5 ρ5 σ3→State ct S5 H5 F5 R5 (kills vs ρ5) σ:=fun st=>by
     have l3:σ.length=σ3.length:=by rw [←σ0l,←hw3,wipe_length]
     exact st.other l3 fun j hj=>by rw [←Zaf (σ:=σ) hj,←hw3,Zaf hj]
    dsimp only;by_cases hc:b.1=true
    ·rw [if_pos hc] at e1 ⊢
     obtain ⟨y,hye,e1⟩:=bind_some e1;refine ⟨b.2,S4,F4,Cup R (Cup (One L) Ra),y,st4,hye,?_⟩
     cases y with
     | x c e' ρ5=>
      cases e1;exact fun S5 H5 F5 C od hC hx st5 t5=>k S5 H5 F5 C od hC hx ((hwo st5).drop fun a z=>.inl z) (t0.trans ((wide (t34.trans t5)).grow fun a z=>.inl z))
     | v d ρ5=>
      dsimp only at e1;intro S5 H5 F5 Fm v st5 dj5 t5 rep5;have t56:Tr S1 H1 F1 S5 H5 (Cup F5 Fm):=t34.trans t5;have hL5:=keepL t56;have hacc:=keepA t56;have nLm:¬ Fm L:=fun z=>dj5 L (.inr (.inl rfl)) z
      refine ⟨acc,hL5,?_,by omega,kills vs ρ5,S5,F5,Cup Ra Fm,acc++[v],ds++[d],?_,?_,upd_same,?_,?_,?_,?_,e1⟩
      ·rw [←hr.len]
       exact ZbI (by omega)
      ·have s1:State ct S5 (upd H5 L (.lst (acc++[v]))) F5 (Cup (Cup R (Cup (One L) Ra)) Fm) ρ5 σ3:=st5.mutR (.inl (.inr (.inl rfl))) hL5
       exact (hwl s1).drop fun a z=>z.elim (fun z=>.inl (.inl z)) fun z=>z.elim (fun z=>.inl (.inr (.inl z))) fun z=>z.elim (fun z=>.inl (.inr (.inr z))) .inr
      ·have tw:Tr S0 H0 F0 S5 H5 (Cup (Cup F5 Fm) (Cup (One L) Ra)):=wide t56
       refine ⟨tw.ext,fun a o x n=>?_,fun a ws x=>?_,fun a z=>tw.new a (z.elim (fun z=>.inl (.inl z)) fun z=>z.elim (fun z=>.inr (.inl z)) fun z=>z.elim (fun z=>.inr (.inr z)) fun z=>.inl (.inr z)),tw.nws,fun a C dx kv x=>?_⟩
       rotate_left 2
       ·obtain ⟨m,hm⟩:=tw.ins a C dx kv x
        exact ⟨m,by rw [upd_ne (ne_of_none x hL)]; exact hm⟩
       ·rw [upd_ne (ne_of_none x hL)]
        exact tw.frm a o x n
       ·rw [upd_ne (ne_of_none x hL)]
        exact tw.tup a ws x
      ·exact (Reps.mutR hL5 nL hacc).append (Reps.mutR (ds:=[d]) (vs:=[v]) hL5 nLm ⟨v,[],Fm,No,rfl,Sub.refl _,Sub.no,fun _ _ z=>z,rep5,rfl⟩) fun a x y=>dj5 a (.inr (.inr x)) y
      ·exact fun a x y=>y.elim (fun y=>djR a x (.inl y)) fun y=>y.elim (fun y=>djR a x (.inr y)) fun y=>dj5 a (.inl x) y
      ·exact fun z=>z.elim nL nLm
      ·rw [List.length_append,List.length_singleton]
       omega
    ·rw [if_neg hc] at e1 ⊢
     exact ⟨by omega,kills vs b.2,S4,F4,Ra,acc,ds,hwl st4,wide t34,keepL t34,keepA t34,djR,nL,by omega,e1⟩
  ·cases e
noncomputable def ZfW (j:Nat) (me:MEY):MY:=fun ρ=>(ownL ρ j).bind fun _=>(me ρ).bind fun o=>match o with
 | .x c e ρ'=>some (.xc c e ρ')
 | .v d ρ1=>(ownL ρ1 j).bind fun ds=>(ZY .append ds [d]).bind fun z=>some (.o (.nx (ρ1.set j (.own (.lst true z.1)))))
theorem Zi6 {io:List Nat} {K:PySem.W.Frag} {j:Nat} {me:MEY}:∀ D σ H,tSY ct io W (ZfW j me) D σ H→tDrop (tBM K "list" (ZaH .append) (tVar j) (tCons (tIY ct W me) tNil)) D σ H:=by
 rintro D σ H ⟨ρ,S,F,R,o,st,e,k⟩;obtain ⟨ds0,h0,e⟩:=bind_some e;obtain ⟨o1,h1,e⟩:=bind_some e;obtain ⟨Fi,si,x,hx,_⟩:=st.slot (ZZ h0);refine ⟨x,hx,ZeE st h0 hx,ρ,S,F,R,o1,st,h1,?_⟩
 cases o1 with
 | x c e' ρ'=>cases e; exact fun S' H' F' C od hC hx st' t=>k S' H' F' σ C od hC hx ⟨st',t,Stay.refl⟩
 | v d ρ1=>
  obtain ⟨ds,hds,e⟩:=bind_some e;obtain ⟨z,hz,e⟩:=bind_some e;cases e;intro S1 H1 F1 Fm v st1 dj1 t1 rep1;exact ZeD st1 dj1 (ZZ hds) hx (show Reps ct S1 H1 [d] [v] Fm from ⟨v,[],Fm,No,rfl,Sub.refl _,Sub.no,fun _ _ z=>z,rep1,rfl⟩) (show ZY .append ds [d]=some (z.1,z.2) from hz) t1 fun S' H' F' Fr v P=>k S' H' F' σ ⟨P.st.drop fun a z=>.inl z,P.tr.grow fun a z=>.inl z,Stay.refl⟩
end
end VS
namespace VS
open PySem PySem.Spec PyProof.Rows L2
noncomputable def bare (c:Str):Bool:=!(["NoNet", "NoArrow", "Ringed"]:List Str).contains c
structure FnX where
 ar : Nat
 sem : List D→Option (D ⊕ Str)
section
variable {ct:Str→Option Addr} {io:List Nat} {W:WX} {S S' H H' S1 H1 S2 H2:Hp} {F F' G R R' T T' Fr F1 F2 R2 Y:FP} {ρ ρ' ρ2:Rho} {σ σ1:L2.St}
noncomputable def ZfX (C:Addr) (f:Str):Sp:=fun vs H Q _=>∃ a y,vs=[.ref a,y]∧H a=some (exo a C none)∧∀ dx,H dx=none→dx≠a→Q .non (upd (upd H dx (exd dx [(f,y)])) a (exo a C (some dx)))
end
end VS
namespace VS
open PySem PySem.Spec PyProof.Rows L2
inductive HE where
 | c (d:D) | isi (c:Str)
noncomputable def hE (xi:Str→Str→Option Bool) (c:Str):HE→Option D
 | .c d=>match d with
  | .non=>some .non | .bl b=>some (.bl b) | .int i=>some (.int i) | .str x=>some (.str x) | _=>none
 | .isi c2=>if bare c=true then (xi c c2).map .bl else none
structure GamX where
 g : Gam
 fx : Str→Option FnX
 xc : Str→Bool
 xm : Str→Str→Option Bool
 xi : Str→Str→Option Bool
 xh : Str→Bool
 xp : Str→Bool
noncomputable def ZdQ:D→Expr→Bool
 | .non,.Constant .none _ _=>true
 | .bl b,.Constant (.bool b') _ _=>decide (b=b')
 | .int i,.Constant (.int i') _ _=>decide (i=i')
 | .str x,.Constant (.str x') _ _=>decide (x=x')
 | _,_=>false
section
variable (G:GamX) (N:List Str)
noncomputable def Zi7 (sc:Scope):Option Nat→Option Str→Bool
 | none,none=>true
 | some j,some n=>decide (N[j]?=some n) && decide (sc.names.lookup n=some .local)
 | _,_=>false
end
end VS
namespace VS
open PySem PySem.Spec PyProof.Rows L2
inductive HP where
 | c (d:D) | v (i:Nat) | fld (f:Str) | isi (c:Str) | conj (a b:HP) | disj (a b:HP) | not (a:HP) | str (a:HP) | int (a:HP) | bin (k:BK) (a b:HP) | call (g:Str) | isiT (cs:List Str) | callS (g:Str) (ds:List Str) | cmp (k:CK) (a b:HP)
noncomputable def ZbA (xi:Str→Str→Option Bool) (c:Str):List Str→Option Bool
 | []=>some false
 | c2 ::cs=>match xi c c2 with
  | some true=>some true
  | some false=>ZbA xi c cs
  | none=>none
noncomputable def Zay (g:Str):Str:=⟨(40 ::g.cps.toList).toArray⟩
noncomputable def Zak (g d:Str):Str:=⟨(41 ::g.cps.toList.length ::(g.cps.toList++d.cps.toList)).toArray⟩
noncomputable def ZI (x:Str):Bool:=match x.cps.toList with | 40 ::_=>true | 41 ::_=>true | _=>false
inductive HX where
 | p (a:HP) | tup (es:List HP) | lst (es:List HP) | rep (es:List HP) (a:HP)
inductive HS where
 | asg (i:Nat) (e:HX) | ret (e:HX) | app (j:Nat) (a:HP) | ifs (c:HP) (a b:List HS)
noncomputable def ZJ:D→Bool
 | .non=>true | .bl _=>true | .int _=>true | .str _=>true | _=>false
section
variable (xi:Str→Str→Option Bool) (xf:Str→Str→Bool) (c:Str) (e:Zl)
noncomputable def hP:HP→Rho→Option D
 | .c d,_=>if ZJ d=true then some d else none
 | .v i,ρ=>match ρ[i]? with
  | some (.own d)=>if noOwn d=true then some d else none
  | some (.vw d)=>if ZJ d=true then some d else none
  | _=>none
 | .fld f,_=>match e with
  | some (f',d)=>if f'=f∧xf c f=true then some d else none
  | none=>none
 | .isi c2,_=>(xi c c2).map .bl
 | .conj a b,ρ=>(hP a ρ).bind fun x=>match x with | .bl true=>hP b ρ | .bl false=>some (.bl false) | _=>none
 | .disj a b,ρ=>(hP a ρ).bind fun x=>match x with | .bl false=>hP b ρ | .bl true=>some (.bl true) | _=>none
 | .not a,ρ=>(hP a ρ).bind fun x=>match x with | .bl b=>some (.bl !b) | _=>none
 | .str a,ρ=>(hP a ρ).bind fun x=>biD .str [x]
 | .int a,ρ=>(hP a ρ).bind fun x=>biD .int [x]
 | .bin k a b,ρ=>(hP a ρ).bind fun x=>(hP b ρ).bind fun y=>binD k x y
 | .cmp k a b,ρ=>(hP a ρ).bind fun x=>(hP b ρ).bind fun y=>cmpD k x y
 | .call g,_=>(xi c (Zay g)).map .bl
 | .isiT cs,_=>(ZbA xi c cs).map .bl
 | .callS g ds,_=>(ds.find? fun d=>decide (xi c (Zak g d)=some true)).map .str
noncomputable def hPs:List HP→Rho→Option (List D)
 | [],_=>some []
 | a ::as,ρ=>(hP xi xf c e a ρ).bind fun d=>(hPs as ρ).bind fun ds=>some (d ::ds)
noncomputable def hX:HX→Rho→Option D
 | .p a,ρ=>hP xi xf c e a ρ
 | .tup es,ρ=>(hPs xi xf c e es ρ).map .tup
 | .lst es,ρ=>(hPs xi xf c e es ρ).map (.lst true)
 | .rep es a,ρ=>(hPs xi xf c e es ρ).bind fun ds=>(hP xi xf c e a ρ).bind fun x=>match x with
  | .int n=>if 0≤n∧n≤1000 then some (.lst true (List.replicate n.toNat ds).flatten) else none
  | _=>none
mutual
noncomputable def ZaW (io:List Nat):HS→MS
 | .asg i a=>fun ρ=>if io.contains i=true then none else (hX xi xf c e a ρ).bind fun d=>if i < ρ.length then some (.nx (ρ.set i (.own d))) else none
 | .ret a=>fun ρ=>(hX xi xf c e a ρ).bind fun d=>some (.rt d ρ)
 | .app j a=>fun ρ=>(hP xi xf c e a ρ).bind fun d=>if ZJ d=true then mDrop (Zc6 .append j (mCons (mC d) mNil)) ρ else none
 | .ifs t a b=>fun ρ=>(hP xi xf c e t ρ).bind fun d=>match d with
  | .bl true=>evHSs io a ρ
  | .bl false=>evHSs io b ρ
  | _=>none
noncomputable def evHSs (io:List Nat):List HS→MS
 | []=>mSkip
 | s ::ss=>mSeq (ZaW io s) (evHSs io ss)
end
end
structure HC where
 c : Str
 j : Option Nat
 b : List HS
noncomputable def ioJ (io:List Nat):Option Nat→List Nat
 | none=>io
 | some j=>j ::io
noncomputable def Zi8 (j:Nat):Out→Out
 | .nx ρ=>.nx (ρ.set j .dead)
 | .ct ρ=>.ct (ρ.set j .dead)
 | .bk ρ=>.bk (ρ.set j .dead)
 | .rt d ρ=>.rt d ρ
noncomputable def Zaz (xm xi:Str→Str→Option Bool) (xf:Str→Str→Bool) (io:List Nat) (c:Str) (e:Zl) (ρ:Rho):List HC→Option OutY
 | []=>some (.xc c e ρ)
 | h ::hs=>(xm c h.c).bind fun b=>if b=true then (match h.j with
   | none=>(evHSs xi xf c e (ioJ io none) h.b ρ).map .o
   | some j=>if io.contains j=true∨¬ j < ρ.length then none else (evHSs xi xf c e (ioJ io (some j)) h.b (ρ.set j .dead)).map fun x=>.o (Zi8 j x)) else Zaz xm xi xf io c e ρ hs
noncomputable def ZdR (xm xi:Str→Str→Option Bool) (xf:Str→Str→Bool) (io:List Nat) (mb:MY) (hs:List HC):MY:=fun ρ=>(mb ρ).bind fun o=>match o with
 | .o x=>some (.o x)
 | .xc c e ρ1=>Zaz xm xi xf io c e ρ1 hs
noncomputable def ZbB:Stmt→Option (Str×Bool×Expr×Comprehension×Scope)
 | .Assign [.Name y py] (.ListComp elt [g] sc' pos) _=>some (y,py.line ==pos.line,elt,g,sc')
 | _=>none
theorem Zi9 {s:Stmt} {q:Str×Bool×Expr×Comprehension×Scope} (h:ZbB s=some q):∃ py pos spos,s=.Assign [.Name q.1 py] (.ListComp q.2.2.1 [q.2.2.2.1] q.2.2.2.2 pos) spos∧(py.line ==pos.line)=q.2.1:=by
 unfold ZbB at h;split at h
 ·cases h; exact ⟨_,_,_,rfl,rfl⟩
 ·cases h
noncomputable def Zcm:List Expr→Option (Expr×Expr)
 | [a,b]=>some (a,b)
 | _=>none
theorem Zja {es:List Expr} {q:Expr×Expr} (h:Zcm es=some q):es=[q.1,q.2]:=by
 unfold Zcm at h;split at h
 ·cases h; rfl
 ·cases h
noncomputable def mNE (m:ME):MEY:=fun ρ=>(m ρ).bind fun p=>(take p.1 p.2).bind fun q=>some (.v q.1 q.2)
noncomputable def ZfY (ma mb:MEY):MEY:=fun ρ=>(ma ρ).bind fun o=>match o with
 | .x c e ρ1=>some (.x c e ρ1)
 | .v d ρ1=>if ZJ d=true then (mb ρ1).bind fun o2=>match o2 with
   | .x c e ρ2=>some (.x c e ρ2)
   | .v d2 ρ2=>if ZJ d2=true then some (.v (.tup [d,d2]) ρ2) else none
  else none
structure GamY where
 g : Gam
 fx : Str→Option FnY
 mx : Str→Str→Option FnY
 kx : Str→Option FnY
 xc : Str→Bool
 xm : Str→Str→Option Bool
 xi : Str→Str→Option Bool
 xh : Str→Bool
 xp : Str→Option Str
 xf : Str→Str→Bool
inductive EY where
 | fn (f:Str) (es:List IE) | me (o:IE) (c m:Str) (es:List IE) | mk (c:Str) (es:List IE) | not (a:EY) | frz (a:EY) | n (e:IE) | tp (a b:EY)
inductive SY where
 | w (w:IW) | y (a:EY)
inductive IY where
 | n (s:IS)
 | rais (c:Str)
 | raisP (c:Str) (es:List IE)
 | dr (a:EY)
 | as (i:Nat) (a:EY)
 | re (a:EY)
 | ifY (c:IE) (a b:List IY)
 | ifX (c:EY) (a b:List IY)
 | forY (p:Pat) (w:IW) (b:List IY) (kl:List Nat)
 | tryY (b:List IY) (hs:List HC)
 | appY (j:Nat) (a:EY)
 | asLc (i:Nat) (f:Str) (es:List IE) (p:Pat) (src:SY) (own:List (Str×Nat))
noncomputable def ZaA (o:Option FnY):FnY:=o.getD ⟨[],fun _=>none⟩
section
variable (G:GamY) (io:List Nat)
noncomputable def Zu:EY→MEY
 | .fn f es=>Zck (ZaA (G.fx f)) (evs G.g es)
 | .me o c m es=>ZdN c m (ZaA (G.mx c m)) (ev G.g o) (evs G.g es)
 | .mk c es=>ZdO c (ZaA (G.kx c)) (evs G.g es)
 | .not a=>ZfJ (Zu a)
 | .frz a=>ZfL (Zu a)
 | .n e=>mNE (ev G.g e)
 | .tp a b=>ZfY (Zu a) (Zu b)
noncomputable def ZdS:SY→MIY
 | .w w=>ZfU (evW G.g w)
 | .y a=>ZfV (Zu G a)
mutual
noncomputable def evY:IY→MY
 | .n s=>mNY (evS G.g io s)
 | .rais c=>ZfO c
 | .raisP c es=>ZaV c ((G.xp c).getD "") (evs G.g es)
 | .dr a=>ZfP (Zu G a)
 | .as i a=>Zbx io i (Zu G a)
 | .re a=>ZfQ (Zu G a)
 | .ifY c a b=>ZfM (asB (ev G.g c)) (evYs a) (evYs b)
 | .ifX c a b=>ZfN (Zu G c) (evYs a) (evYs b)
 | .forY p w b kl=>ZfR io p (evW G.g w) (evYs b) kl
 | .tryY b hs=>ZdR G.xm G.xi G.xf io (evYs b) hs
 | .appY j a=>ZfW j (Zu G a)
 | .asLc i f es p src own=>Zbx io i (ZdP p (own.map (·.2)) (ZdS G src) (evC G.g none) (Zu G (.fn f es)))
noncomputable def evYs:List IY→MY
 | []=>mNY mSkip
 | s ::ss=>Zcl (evY s) (evYs ss)
end
end
section
variable (G:GamY) (N:List Str)
noncomputable def Zal (sc:Scope):List Str→List Expr→Bool
 | [],[]=>true
 | c ::cs,.Name z _ ::es=>decide (z=c) && glo sc z && okN z && !ZI z && G.xh z && !decide (z= "ValueError") && Zal sc cs es
 | _,_=>false
noncomputable def Zb (sc:Scope) (n:Option Str):HP→Expr→Bool
 | .c d,e=>ZdQ d e
 | .v i,e=>(Zv e).any fun x=>decide (N[i]?=some x) && vis sc x && okN x
 | .fld f,e=>(dAt e).any fun q=>decide (f=q.2) && (decide (n=some q.1) && vis sc q.1 && okN q.1)
 | .isi c,e=>(dC2 e).any fun q=>(Zv q.2.1).any fun y=>(Zv q.2.2).any fun z=>decide (z=c) && (decide (q.1=("isinstance":Str)) && glo sc q.1 && G.g.fr q.1 && decide (n=some y) && vis sc y && okN y && glo sc c && okN c && !ZI c)
 | .conj a b,e=>(Zbi e).any fun q=>Zb sc n a q.1 && Zb sc n b q.2
 | .disj a b,e=>(Zbh e).any fun q=>Zb sc n a q.1 && Zb sc n b q.2
 | .not a,e=>(ZO e).any fun x=>Zb sc n a x
 | .str a,e=>(dC1 e).any fun q=>decide (q.1=("str":Str)) && glo sc q.1 && G.g.fr q.1 && nst q.2 && Zb sc n a q.2
 | .int a,e=>(dC1 e).any fun q=>decide (q.1=("int":Str)) && glo sc q.1 && G.g.fr q.1 && nst q.2 && Zb sc n a q.2
 | .bin k a b,e=>(ZaN e).any fun q=>decide (q.2.1=opr k) && (Zb sc n a q.1 && Zb sc n b q.2.2)
 | .cmp k a b,e=>(Zdg e).any fun q=>decide (q.2.1=cop k) && (!behindInMarks (cop k) q.2.2 && (Zb sc n a q.1 && Zb sc n b q.2.2))
 | .isiT cs,e=>(dC2 e).any fun q=>(Zv q.2.1).any fun y=>(dTp q.2.2).any fun es=>decide (q.1=("isinstance":Str)) && (glo sc "isinstance" && G.g.fr "isinstance" && decide (n=some y) && vis sc y && okN y && decide (cs.length≤1000) && decide (cs≠[]) && Zal G sc cs es)
 | .call g,e=>(dFy e).any fun q=>decide (q.1=g) && (glo sc g && okN g && decide (n=some q.2) && vis sc q.2 && okN q.2)
 | .callS g _,e=>(dFy e).any fun q=>decide (q.1=g) && (glo sc g && okN g && decide (n=some q.2) && vis sc q.2 && okN q.2)
noncomputable def Z8 (sc:Scope) (n:Option Str):List HP→List Expr→Bool
 | [],[]=>true
 | a ::as,e ::es=>nst e && Zb G N sc n a e && Z8 sc n as es
 | _,_=>false
noncomputable def ZbC (sc:Scope) (n:Option Str):HX→Expr→Bool
 | .p a,e=>Zb G N sc n a e
 | .tup es,e=>(dTp e).any fun es'=>decide (es.length≤1000) && Z8 G N sc n es es'
 | .lst es,e=>(dLs e).any fun es'=>decide (es.length≤1000) && Z8 G N sc n es es'
 | .rep es a,e=>(ZaN e).any fun q=>(dLs q.1).any fun es'=>decide (q.2.1=.Mult) && (decide (es.length≤1000) && Z8 G N sc n es es' && Zb G N sc n a q.2.2)
noncomputable def Z9 (sc:Scope) (n:Option Str):HP→Expr→Bool
 | .not a,e=>Zbj (ZO e) (Zo e && Zb G N sc n (.not a) e) fun x=>Z9 sc n a x
 | .disj a b,e=>Zbj (Zbh e) (Zo e && Zb G N sc n (.disj a b) e) fun q=>Z9 sc n a q.1 && Z9 sc n b q.2
 | .conj a b,e=>Zbj (Zbi e) (Zo e && Zb G N sc n (.conj a b) e) fun q=>Z9 sc n a q.1 && Z9 sc n b q.2
 | .cmp k a b,e=>Zb G N sc n (.cmp k a b) e
 | .c d,e=>Zo e && Zb G N sc n (.c d) e
 | .v i,e=>Zo e && Zb G N sc n (.v i) e
 | .fld f,e=>Zo e && Zb G N sc n (.fld f) e
 | .isi c,e=>Zo e && Zb G N sc n (.isi c) e
 | .str a,e=>Zo e && Zb G N sc n (.str a) e
 | .int a,e=>Zo e && Zb G N sc n (.int a) e
 | .bin k a b,e=>Zo e && Zb G N sc n (.bin k a b) e
 | .call g,e=>Zo e && Zb G N sc n (.call g) e
 | .isiT cs,e=>Zo e && Zb G N sc n (.isiT cs) e
 | .callS g ds,e=>Zo e && Zb G N sc n (.callS g ds) e
mutual
noncomputable def ZdT (sc:Scope) (n:Option Str):HS→Stmt→Bool
 | .asg i a,st=>(Zbl st).any fun q=>decide (N[i]?=some q.1) && ZD sc q.1 && ZR q.2 && ZbC G N sc n a q.2
 | .ret a,st=>(ZaO st).any fun e=>ZbC G N sc n a e
 | .app j a,st=>(Zai st).any fun e=>(dMe e).any fun q=>(Zv q.1).any fun x=>(ls1 q.2.2.2.1).any fun e'=>decide (N[j]?=some x) && vis sc x && okN x && decide (q.2.1=("append":Str)) && Z4 q.2.2.1 q.2.2.2.2 && nst e' && Zb G N sc n a e'
 | .ifs t a b,st=>(dIf st).any fun q=>Z9 G N sc n t q.1 && okHSs sc n a q.2.1 && okHSs sc n b q.2.2
noncomputable def okHSs (sc:Scope) (n:Option Str):List HS→List Stmt→Bool
 | [],[]=>true
 | s ::ss,t ::ts=>ZdT sc n s t && okHSs sc n ss ts
 | _,_=>false
end
noncomputable def ZfZ (sc:Scope) (c:HC) (h:ExceptHandler):Bool:=(dHd h).any fun r=>Zdh r.2.2 && (decide (r.1=c.c) && glo sc r.1 && okN r.1 && G.xh c.c && Zi7 N sc c.j r.2.1 && okHSs G N sc r.2.1 c.b r.2.2)
noncomputable def ZbD (sc:Scope):List HC→List ExceptHandler→Bool
 | [],[]=>true
 | h ::hs,t ::ts=>ZfZ G N sc h t && ZbD sc hs ts
 | _,_=>false
noncomputable def Zn (sc:Scope):EY→Expr→Bool
 | .fn f es,e=>(dCl e).any fun q=>decide (f=q.1) && glo sc q.1 && (G.fx f).isSome && okN q.1 && decide (es≠[]) && okEs G.g N sc es q.2
 | .me o c m es,e=>(dMe e).any fun q=>decide (m=q.2.1) && (G.mx c m).isSome && ZP q.1 && Z4 q.2.2.1 q.2.2.2.2 && decide (es≠[]) && decide (es.length < 20) && okE G.g N sc o q.1 && okEs G.g N sc es q.2.2.2.1
 | .mk c es,e=>(dCl e).any fun q=>decide (c=q.1) && glo sc q.1 && (G.kx c).isSome && okN q.1 && decide (es≠[]) && okEs G.g N sc es q.2
 | .not a,e=>(ZO e).any fun x=>Zn sc a x
 | .frz a,e=>Zn sc a e
 | .n a,e=>okE G.g N sc a e
 | .tp a b,e=>(dTp e).any fun es=>(Zcm es).any fun q=>nst q.1 && nst q.2 && Zn sc a q.1 && Zn sc b q.2
noncomputable def Zf0 (sc:Scope):SY→Expr→Expr→Bool
 | .w w,tg,it=>okW G.g N sc w tg it
 | .y a,_,it=>Zn G N sc a it
noncomputable def ZdU (sc:Scope) (i:Nat) (f:Str) (es:List IE) (p:Pat) (src:SY) (own:List (Str×Nat)) (q:Str×Bool×Expr×Comprehension×Scope):Bool:=
 decide (N[i]?=some q.1) && (decide (sc.names.lookup q.1=some .local) && (q.2.1 && !(q.2.2.2.2.names.any fun (n,k)=>n ==q.1 && (k ==.local || k ==.cell)))) &&
  (decide (q.2.2.2.1.is_async=0) && q.2.2.2.1.ifs.isEmpty) && blkC N sc q.2.2.2.2 own && Zf0 G N sc src q.2.2.2.1.target q.2.2.2.1.iter && okP N q.2.2.2.2 p q.2.2.2.1.target &&
  (ZN p).all (fun i=>(own.map (·.2)).contains i) && Z3 q.2.2.2.1.iter && Zn G N (relS q.2.2.2.2 sc) (.fn f es) q.2.2.1
noncomputable def Zcn (sc:Scope):EY→Expr→Bool
 | .not a,e=>Zbj (ZO e) (Zo e && Zn G N sc (.not a) e) fun x=>Zcn sc a x
 | .fn f es,e=>Zo e && Zn G N sc (.fn f es) e
 | .me o c m es,e=>Zo e && Zn G N sc (.me o c m es) e
 | .mk c es,e=>Zo e && Zn G N sc (.mk c es) e
 | .frz a,e=>Zo e && Zn G N sc (.frz a) e
 | .n a,e=>Zo e && Zn G N sc (.n a) e
 | .tp a b,e=>Zo e && Zn G N sc (.tp a b) e
mutual
noncomputable def okY (sc:Scope):IY→Stmt→Bool
 | .n s,st=>okS G.g N sc s st
 | .rais c,st=>(Zbk st).any fun q=>(ls1 q.2).any Ze2 && (decide (q.1=c) && glo sc q.1 && okN q.1 && G.xc c)
 | .raisP c es,st=>(Zbk st).any fun q=>decide (q.1=c) && glo sc q.1 && okN q.1 && (G.xp c).isSome && decide (es≠[]) && okEs G.g N sc es q.2
 | .dr a,st=>(Zai st).any fun e=>ZR e && Zn G N sc a e
 | .as i a,st=>(Zbl st).any fun q=>decide (N[i]?=some q.1) && ZD sc q.1 && ZR q.2 && Zn G N sc a q.2
 | .re a,st=>(ZaO st).any fun e=>Zn G N sc a e
 | .ifY c a b,st=>(dIf st).any fun q=>okE G.g N sc c q.1 && okYs sc a q.2.1 && okYs sc b q.2.2
 | .ifX c a b,st=>(dIf st).any fun q=>Zcn G N sc c q.1 && okYs sc a q.2.1 && okYs sc b q.2.2
 | .forY p w b _,st=>(Zb8 st).any fun q=>okW G.g N sc w q.1 q.2.1 && okP N sc p q.1 && Z3 q.2.1 && okYs sc b q.2.2
 | .tryY b hs,st=>(Zb9 st).any fun q=>Zdh q.2 && (okYs sc b q.1 && ZbD G N sc hs q.2)
 | .appY j a,st=>(Zai st).any fun e=>(Zcb e).any fun q=>(Zv q.1).any fun x=>decide (N[j]?=some x) && vis sc x && okN x && decide (q.2.1=Zca .append) && Z4 q.2.2.1 q.2.2.2.2 && nst q.2.2.2.1 && Zn G N sc a q.2.2.2.1
 | .asLc i f es p src own,st=>(ZbB st).any fun q=>ZdU G N sc i f es p src own q
noncomputable def okYs (sc:Scope):List IY→List Stmt→Bool
 | [],[]=>true
 | s ::ss,t ::ts=>okY sc s t && okYs sc ss ts
 | _,_=>false
end
end
end VS
namespace VS
open PySem PySem.Spec PyProof.Rows L2
theorem Zjb (g:Str):ZI (Zay g)=true:=rfl
theorem Zjc (g d:Str):ZI (Zak g d)=true:=rfl
structure FnE (ct:Str→Option Addr) (P:Program) (w:World) (K:PySem.W.Frag) (mg:Str→Option Value) (base:Heap) (k:Nat) (f:Addr) (fd:FuncData) (ps:List Str) (C:Addr) (d:D):Prop where
 len : ps.length=1
 run : ∀ (A:Around) (outer:List Env) (s:Shared) (H:Hp) (args:Args) (us:List Value) (Q:VK) (E:XK) (a:Addr) (oe:Obj) (od:Option Addr) (e:Zl) (S:Hp) (F:FP),L2H.RoomH k A→A.handled=some (.ref a)→L2H.PinOk outer H s (a,oe)→Env0 P w K mg base A outer s H→BindsTo s fd args (ps.zip us)→us=[.ref a]→
  Zc (.ref C) od oe→(∃ vs,oe.data=.fields vs)→WOk S H F→XD ct S H e od→(∀ v,Sc d v→Q v H)→codeAny (model P w) A (.call (.ref f) args) (CR CX0 outer P w H s Q E) s
noncomputable def Zjd (C a:Addr) (od:Option Addr) (ct:Str→Option Addr) (d:D):TA→TE:=fun t σ H Q=>t σ H fun vs H1=>vs=[.ref a]∧(∃ e S F,WOk S H1 F∧XD ct S H1 e od)∧∀ v,Sc d v→Q v H1
theorem Zf1 {ct:Str→Option Addr} {X:Cx} {k:Nat} {f C a:Addr} {fd:FuncData} {ps:List Str} {d:D} {oe:Obj} {od:Option Addr} {pn:List (Addr×Obj)} {x:Str} {q pos:Pos} {e:Expr} {t:TA}
  (F:FnE ct X.prog X.w X.K X.mg X.base k f fd ps C d) (hr:L2H.RoomH k X.A) (hz:Zc (.ref C) od oe) (hf:∃ vs,oe.data=.fields vs) (hg:Gl X x) (hm:X.mg x=some (.ref f)) (hk:PySem.W.keepIn X.K (.ref f)=true) (hb:Binds X.K fd ps [])
  (ha:PA (X.suite a ((a,oe) ::pn)) [e] t) (hdb:(x ==("__debug__":Str))=false) (he:starEach [e] X.env=(false,eval e X.env) ::starEach [] X.env):
  PE (X.suite a ((a,oe) ::pn)) (.Call (.Name x q) [e] [] pos) (Zjd C a od ct d t):=by
 refine ⟨fun pins s σ H Q I h=>?_⟩
 refine wpAny_Call_Name_kw (ld_glob I hg hm ?_ hdb)
 refine PySem.W.callWith_K (h₀:=X.base) I.ok.mod.kin hk (thn (ha.run pos pins s σ H _ I h) fun us s1 ⟨vs,H1,I1,r,q⟩=>⟨I1.kIn,?_⟩) he
 obtain ⟨rfl,⟨e,S,Fp,wk,hx⟩,q⟩:=q;cases r with
 | cons rx rr=>
  cases rr;cases rx;have b1:=hb s1 [.ref a] I1.kIn (by rw [List.append_nil]; exact F.len.symm);rw [List.append_nil] at b1;have P1:=I1.pin (a,oe) (List.mem_append_left _ (.head _));have hpin:L2H.PinOk (X.suite a ((a,oe) ::pn)).stack H1 s1 (a,oe):=⟨P1.1,P1.2.1,fun hm=>(List.mem_cons.mp (I1.stkSub a hm)).elim P1.2.2.1 P1.2.2.2.1,P1.2.2.2.2⟩;have hr2:L2H.RoomH k (X.suite a ((a,oe) ::pn)).A:=⟨hr.dp,hr.un⟩;refine wpAny_call (codeAny_mono (F.run (X.suite a ((a,oe) ::pn)).A (X.suite a ((a,oe) ::pn)).stack s1 H1 ⟨[.ref a],[]⟩ [.ref a] Q (fun _ _ _=>False) a oe od e S Fp hr2 rfl hpin I1.env0 b1 rfl hz hf wk hx q) fun r s' hq=>?_)
  cases r with
  | error e=>exact False.elim (by first | exact hq | exact hq.elim | (obtain ⟨_,_,_,_,_,_,h⟩:=hq; exact h))
  | ok fl=>
   cases fl with
   | ret u=>exact I1.after hq
   | next=>exact False.elim hq
   | brk=>exact False.elim hq
   | cont=>exact False.elim hq
end VS
namespace VS
open PySem PySem.Spec PyProof.Rows L2
inductive NamesOf (X:Cx):List Expr→List Addr→Prop
 | nil:NamesOf X [] []
 | cons {c:Str} {p:Pos} {es:List Expr} {C:Addr} {Cs:List Addr} (h1:Gl X c) (h2:X.mg c=some (.ref C)) (h3:(c ==("__debug__":Str))=false) (h:NamesOf X es Cs):NamesOf X (.Name c p ::es) (C ::Cs)
noncomputable def tNm (Cs:List Addr):TA:=fun σ H Q=>Q (Cs.map V.ref) H
theorem Zje {X:Cx} {es:List Expr} {Cs:List Addr} (h:NamesOf X es Cs):PA X es (tNm Cs):=by
 induction h with
 | nil=>exact pa_nil.to fun σ H Q q=>q
 | cons h1 h2 h3 h ih=>exact (pa_cons (pe_glob (v:=.ref _) h1 h2 rfl h3) ih (Ze rfl _ _)).to fun σ H Q q=>q
theorem Zf2:∀ {Cs:List Addr} {us:List Value},Vals (Cs.map V.ref) us→us=Cs.map Value.ref
 | [],us,h=>by cases h; rfl
 | C ::Cs,us,h=>by
  cases h with
  | cons r rs=>
   cases r;rw [Zf2 rs]; rfl
theorem Zjf {X:Cx} {a C:Addr} {oe:Obj} {od:Option Addr} {pn:List (Addr×Obj)} {i:Nat} {y:Str} {px py p2 pos:Pos} {x1:Nat} {es:List Expr} {Cs:List Addr} {b:Bool} (exc:ExcC X.K C) (hz:Zc (.ref C) od oe) (hf:∃ vs,oe.data=.fields vs)
  (hv:PE (X.suite a ((a,oe) ::pn)) (.Name y py) (tVar i)) (hg:Gl X "isinstance") (hm:X.mg "isinstance"=none) (hn:NamesOf (X.suite a ((a,oe) ::pn)) es Cs) (hk:PySem.W.kitAny X.K (.ref C) (Cs.map Value.ref)=some b) (hl:Cs.length≤1000):
  PE (X.suite a ((a,oe) ::pn)) (.Call (.Name "isinstance" px) [.Name y py,.Tuple es x1 p2] [] pos) (fun σ H Q=>σ[i]?=some (some (.ref a))∧Zaw H od∧Q (.bl b) H):=by
 refine ⟨fun pins s σ H Q I ⟨h0,hd,hq⟩=>?_⟩
 refine wpAny_Call_Name_kw (ld_blt I hg hm boot_isinstance ?_ (by decide) (by decide))
 refine PyProof.Rows.callWith_builtin1 (PyProof.Rows.args_cons (thn (hv.run pins s σ H (fun v H1=>v=.ref a∧H1=H) I ⟨.ref a,h0,rfl,rfl⟩) fun u s1 ⟨v,H1,I1,r1,q1⟩=>?_) (Ze rfl _ _)) (Ze rfl _ _) (ZQ rfl _ _)
 obtain ⟨rfl,rfl⟩:=q1;cases r1;refine PyProof.Rows.args_cons (wpAny_Tuple_spliced (thn ((Zje hn).run p2 pins s1 σ H1 (fun vs H2=>vs=Cs.map V.ref∧H2=H1) I1 ⟨rfl,rfl⟩) fun us s2 ⟨vs,H2,I2,r2,q2⟩=>?_)) (Ze rfl _ _)
 obtain ⟨rfl,rfl⟩:=q2;have e2:=Zf2 r2;subst e2;refine ⟨?_,PyProof.Rows.args_nil ?_⟩
 ·rw [List.length_map]; exact Nat.le_trans hl (by decide)
 ·have I3:Inv (X.suite a ((a,oe) ::pn)) pins σ H2 { s2 with heap:=s2.heap.push { cls:=.type "tuple",data:=.seq (Cs.map Value.ref).toArray } }:=I2.kept (t':=s2.toks) fun b o e=>Heap.get?_push_of_some _ e
  obtain ⟨hget,_⟩:=I3.pin (a,oe) (List.mem_append.mpr (.inl (.head _)));obtain ⟨odb,J⟩:=Zdn I3 hget hz hf hd;exact PySem.W.kia_tup (Zdm exc) I3.kIn J (Heap.get?_push_size _ rfl) hk (fun z=>nomatch z) fun tk=>⟨.bl b,H2,I3.kept (t':=tk) fun _ _ z=>z,rfl,hq⟩
end VS
namespace VS
open PySem PySem.Spec PyProof.Rows L2
theorem PS.noxx {X:Cx} {st:Stmt} {t:TS} (h:PS X.nox st t):PS X st t:=⟨fun pins s σ H Dn I hw=>by
 refine wpAny_mono (h.run pins s σ H Dn (I.wish _) hw) (fun _ _ q=>q.unwish) fun _ _ z=>?_
 exact False.elim z⟩
section
variable {ct:Str→Option Addr} {G:GamX} {N:List Str} {k:Nat} {sc:Scope} {io:List Nat}
noncomputable def nσ (a:Addr) (j:Option Nat) (σ:L2.St):Prop:=match j with
 | none=>True
 | some i=>σ[i]?=some (some (.ref a))
theorem Zjg {X:Cx} {d d':D} {e:Expr} (h:ZdQ d e=true) (hd:hE G.xi c (.c d)=some d'):∃ v,Sc d' v∧PE X e (tC v):=by
 cases d with
 | non=>cases e with
  | Constant k a p=>cases k with
   | none=>cases hd; exact ⟨.non,rfl,pe_non⟩
   | _=>exact no h
  | _=>exact no h
 | bl b=>cases e with
  | Constant k a p=>cases k with
   | bool b'=>cases of_decide_eq_true (show decide (b=b')=true from h); cases hd; exact ⟨.bl b,rfl,pe_bl⟩
   | _=>exact no h
  | _=>exact no h
 | int i=>cases e with
  | Constant k a p=>cases k with
   | int b'=>cases of_decide_eq_true (show decide (i=b')=true from h); cases hd; exact ⟨.int i,rfl,pe_int⟩
   | _=>exact no h
  | _=>exact no h
 | str i=>cases e with
  | Constant k a p=>cases k with
   | str b'=>cases of_decide_eq_true (show decide (i=b')=true from h); cases hd; exact ⟨.str i,rfl,pe_str⟩
   | _=>exact no h
  | _=>exact no h
 | tup ds=>cases hd
 | lst m ds=>cases hd
 | err c ks ds=>cases hd
 | dic m ks ds=>cases hd
 | obj m c ks ds=>cases hd
theorem State.killU {S H:Hp} {F R:FP} {ρ:Rho} {σ:L2.St} {i:Nat} {u:Option V} (st:State ct S H F R ρ σ):State ct S H F R (ρ.set i .dead) (σ.set i u):=by
 obtain ⟨fs,h1,h2,h3⟩:=st.fs;refine ⟨st.w,st.dj,by rw [List.length_set,List.length_set]; exact st.len,fs,h1,h2,fun k s es=>?_⟩
 by_cases hk:i=k
 ·subst hk
  by_cases hl:i < ρ.length
  ·rw [List.getElem?_set_self hl] at es
   cases es;trivial
  ·rw [List.getElem?_eq_none (by rw [List.length_set]; omega)] at es
   cases es
 ·rw [List.getElem?_set_ne hk] at es
  have q:=h3 k s es;cases s with
  | dead=>trivial
  | own d=>obtain ⟨v,e1,q⟩:=q; exact ⟨v,by rw [List.getElem?_set_ne hk]; exact e1,q⟩
  | vw d=>obtain ⟨v,e1,q⟩:=q; exact ⟨v,by rw [List.getElem?_set_ne hk]; exact e1,q⟩
end
end VS
namespace VS
open PySem PySem.Spec PyProof.Rows L2
structure EXY (ct:Str→Option Addr) (G:GamY) (k:Nat) (P:Program) (w:World) (K:PySem.W.Frag) (mg:Str→Option Value) (base:Heap):Prop where
 fx : ∀ x fn,G.fx x=some fn→∃ f fd ps,FnOk P w K mg base (L2.CX P w) k f fd ps (spY ct fn)∧mg x=some (.ref f)∧PySem.W.keepIn K (.ref f)=true∧Binds K fd ps []
 mx : ∀ c m fn,G.mx c m=some fn→∃ C f fd ps,ct c=some C∧Cls K C∧Meth K C m f∧FnOk P w K mg base (L2.CX P w) k f fd ps (spY ct fn)∧Binds K fd ps []
 kx : ∀ c fn,G.kx c=some fn→∃ C f fd ps,ct c=some C∧mg c=some (.ref C)∧Mk K C f∧FnOk P w K mg base (L2.CX P w) k f fd ps (spY ct fn)∧Binds K fd ps []∧∃ ms,fn.md=.io ::ms
 xc : ∀ c,G.xc c=true→∃ C,ct c=some C∧mg c=some (.ref C)∧PySem.W.excIn K C [.type "ValueError",.type "Exception",.type "BaseException",.type "object"] "ValueError.__new__"=true∧PySem.W.keepIn K (.ref C)=true∧PySem.W.subIn K (.ref C) (.type "BaseException")=some true∧PySem.W.typeIn K (.ref C)=some (.type "type")
 xm : ∀ c' c b,G.xm c' c=some b→∃ C' C,ct c'=some C'∧mg c=some (.ref C)∧PySem.W.exmOne K (.ref C') (.ref C)=some b
 xi : ∀ c' c b,ZI c=false→G.xi c' c=some b→∃ C',ct c'=some C'∧ExcC K C'∧((∃ C,mg c=some (.ref C)∧PySem.W.kitOne K (.ref C') (.ref C)=some b)∨(c= "ValueError"∧mg c=none∧PySem.W.kitOne K (.ref C') (.type "ValueError")=some b))
 xh : ∀ c,G.xh c=true→∃ C,mg c=some (.ref C)
 xp : ∀ c f,G.xp c=some f→∃ C fI fd ps k0,ct c=some C∧mg c=some (.ref C)∧OexC K C∧PySem.W.findIn K (.ref C) "__init__"=some (some (.ref fI))∧PySem.W.typeIn K (.ref fI)=some (.type "function")∧FnOk P w K mg base CX0 k0 fI fd ps (Zbm C f)∧k0≤k∧Binds K fd ps []
 xf : ∀ c f,G.xf c f=true→∃ C,ct c=some C∧XfC K C∧PySem.W.findIn K (.ref C) f=some none
 xg : ∀ c' g b,G.xi c' (Zay g)=some b→∃ C' f fd ps,ct c'=some C'∧FnE ct P w K mg base k f fd ps C' (.bl b)∧mg g=some (.ref f)∧PySem.W.keepIn K (.ref f)=true∧Binds K fd ps []
 xs : ∀ c' g d,G.xi c' (Zak g d)=some true→∃ C' f fd ps,ct c'=some C'∧FnE ct P w K mg base k f fd ps C' (.str d)∧mg g=some (.ref f)∧PySem.W.keepIn K (.ref f)=true∧Binds K fd ps []
structure CSY (ct:Str→Option Addr) (G:GamY) (N:List Str) (k:Nat) (sc:Scope) (X:Cx):Prop where
 cg : CG ct G.g N k sc X
 fnc : ∀ x,X.fn x=true
 kd : sc.kind=.function
 hs : X.stack=X.env ::X.outer
 hf : X.env.frame=some X.env.locals
 po : PassesOwn (model X.prog X.w) X.A X.env X.xe
 ex : EXY ct G k X.prog X.w X.K X.mg X.base
section
variable {ct:Str→Option Addr} {G:GamY} {N:List Str} {k:Nat} {sc:Scope} {io:List Nat}
theorem CSY.cs {X:Cx} (c:CSY ct G N k sc X):CS ct G.g N k sc X.nox:=⟨⟨c.cg.calm,c.cg.nm,c.cg.nd,c.cg.scp,c.cg.room,c.cg.fn,c.cg.me,c.cg.mak,c.cg.gl,c.cg.fr,c.cg.fd,c.cg.dn,c.cg.gd,c.cg.er⟩,c.fnc,c.kd,rfl⟩
theorem CSY.tr {X:Cx} (c:CSY ct G N k sc X) {pn:List (Addr×Obj)} {xe:Value→Shared→Prop} (po:PassesOwn (model X.prog X.w) X.A X.env xe):CSY ct G N k sc (X.tr pn xe):=
 ⟨⟨c.cg.calm,c.cg.nm,c.cg.nd,c.cg.scp,c.cg.room,c.cg.fn,c.cg.me,c.cg.mak,c.cg.gl,c.cg.fr,c.cg.fd,c.cg.dn,c.cg.gd,c.cg.er⟩,c.fnc,c.kd,c.hs,c.hf,po,c.ex⟩
theorem CSY.pat {X:Cx} (c:CSY ct G N k sc X) {p:Pat} {e:Expr} (h:okP N sc p e=true):PG X e (gP X.K p):=
 ZbR c.cg.nm c.cg.nd (fun x e=>by rw [c.cg.scp]; exact e) c.cg.calm (fun x e=>⟨by rw [c.cg.scp]; exact e,c.fnc x⟩) h
structure Caught (ct:Str→Option Addr) (a:Addr) (j:Option Nat) (cls:Value) (od:Option Addr) (c:Str) (e:Zl) (σ:L2.St) (S H:Hp):Prop where
 cl : ∃ C,cls=.ref C∧ct c=some C
 sl : nσ a j σ
 xd : XD ct S H e od
noncomputable def tHP (ct:Str→Option Addr) (a:Addr) (j:Option Nat) (cls:Value) (od:Option Addr) (h:Str→Zl→Rho→Option D):TE:=fun σ H Q=>∃ c e ρ S F R d,State ct S H F R ρ σ∧Caught ct a j cls od c e σ S H∧h c e ρ=some d∧∀ v,Rep ct S H d v No→Q v H
theorem ZdV {S H:Hp} {F:FP} {d:D} {v:V} (h:ZJ d=true) (r:Rep ct S H d v F):Sc d v:=by
 cases d<;>first | exact r | cases h
theorem Zjh {H:Hp} {F:FP} {d:D} {v:V} (h:ZJ d=true) (r:Vw ct H F d v):Sc d v:=by
 cases d<;>first | exact r | cases h
theorem Zam {H:Hp} {S:Hp} {F:FP} {d:D} {v:V} (h:WOk S H F) (r:Rep ct S H d v No):Vw ct H No d v:=Rep.vw h.sub (fun _ z=>z.elim) (fun _ z _=>z) r
variable {a:Addr} {oe:Obj} {cls:Value} {od:Option Addr} {pn:List (Addr×Obj)} {n:Option Str} {j:Option Nat}
noncomputable abbrev hPG (G:GamY) (p:HP):Str→Zl→Rho→Option D:=fun c e ρ=>hP G.xi G.xf c e p ρ
theorem Zji {f:Str} {e:Expr} (h:Zb G N sc n (.fld f) e=true):∃ y py p,e=.Attribute (.Name y py) f p∧(decide (n=some y) && vis sc y && okN y)=true:=by
 obtain ⟨q,hq,h⟩:=Zd (o:=dAt e) h;obtain ⟨h1,h2⟩:=Za h;cases of_decide_eq_true h1;obtain ⟨p,p2,rfl⟩:=ZhM hq;exact ⟨_,_,_,rfl,h2⟩
theorem Zjj {c:Str} {e:Expr} (h:Zb G N sc n (.isi c) e=true):∃ x p y py pz pos,e=.Call (.Name x p) [.Name y py,.Name c pz] [] pos∧(decide (x= "isinstance") && glo sc x && G.g.fr x && decide (n=some y) && vis sc y && okN y && glo sc c && okN c && !ZI c)=true:=by
 obtain ⟨q,hq,h⟩:=Zd (o:=dC2 e) h;obtain ⟨y,hy,h⟩:=Zd (o:=Zv q.2.1) h;obtain ⟨z,hz,h⟩:=Zd (o:=Zv q.2.2) h;obtain ⟨h1,h2⟩:=Za h;cases of_decide_eq_true h1;obtain ⟨p,p2,rfl⟩:=Ze6 hq;obtain ⟨p3,e3⟩:=Zah hy;obtain ⟨p4,e4⟩:=Zah hz;rw [e3,e4];exact ⟨_,_,_,_,_,_,rfl,h2⟩
theorem Zjk {cs:List Str} {e:Expr} (h:Zb G N sc n (.isiT cs) e=true):∃ p y py es x1 p2 pos,e=.Call (.Name "isinstance" p) [.Name y py,.Tuple es x1 p2] [] pos∧(glo sc "isinstance" && G.g.fr "isinstance" && decide (n=some y) && vis sc y && okN y && decide (cs.length≤1000) && decide (cs≠[]) && Zal G sc cs es)=true:=by
 obtain ⟨q,hq,h⟩:=Zd (o:=dC2 e) h;obtain ⟨y,hy,h⟩:=Zd (o:=Zv q.2.1) h;obtain ⟨es,hz,h⟩:=Zd (o:=dTp q.2.2) h;obtain ⟨h1,h2⟩:=Za h;obtain ⟨p,p2,rfl⟩:=Ze6 hq;obtain ⟨p3,e3⟩:=Zah hy;obtain ⟨k4,p4,e4⟩:=Zbg hz;rw [e3,e4,of_decide_eq_true h1];exact ⟨_,_,_,_,_,_,_,rfl,h2⟩
theorem Zf3 {X:Cx} (cx:CSY ct G N k sc X) {c:Str} {C:Addr} (hC:ct c=some C):∀ (cs:List Str) {es:List Expr} {b:Bool},Zal G sc cs es=true→ZbA G.xi c cs=some b→
  ∃ Cs,NamesOf (X.suite a ((a,oe) ::pn)) es Cs∧Cs.length=cs.length∧PySem.W.kitAny X.K (.ref C) (Cs.map Value.ref)=some b∧(cs≠[]→ExcC X.K C)
 | [],es,b,h,hb=>by
  cases es with
  | nil=>cases hb; exact ⟨[],.nil,rfl,rfl,fun z=>absurd rfl z⟩
  | cons _ _=>exact no h
 | c2 ::cs,es,b,h,hb=>by
  have inv:∃ p es',es=.Name c2 p ::es'∧(glo sc c2 && okN c2 && !ZI c2 && G.xh c2 && !decide (c2= "ValueError") && Zal G sc cs es')=true:=by
   unfold Zal at h;split at h<;>try contradiction
   rename_i q;cases q;obtain ⟨q,h7⟩:=Za h;obtain ⟨q,h6⟩:=Za q;obtain ⟨q,h5⟩:=Za q;obtain ⟨q,h4⟩:=Za q;obtain ⟨q,h3⟩:=Za q;obtain ⟨q,h2⟩:=Za q;cases of_decide_eq_true q;exact ⟨_,_,rfl,by rw [h2,h3,h4,h5,h6,h7]; rfl⟩
  obtain ⟨p,es',rfl,q⟩:=inv;clear h;obtain ⟨q,h6⟩:=Za q;obtain ⟨q,h5⟩:=Za q;obtain ⟨q,h4⟩:=Za q;obtain ⟨q,h3⟩:=Za q;obtain ⟨h1,h2⟩:=Za q;have hnc:ZI c2=false:=by cases hh:ZI c2 with | false=>rfl | true=>rw [hh] at h3; cases h3
  have hnv:c2≠ "ValueError":=fun e=>by rw [decide_eq_true e] at h5; cases h5
  unfold ZbA at hb;have one:∀ v,G.xi c c2=some v→∃ C2,X.mg c2=some (.ref C2)∧PySem.W.kitOne X.K (.ref C) (.ref C2)=some v∧ExcC X.K C:=fun v hv=>by
   obtain ⟨C',hC',exc,hm⟩:=cx.ex.xi c c2 v hnc hv;rw [hC] at hC'; cases hC';rcases hm with ⟨C2,hm,hk⟩ | ⟨e,_⟩
   ·exact ⟨C2,hm,hk,exc⟩
   ·exact absurd e hnv
  have rest:∀ (cs:List Str) {es:List Expr},Zal G sc cs es=true→∃ Cs,NamesOf (X.suite a ((a,oe) ::pn)) es Cs∧Cs.length=cs.length:=fun cs=>by
   induction cs with
   | nil=>intro es h; cases es with
    | nil=>exact ⟨[],.nil,rfl⟩
    | cons _ _=>exact no h
   | cons c3 cs ih=>
    intro es h;unfold Zal at h;split at h<;>try contradiction
    rename_i q;cases q;obtain ⟨q,h7⟩:=Za h;obtain ⟨q,h6⟩:=Za q;obtain ⟨q,h5⟩:=Za q;obtain ⟨q,h4⟩:=Za q;obtain ⟨q,h3⟩:=Za q;obtain ⟨q,h2⟩:=Za q;cases of_decide_eq_true q;obtain ⟨C3,hm⟩:=cx.ex.xh _ h5;obtain ⟨Cs,hn,hl⟩:=ih h7;exact ⟨C3 ::Cs,.cons (Zj cx.cg h2) hm (Zk h3).1 hn,by rw [List.length_cons,List.length_cons,hl]⟩
  cases hv:G.xi c c2 with
  | none=>rw [hv] at hb; cases hb
  | some v=>
   rw [hv] at hb;obtain ⟨C2,hm,hk,exc⟩:=one v hv;cases v with
   | true=>
    cases hb;obtain ⟨Cs,hn,hl⟩:=rest cs h6;refine ⟨C2 ::Cs,.cons (Zj cx.cg h1) hm (Zk h2).1 hn,by rw [List.length_cons,List.length_cons,hl],?_,fun _=>exc⟩
    rw [List.map_cons];unfold PySem.W.kitAny;rw [hk]
   | false=>
    obtain ⟨Cs,hn,hl,hka,_⟩:=Zf3 cx hC cs h6 hb;refine ⟨C2 ::Cs,.cons (Zj cx.cg h1) hm (Zk h2).1 hn,by rw [List.length_cons,List.length_cons,hl],?_,fun _=>exc⟩
    rw [List.map_cons];unfold PySem.W.kitAny;rw [hk];exact hka
theorem Zjl {g:Str} {e:Expr} (h:Zb G N sc n (.call g) e=true):∃ p y py pos,e=.Call (.Name g p) [.Name y py] [] pos∧(glo sc g && okN g && decide (n=some y) && vis sc y && okN y)=true:=by
 obtain ⟨q,hq,h⟩:=Zd (o:=dFy e) h;obtain ⟨h1,h2⟩:=Za h;obtain ⟨p,p2,pos,rfl⟩:=Ze5 hq;rw [of_decide_eq_true h1];exact ⟨_,_,_,_,rfl,h2⟩
theorem Zjm {g:Str} {ds:List Str} {e:Expr} (h:Zb G N sc n (.callS g ds) e=true):∃ p y py pos,e=.Call (.Name g p) [.Name y py] [] pos∧(glo sc g && okN g && decide (n=some y) && vis sc y && okN y)=true:=by
 obtain ⟨q,hq,h⟩:=Zd (o:=dFy e) h;obtain ⟨h1,h2⟩:=Za h;obtain ⟨p,p2,pos,rfl⟩:=Ze5 hq;rw [of_decide_eq_true h1];exact ⟨_,_,_,_,rfl,h2⟩
theorem Zjn {i:Nat} {e:Expr} (h:Zb G N sc n (.v i) e=true):∃ x p,e=.Name x p∧(decide (N[i]?=some x) && vis sc x && okN x)=true:=by
 obtain ⟨q,hq,h⟩:=Zd (o:=Zv e) h;obtain ⟨p,rfl⟩:=Zah hq;exact ⟨_,_,rfl,h⟩
theorem Zjo {p q:HP} {e:Expr} (h:Zb G N sc n (.conj p q) e=true):∃ a b pos,e=.BoolOp .And [a,b] pos∧Zb G N sc n p a=true∧Zb G N sc n q b=true:=by
 obtain ⟨r,hr,h⟩:=Zd (o:=Zbi e) h;obtain ⟨p,rfl⟩:=Ze9 hr;exact ⟨_,_,_,rfl,Za h⟩
theorem Zjp {p q:HP} {e:Expr} (h:Zb G N sc n (.disj p q) e=true):(∃ a b pos,e=.BoolOp .Or [a,b] pos∧Zb G N sc n p a=true∧Zb G N sc n q b=true)∨∃ a b c es pos,e=.BoolOp .Or (a ::b ::c ::es) pos∧Zb G N sc n p a=true∧Zb G N sc n q (.BoolOp .Or (b ::c ::es) pos)=true:=by
 obtain ⟨⟨r1,r2⟩,hr,h⟩:=Zd (o:=Zbh e) h;rcases Ze8 hr with ⟨p,rfl⟩ | ⟨b,c,es,p,rfl,e2⟩
 ·exact .inl ⟨_,_,_,rfl,Za h⟩
 ·cases e2
  exact .inr ⟨_,_,_,_,_,rfl,Za h⟩
theorem Zjq {p:HP} {e:Expr} (h:Zb G N sc n (.not p) e=true):∃ a pos,e=.UnaryOp .Not a pos∧Zb G N sc n p a=true:=by
 obtain ⟨q,hq,h⟩:=Zd (o:=ZO e) h;obtain ⟨p,rfl⟩:=Zb3 hq;exact ⟨_,_,rfl,h⟩
theorem Zjr {p:HP} {e:Expr} (h:Zb G N sc n (.str p) e=true):∃ x px a pos,e=.Call (.Name x px) [a] [] pos∧(decide (x= "str") && glo sc x && G.g.fr x && nst a && Zb G N sc n p a)=true:=by
 obtain ⟨⟨x,a⟩,hq,h⟩:=Zd (o:=dC1 e) h;obtain ⟨p,p2,rfl⟩:=Zb5 hq;exact ⟨_,_,_,_,rfl,h⟩
theorem Zjs {p:HP} {e:Expr} (h:Zb G N sc n (.int p) e=true):∃ x px a pos,e=.Call (.Name x px) [a] [] pos∧(decide (x= "int") && glo sc x && G.g.fr x && nst a && Zb G N sc n p a)=true:=by
 obtain ⟨⟨x,a⟩,hq,h⟩:=Zd (o:=dC1 e) h;obtain ⟨p,p2,rfl⟩:=Zb5 hq;exact ⟨_,_,_,_,rfl,h⟩
theorem Zjt {k:BK} {p q:HP} {e:Expr} (h:Zb G N sc n (.bin k p q) e=true):∃ a b pos,e=.BinOp a (opr k) b pos∧Zb G N sc n p a=true∧Zb G N sc n q b=true:=by
 obtain ⟨⟨a,op,b⟩,hq,h⟩:=Zd (o:=ZaN e) h;obtain ⟨h1,h2⟩:=Za h;cases of_decide_eq_true h1;obtain ⟨p,rfl⟩:=Ze4 hq;exact ⟨_,_,_,rfl,Za h2⟩
theorem Zf4 {k:CK} {p q:HP} {e:Expr} (h:Zb G N sc n (.cmp k p q) e=true):∃ a b pos,e=.Compare a [cop k] [b] pos∧behindInMarks (cop k) b=false∧Zb G N sc n p a=true∧Zb G N sc n q b=true:=by
 obtain ⟨⟨a,op,b⟩,hq,h⟩:=Zd (o:=Zdg e) h;obtain ⟨h1,h2⟩:=Za h;obtain ⟨h2,h3⟩:=Za h2;cases of_decide_eq_true h1;obtain ⟨p,rfl⟩:=ZhQ hq;exact ⟨_,_,_,rfl,by simpa using h2,Za h3⟩
theorem ZaB {X:Cx} (cx:CSY ct G N k sc X) (hn:∀ y,n=some y→∃ i,j=some i∧N[i]?=some y) (hz:Zc cls od oe) (hf:∃ vs,oe.data=.fields vs):
  ∀ (p:HP) {e':Expr},Zb G N sc n p e'=true→PE (X.suite a ((a,oe) ::pn)) e' (tHP ct a j cls od (hPG G p)):=by
 have gl:∀ {x:Str},glo sc x=true→Gl (X.suite a ((a,oe) ::pn)) x:=fun h=>Zj cx.cg h
 have var:∀ {i:Nat} {x:Str} {pos:Pos},N[i]?=some x→vis sc x=true→okN x=true→PE (X.suite a ((a,oe) ::pn)) (.Name x pos) (tVar i):=fun h1 h2 h3=>
  pe_var (by show X.N[_]?=_; rw [cx.cg.nm]; exact h1) (by show Vis X.env.scope _; rw [cx.cg.scp]; exact ZaQ h2) (Zk h3).1 (Zk h3).2.1
 intro p;induction p with
 | c d=>
  intro e' h;cases hd:ZJ d with
  | false=>
   refine ⟨fun pins s σ H Q I ⟨c,e,ρ,S,F,R,d',st,ca,hh,k⟩=>?_⟩
   have hh:(if ZJ d=true then some d else none)=some d':=hh;rw [hd,if_neg (by decide)] at hh;cases hh
  | true=>
   have hE':hE (fun _ _=>none) "" (.c d)=some d:=by cases d<;>first | rfl | cases hd
   have h0:ZdQ d e'=true:=h;obtain ⟨v,hv,he⟩:=Zjg (G:=⟨gamE,fun _=>none,fun _=>false,fun _ _=>none,fun _ _=>none,fun _=>false,fun _=>false⟩) (c:= "") (X:=X.suite a ((a,oe) ::pn)) h0 hE';refine he.to fun σ H Q ⟨c,e,ρ,S,F,R,d',st,ca,hh,k⟩=>?_
   have hh:(if ZJ d=true then some d else none)=some d':=hh;rw [if_pos hd] at hh;cases hh;exact k v (Sc.rep hv)
 | v i=>
  intro e' h;have h1:=Zjn h; clear h;obtain ⟨x,px,rfl,h⟩:=h1;obtain ⟨h,h3⟩:=Za h;obtain ⟨h1,h2⟩:=Za h;refine (var (of_decide_eq_true h1) h2 h3).to fun σ H Q ⟨c,e,ρ,S,F,R,d',st,ca,hh,k⟩=>?_
  have hh:(match ρ[i]? with | some (.own d)=>if noOwn d=true then some d else none | some (.vw d)=>if ZJ d=true then some d else none | _=>none)=some d':=hh;cases hs:ρ[i]? with
  | none=>rw [hs] at hh; cases hh
  | some sl=>
   rw [hs] at hh;obtain ⟨Fi,si,hsl⟩:=st.slot hs;cases sl with
   | dead=>cases hh
   | own d=>
    dsimp only at hh;split at hh
    ·rename_i hd
     cases hh;obtain ⟨v,e1,q⟩:=hsl;exact ⟨v,e1,k v (Rep.noown hd q)⟩
    ·cases hh
   | vw d=>
    dsimp only at hh;split at hh
    ·rename_i hd
     cases hh;obtain ⟨v,e1,q⟩:=hsl;exact ⟨v,e1,k v (Sc.rep (Zjh hd q))⟩
    ·cases hh
 | fld f=>
  intro e' h;obtain ⟨y,py,pos,ee,q⟩:=Zji h;clear h;subst ee;obtain ⟨q,h3⟩:=Za q;obtain ⟨h1,h2⟩:=Za q;obtain ⟨i,rfl,hi⟩:=hn y (of_decide_eq_true h1);refine ⟨fun pins s σ H Q I ⟨c,e,ρ,S,F,R,d',st,ca,hh,kk⟩=>?_⟩
  cases e with
  | none=>cases hh
  | some q=>
   obtain ⟨f',d⟩:=q;have hh:(if f'=f∧G.xf c f=true then some d else none)=some d':=hh;split at hh
   ·rename_i hc
    cases hh;obtain ⟨rfl,hx⟩:=hc;obtain ⟨C,rfl,hC⟩:=ca.cl;obtain ⟨C',hC',T,hno⟩:=cx.ex.xf c f' hx;rw [hC] at hC'; cases hC';obtain ⟨dx,v,rfl,hS,_,rep⟩:=ca.xd;exact (pe_xf (X:=X) (pos:=pos) T hno hz hf (var hi h2 h3)).run pins s σ H Q I ⟨.ref a,ca.sl,rfl,rfl,dx,_,v,rfl,st.w.sub _ _ hS,by rw [List.lookup_cons]; simp,kk v rep⟩
   ·cases hh
 | isi c2=>
  intro e' h;obtain ⟨x,px,y,py,pz,pos,ee,q⟩:=Zjj h;clear h;subst ee;obtain ⟨q,h9⟩:=Za q;obtain ⟨q,h8⟩:=Za q;obtain ⟨q,h7⟩:=Za q;obtain ⟨q,h6⟩:=Za q;obtain ⟨q,h5⟩:=Za q;obtain ⟨q,h4⟩:=Za q;obtain ⟨q,h3⟩:=Za q;obtain ⟨h1,h2⟩:=Za q;cases of_decide_eq_true h1;obtain ⟨i,rfl,hi⟩:=hn y (of_decide_eq_true h4);refine ⟨fun pins s σ H Q I ⟨c,e,ρ,S,F,R,d',st,ca,hh,kk⟩=>?_⟩
  obtain ⟨b,hb,rfl⟩:=Option.map_eq_some_iff.mp (show (G.xi c c2).map D.bl=some d' from hh);obtain ⟨C,rfl,hC⟩:=ca.cl;obtain ⟨C',hC',exc,hm⟩:=cx.ex.xi c c2 b (by cases hh2:ZI c2 with | false=>rfl | true=>rw [hh2] at h9; cases h9) hb;rw [hC] at hC'; cases hC';have hdx:Zaw H od:=by
   have:=ca.xd
   cases e with
   | none=>exact .inl this
   | some q=>obtain ⟨dx,v,e1,hS,_,_⟩:=this; exact .inr ⟨dx,_,e1,st.w.sub _ _ hS⟩
  rcases hm with ⟨C2,hm,hk⟩ | ⟨rfl,hm,hk⟩
  ·have hz2:PE (X.suite a ((a,oe) ::pn)) (.Name c2 pz) (tC (.ref C2)):=pe_glob (v:=.ref C2) (gl h7) hm rfl (Zk h8).1
   exact ((pe_callB (ZfH exc hz hf) (gl h2) (cx.cg.fr _ h3) boot_isinstance (pa_cons (var hi h5 h6) (pa_cons hz2 pa_nil (Ze rfl _ _)) (Ze rfl _ _)) (by decide) (by decide) (Ze rfl _ _) rfl)).run pins s σ H Q I ⟨.ref a,ca.sl,.ref C2,.ref C2,b,hdx,rfl,fun u r=>r,hk,kk _ rfl⟩
  ·have hz2:PE (X.suite a ((a,oe) ::pn)) (.Name "ValueError" pz) (tC (.ty "ValueError")):=pe_bltn (gl h7) hm (u:=.type "ValueError") (by decide +kernel) rfl (by decide) (by decide)
   exact ((pe_callB (ZfH exc hz hf) (gl h2) (cx.cg.fr _ h3) boot_isinstance (pa_cons (var hi h5 h6) (pa_cons hz2 pa_nil (Ze rfl _ _)) (Ze rfl _ _)) (by decide) (by decide) (Ze rfl _ _) rfl)).run pins s σ H Q I ⟨.ref a,ca.sl,.ty "ValueError",.type "ValueError",b,hdx,rfl,fun u r=>r,hk,kk _ rfl⟩
 | conj p q ihp ihq=>
  intro e' h;have h0:=Zjo h; clear h;obtain ⟨e1,e2,pos,rfl,h1,h2⟩:=h0;refine (pe_and (ihp h1) (pe_one (ihq h2))).to fun σ H Q ⟨c,e,ρ,S,F,R,d,st,ca,hh,k⟩=>?_
  obtain ⟨x,hx,hh⟩:=bind_some (show (hP G.xi G.xf c e p ρ).bind _=some d from hh);refine ⟨c,e,ρ,S,F,R,x,st,ca,hx,fun v r=>?_⟩
  split at hh
  ·exact ⟨true,r,by rw [if_pos rfl]; exact ⟨c,e,ρ,S,F,R,d,st,ca,hh,k⟩⟩
  ·cases hh
   exact ⟨false,r,by rw [if_neg (by decide)]; exact k _ rfl⟩
  ·cases hh
 | disj p q ihp ihq=>
  intro e' h;have fin:∀ σ H Q,tHP ct a j cls od (hPG G (.disj p q)) σ H Q→tOrV (tHP ct a j cls od (hPG G p)) (tHP ct a j cls od (hPG G q)) σ H Q:=fun σ H Q ⟨c,e,ρ,S,F,R,d,st,ca,hh,k⟩=>by
   obtain ⟨x,hx,hh⟩:=bind_some (show (hP G.xi G.xf c e p ρ).bind _=some d from hh);refine ⟨c,e,ρ,S,F,R,x,st,ca,hx,fun v r=>?_⟩
   split at hh
   ·exact ⟨false,r,by rw [if_neg (by decide)]; exact ⟨c,e,ρ,S,F,R,d,st,ca,hh,k⟩⟩
   ·cases hh
    exact ⟨true,r,by rw [if_pos rfl]; exact k _ rfl⟩
   ·cases hh
  rcases Zjp h with ⟨e1,e2,pos,rfl,h1,h2⟩ | ⟨e1,e2,e3,es,pos,rfl,h1,h2⟩
  ·exact (pe_or (ihp h1) (pe_one (ihq h2))).to fin
  ·exact (pe_or (ihp h1) (ihq h2)).to fin
 | not p ih=>
  intro e' h;have h0:=Zjq h; clear h;obtain ⟨e1,pos,rfl,h1⟩:=h0;refine (pe_not (ih h1)).to fun σ H Q ⟨c,e,ρ,S,F,R,d,st,ca,hh,k⟩=>?_
  obtain ⟨x,hx,hh⟩:=bind_some (show (hP G.xi G.xf c e p ρ).bind _=some d from hh);refine ⟨c,e,ρ,S,F,R,x,st,ca,hx,fun v r=>?_⟩
  split at hh
  ·rename_i b
   cases hh;exact ⟨b,r,k _ rfl⟩
  ·cases hh
 | str p ih=>
  intro e' h;have h1:=Zjr h; clear h;obtain ⟨x,px,e1,pos,rfl,h⟩:=h1;obtain ⟨h,h5⟩:=Za h;obtain ⟨h,h4⟩:=Za h;obtain ⟨h,h3⟩:=Za h;obtain ⟨h1,h2⟩:=Za h;have e0:=of_decide_eq_true h1;subst e0;have hA:PA (X.suite a ((a,oe) ::pn)) [e1] (tCons (tHP ct a j cls od (hPG G p)) tNil):=pa_cons (ih h5) pa_nil (Ze h4 _ _);refine (pe_callTy (r:=rBi X.K .str) call_str_int (gl h2) (cx.cg.fr _ h3) (Zdc .str) hA (by decide) (by decide) (Ze h4 _ _) rfl).to fun σ H Q ⟨c,e,ρ,S,F,R,d,st,ca,hh,k⟩=>?_
  obtain ⟨y,hy,hh⟩:=bind_some (show (hP G.xi G.xf c e p ρ).bind _=some d from hh);exact ⟨c,e,ρ,S,F,R,y,st,ca,hy,fun v r=>Zb1 (K:=X.K) (ct:=ct) .str [y] d [v] H Q (show Vws ct H No [y] [v] from ⟨v,[],rfl,Zam st.w r,rfl⟩) hh fun u hu=>k u (Sc.rep hu)⟩
 | int p ih=>
  intro e' h;have h1:=Zjs h; clear h;obtain ⟨x,px,e1,pos,rfl,h⟩:=h1;obtain ⟨h,h5⟩:=Za h;obtain ⟨h,h4⟩:=Za h;obtain ⟨h,h3⟩:=Za h;obtain ⟨h1,h2⟩:=Za h;have e0:=of_decide_eq_true h1;subst e0;have hA:PA (X.suite a ((a,oe) ::pn)) [e1] (tCons (tHP ct a j cls od (hPG G p)) tNil):=pa_cons (ih h5) pa_nil (Ze h4 _ _);refine (pe_callTy (r:=rBi X.K .int) call_int1 (gl h2) (cx.cg.fr _ h3) (Zdc .int) hA (by decide) (by decide) (Ze h4 _ _) rfl).to fun σ H Q ⟨c,e,ρ,S,F,R,d,st,ca,hh,k⟩=>?_
  obtain ⟨y,hy,hh⟩:=bind_some (show (hP G.xi G.xf c e p ρ).bind _=some d from hh);exact ⟨c,e,ρ,S,F,R,y,st,ca,hy,fun v r=>Zb1 (K:=X.K) (ct:=ct) .int [y] d [v] H Q (show Vws ct H No [y] [v] from ⟨v,[],rfl,Zam st.w r,rfl⟩) hh fun u hu=>k u (Sc.rep hu)⟩
 | bin kk p q ihp ihq=>
  intro e' h;have h0:=Zjt h; clear h;obtain ⟨e1,e2,pos,rfl,h1,h2⟩:=h0;refine (pe_op (ZbT kk) (ihp h1) (ihq h2)).to fun σ H Q z=>?_
  obtain ⟨c,e,ρ,S,F,R,d,st,ca,hh,k⟩:=z;obtain ⟨x,hx,hh⟩:=bind_some (show (hP G.xi G.xf c e p ρ).bind _=some d from hh);obtain ⟨y,hy,hh⟩:=bind_some hh;exact ⟨c,e,ρ,S,F,R,x,st,ca,hx,fun v r=>⟨c,e,ρ,S,F,R,y,st,ca,hy,fun w r2=>ZbU (ct:=ct) kk _ _ _ _ _ _ _ (Zam st.w r) (Zam st.w r2) hh fun u hu=>k u (Sc.rep hu)⟩⟩
 | cmp kk p q ihp ihq=>
  intro e' h;have h0:=Zf4 h; clear h;obtain ⟨e1,e2,pos,rfl,hm,h1,h2⟩:=h0;refine (pe_cmpR (ZbV (show (X.suite a ((a,oe) ::pn)).A.units+65 < cLine from Zbq (X:=X) cx.cg) kk) (ihp h1) (ihq h2) hm).to fun σ H Q z=>?_
  obtain ⟨c,e,ρ,S,F,R,d,st,ca,hh,k⟩:=z;obtain ⟨x,hx,hh⟩:=bind_some (show (hP G.xi G.xf c e p ρ).bind _=some d from hh);obtain ⟨y,hy,hh⟩:=bind_some hh;exact ⟨c,e,ρ,S,F,R,x,st,ca,hx,fun v r=>⟨c,e,ρ,S,F,R,y,st,ca,hy,fun w r2=>ZbW (ct:=ct) kk _ _ _ _ _ _ _ (Zam st.w r) (Zam st.w r2) hh fun u hu=>k u (Sc.rep hu)⟩⟩
 | isiT cs=>
  intro e' h;obtain ⟨px,y,py,es,x1,p2,pos,ee,q⟩:=Zjk h;clear h;subst ee;obtain ⟨q,h8⟩:=Za q;obtain ⟨q,h7⟩:=Za q;obtain ⟨q,h6⟩:=Za q;obtain ⟨q,h5⟩:=Za q;obtain ⟨q,h4⟩:=Za q;obtain ⟨q,h3⟩:=Za q;obtain ⟨h1,h2⟩:=Za q;obtain ⟨i,rfl,hi⟩:=hn y (of_decide_eq_true h3);refine ⟨fun pins s σ H Q I ⟨c,e,ρ,S,F,R,d',st,ca,hh,kk⟩=>?_⟩
  obtain ⟨b,hb,rfl⟩:=Option.map_eq_some_iff.mp (show (ZbA G.xi c cs).map D.bl=some d' from hh);obtain ⟨C,rfl,hC⟩:=ca.cl;obtain ⟨Cs,hnm,hl,hka,hexc⟩:=Zf3 (a:=a) (oe:=oe) (pn:=pn) cx hC cs h8 hb;have hdx:Zaw H od:=by
   have:=ca.xd
   cases e with
   | none=>exact .inl this
   | some q=>obtain ⟨dx,v,e1,hS,_,_⟩:=this; exact .inr ⟨dx,_,e1,st.w.sub _ _ hS⟩
  exact (Zjf (X:=X) (pn:=pn) (i:=i) (pos:=pos) (px:=px) (p2:=p2) (x1:=x1) (hexc (of_decide_eq_true h7)) hz hf (var hi h4 h5) (gl h1) (cx.cg.fr _ h2) hnm hka (by rw [hl]; exact of_decide_eq_true h6)).run pins s σ H Q I ⟨ca.sl,hdx,kk _ rfl⟩
 | call g=>
  intro e' h;obtain ⟨px,y,py,pos,ee,q⟩:=Zjl h;clear h;subst ee;obtain ⟨q,h5⟩:=Za q;obtain ⟨q,h4⟩:=Za q;obtain ⟨q,h3⟩:=Za q;obtain ⟨h1,h2⟩:=Za q;obtain ⟨i,rfl,hi⟩:=hn y (of_decide_eq_true h3);refine ⟨fun pins s σ H Q I ⟨c,e,ρ,S,F,R,d',st,ca,hh,kk⟩=>?_⟩
  obtain ⟨b,hb,rfl⟩:=Option.map_eq_some_iff.mp (show (G.xi c (Zay g)).map D.bl=some d' from hh);obtain ⟨C,rfl,hC⟩:=ca.cl;obtain ⟨C',f,fd,ps,hC',Fe,hm,hkp,hbd⟩:=cx.ex.xg c g b hb;rw [hC] at hC'; cases hC';have hr:L2H.RoomH k X.A:=L2H.roomH_of (cx.cg.room.mono (Nat.le_succ k));exact (Zf1 (X:=X) (pn:=pn) (pos:=pos) (q:=px) Fe hr hz hf (gl h1) hm hkp hbd (pa_cons (var hi h4 h5) pa_nil (Ze rfl _ _)) (Zk h2).1 (Ze rfl _ _)).run pins s σ H Q I ⟨.ref a,ca.sl,rfl,⟨e,S,_,st.w,ca.xd⟩,fun v hv=>kk v (Sc.rep hv)⟩
 | callS g ds=>
  intro e' h;obtain ⟨px,y,py,pos,ee,q⟩:=Zjm h;clear h;subst ee;obtain ⟨q,h5⟩:=Za q;obtain ⟨q,h4⟩:=Za q;obtain ⟨q,h3⟩:=Za q;obtain ⟨h1,h2⟩:=Za q;obtain ⟨i,rfl,hi⟩:=hn y (of_decide_eq_true h3);refine ⟨fun pins s σ H Q I ⟨c,e,ρ,S,F,R,d',st,ca,hh,kk⟩=>?_⟩
  obtain ⟨b,hb,rfl⟩:=Option.map_eq_some_iff.mp (show (ds.find? fun d=>decide (G.xi c (Zak g d)=some true)).map D.str=some d' from hh);have hb:G.xi c (Zak g b)=some true:=by simpa using List.find?_some hb
  obtain ⟨C,rfl,hC⟩:=ca.cl;obtain ⟨C',f,fd,ps,hC',Fe,hm,hkp,hbd⟩:=cx.ex.xs c g b hb;rw [hC] at hC'; cases hC';have hr:L2H.RoomH k X.A:=L2H.roomH_of (cx.cg.room.mono (Nat.le_succ k));exact (Zf1 (X:=X) (pn:=pn) (pos:=pos) (q:=px) Fe hr hz hf (gl h1) hm hkp hbd (pa_cons (var hi h4 h5) pa_nil (Ze rfl _ _)) (Zk h2).1 (Ze rfl _ _)).run pins s σ H Q I ⟨.ref a,ca.sl,rfl,⟨e,S,_,st.w,ca.xd⟩,fun v hv=>kk v (Sc.rep hv)⟩
end
end VS
namespace VS
open PySem PySem.Spec PyProof.Rows L2
theorem Zf5 {e:Expr} {env:Env} (h:Zo e=true):∀ whole,isTrue e env whole=(do let v ←whole; standAt e.pos; holding [v] (truthy v)):=by
 cases e<;>first | exact fun _=>rfl | cases h | (rename_i c _ _; cases c<;>first | exact fun _=>rfl | cases h)
section
variable {ct:Str→Option Addr} {G:GamY} {N:List Str} {k:Nat} {sc:Scope} {io:List Nat}
variable {a:Addr} {oe:Obj} {cls:Value} {od:Option Addr} {pn:List (Addr×Obj)} {n:Option Str} {j:Option Nat}
theorem XD.tr {S H S' H':Hp} {F F':FP} {e:Zl} (t:Tr S H F S' H' F') (h:XD ct S H e od):XD ct S' H' e od:=by
 cases e with
 | none=>exact h
 | some q=>
  obtain ⟨dx,v,e1,hS,hn,r⟩:=h;exact ⟨dx,v,e1,t.ext _ _ hS,hn,Rep.tr t.ext t.tup r fun a o x z=>z.elim⟩
theorem Caught.tr {c:Str} {e:Zl} {σ σ':L2.St} {S H S' H':Hp} {F F':FP} (ca:Caught ct a j cls od c e σ S H) (t:Tr S H F S' H' F') (sy:Stay (ioJ io j) σ σ'):Caught ct a j cls od c e σ' S' H':=by
 refine ⟨ca.cl,?_,ca.xd.tr t⟩
 cases j with
 | none=>trivial
 | some i=>exact (sy i (.head _)).trans ca.sl
noncomputable def Zju (ct:Str→Option Addr) (a:Addr) (j:Option Nat) (cls:Value) (od:Option Addr) (h:Str→Zl→Rho→Option (List D)):TA:=fun σ H Q=>∃ c e ρ S F R ds,State ct S H F R ρ σ∧Caught ct a j cls od c e σ S H∧h c e ρ=some ds∧∀ vs,Reps ct S H ds vs No→Q vs H
theorem Zco {xi:Str→Str→Option Bool} {xf:Str→Str→Bool} {c:Str} {e:Zl}:∀ {ps:List HP} {ρ:Rho} {ds:List D},hPs xi xf c e ps ρ=some ds→ds.length=ps.length
 | [],_,_,h=>by cases h; rfl
 | p ::ps,ρ,ds,h=>by
  obtain ⟨d,hd,h⟩:=bind_some h;obtain ⟨ds',hds,h⟩:=bind_some h;cases h;rw [List.length_cons,List.length_cons,Zco hds]
theorem Zcp {X:Cx} (cx:CSY ct G N k sc X) (hn:∀ y,n=some y→∃ i,j=some i∧N[i]?=some y) (hz:Zc cls od oe) (hf:∃ vs,oe.data=.fields vs):
  ∀ (ps:List HP) {es:List Expr},Z8 G N sc n ps es=true→PA (X.suite a ((a,oe) ::pn)) es (Zju ct a j cls od fun c e ρ=>hPs G.xi G.xf c e ps ρ)
 | [],es,h=>by
  cases es with
  | nil=>exact pa_nil.to fun σ H Q ⟨c,e,ρ,S,F,R,ds,st,ca,hh,kk⟩=>by cases hh; exact kk [] rfl
  | cons _ _=>exact no h
 | p ::ps,es,h=>by
  cases es with
  | nil=>exact no h
  | cons e1 es=>
   have h:(nst e1 && Zb G N sc n p e1 && Z8 G N sc n ps es)=true:=h;obtain ⟨h,h3⟩:=Za h;obtain ⟨h1,h2⟩:=Za h;refine (pa_cons (ZaB cx hn hz hf p h2) (Zcp cx hn hz hf ps h3) (Ze h1 _ _)).to fun σ H Q ⟨c,e,ρ,S,F,R,ds,st,ca,hh,kk⟩=>?_
   obtain ⟨d,hd,hh⟩:=bind_some hh;obtain ⟨ds',hds,hh⟩:=bind_some hh;cases hh;exact ⟨c,e,ρ,S,F,R,d,st,ca,hd,fun v r=>⟨c,e,ρ,S,F,R,ds',st,ca,hds,fun vs rs=>kk (v ::vs) ⟨v,vs,No,No,rfl,Sub.no,Sub.no,Dj.no,r,rs⟩⟩⟩
noncomputable def tHX (ct:Str→Option Addr) (a:Addr) (j:Option Nat) (cls:Value) (od:Option Addr) (h:Str→Zl→Rho→Option D):TE:=fun σ H Q=>∃ c e ρ S F R d,State ct S H F R ρ σ∧Caught ct a j cls od c e σ S H∧h c e ρ=some d∧
 ∀ S' H' F' Fx v,State ct S' H' F' (Cup R Fx) ρ σ→Dj R Fx→Tr S H F S' H' (Cup F' Fx)→Rep ct S' H' d v Fx→Q v H'
theorem Zf6 {X:Cx} (cx:CSY ct G N k sc X) (hn:∀ y,n=some y→∃ i,j=some i∧N[i]?=some y) (hz:Zc cls od oe) (hf:∃ vs,oe.data=.fields vs):
  ∀ (x:HX) {e':Expr},ZbC G N sc n x e'=true→PE (X.suite a ((a,oe) ::pn)) e' (tHX ct a j cls od fun c e ρ=>hX G.xi G.xf c e x ρ)
 | .p p,e',h=>by
  refine (ZaB cx hn hz hf p h).to fun σ H Q ⟨c,e,ρ,S,F,R,d,st,ca,hh,kk⟩=>?_
  exact ⟨c,e,ρ,S,F,R,d,st,ca,hh,fun v r=>kk S H F No v (st.drop fun a z=>z.elim id fun z=>z.elim) (fun _ _ z=>z) (Tr.refl fun a z=>z.elim id fun z=>z.elim) r⟩
 | .tup ps,e',h=>by
  have inv:∃ es kk pos,e'=.Tuple es kk pos∧(decide (ps.length≤1000) && Z8 G N sc n ps es)=true:=by
   obtain ⟨q,hq,h⟩:=Zd (o:=dTp e') h;obtain ⟨k1,p1,rfl⟩:=Zbg hq;exact ⟨_,_,_,rfl,h⟩
  clear h;obtain ⟨es,ek,pos,rfl,h⟩:=inv;obtain ⟨h1,h2⟩:=Za h;refine (pe_tup (Zcp cx hn hz hf ps h2)).to fun σ H Q ⟨c,e,ρ,S,F,R,d,st,ca,hh,kk⟩=>?_
  obtain ⟨ds,hds,rfl⟩:=Option.map_eq_some_iff.mp (show (hPs G.xi G.xf c e ps ρ).map D.tup=some d from hh);refine ⟨c,e,ρ,S,F,R,ds,st,ca,hds,fun vs rs=>⟨?_,fun p hp=>?_⟩⟩
  ·rw [←rs.len,Zco hds]
   exact Nat.le_trans (of_decide_eq_true h1) (by decide)
  ·refine kk S (upd H p (.tup vs)) F No (.ref p) ((st.alloc hp).drop fun a z=>z.elim .inl fun z=>z.elim) (fun _ _ z=>z) ((Tr.alloc hp).grow fun a z=>z.elim .inl fun z=>z.elim) ⟨p,vs,rfl,upd_same,Reps.alloc hp rs⟩
 | .lst ps,e',h=>by
  have inv:∃ es pos,e'=.List es pos∧(decide (ps.length≤1000) && Z8 G N sc n ps es)=true:=by
   obtain ⟨q,hq,h⟩:=Zd (o:=dLs e') h;obtain ⟨p1,rfl⟩:=Ze7 hq;exact ⟨_,_,rfl,h⟩
  clear h;obtain ⟨es,pos,rfl,h⟩:=inv;obtain ⟨h1,h2⟩:=Za h;refine (pe_lst (Zcp cx hn hz hf ps h2)).to fun σ H Q ⟨c,e,ρ,S,F,R,d,st,ca,hh,kk⟩=>?_
  obtain ⟨ds,hds,rfl⟩:=Option.map_eq_some_iff.mp (show (hPs G.xi G.xf c e ps ρ).map (D.lst true)=some d from hh);refine ⟨c,e,ρ,S,F,R,ds,st,ca,hds,fun vs rs=>⟨?_,fun p hp=>?_⟩⟩
  ·rw [←rs.len,Zco hds]
   exact Nat.le_trans (of_decide_eq_true h1) (by decide)
  ·refine kk S (upd H p (.lst vs)) F (One p) (.ref p) (st.alloc hp) (fun b x y=>?_) (Tr.alloc hp) ⟨p,vs,No,rfl,⟨upd_same,rfl,fun z=>z,Sub.no⟩,Reps.alloc hp rs⟩
   have : b=p:=y;subst this;exact (st.w.out b (.inr x)).2 hp
 | .rep ps q,e',h=>by
  have inv:∃ es p1 e2 p2,e'=.BinOp (.List es p1) .Mult e2 p2∧(decide (ps.length≤1000) && Z8 G N sc n ps es && Zb G N sc n q e2)=true:=by
   obtain ⟨⟨a1,o1,b1⟩,hq,h⟩:=Zd (o:=ZaN e') h;obtain ⟨es1,he,h⟩:=Zd (o:=dLs a1) h;obtain ⟨h1,h2⟩:=Za h;cases of_decide_eq_true h1;obtain ⟨p1,rfl⟩:=Ze4 hq;obtain ⟨p2,e2⟩:=Ze7 he;cases e2;exact ⟨_,_,_,_,rfl,h2⟩
  clear h;obtain ⟨es,p1,e2,p2,rfl,h⟩:=inv;obtain ⟨h,h3⟩:=Za h;obtain ⟨h1,h2⟩:=Za h;refine (pe_op op_rep (pe_lst (Zcp cx hn hz hf ps h2)) (ZaB cx hn hz hf q h3)).to fun σ H Q ⟨c,e,ρ,S,F,R,d,st,ca,hh,kk⟩=>?_
  obtain ⟨ds,hds,hh⟩:=bind_some hh;obtain ⟨x,hx,hh⟩:=bind_some hh;split at hh
  ·rename_i m
   split at hh
   ·rename_i hm
    cases hh;have hl:=Zco hds;have h1:=of_decide_eq_true h1;refine ⟨c,e,ρ,S,F,R,ds,st,ca,hds,fun vs rs=>⟨?_,fun p hp=>?_⟩⟩
    ·rw [←rs.len,hl]
     exact Nat.le_trans h1 (by decide)
    ·have st1:=st.alloc (o:=.lst vs) hp
     have t1:Tr S H F S (upd H p (.lst vs)) (Cup F (One p)):=Tr.alloc hp;refine ⟨c,e,ρ,S,F,Cup R (One p),.int m,st1,ca.tr (io:=[]) t1 (fun _ _=>rfl),hx,fun v r=>?_⟩
     have ev:v=.int m:=r;subst ev;refine ⟨p,m,vs,rfl,rfl,upd_same,by omega,by omega,?_,fun p2 hp2=>?_⟩
     ·have hv:vs.length≤1000:=by rw [←rs.len,hl]; exact h1
      have hm2:m.toNat≤1000:=by omega
      rw [sizeLine_eq];exact Nat.le_trans (Nat.mul_le_mul hv hm2) (by decide)
     ·have st2:=st1.alloc (o:=.lst (List.replicate m.toNat vs).flatten) hp2
      have t2:Tr S (upd H p (.lst vs)) (Cup F (One p)) S (upd (upd H p (.lst vs)) p2 (.lst (List.replicate m.toNat vs).flatten)) (Cup (Cup F (One p)) (One p2)):=Tr.alloc hp2;refine kk S _ F (One p2) (.ref p2) (st2.drop fun a z=>z.elim (fun z=>.inl (.inl z)) .inr) (fun b x y=>?_) ((t1.trans t2).grow fun a z=>z.elim (fun z=>.inl (.inl z)) .inr) ⟨p2,(List.replicate m.toNat vs).flatten,No,rfl,⟨upd_same,rfl,fun z=>z,Sub.no⟩,Reps.alloc hp2 (Reps.alloc hp (rs.rep m.toNat))⟩
      have : b=p2:=y;subst this;exact (st1.w.out b (.inr (.inl x))).2 hp2
   ·cases hh
  ·cases hh
noncomputable def Zf7:Expr→Bool
 | .BoolOp _ _ _=>true
 | _=>false
noncomputable abbrev tHT (ct:Str→Option Addr) (a:Addr) (j:Option Nat) (cls:Value) (od:Option Addr) (h:Str→Zl→Rho→Option D):TT:=fun σ H Q=>tHP ct a j cls od h σ H fun x H1=>∃ b,x=.bl b∧Q b H1
theorem Zjv {X:Cx} (cx:CSY ct G N k sc X) (hn:∀ y,n=some y→∃ i,j=some i∧N[i]?=some y) (hz:Zc cls od oe) (hf:∃ vs,oe.data=.fields vs):
  ∀ (p:HP) {e':Expr},Z9 G N sc n p e'=true→PT (X.suite a ((a,oe) ::pn)) e' (tHT ct a j cls od (hPG G p))∧(Zf7 e'=true→PW (X.suite a ((a,oe) ::pn)) e' (tHT ct a j cls od (hPG G p))):=by
 have plain:∀ (p:HP) {e':Expr},(Zo e' && Zb G N sc n p e')=true→PT (X.suite a ((a,oe) ::pn)) e' (tHT ct a j cls od (hPG G p))∧(Zf7 e'=true→PW (X.suite a ((a,oe) ::pn)) e' (tHT ct a j cls od (hPG G p))):=fun p e' h=>by
  obtain ⟨h1,h2⟩:=Za h;refine ⟨pt_val (ZaB cx hn hz hf p h2) (Zf5 h1),fun hb=>?_⟩
  cases e'<;>first | (cases hb; done) | cases h1
 have orT:∀ (p q:HP) σ H Q,tHT ct a j cls od (hPG G (.disj p q)) σ H Q→tOr (tHT ct a j cls od (hPG G p)) (tHT ct a j cls od (hPG G q)) σ H Q:=fun p q σ H Q ⟨c,e,ρ,S,F,R,d,st,ca,hh,kk⟩=>by
  obtain ⟨x,hx,hh⟩:=bind_some (show (hP G.xi G.xf c e p ρ).bind _=some d from hh);refine ⟨c,e,ρ,S,F,R,x,st,ca,hx,fun v r=>?_⟩
  split at hh
  ·exact ⟨false,r,by dsimp only; rw [if_neg (by decide)]; exact ⟨c,e,ρ,S,F,R,d,st,ca,hh,kk⟩⟩
  ·cases hh
   obtain ⟨b',e1,q⟩:=kk (.bl true) rfl;cases e1;exact ⟨true,r,by dsimp only; rw [if_pos rfl]; exact q⟩
  ·cases hh
 have andT:∀ (p q:HP) σ H Q,tHT ct a j cls od (hPG G (.conj p q)) σ H Q→tAnd (tHT ct a j cls od (hPG G p)) (tHT ct a j cls od (hPG G q)) σ H Q:=fun p q σ H Q ⟨c,e,ρ,S,F,R,d,st,ca,hh,kk⟩=>by
  obtain ⟨x,hx,hh⟩:=bind_some (show (hP G.xi G.xf c e p ρ).bind _=some d from hh);refine ⟨c,e,ρ,S,F,R,x,st,ca,hx,fun v r=>?_⟩
  split at hh
  ·exact ⟨true,r,by dsimp only; rw [if_pos rfl]; exact ⟨c,e,ρ,S,F,R,d,st,ca,hh,kk⟩⟩
  ·cases hh
   obtain ⟨b',e1,q⟩:=kk (.bl false) rfl;cases e1;exact ⟨false,r,by dsimp only; rw [if_neg (by decide)]; exact q⟩
  ·cases hh
 intro p;induction p with
 | not p ih=>
  intro e' h;rcases Zb6 (o:=ZO e') h with ⟨_,h⟩ | ⟨x,hx,h⟩
  ·exact plain _ h
  ·obtain ⟨pp,rfl⟩:=Zb3 hx
   refine ⟨(pt_not (ih h).1).to fun σ H Q ⟨c,e,ρ,S,F,R,d,st,ca,hh,kk⟩=>?_,fun z=>nomatch z⟩
   obtain ⟨x,hx,hh⟩:=bind_some (show (hP G.xi G.xf c e p ρ).bind _=some d from hh);refine ⟨c,e,ρ,S,F,R,x,st,ca,hx,fun v r=>?_⟩
   split at hh
   ·rename_i b
    cases hh;obtain ⟨b',e1,q⟩:=kk (.bl !b) rfl;cases e1;exact ⟨b,r,q⟩
   ·cases hh
 | disj p q ihp ihq=>
  intro e' h;rcases Zb6 (o:=Zbh e') h with ⟨_,h⟩ | ⟨⟨r1,r2⟩,hx,h⟩
  ·exact plain _ h
  ·obtain ⟨h1,h2⟩:=Za h
   rcases Ze8 hx with ⟨pp,rfl⟩ | ⟨b,c,es,pp,rfl,e2⟩
   ·exact ⟨PW.pt ((pw_or (ihp h1).1 (pw_or1 (ihq h2).1)).to (orT p q)),fun _=>(pw_or (ihp h1).1 (pw_or1 (ihq h2).1)).to (orT p q)⟩
   ·cases e2
    exact ⟨PW.pt ((pw_or (ihp h1).1 ((ihq h2).2 rfl)).to (orT p q)),fun _=>(pw_or (ihp h1).1 ((ihq h2).2 rfl)).to (orT p q)⟩
 | conj p q ihp ihq=>
  intro e' h;rcases Zb6 (o:=Zbi e') h with ⟨_,h⟩ | ⟨⟨r1,r2⟩,hx,h⟩
  ·exact plain _ h
  ·obtain ⟨h1,h2⟩:=Za h
   obtain ⟨pp,rfl⟩:=Ze9 hx;exact ⟨PW.pt ((pw_and (ihp h1).1 (pw_and1 (ihq h2).1)).to (andT p q)),fun _=>(pw_and (ihp h1).1 (pw_and1 (ihq h2).1)).to (andT p q)⟩
 | cmp kk p q ihp ihq=>
  intro e' h;have h:Zb G N sc n (.cmp kk p q) e'=true:=h;have h0:=Zf4 h; clear h;obtain ⟨e1,e2,pos,rfl,hm,h1,h2⟩:=h0;refine ⟨(pt_cmpR (ZbV (show (X.suite a ((a,oe) ::pn)).A.units+65 < cLine from Zbq (X:=X) cx.cg) kk) (ZaB cx hn hz hf p h1) (ZaB cx hn hz hf q h2) hm).to fun σ H Q z=>?_,fun z=>nomatch z⟩
  obtain ⟨c,e,ρ,S,F,R,d,st,ca,hh,k⟩:=z;obtain ⟨x,hx,hh⟩:=bind_some (show (hP G.xi G.xf c e p ρ).bind _=some d from hh);obtain ⟨y,hy,hh⟩:=bind_some hh;exact ⟨c,e,ρ,S,F,R,x,st,ca,hx,fun v r=>⟨c,e,ρ,S,F,R,y,st,ca,hy,fun w r2=>ZbW (ct:=ct) kk _ _ _ _ _ _ _ (Zam st.w r) (Zam st.w r2) hh fun u hu=>k u (Sc.rep hu)⟩⟩
 | _=>intro e' h; exact plain _ h
theorem Zjw {X:Cx} (cx:CSY ct G N k sc X) (hn:∀ y,n=some y→∃ i,j=some i∧N[i]?=some y) (hz:Zc cls od oe) (hf:∃ vs,oe.data=.fields vs)
  (p:HP) {e':Expr} (h:Z9 G N sc n p e'=true):PT (X.suite a ((a,oe) ::pn)) e' (fun σ H Q=>tHP ct a j cls od (hPG G p) σ H fun x H1=>∃ b,x=.bl b∧Q b H1):=(Zjv cx hn hz hf p h).1
noncomputable def Zcq (ct:Str→Option Addr) (io:List Nat) (a:Addr) (j:Option Nat) (cls:Value) (od:Option Addr) (m:Str→Zl→MS):TS:=fun Dn σ H=>∃ c e ρ S F R o,State ct S H F R ρ σ∧Caught ct a j cls od c e σ S H∧m c e ρ=some o∧EndS ct (ioJ io j) S H F R σ o Dn
mutual
theorem Zjx {X:Cx} (cx:CSY ct G N k sc X) (hn:∀ y,n=some y→∃ i,j=some i∧N[i]?=some y) (hz:Zc cls od oe) (hf:∃ vs,oe.data=.fields vs):
  ∀ (s:HS) {st:Stmt},ZdT G N sc n s st=true→PS (X.suite a ((a,oe) ::pn)) st (Zcq ct io a j cls od fun c e=>ZaW G.xi G.xf c e (ioJ io j) s)
 | .asg i x,st,h=>by
  have inv:∃ y py e' pos,st=.Assign [.Name y py] e' pos∧(decide (N[i]?=some y) && ZD sc y && ZR e' && ZbC G N sc n x e')=true:=by
   obtain ⟨q,hq,h⟩:=Zd (o:=Zbl st) h;obtain ⟨p1,p2,rfl⟩:=Zfc hq;exact ⟨_,_,_,_,rfl,h⟩
  clear h;obtain ⟨y,py,e',pos,rfl,h⟩:=inv;obtain ⟨h,h4⟩:=Za h;obtain ⟨h,h3⟩:=Za h;obtain ⟨h1,h2⟩:=Za h;have hx:Loc X.env.scope y:=by
   rw [cx.cg.scp];unfold ZD at h2;split at h2
   ·rename_i z; exact .inl z
   ·rename_i z; exact .inr z
   ·cases h2
  refine (ps_set (X:=X.suite a ((a,oe) ::pn)) (by show X.N.Nodup; rw [cx.cg.nm]; exact cx.cg.nd) (show X.N[i]?=some y by rw [cx.cg.nm]; exact of_decide_eq_true h1) hx (Zf6 cx hn hz hf x h4) (Zcg h3) (.inl (cx.fnc y))).to fun Dn σ H ⟨c,e,ρ,S,F,R,o,sta,ca,hh,kk⟩=>?_
  have hh:(if (ioJ io j).contains i=true then none else (hX G.xi G.xf c e x ρ).bind fun d=>if i < ρ.length then some (Out.nx (ρ.set i (.own d))) else none)=some o:=hh;split at hh
  ·cases hh
  ·rename_i hni
   have ni:i∉ioJ io j:=fun z=>hni (List.contains_iff_mem.mpr z)
   obtain ⟨d,hd,hh⟩:=bind_some hh;split at hh
   ·rename_i hl
    cases hh;exact ⟨c,e,ρ,S,F,R,d,sta,ca,hd,fun S' H' F' Fx v st' dj t r=>kk S' H' (Cup F' Fx) _ ⟨st'.store dj r hl,t,Stay.set ni⟩⟩
   ·cases hh
 | .ret x,st,h=>by
  have inv:∃ e' pos,st=.Return (some e') pos∧ZbC G N sc n x e'=true:=by
   obtain ⟨q,hq,h⟩:=Zd (o:=ZaO st) h;obtain ⟨p1,rfl⟩:=Zfd hq;exact ⟨_,_,rfl,h⟩
  clear h;obtain ⟨e',pos,rfl,h⟩:=inv;refine (ps_ret (Zf6 cx hn hz hf x h)).to fun Dn σ H ⟨c,e,ρ,S,F,R,o,sta,ca,hh,kk⟩=>?_
  obtain ⟨d,hd,hh⟩:=bind_some (show (hX G.xi G.xf c e x ρ).bind _=some o from hh);cases hh;exact ⟨c,e,ρ,S,F,R,d,sta,ca,hd,fun S' H' F' Fx v st' dj t r=>kk S' H' F' Fx σ v ⟨st',dj,t,r,Stay.refl⟩⟩
 | .app i p,st,h=>by
  have inv:∃ y py m ap e' pc ps,st=.Expr (.Call (.Attribute (.Name y py) m ap) [e'] [] pc) ps∧(decide (N[i]?=some y) && vis sc y && okN y && decide (m= "append") && Z4 ap pc && nst e' && Zb G N sc n p e')=true:=by
   obtain ⟨e1,he,h⟩:=Zd (o:=Zai st) h;obtain ⟨⟨o1,m1,a1,es1,p1⟩,hq,h⟩:=Zd (o:=dMe e1) h;obtain ⟨x1,hx,h⟩:=Zd (o:=Zv o1) h;obtain ⟨e2,he2,h⟩:=Zd (o:=ls1 es1) h;obtain ⟨p2,rfl⟩:=Zdk he;cases Ze3 hq;obtain ⟨p3,e3⟩:=Zah hx;cases e3;cases ZaM he2;exact ⟨_,_,_,_,_,_,_,rfl,h⟩
  obtain ⟨y,py,m,ap,e',pc,psn,rfl,q⟩:=inv;clear h;obtain ⟨q,h7⟩:=Za q;obtain ⟨q,h6⟩:=Za q;obtain ⟨q,h5⟩:=Za q;obtain ⟨q,h4⟩:=Za q;obtain ⟨q,h3⟩:=Za q;obtain ⟨h1,h2⟩:=Za q;cases of_decide_eq_true h4;have ho:PE (X.suite a ((a,oe) ::pn)) (.Name y py) (tVar i):=pe_var (by show X.N[_]?=_; rw [cx.cg.nm]; exact of_decide_eq_true h1) (by show Vis X.env.scope _; rw [cx.cg.scp]; exact ZaQ h2) (Zk h3).1 (Zk h3).2.1;have hs1:[e'].all nst=true:=by rw [List.all_cons,h6]; rfl
  have hA:PA (X.suite a ((a,oe) ::pn)) [e'] (tCons (tHP ct a j cls od (hPG G p)) tNil):=pa_cons (ZaB cx hn hz hf p h7) pa_nil (Ze h6 _ _);refine (ps_expr (Zfm (m:=.append) ho hA rfl h5 hs1 (by simp))).to fun Dn σ H ⟨c,e,ρ,S,F,R,o,sta,ca,hh,kk⟩=>?_
  obtain ⟨d,hd,hh⟩:=bind_some (show (hP G.xi G.xf c e p ρ).bind _=some o from hh);split at hh
  ·rename_i hsd
   have t1:=ZgW (ct:=ct) (io:=ioJ io j) (m:=Zc6 .append i (mCons (mC d) mNil)) Dn σ H ⟨ρ,S,F,R,o,sta,hh,kk⟩;have t2:=Zhl (K:=X.K) σ H _ t1;obtain ⟨x,hx,ty,t3⟩:=t2;refine ⟨x,hx,ty,c,e,ρ,S,F,R,d,sta,ca,hd,fun v r=>?_⟩
   obtain ⟨ρ2,S2,F2,R2,rs2,ρ3,st2,e2,k2⟩:=t3;cases e2;exact k2 S2 H F2 No [v] ⟨st2.drop fun a z=>z.elim id fun z=>z.elim,fun _ _ z=>z,Tr.refl fun a z=>z.elim id fun z=>z.elim,v,[],No,No,rfl,Sub.no,Sub.no,Dj.no,Sc.rep (ZdV hsd r),rfl⟩
  ·cases hh
 | .ifs t b1 b2,st,h=>by
  have inv:∃ t' a' b' pos,st=.If t' a' b' pos∧(Z9 G N sc n t t' && okHSs G N sc n b1 a' && okHSs G N sc n b2 b')=true:=by
   obtain ⟨q,hq,h⟩:=Zd (o:=dIf st) h;obtain ⟨p1,rfl⟩:=Zdl hq;exact ⟨_,_,_,_,rfl,h⟩
  clear h;obtain ⟨t',a',b',pos,rfl,h⟩:=inv;obtain ⟨h,h3⟩:=Za h;obtain ⟨h1,h2⟩:=Za h;refine (ps_if (Zjw cx hn hz hf t h1) (hss_ok cx hn hz hf b1 h2) (hss_ok cx hn hz hf b2 h3)).to fun Dn σ H ⟨c,e,ρ,S,F,R,o,sta,ca,hh,kk⟩=>?_
  obtain ⟨d,hd,hh⟩:=bind_some (show (hP G.xi G.xf c e t ρ).bind _=some o by
   have : ZaW G.xi G.xf c e (ioJ io j) (.ifs t b1 b2) ρ=some o:=hh;unfold ZaW at this;exact this)
  refine ⟨c,e,ρ,S,F,R,d,sta,ca,hd,fun v r=>?_⟩
  split at hh
  ·exact ⟨true,r,by dsimp only; rw [if_pos rfl]; exact ⟨c,e,ρ,S,F,R,o,sta,ca,hh,kk⟩⟩
  ·exact ⟨false,r,by dsimp only; rw [if_neg (by decide)]; exact ⟨c,e,ρ,S,F,R,o,sta,ca,hh,kk⟩⟩
  ·cases hh
theorem hss_ok {X:Cx} (cx:CSY ct G N k sc X) (hn:∀ y,n=some y→∃ i,j=some i∧N[i]?=some y) (hz:Zc cls od oe) (hf:∃ vs,oe.data=.fields vs):
  ∀ (ss:List HS) {ts:List Stmt},okHSs G N sc n ss ts=true→PSs (X.suite a ((a,oe) ::pn)) ts (Zcq ct io a j cls od fun c e=>evHSs G.xi G.xf c e (ioJ io j) ss)
 | [],ts,h=>by
  cases ts with
  | nil=>
   refine pss_nil.to fun Dn σ H ⟨c,e,ρ,S,F,R,o,sta,ca,hh,kk⟩=>?_
   exact ZbO Dn σ H ⟨ρ,S,F,R,o,sta,by unfold evHSs at hh; exact hh,kk⟩
  | cons _ _=>exact no h
 | s ::ss,ts,h=>by
  cases ts with
  | nil=>exact no h
  | cons t ts=>
   have h:(ZdT G N sc n s t && okHSs G N sc n ss ts)=true:=h;obtain ⟨h1,h2⟩:=Za h;refine (pss_cons (Zjx cx hn hz hf s h1) (hss_ok cx hn hz hf ss h2)).to fun Dn σ H ⟨c,e,ρ,S,F,R,o,sta,ca,hh,kk⟩=>?_
   have hh:mSeq (ZaW G.xi G.xf c e (ioJ io j) s) (evHSs G.xi G.xf c e (ioJ io j) ss) ρ=some o:=by unfold evHSs at hh; exact hh
   unfold mSeq at hh;obtain ⟨o1,h1',hh⟩:=bind_some hh;refine ⟨c,e,ρ,S,F,R,o1,sta,ca,h1',?_⟩
   cases o1 with
   | nx ρ1=>exact fun S1 H1 F1 σ1 P=>⟨c,e,ρ1,S1,F1,R,o,P.st,ca.tr P.tr P.stay,hh,EndS.back P.tr P.stay kk⟩
   | rt d ρ1=>cases hh; exact kk
   | ct ρ1=>cases hh; exact kk
   | bk ρ1=>cases hh; exact kk
end
end
end VS
namespace VS
open PySem PySem.Spec PyProof.Rows L2
end VS
namespace VS
open PySem PySem.Spec PyProof.Rows L2
section
variable {ct:Str→Option Addr} {G:GamY} {N:List Str} {k:Nat} {sc:Scope} {io:List Nat}
theorem Zf8 {X:Cx} (cx:CSY ct G N k sc X):∀ (hs:List HC) {ts:List ExceptHandler},ZbD G N sc hs ts=true→
  ∃ l:List ClT,Cls2 X ts l∧∀ {W:WX} {Dn:Ends} {c:Str} {e:Zl} {ρ1:Rho} {o:OutY} {S H:Hp} {F R:FP} {σ:L2.St} {C:Addr} {od:Option Addr},Zaz G.xm G.xi G.xf io c e ρ1 hs=some o→ct c=some C→XD ct S H e od→State ct S H F R ρ1 σ→EndY ct io W S H F R σ o Dn→Zax X.K W Dn l (.ref C) od σ H
 | [],ts,h=>by
  cases ts with
  | cons _ _=>exact no h
  | nil=>
   refine ⟨[],.nil,fun {W Dn c e ρ1 o S H F R σ C od} hp hC hx st kk=>?_⟩
   cases hp;exact kk S H F σ C od hC hx ⟨st,Tr.refl (Sub.refl _),Stay.refl⟩
 | ⟨c0,j,b⟩ ::hs,ts,h=>by
  cases ts with
  | nil=>exact no h
  | cons t ts=>
   have h:(ZfZ G N sc ⟨c0,j,b⟩ t && ZbD G N sc hs ts)=true:=h;obtain ⟨h1,h2⟩:=Za h;clear h;obtain ⟨l,hl,go⟩:=Zf8 cx hs h2;cases j with
   | none=>
    have inv:∃ x px s ss p,t=.ExceptHandler (some (.Name x px)) none (s ::ss) p∧(decide (x=c0) && glo sc x && okN x && G.xh c0 && okHSs G N sc none b (s ::ss))=true:=by
     obtain ⟨⟨x1,n1,ss1⟩,hq,g0⟩:=Zd (o:=dHd t) h1;clear h1;obtain ⟨g1,g2⟩:=Za g0;clear g0;obtain ⟨s1,s2,e2⟩:=Zdi g1;obtain ⟨p1,p2,rfl⟩:=Zfe hq;cases e2;obtain ⟨g3,g7⟩:=Za g2;clear g2;obtain ⟨g5,g6⟩:=Za g3;clear g3;cases n1 with
     | some _=>exact absurd g6 Bool.false_ne_true
     | none=>exact ⟨_,_,_,_,_,rfl,Bool.and_eq_true_iff.mpr ⟨g5,g7⟩⟩
    obtain ⟨x,px,s,ss,p,rfl,q⟩:=inv;clear h1;obtain ⟨q,q5⟩:=Za q;obtain ⟨q,q4⟩:=Za q;obtain ⟨q,q3⟩:=Za q;obtain ⟨q1,q2⟩:=Za q;cases of_decide_eq_true q1;obtain ⟨C0,hm⟩:=cx.ex.xh _ q4;refine ⟨(.ref C0,none,fun a cls od=>Zcq ct io a none cls od fun c e=>evHSs G.xi G.xf c e (ioJ io none) b) ::l,.bare ⟨Zj cx.cg q2,(Zk q3).1,.inl hm⟩ (fun a oe cls d pn hz hf=>hss_ok cx (n:=none) (j:=none) (fun y z=>by cases z) hz hf b q5) hl,fun {W Dn c e ρ1 o S H F R σ C od} hp hC hx st kk=>?_⟩
    obtain ⟨bb,hb,hp⟩:=bind_some (show (G.xm c _).bind _=some o from hp);obtain ⟨C',C2,e1,e2,he⟩:=cx.ex.xm c _ bb hb;rw [hC] at e1; cases e1;rw [hm] at e2; cases e2;refine ⟨bb,he,fun hbt a na=>?_,fun hbf=>?_⟩
    ·subst hbt
     rw [if_pos rfl] at hp;obtain ⟨x,hx2,rfl⟩:=Option.map_eq_some_iff.mp hp;exact ⟨c,e,ρ1,S,F,R,x,st,⟨⟨C,rfl,hC⟩,trivial,hx⟩,hx2,kk⟩
    ·subst hbf
     rw [if_neg (by decide)] at hp;exact go hp hC hx st kk
   | some i=>
    have inv:∃ x px n s ss p,t=.ExceptHandler (some (.Name x px)) (some n) (s ::ss) p∧(decide (x=c0) && glo sc x && okN x && G.xh c0 && decide (N[i]?=some n) && decide (sc.names.lookup n=some .local) && okHSs G N sc (some n) b (s ::ss))=true:=by
     obtain ⟨⟨x1,n1,ss1⟩,hq,g0⟩:=Zd (o:=dHd t) h1;clear h1;obtain ⟨g1,g2⟩:=Za g0;clear g0;obtain ⟨s1,s2,e2⟩:=Zdi g1;obtain ⟨p1,p2,rfl⟩:=Zfe hq;cases e2;obtain ⟨g3,g7⟩:=Za g2;clear g2;obtain ⟨g5,g6⟩:=Za g3;clear g3;cases n1 with
     | none=>exact absurd g6 Bool.false_ne_true
     | some n2=>
      obtain ⟨g8,g9⟩:=Za (show (decide (N[i]?=some n2) && decide (sc.names.lookup n2=some .local))=true from g6);exact ⟨_,_,_,_,_,_,rfl,Bool.and_eq_true_iff.mpr ⟨Bool.and_eq_true_iff.mpr ⟨Bool.and_eq_true_iff.mpr ⟨g5,g8⟩,g9⟩,g7⟩⟩
    obtain ⟨x,px,n,s,ss,p,rfl,q⟩:=inv;clear h1;obtain ⟨q,q7⟩:=Za q;obtain ⟨q,q6⟩:=Za q;obtain ⟨q,q5⟩:=Za q;obtain ⟨q,q4⟩:=Za q;obtain ⟨q,q3⟩:=Za q;obtain ⟨q1,q2⟩:=Za q;cases of_decide_eq_true q1;obtain ⟨C0,hm⟩:=cx.ex.xh _ q4;have hj:=of_decide_eq_true q5;refine ⟨(.ref C0,some i,fun a cls od=>Zcq ct io a (some i) cls od fun c e=>evHSs G.xi G.xf c e (ioJ io (some i)) b) ::l,.as ⟨Zj cx.cg q2,(Zk q3).1,.inl hm⟩ (by rw [cx.cg.nm]; exact hj) (by show X.env.scope.names.lookup n=some .local; rw [cx.cg.scp]; exact of_decide_eq_true q6) (fun a oe cls d pn hz hf=>hss_ok cx (n:=some n) (j:=some i) (fun y z=>by cases z; exact ⟨i,rfl,hj⟩) hz hf b q7) hl,fun {W Dn c e ρ1 o S H F R σ C od} hp hC hx st kk=>?_⟩
    obtain ⟨bb,hb,hp⟩:=bind_some (show (G.xm c _).bind _=some o from hp);obtain ⟨C',C2,e1,e2,he⟩:=cx.ex.xm c _ bb hb;rw [hC] at e1; cases e1;rw [hm] at e2; cases e2;refine ⟨bb,he,fun hbt a na=>?_,fun hbf=>?_⟩
    ·subst hbt
     rw [if_pos rfl] at hp;dsimp only at hp;split at hp
     ·cases hp
     ·rename_i hni
      have ni:i∉io:=fun z=>hni (.inl (List.contains_iff_mem.mpr z))
      have hlt:i < σ.length:=by
       rw [←st.len];exact Classical.byContradiction fun z=>hni (.inr z)
      obtain ⟨x,hx2,rfl⟩:=Option.map_eq_some_iff.mp hp;refine ⟨c,e,ρ1.set i .dead,S,F,R,x,st.killU,⟨⟨C,rfl,hC⟩,by show (σ.set i (some (.ref a)))[i]?=_; rw [List.getElem?_set_self hlt],hx⟩,hx2,?_⟩
      have mono:∀ {σ2:L2.St},Stay (i ::io) (σ.set i (some (.ref a))) σ2→Stay io σ (σ2.set i none):=fun {σ2} sy=>(Stay.set ni).trans (Stay.trans (fun q hq=>sy q (.tail _ hq)) (Stay.set ni))
      have mono2:∀ {σ2:L2.St},Stay (i ::io) (σ.set i (some (.ref a))) σ2→Stay io σ σ2:=fun {σ2} sy=>(Stay.set ni).trans fun q hq=>sy q (.tail _ hq)
      cases x with
      | nx ρ2=>exact fun S3 H3 F3 σ3 P3=>kk S3 H3 F3 (σ3.set i none) ⟨P3.st.killU,P3.tr,mono P3.stay⟩
      | ct ρ2=>exact fun S3 H3 F3 σ3 P3=>kk S3 H3 F3 (σ3.set i none) ⟨P3.st.killU,P3.tr,mono P3.stay⟩
      | bk ρ2=>exact fun S3 H3 F3 σ3 P3=>kk S3 H3 F3 (σ3.set i none) ⟨P3.st.killU,P3.tr,mono P3.stay⟩
      | rt d ρ2=>exact fun S3 H3 F3 Fr σ3 v P3=>kk S3 H3 F3 Fr σ3 v ⟨P3.st,P3.djr,P3.tr,P3.rep,mono2 P3.stay⟩
    ·subst hbf
     rw [if_neg (by decide)] at hp;exact go hp hC hx st kk
theorem Zjy {X:Cx} {W:WX} {mb:MY} {hs:List HC} {l:List ClT} (go:∀ {W:WX} {Dn:Ends} {c:Str} {e:Zl} {ρ1:Rho} {o:OutY} {S H:Hp} {F R:FP} {σ:L2.St} {C:Addr} {od:Option Addr},Zaz G.xm G.xi G.xf io c e ρ1 hs=some o→ct c=some C→XD ct S H e od→State ct S H F R ρ1 σ→EndY ct io W S H F R σ o Dn→Zax X.K W Dn l (.ref C) od σ H):
  ∀ Dn σ H,tSY ct io W (ZdR G.xm G.xi G.xf io mb hs) Dn σ H→tSY ct io (Zax X.K W Dn l) mb Dn σ H:=by
 rintro Dn σ H ⟨ρ,S,F,R,o,st,e,kk⟩;obtain ⟨o1,h1,e⟩:=bind_some e;refine ⟨ρ,S,F,R,o1,st,h1,?_⟩
 cases o1 with
 | o x=>cases e; exact kk
 | xc c e' ρ1=>exact fun S' H' F' σ' C od hC hx P=>go e hC hx P.st (kk.back P.tr P.stay)
theorem Zjz {W:WX} {m:ME}:∀ σ H Q,tIY ct W (mNE m) σ H Q→tI ct m σ H Q:=by
 rintro σ H Q ⟨ρ,S,F,R,o,st,e,k⟩;obtain ⟨p,hp,e⟩:=bind_some e;obtain ⟨q,hq,e⟩:=bind_some e;cases e;refine ⟨ρ,S,F,R,p.1,p.2,st,hp,fun S1 H1 F1 Fa x P1=>?_⟩
 obtain ⟨S2,F2,Fm,st2,r2,d2,t2⟩:=P1.took (d:=q.1) (ρ':=q.2) hq;exact k S2 H1 F2 Fm x st2 d2 t2 r2
theorem ZjA {W:WX} {ma mb:MEY}:∀ σ H Q,tIY ct W (ZfY ma mb) σ H Q→tTup (tCons (tIY ct W ma) (tCons (tIY ct W mb) tNil)) σ H Q:=by
 rintro σ H Q ⟨ρ,S,F,R,o,st,e,k⟩;obtain ⟨o1,h1,e⟩:=bind_some e;refine ⟨ρ,S,F,R,o1,st,h1,?_⟩
 cases o1 with
 | x c e' ρ1=>cases e; exact k
 | v d ρ1=>
  dsimp only at e;split at e
  ·rename_i hd
   obtain ⟨o2,h2,e⟩:=bind_some e;intro S1 H1 F1 Fx v st1 dj1 t1 rep1;have sc:=ZdV hd rep1;have st1':=st1.drop (R':=R) fun a z=>.inl z
   have t1':=t1.grow (G:=F1) fun a z=>.inl z
   refine ⟨ρ1,S1,F1,R,o2,st1',h2,?_⟩
   cases o2 with
   | x c e' ρ2=>cases e; exact fun S' H' F' C od hC hx st' t=>k S' H' F' C od hC hx st' (t1'.trans t)
   | v d2 ρ2=>
    dsimp only at e;split at e
    ·rename_i hd2
     cases e;intro S2 H2 F2 Fy v2 st2 dj2 t2 rep2;have sc2:=ZdV hd2 rep2;have st2':=st2.drop (R':=R) fun a z=>.inl z
     have t2':=t1'.trans (t2.grow (G:=F2) fun a z=>.inl z);refine ⟨Zac (by show 2≤1000000; decide),fun a ha=>?_⟩
     exact k S2 (upd H2 a (.tup [v,v2])) F2 No (.ref a) ((st2'.alloc ha).drop fun b z=>.inl (z.elim id fun z=>z.elim)) (fun _ _ z=>z) ((t2'.trans (Tr.alloc (S:=S2) ha)).grow fun b z=>.inl (z.elim id fun z=>z.elim)) ⟨a,[v,v2],rfl,upd_same,v,[v2],No,No,rfl,Sub.no,Sub.no,fun _ _ z=>z,sc.rep,v2,[],No,No,rfl,Sub.no,Sub.no,fun _ _ z=>z,sc2.rep,rfl⟩
    ·cases e
  ·cases e
theorem ZT {X:Cx} {W:WX} (cx:CSY ct G N k sc X) (tk:Takes X W):∀ (a:EY) {e:Expr},Zn G N sc a e=true→PE X e (tIY ct W (Zu G a))
 | .fn f es,e,h=>by
  have inv:∃ x p es' pos,e=.Call (.Name x p) es' [] pos∧(decide (f=x) && glo sc x && (G.fx f).isSome && okN x && decide (es≠[]) && okEs G.g N sc es es')=true:=by
   obtain ⟨q,hq,h⟩:=Zd (o:=dCl e) h;obtain ⟨p1,p2,rfl⟩:=Zau hq;exact ⟨_,_,_,_,rfl,h⟩
  obtain ⟨x,p,es',pos,rfl,q⟩:=inv;clear h;obtain ⟨q,h6⟩:=Za q;obtain ⟨q,h5⟩:=Za q;obtain ⟨q,h4⟩:=Za q;obtain ⟨q,h3⟩:=Za q;obtain ⟨h1,h2⟩:=Za q;cases of_decide_eq_true h1;obtain ⟨d,hd⟩:=Option.isSome_iff_exists.mp h3;obtain ⟨fa,fd,ps,F,hm,hk,hb⟩:=cx.ex.fx f d hd;have hA:=snds cx.cg es h6;have hs:=Zaj h6;cases es' with
  | nil=>cases es with
   | nil=>exact absurd rfl (of_decide_eq_true h5)
   | cons _ _=>exact no h6
  | cons e1 es1=>
   obtain ⟨n1,n2⟩:=Za (by rwa [List.all_cons] at hs);refine (pe_callS F (cx.cg.room.mono (Nat.le_succ _)) (Zj cx.cg h2) hm hk hb (fun σ=>passAt tk σ) hA (Zk h4).1 (Ze n1 _ _) (ZQ n2 _ _)).to ?_
   show ∀ σ H Q,tIY ct W (Zck (ZaA (G.fx f)) (evs G.g es)) σ H Q→_;rw [hd];exact ZfI
 | .me o c m es,e,h=>by
  have inv:∃ o' m' ap es' pos,e=.Call (.Attribute o' m' ap) es' [] pos∧(decide (m=m') && (G.mx c m).isSome && ZP o' && Z4 ap pos && decide (es≠[]) && decide (es.length < 20) && okE G.g N sc o o' && okEs G.g N sc es es')=true:=by
   obtain ⟨q,hq,h⟩:=Zd (o:=dMe e) h;cases Ze3 hq;exact ⟨_,_,_,_,_,rfl,h⟩
  obtain ⟨o',m',ap,es',pos,rfl,q⟩:=inv;clear h;obtain ⟨q,h8⟩:=Za q;obtain ⟨q,h7⟩:=Za q;obtain ⟨q,h6⟩:=Za q;obtain ⟨q,h5⟩:=Za q;obtain ⟨q,h4⟩:=Za q;obtain ⟨q,h3⟩:=Za q;obtain ⟨h1,h2⟩:=Za q;cases of_decide_eq_true h1;obtain ⟨d,hd⟩:=Option.isSome_iff_exists.mp h2;obtain ⟨C,fa,fd,ps,hC,hcl,hme,F,hb⟩:=cx.ex.mx c m d hd;have hA:=snds cx.cg es h8;have hs:=Zaj h8;cases es' with
  | nil=>cases es with
   | nil=>exact absurd rfl (of_decide_eq_true h5)
   | cons _ _=>exact no h8
  | cons e1 es1=>
   have hs':=hs;obtain ⟨n1,n2⟩:=Za (by rwa [List.all_cons] at hs);refine (ZiK (snd cx.cg o h7).pe hcl hme F (cx.cg.room.mono (Nat.le_succ _)) hb (fun σ=>passAt tk σ) hA (Ze n1 _ _) (ZQ n2 _ _) (Zfl h3 h4 hs' (by rw [Zfj h8]; exact of_decide_eq_true h6))).to ?_
   show ∀ σ H Q,tIY ct W (ZdN c m (ZaA (G.mx c m)) (ev G.g o) (evs G.g es)) σ H Q→_;rw [hd];exact ZiR hC
 | .mk c es,e,h=>by
  have inv:∃ x p es' pos,e=.Call (.Name x p) es' [] pos∧(decide (c=x) && glo sc x && (G.kx c).isSome && okN x && decide (es≠[]) && okEs G.g N sc es es')=true:=by
   obtain ⟨q,hq,h⟩:=Zd (o:=dCl e) h;obtain ⟨p1,p2,rfl⟩:=Zau hq;exact ⟨_,_,_,_,rfl,h⟩
  obtain ⟨x,p,es',pos,rfl,q⟩:=inv;clear h;obtain ⟨q,h6⟩:=Za q;obtain ⟨q,h5⟩:=Za q;obtain ⟨q,h4⟩:=Za q;obtain ⟨q,h3⟩:=Za q;obtain ⟨h1,h2⟩:=Za q;cases of_decide_eq_true h1;obtain ⟨d,hd⟩:=Option.isSome_iff_exists.mp h3;obtain ⟨C,fa,fd,ps,hC,hm,M,F,hb,hio⟩:=cx.ex.kx c d hd;have hA:=snds cx.cg es h6;have hs:=Zaj h6;cases es' with
  | nil=>cases es with
   | nil=>exact absurd rfl (of_decide_eq_true h5)
   | cons _ _=>exact no h6
  | cons e1 es1=>
   obtain ⟨n1,n2⟩:=Za (by rwa [List.all_cons] at hs);refine (ZiJ M F cx.cg.room (Zj cx.cg h2) hm hb (fun σ=>passAt tk σ) hA (Zk h4).1 (Ze n1 _ _) (ZQ n2 _ _)).to ?_
   show ∀ σ H Q,tIY ct W (ZdO c (ZaA (G.kx c)) (evs G.g es)) σ H Q→_;rw [hd];exact ZiS hC hio
 | .not a,e,h=>by
  have inv:∃ a' pos,e=.UnaryOp .Not a' pos∧Zn G N sc a a'=true:=by
   obtain ⟨q,hq,h⟩:=Zd (o:=ZO e) h;obtain ⟨p1,rfl⟩:=Zb3 hq;exact ⟨_,_,rfl,h⟩
  obtain ⟨a',pos,rfl,q⟩:=inv;exact (pe_not (ZT cx tk a q)).to ZfK
 | .frz a,e,h=>by
  exact (ZT cx tk a h).to ZiT
 | .n a,e,h=>(snd cx.cg a h).pe.to Zjz
 | .tp a b,e,h=>by
  obtain ⟨es,he,h⟩:=Zd (o:=dTp e) h;obtain ⟨q,hq,h⟩:=Zd (o:=Zcm es) h;obtain ⟨kk,pos,rfl⟩:=Zbg he;obtain ⟨x,y⟩:=q;have eq:=Zja hq;subst eq;obtain ⟨h,h4⟩:=Za h;obtain ⟨h,h3⟩:=Za h;obtain ⟨h1,h2⟩:=Za h;exact (pe_tup (pa_cons (ZT cx tk a h3) (pa_cons (ZT cx tk b h4) pa_nil (Ze h2 _ _)) (Ze h1 _ _))).to ZjA
theorem ZjB {W:WX} {m:MEY} {σ:L2.St} {H:Hp} {Q Q':VK} (h:tIY ct W m σ H Q) (k:∀ v H1,Q v H1→Q' v H1):tIY ct W m σ H Q':=by
 obtain ⟨ρ,S,F,R,o,st,e,kk⟩:=h;refine ⟨ρ,S,F,R,o,st,e,?_⟩
 cases o with
 | v r ρ'=>exact fun S' H' F' Fx v a b c d=>k _ _ (kk S' H' F' Fx v a b c d)
 | x c e' ρ'=>exact kk
theorem ZjC {X:Cx} {W:WX} (cx:CSY ct G N k sc X) (tk:Takes X W):∀ (a:EY) {e:Expr},Zcn G N sc a e=true→PT X e (tTY ct W (Zu G a)):=by
 have plain:∀ (a:EY) {e:Expr},(Zo e && Zn G N sc a e)=true→PT X e (tTY ct W (Zu G a)):=fun a e h=>by
  obtain ⟨h1,h2⟩:=Za h;exact pt_val (ZT cx tk a h2) (Zf5 h1)
 intro a;induction a with
 | not a ih=>
  intro e h;rcases Zb6 (o:=ZO e) h with ⟨_,h⟩ | ⟨x,hx,h⟩
  ·exact plain _ h
  ·obtain ⟨pp,rfl⟩:=Zb3 hx
   refine (pt_not (ih h)).to fun σ H Q q=>?_
   refine ZjB (ZfK σ H _ q) fun v H1 z=>?_
   obtain ⟨c,rfl,b,e2,q2⟩:=z;cases e2;exact ⟨c,rfl,q2⟩
 | _=>intro e h; exact plain _ h
theorem CG.blkX {X:Cx} {G':Gam} (cg:CG ct G' N k sc X) {sc':Scope} {s:Shared} {H:Hp} {C:Addr} {cl:List (Str×Addr)} {fp:List Addr} {xe:Value→Shared→Prop}:CG ct G' N k (relS sc' sc) (X.blkX s H sc' (compEnvC sc' cl C X.env) fp xe):=
 ⟨cg.calm,cg.nm,cg.nd,by rw [←cg.scp]; rfl,cg.room,cg.fn,cg.me,cg.mak,cg.gl,cg.fr,cg.fd,cg.dn,cg.gd,cg.er⟩
theorem ZjD {X:Cx} {W:WX} (cx:CSY ct G N k sc X) {sc':Scope} {σ0:L2.St} {f:Str} {es:List IE} {elt:Expr} (h:Zn G N (relS sc' sc) (.fn f es) elt=true):ZdJ X W sc' σ0 elt (tIY ct (WAt W σ0) (Zu G (.fn f es))):=by
 intro s H C cl fp xe hx;have cg:=cx.cg.blkX (sc':=sc') (s:=s) (H:=H) (C:=C) (cl:=cl) (fp:=fp) (xe:=xe);have inv:∃ x p es' pos,elt=.Call (.Name x p) es' [] pos∧(decide (f=x) && glo (relS sc' sc) x && (G.fx f).isSome && okN x && decide (es≠[]) && okEs G.g N (relS sc' sc) es es')=true:=by
  obtain ⟨q,hq,h⟩:=Zd (o:=dCl elt) h;obtain ⟨p1,p2,rfl⟩:=Zau hq;exact ⟨_,_,_,_,rfl,h⟩
 obtain ⟨x,p,es',pos,rfl,q⟩:=inv;clear h;obtain ⟨q,h6⟩:=Za q;obtain ⟨q,h5⟩:=Za q;obtain ⟨q,h4⟩:=Za q;obtain ⟨q,h3⟩:=Za q;obtain ⟨h1,h2⟩:=Za q;cases of_decide_eq_true h1;obtain ⟨d,hd⟩:=Option.isSome_iff_exists.mp h3;obtain ⟨fa,fd,ps,F,hm,hk,hb⟩:=cx.ex.fx f d hd;have hA:=snds cg es h6;have hs:=Zaj h6;cases es' with
 | nil=>cases es with
  | nil=>exact absurd rfl (of_decide_eq_true h5)
  | cons _ _=>exact no h6
 | cons e1 es1=>
  obtain ⟨n1,n2⟩:=Za (by rwa [List.all_cons] at hs);refine (pe_callS (X:=X.blkX s H sc' (compEnvC sc' cl C X.env) fp xe) (E:=WE (WAt W σ0)) F (cg.room.mono (Nat.le_succ _)) (Zj cg h2) hm hk hb hx hA (Zk h4).1 (Ze n1 _ _) (ZQ n2 _ _)).to ?_
  show ∀ σ H Q,tIY ct (WAt W σ0) (Zck (ZaA (G.fx f)) (evs G.g es)) σ H Q→_;rw [hd];exact ZfI
theorem ZjE {X:Cx} {W:WX} (cx:CSY ct G N k sc X) (tk:Takes X W) (src:SY) {tg it:Expr} (h:Zf0 G N sc src tg it=true):PI X tg it (tWY ct W (ZdS G src)):=by
 cases src with
 | w w=>exact ⟨fun pins s σ H Q I q=>(sndW cx.cg w h).run pins s σ H Q I (Zi3 σ H Q q)⟩
 | y a=>exact ⟨fun pins s σ H Q I q=>(Zeu (ZT cx tk a h)).run pins s σ H Q I (Zi4 σ H Q q)⟩
theorem ZjF {X:Cx} {W:WX} (cx:CSY ct G N k sc X) (tk:Takes X W) {i:Nat} {f:Str} {es:List IE} {p:Pat} {src:SY} {own:List (Str×Nat)} {st:Stmt} (h:(ZbB st).any (fun q=>ZdU G N sc i f es p src own q)=true):
  PS X st (tSY ct io W (Zbx io i (ZdP p (own.map (·.2)) (ZdS G src) (evC G.g none) (Zu G (.fn f es))))):=by
 obtain ⟨q,hq,h⟩:=Zd (o:=ZbB st) h;obtain ⟨py,pos,spos,rfl,hl⟩:=Zi9 hq;obtain ⟨y,ln,elt,g,sc'⟩:=q;obtain ⟨tg,it,ifs,as⟩:=g;unfold ZdU at h;dsimp only at h hl ⊢;obtain ⟨h,q9⟩:=Za h;obtain ⟨h,q8⟩:=Za h;obtain ⟨h,q7⟩:=Za h;obtain ⟨h,q6⟩:=Za h;obtain ⟨h,q5⟩:=Za h;obtain ⟨h,q4⟩:=Za h;obtain ⟨h,q3⟩:=Za h;obtain ⟨q1,q2⟩:=Za h;obtain ⟨r0,r1⟩:=Za q3;cases of_decide_eq_true r0;cases ifs with
 | cons _ _=>exact no r1
 | nil=>
  obtain ⟨s1,s2⟩:=Za q2;obtain ⟨s2,s3⟩:=Za s2;have hxl:X.env.scope.names.lookup y=some .local:=by rw [cx.cg.scp]; exact of_decide_eq_true s1
  have ha:(sc'.names.any fun (n,k)=>n ==y && (k ==.local || k ==.cell))=false:=by revert s3; cases (sc'.names.any fun (n,k)=>n ==y && (k ==.local || k ==.cell))<;>simp
  refine (ZiH (te:=fun σ=>tIY ct (WAt W σ) (Zu G (.fn f es))) cx.hs cx.hf tk cx.cg.calm (by rw [cx.cg.nm]; exact cx.cg.nd) (by rw [cx.cg.nm]; exact of_decide_eq_true q1) hxl (sw_true (by rw [cx.cg.scp]; exact cx.kd) hxl s2 ha) (ZjE cx tk src q5) (by rw [cx.cg.nm,cx.cg.scp]; exact blkOk_by q4) (fun s H C cl fp=>cx.cg.pat q6) (fun s H C cl fp=>sndC (cx.cg.blk (s:=s) (H:=H) (C:=C) (cl:=cl) (fp:=fp)) none rfl) (fun σ=>ZjD cx q9) (Zbp q8 _)).to fun D σ H z=>?_
  exact Zi5 (fun i hi=>List.contains_iff_mem.mp (List.all_eq_true.mp q7 i hi)) σ H _ (ZfT D σ H z)
mutual
theorem ZjG:∀ (is:IY) {X:Cx} {W:WX} (cx:CSY ct G N k sc X) (tk:Takes X W) {s:Stmt},okY G N sc is s=true→PS X s (tSY ct io W (evY G io is))
 | .n s,X,W,cx,tk,st,h=>by
  have q:okS G.g N sc s st=true:=h;exact (PS.noxx (ZdB cx.cs s q)).to fun D σ H z=>ZfS D σ H (by unfold evY at z; exact z)
 | .rais c,X,W,cx,tk,st,h=>by
  have inv:∃ x px m a q p pos,st=.Raise (some (.Call (.Name x px) [.Constant (.str m) a q] [] p)) none pos∧(decide (x=c) && glo sc x && okN x && G.xc c)=true:=by
   obtain ⟨q,hq,h⟩:=Zd (o:=Zbk st) h;obtain ⟨h1,h2⟩:=Za h;obtain ⟨a,ha,h1⟩:=Zd (o:=ls1 q.2) h1;obtain ⟨m,u,v,rfl⟩:=ZhL h1;obtain ⟨px,p,pos,rfl⟩:=Zfa hq;obtain ⟨x,es⟩:=q;cases ZaM ha;exact ⟨_,_,_,_,_,_,_,rfl,h2⟩
  obtain ⟨x,px,m,a,q,p,pos,rfl,h0⟩:=inv;clear h;obtain ⟨h0,h4⟩:=Za h0;obtain ⟨h0,h3⟩:=Za h0;obtain ⟨h1,h2⟩:=Za h0;cases of_decide_eq_true h1;obtain ⟨C,hC,hm,hx,hk,hb,ht⟩:=cx.ex.xc _ h4;exact (ps_raise cx.cg.calm tk (pmk_own PySem.F.excBase_ValueError hx hm hk (raises_own hb ht) (Zj cx.cg h2) (Zk h3).1)).to fun D σ H z=>ZiY hC D σ H (by unfold evY at z; exact z)
 | .raisP c es,X,W,cx,tk,st,h=>by
  have inv:∃ x px es' p pos,st=.Raise (some (.Call (.Name x px) es' [] p)) none pos∧(decide (x=c) && glo sc x && okN x && (G.xp c).isSome && decide (es≠[]) && okEs G.g N sc es es')=true:=by
   obtain ⟨q,hq,h⟩:=Zd (o:=Zbk st) h;obtain ⟨px,p,pos,rfl⟩:=Zfa hq;exact ⟨_,_,_,_,_,rfl,h⟩
  obtain ⟨x,px,es',p,pos,rfl,h0⟩:=inv;clear h;obtain ⟨h0,h6⟩:=Za h0;obtain ⟨h0,h5⟩:=Za h0;obtain ⟨h0,h4⟩:=Za h0;obtain ⟨h0,h3⟩:=Za h0;obtain ⟨h1,h2⟩:=Za h0;cases of_decide_eq_true h1;obtain ⟨f,hf⟩:=Option.isSome_iff_exists.mp h4;obtain ⟨C,fI,fd,ps,k0,hC,hm,T,iC,tI,F1,hk0,hb⟩:=cx.ex.xp _ f hf;have hA:=snds cx.cg es h6;have hs:=Zaj h6;cases es' with
  | nil=>cases es with
   | nil=>exact absurd rfl (of_decide_eq_true h5)
   | cons _ _=>exact no h6
  | cons e1 es1=>
   obtain ⟨n1,n2⟩:=Za (by rwa [List.all_cons] at hs);refine (ps_raise cx.cg.calm tk (pmk_oex T iC tI F1 (cx.cg.room.mono (Nat.succ_le_succ hk0)) hb (.nil) pass0 (Zj cx.cg h2) hm hA (Zk h3).1 (Ze n1 _ _) (ZQ n2 _ _))).to fun D σ H z=>Zi2 (io:=io) hC D σ H ?_
   unfold evY at z;rw [hf] at z;exact z
 | .dr a,X,W,cx,tk,st,h=>by
  have inv:∃ e p,st=.Expr e p∧(ZR e && Zn G N sc a e)=true:=by
   obtain ⟨q,hq,h⟩:=Zd (o:=Zai st) h;obtain ⟨p1,rfl⟩:=Zdk hq;exact ⟨_,_,rfl,h⟩
  obtain ⟨e,p,rfl,q⟩:=inv;obtain ⟨q0,q⟩:=Za q;exact (ps_expr (ZT cx tk a q) (Zcg q0)).to fun D σ H z=>ZiZ D σ H (by unfold evY at z; exact z)
 | .as i a,X,W,cx,tk,st,h=>by
  have inv:∃ y py e p,st=.Assign [.Name y py] e p∧(decide (N[i]?=some y) && ZD sc y && ZR e && Zn G N sc a e)=true:=by
   obtain ⟨q,hq,h⟩:=Zd (o:=Zbl st) h;obtain ⟨p1,p2,rfl⟩:=Zfc hq;exact ⟨_,_,_,_,rfl,h⟩
  obtain ⟨y,py,e,p,rfl,q⟩:=inv;clear h;obtain ⟨q,h4⟩:=Za q;obtain ⟨q,h3⟩:=Za q;obtain ⟨h1,h2⟩:=Za q;have hx:Loc X.env.scope y:=by
   rw [cx.cg.scp];unfold ZD at h2;split at h2
   ·rename_i z; exact .inl z
   ·rename_i z; exact .inr z
   ·cases h2
  exact (ps_set (by rw [cx.cg.nm]; exact cx.cg.nd) (by rw [cx.cg.nm]; exact of_decide_eq_true h1) hx (ZT cx tk a h4) (Zcg h3) (.inl (cx.fnc y))).to fun D σ H z=>ZfT D σ H (by unfold evY at z; exact z)
 | .re a,X,W,cx,tk,st,h=>by
  have inv:∃ e p,st=.Return (some e) p∧Zn G N sc a e=true:=by
   obtain ⟨q,hq,h⟩:=Zd (o:=ZaO st) h;obtain ⟨p1,rfl⟩:=Zfd hq;exact ⟨_,_,rfl,h⟩
  obtain ⟨e,p,rfl,q⟩:=inv;exact (ps_ret (ZT cx tk a q)).to fun D σ H z=>Zi0 D σ H (by unfold evY at z; exact z)
 | .ifY c a b,X,W,cx,tk,st,h=>by
  have inv:∃ c' a' b' p,st=.If c' a' b' p∧(okE G.g N sc c c' && okYs G N sc a a' && okYs G N sc b b')=true:=by
   obtain ⟨q,hq,h⟩:=Zd (o:=dIf st) h;obtain ⟨p1,rfl⟩:=Zdl hq;exact ⟨_,_,_,_,rfl,h⟩
  obtain ⟨c',a',b',p,rfl,q⟩:=inv;obtain ⟨q,h3⟩:=Za q;obtain ⟨h1,h2⟩:=Za q;exact (ps_if (snd cx.cg c h1).pt (sndYs a cx tk h2) (sndYs b cx tk h3)).to fun D σ H z=>ZiW D σ H (by unfold evY at z; exact z)
 | .ifX c a b,X,W,cx,tk,st,h=>by
  have inv:∃ c' a' b' p,st=.If c' a' b' p∧(Zcn G N sc c c' && okYs G N sc a a' && okYs G N sc b b')=true:=by
   obtain ⟨q,hq,h⟩:=Zd (o:=dIf st) h;obtain ⟨p1,rfl⟩:=Zdl hq;exact ⟨_,_,_,_,rfl,h⟩
  obtain ⟨c',a',b',p,rfl,q⟩:=inv;obtain ⟨q,h3⟩:=Za q;obtain ⟨h1,h2⟩:=Za q;exact (ps_if (ZjC cx tk c h1) (sndYs a cx tk h2) (sndYs b cx tk h3)).to fun D σ H z=>ZiX D σ H (by unfold evY at z; exact z)
 | .forY p w b kl,X,W,cx,tk,st,h=>by
  have inv:∃ tg it b' pos,st=.For tg it b' [] pos∧(okW G.g N sc w tg it && okP N sc p tg && Z3 it && okYs G N sc b b')=true:=by
   obtain ⟨q,hq,h⟩:=Zd (o:=Zb8 st) h;obtain ⟨p1,rfl⟩:=ZhS hq;exact ⟨_,_,_,_,rfl,h⟩
  obtain ⟨tg,it,b',pos,rfl,q⟩:=inv;clear h;obtain ⟨q,h4⟩:=Za q;obtain ⟨q,h3⟩:=Za q;obtain ⟨h1,h2⟩:=Za q;exact (ps_for cx.po cx.cg.calm (sndW cx.cg w h1) (cx.pat h2) (sndYs b cx tk h4) (Zbp h3 _)).to fun D σ H z=>Zi1 D σ H (by unfold evY at z; exact z)
 | .tryY b hs,X,W,cx,tk,st,h=>by
  have inv:∃ b' h' hs' p,st=.Try b' (h' ::hs') [] [] p∧(okYs G N sc b b' && ZbD G N sc hs (h' ::hs'))=true:=by
   obtain ⟨⟨b1,hs1⟩,hq,h⟩:=Zd (o:=Zb9 st) h;obtain ⟨h1,h2⟩:=Za h;obtain ⟨h3,h4,e1⟩:=Zdi h1;cases e1;obtain ⟨p1,rfl⟩:=ZhT hq;exact ⟨_,_,_,_,rfl,h2⟩
  obtain ⟨b',h',hs',p,rfl,q⟩:=inv;obtain ⟨h1,h2⟩:=Za q;obtain ⟨l,hl,go⟩:=Zf8 (io:=io) cx hs h2;exact (ZiO (tb:=fun W'=>tSY ct io W' (evYs G io b)) cx.hs cx.hf (by rw [cx.cg.nm]; exact cx.cg.nd) tk (fun W' pn xe tk' po'=>sndYs b (cx.tr po') tk' h1) hl).to fun D σ H z=>Zjy go D σ H (by unfold evY at z; exact z)
 | .appY j a,X,W,cx,tk,st,h=>by
  obtain ⟨e,he,h⟩:=Zd (o:=Zai st) h;obtain ⟨sp,rfl⟩:=Zdk he;obtain ⟨q,hq,h⟩:=Zd (o:=Zcb e) h;obtain ⟨x,hx,h⟩:=Zd (o:=Zv q.1) h;obtain ⟨o,m,ap,e1,pos⟩:=q;have eq:=Zh7 hq;subst eq;obtain ⟨p,ep⟩:=Zah hx;have ep:o=.Name x p:=ep;subst ep;obtain ⟨h,h7⟩:=Za h;obtain ⟨h,h6⟩:=Za h;obtain ⟨h,h5⟩:=Za h;obtain ⟨h,h4⟩:=Za h;obtain ⟨h,h3⟩:=Za h;obtain ⟨h1,h2⟩:=Za h;have e4:m=Zca .append:=of_decide_eq_true h4;subst e4;have hA:=pa_cons (ZT cx tk a h7) pa_nil (Ze h6 _ _);have hs:[e1].all nst=true:=by rw [List.all_cons,h6]; rfl
  exact (ps_expr (Zfm (m:=.append) (Z5 cx.cg (pos:=p) h1 h2 h3) hA rfl h5 hs (by show 1 < 20; decide)) rfl).to fun D σ H z=>Zi6 D σ H (by unfold evY at z; exact z)
 | .asLc i f es p src own,X,W,cx,tk,st,h=>(ZjF cx tk h).to fun D σ H z=>by unfold evY at z; exact z
theorem sndYs:∀ (ss:List IY) {X:Cx} {W:WX} (cx:CSY ct G N k sc X) (tk:Takes X W) {ts:List Stmt},okYs G N sc ss ts=true→PSs X ts (tSY ct io W (evYs G io ss))
 | [],X,W,cx,tk,ts,h=>by
  cases ts with
  | nil=>exact pss_nil.to fun D σ H z=>ZiU D σ H (by unfold evYs at z; exact z)
  | cons _ _=>exact no h
 | s ::ss,X,W,cx,tk,ts,h=>by
  cases ts with
  | nil=>exact no h
  | cons t ts=>
   have h:(okY G N sc s t && okYs G N sc ss ts)=true:=h;obtain ⟨h1,h2⟩:=Za h;exact (pss_cons (ZjG s cx tk h1) (sndYs ss cx tk h2)).to fun D σ H z=>ZiV D σ H (by unfold evYs at z; exact z)
end
end
noncomputable def ZaX (G:GamY) (md:List Md) (n:Nat) (b:List IY) (ds:List D):Option ((D×List D) ⊕ (Str×Zl)):=
 if ds.length=md.length∧md.length≤n then
  match evYs G (iosFrom 0 md) b (slots0 md ds++List.replicate (n - md.length) .dead) with
  | some (.o (.nx ρ))=>(outsR md ρ).bind fun os=>some (.inl (.non,os))
  | some (.o (.rt d ρ))=>(outsR md ρ).bind fun os=>some (.inl (d,os))
  | some (.xc c e _)=>some (.inr (c,e))
  | _=>none
 else none
noncomputable def fnY (G:GamY) (md:List Md) (n:Nat) (b:List IY):FnY:=⟨md,ZaX G md n b⟩
noncomputable def Zcr (G:GamY) (md:List Md) (n:Nat) (b:List IY):FnS:=(fnY G md n b).val
section
variable {ct:Str→Option Addr} {P:Program} {w:World} {K:PySem.W.Frag} {mg:Str→Option Value} {base:Heap} {G:GamY}
theorem ZjH {S H:Hp} {F:FP} {md:List Md} {ds:List D} {vs:List V} {N:List Str} (wk:WOk S H F) (ar:ArgsRep ct S H F md ds vs F) (hl:ds.length=md.length∧md.length≤N.length):State ct S H F No (slots0 md ds++List.replicate (N.length - md.length) .dead) (L2.start N vs):=by
 obtain ⟨fs,h1,h2,h3⟩:=ZaS ar;have lv:vs.length=md.length:=(Z7 ar).2;have ls:=ZdC hl.1;refine ⟨wk.anti fun a z=>z.elim id fun z=>z.elim,fun _ _ z=>z,?_,fs,h1,h2,fun i s e=>?_⟩
 ·unfold L2.start; simp [ls,lv]
 ·by_cases hi:i < (slots0 md ds).length
  ·rw [List.getElem?_append_left hi] at e
   have q:=h3 i s e;have e2:(L2.start N vs)[i]?=(vs.map some)[i]?:=by
    unfold L2.start;rw [List.getElem?_append_left (by rw [List.length_map,lv,←ls]; exact hi)]
   rw [e2];cases s with
   | dead=>trivial
   | own d=>exact q
   | vw d=>
    obtain ⟨v,ev,q⟩:=q;exact ⟨v,ev,Vw.anti (fun a z=>z.elim id fun z=>z.elim) q⟩
  ·rw [List.getElem?_append_right (by omega)] at e
   have : s=.dead:=List.eq_of_mem_replicate (List.mem_of_getElem? e);subst this;trivial
theorem ZjI {sc:Scope} {X:Cx} {N:List Str} {md:List Md} {b:List IY} {st:Stmt} {k:Nat} {W:WX} {vs:List V} {H:Hp} {Q:VK} {S:Hp} {F:FP} {ds:List D} {z:(D×List D) ⊕ (Str×Zl)} (wk:WOk S H F) (ar:ArgsRep ct S H F md ds vs F) (hz:ZaX G md N.length b ds=some z)
  (kv:∀ r outs,z=.inl (r,outs)→∀ S' H' F' Fr v,EndRep ct S H F md vs r outs S' H' F' Fr v→Q v H')
  (kx:∀ c e,z=.inr (c,e)→∀ S' H' F' σ' C od,ct c=some C→XD ct S' H' e od→WOk S' H' F'→Tr S H F S' H' F'→W (.ref C) od σ' H'):
  tSY ct (iosFrom 0 md) W (evYs G (iosFrom 0 md) b) { nx:=fun _ H'=>Q .non H',rt:=Q } (L2.start N vs) H:=by
 unfold ZaX at hz;split at hz
 ·rename_i hl
  have lv:vs.length=md.length:=(Z7 ar).2;have st0:=ZjH (N:=N) wk ar hl;cases ho:evYs G (iosFrom 0 md) b (slots0 md ds++List.replicate (N.length - md.length) .dead) with
  | none=>rw [ho] at hz; cases hz
  | some o=>
   rw [ho] at hz;refine ⟨_,S,F,No,o,st0,ho,?_⟩
   cases o with
   | xc c e ρ=>
    cases hz;exact fun S' H' F' σ' C od hC hx P=>kx c e rfl S' H' F' σ' C od hC hx (P.st.w.anti fun a z=>.inl z) P.tr
   | o y=>cases y with
    | ct ρ=>cases hz
    | bk ρ=>cases hz
    | nx ρ=>
     obtain ⟨os,h4,hz⟩:=bind_some hz;cases hz;exact fun S' H' F' σ' P=>kv _ _ rfl S' H' F' No .non ⟨P.st.w,fun _ _ z=>z,P.tr.grow fun a z=>z.elim id fun z=>z.elim,rfl,Zci P.st P.stay lv h4⟩
    | rt d ρ=>
     obtain ⟨os,h4,hz⟩:=bind_some hz;cases hz;exact fun S' H' F' Fr σ' v P=>kv _ _ rfl S' H' F' Fr v ⟨P.st.w.anti fun a z=>z.imp id .inr,fun a z z2=>P.st.dj a z (.inr z2),P.tr,P.rep,Zci P.st P.stay lv h4⟩
 ·cases hz
theorem Zf9 {x qual:Str} {st:Stmt} {f:Addr} {fd:FuncData} {N ps:List Str} {k:Nat} {md:List Md} {b:List IY} (cx:Ctx ct P w K mg base G.g k) (ex:EXY ct G k P w K mg base) (Fu:Fun K x qual st f fd) (Sc':FnScope N ps (defScope st)) (hm:md.length=ps.length) (ok:okYs G N (defScope st) b (defBody st)=true) (hrp:G.g.rp=false:=by rfl):
  FnOk P w K mg base CX0 (k+2) f fd ps (spI ct (Zcr G md N.length b)):=by
 refine Fu.ok Sc' (fun vs H Q E ⟨S,F,ds,r,outs,w,a,_⟩=>by rw [(Z7 a).2]; exact hm) fun cdv A outer s H vs Q E hr hsp=>?_
 obtain ⟨S,F,ds,r,outs,wk,ar,hs,q⟩:=hsp;have cg:CG ct G.g N k (defScope st) (cxOf CX0 P w K mg base N qual (defScope st) f cdv A outer s H E).nox:=⟨rfl,rfl,Sc'.nd,rfl,hr,cx.fn,cx.me,cx.mak,cx.gl,cx.fr,cx.fd,cx.dn,fun z=>(by rw [hrp] at z; cases z),cx.er⟩;have csx:CSY ct G N k (defScope st) (cxOf CX0 P w K mg base N qual (defScope st) f cdv A outer s H E).nox:=⟨cg,fun _=>rfl,Sc'.kind,rfl,rfl,PassesOwn.never,ex⟩;refine ⟨_,sndYs (io:=iosFrom 0 md) b csx takes0 ok,?_⟩
 have hs:(match ZaX G md N.length b ds with | some (.inl q)=>some q | _=>none)=some (r,outs):=hs;split at hs
 ·rename_i z hz
  cases hs;exact ZjI (sc:=defScope st) (X:=(cxOf CX0 P w K mg base N qual (defScope st) f cdv A outer s H E).nox) (st:=st) (k:=k) wk ar hz (fun r' outs' z=>by cases z; exact q) (fun c e' z=>by cases z)
 ·cases hs
end
end VS
namespace VS
open PySem PySem.Spec PyProof.Rows L2
theorem ZjJ {K:PySem.W.Frag} {C' C:Addr} (hd:PySem.W.hasDictIn K C=true) (ht:PySem.W.typeIn K (.ref C)=some (.type "type")) (hs:PySem.W.subIn K (.ref C') (.ref C)=some true):PySem.W.kitOne K (.ref C') (.ref C)=some true:=by
 obtain ⟨cd,hc,_⟩:=PySem.W.any_some hd;unfold PySem.W.kitOne;split
 ·rfl
 ·show (if ((PySem.W.clsIn K C).isSome && PySem.W.typeIn K (.ref C) ==some (.type "type"))=true then PySem.W.subIn K (.ref C') (.ref C) else none)=_
  rw [if_pos,hs];rw [hc,ht];rfl
end VS
namespace VS
open PySem PySem.Spec PyProof.Rows L2
noncomputable def gyE (G:Gam):GamY:=⟨G,fun _=>none,fun _ _=>none,fun _=>none,fun _=>false,fun _ _=>none,fun _ _=>none,fun _=>false,fun _=>none,fun _ _=>false⟩
noncomputable def GamY.xmAdd (G:GamY) (c' c:Str) (b:Bool):GamY:={ G with xm:=fun x y=>if x=c'∧y=c then some b else G.xm x y }
noncomputable def GamY.xiAdd (G:GamY) (c' c:Str) (b:Bool):GamY:={ G with xi:=fun x y=>if x=c'∧y=c then some b else G.xi x y }
noncomputable def GamY.xhAdd (G:GamY) (c:Str):GamY:={ G with xh:=fun y=>if y=c then true else G.xh y }
noncomputable def GamY.xpAdd (G:GamY) (c f:Str):GamY:={ G with xp:=fun y=>if y=c then some f else G.xp y }
noncomputable def GamY.xfAdd (G:GamY) (c f:Str):GamY:={ G with xf:=fun x y=>if x=c∧y=f then true else G.xf x y }
section
variable {ct:Str→Option Addr} {P:Program} {w:World} {K:PySem.W.Frag} {mg:Str→Option Value} {base:Heap} {G:GamY} {k:Nat}
theorem eyE {g:Gam}:EXY ct (gyE g) k P w K mg base:=⟨fun _ _ h=>(nomatch h),fun _ _ _ h=>(nomatch h),fun _ _ h=>(nomatch h),fun _ h=>(nomatch (show false=true from h)),fun _ _ _ h=>(nomatch h),fun _ _ _ _ h=>(nomatch h),fun _ h=>(nomatch (show false=true from h)),fun _ _ h=>(nomatch h),fun _ _ h=>(nomatch (show false=true from h)),fun _ _ _ h=>(nomatch h),fun _ _ _ h=>nomatch h⟩
theorem EXY.xmAdd {c' c:Str} {b:Bool} {C' C:Addr} (e:EXY ct G k P w K mg base) (h1:ct c'=some C') (h2:mg c=some (.ref C)) (h3:PySem.W.exmOne K (.ref C') (.ref C)=some b):EXY ct (G.xmAdd c' c b) k P w K mg base:=by
 refine ⟨e.fx,e.mx,e.kx,e.xc,fun x y d h=>?_,e.xi,e.xh,e.xp,e.xf,e.xg,e.xs⟩
 have h:(if x=c'∧y=c then some b else G.xm x y)=some d:=h;by_cases z:x=c'∧y=c
 ·rw [if_pos z] at h; cases h; rw [z.1,z.2]; exact ⟨C',C,h1,h2,h3⟩
 ·rw [if_neg z] at h; exact e.xm x y d h
theorem EXY.xiAdd {c' c:Str} {b:Bool} {C' C:Addr} (e:EXY ct G k P w K mg base) (h1:ct c'=some C') (h2:mg c=some (.ref C)) (h3:ExcC K C') (h4:PySem.W.kitOne K (.ref C') (.ref C)=some b) (h5:ZI c=false:=by decide +kernel):EXY ct (G.xiAdd c' c b) k P w K mg base:=by
 refine ⟨e.fx,e.mx,e.kx,e.xc,e.xm,fun x y d hn h=>?_,e.xh,e.xp,e.xf,fun x g d h=>?_,fun x g d h=>?_⟩
 ·have h:(if x=c'∧y=c then some b else G.xi x y)=some d:=h
  by_cases z:x=c'∧y=c
  ·rw [if_pos z] at h; cases h; rw [z.1,z.2]; exact ⟨C',h1,h3,.inl ⟨C,h2,h4⟩⟩
  ·rw [if_neg z] at h; exact e.xi x y d hn h
 ·have h:(if x=c'∧Zay g=c then some b else G.xi x (Zay g))=some d:=h
  by_cases z:x=c'∧Zay g=c
  ·rw [←z.2,Zjb] at h5; cases h5
  ·rw [if_neg z] at h; exact e.xg x g d h
 ·have h:(if x=c'∧Zak g d=c then some b else G.xi x (Zak g d))=some true:=h
  by_cases z:x=c'∧Zak g d=c
  ·rw [←z.2,Zjc] at h5; cases h5
  ·rw [if_neg z] at h; exact e.xs x g d h
theorem ZjK {K:PySem.W.Frag} {C':Addr} (hs:PySem.W.subIn K (.ref C') (.type "ValueError")=some true):PySem.W.kitOne K (.ref C') (.type "ValueError")=some true:=by
 unfold PySem.W.kitOne;split
 ·rfl
 ·show (if PySem.W.kitMeta "ValueError"=true then PySem.W.subIn K (.ref C') (.type "ValueError") else none)=_
  rw [if_pos (by decide +kernel),hs]
theorem EXY.xhAdd {c:Str} {C:Addr} (e:EXY ct G k P w K mg base) (h:mg c=some (.ref C)):EXY ct (G.xhAdd c) k P w K mg base:=by
 refine ⟨e.fx,e.mx,e.kx,e.xc,e.xm,e.xi,fun y q=>?_,e.xp,e.xf,e.xg,e.xs⟩
 have q:(if y=c then true else G.xh y)=true:=q;by_cases z:y=c
 ·rw [z]; exact ⟨C,h⟩
 ·rw [if_neg z] at q; exact e.xh y q
theorem EXY.xpAdd {c f:Str} {C fI:Addr} {fd:FuncData} {ps:List Str} {k0:Nat} (e:EXY ct G k P w K mg base) (h1:ct c=some C) (h2:mg c=some (.ref C)) (h3:OexC K C) (h4:PySem.W.findIn K (.ref C) "__init__"=some (some (.ref fI))) (h5:PySem.W.typeIn K (.ref fI)=some (.type "function")) (h6:FnOk P w K mg base CX0 k0 fI fd ps (ZfX C f)) (h7:k0≤k) (h8:Binds K fd ps []):EXY ct (G.xpAdd c f) k P w K mg base:=by
 refine ⟨e.fx,e.mx,e.kx,e.xc,e.xm,e.xi,e.xh,fun y g q=>?_,e.xf,e.xg,e.xs⟩
 have q:(if y=c then some f else G.xp y)=some g:=q;by_cases z:y=c
 ·rw [if_pos z] at q; cases q; rw [z]; exact ⟨C,fI,fd,ps,k0,h1,h2,h3,h4,h5,h6,h7,h8⟩
 ·rw [if_neg z] at q; exact e.xp y g q
theorem EXY.xfAdd {c f:Str} {C:Addr} (e:EXY ct G k P w K mg base) (h1:ct c=some C) (h2:XfC K C) (h3:PySem.W.findIn K (.ref C) f=some none):EXY ct (G.xfAdd c f) k P w K mg base:=by
 refine ⟨e.fx,e.mx,e.kx,e.xc,e.xm,e.xi,e.xh,e.xp,fun x y q=>?_,e.xg,e.xs⟩
 have q:(if x=c∧y=f then true else G.xf x y)=true:=q;by_cases z:x=c∧y=f
 ·rw [z.1,z.2]; exact ⟨C,h1,h2,h3⟩
 ·rw [if_neg z] at q; exact e.xf x y q
end
theorem ZdW {K:PySem.W.Frag} {C' C:Addr} {b:Bool} (hd:PySem.W.hasDictIn K C=true) (ht:PySem.W.typeIn K (.ref C)=some (.type "type")) (hs:PySem.W.subIn K (.ref C') (.ref C)=some b) (hne:b=false→C'≠C):PySem.W.kitOne K (.ref C') (.ref C)=some b:=by
 cases b with
 | true=>exact ZjJ hd ht hs
 | false=>
  obtain ⟨cd,hc,_⟩:=PySem.W.any_some hd;unfold PySem.W.kitOne;rw [if_neg]
  ·show (if ((PySem.W.clsIn K C).isSome && PySem.W.typeIn K (.ref C) ==some (.type "type"))=true then PySem.W.subIn K (.ref C') (.ref C) else none)=_
   rw [if_pos,hs];rw [hc,ht];rfl
  ·intro z
   exact hne rfl (Value.ref.inj (beq_iff_eq.mp z))
section
variable {G:GamY} {io:List Nat} {s:IY} {ss:List IY} {ρ ρ1:Rho} {o:Option OutY} {d:D} {c:Str} {e:Zl} {md:List Md} {n:Nat} {b:List IY} {ds os:List D}
theorem Zga (h:evY G io s ρ=some (.o (.rt d ρ1))):evYs G io (s ::ss) ρ=some (.o (.rt d ρ1)):=by
 unfold evYs Zcl;rw [h];rfl
theorem Zgb (h:evY G io s ρ=some (.xc c e ρ1)):evYs G io (s ::ss) ρ=some (.xc c e ρ1):=by
 unfold evYs Zcl;rw [h];rfl
theorem Zgc {b:List IY} {hs:List HC} (h:evYs G io b ρ=some (.xc c e ρ1)) (k:Zaz G.xm G.xi G.xf io c e ρ1 hs=o):evY G io (.tryY b hs) ρ=o:=by
 unfold evY ZdR;rw [h]; exact k
theorem Zgd (hl:ds.length=md.length∧md.length≤n) (h:evYs G (iosFrom 0 md) b (slots0 md ds++List.replicate (n - md.length) .dead)=some (.o (.rt d ρ))) (ho:outsR md ρ=some os):(fnY G md n b).sem ds=some (.inl (d,os)):=by
 show ZaX G md n b ds=_;unfold ZaX;rw [if_pos hl,h];show (outsR md ρ).bind _=_;rw [ho]; rfl
theorem Zge (h:(fnY G md n b).sem ds=some (.inl (d,os))):(Zcr G md n b).sem ds=some (d,os):=by
 show (match (fnY G md n b).sem ds with | some (.inl q)=>some q | _=>none)=_;rw [h]
end
end VS
namespace VS
open PySem PySem.Spec PyProof.Rows L2
noncomputable def ZdX (a:Str):Tst:=fun K=>Zg a K && (PySem.W.keepIn K (.ref (He.ga K a)) && (Zp (fun K=>.ref (He.ga K a)) "type" K && (obB (fun K=>PySem.W.subIn K (.ref (He.ga K a)) (.type "BaseException")) true K && (PySem.W.hasDictIn K (He.ga K a) && (ZF a "__getattribute__" "BaseException.__getattribute__" K && (ZW a "__getattr__" K && (ZF a "__class__" "object.__class__" K && (obB (fun K=>PySem.W.mroIn K (He.ga K a) (.type "object")) true K && (obB (fun K=>PySem.W.subIn K (.ref (He.ga K a)) (.type "ValueError")) true K && obB (fun K=>PySem.W.subIn K (.ref (He.ga K a)) (.ref (He.ga K "DrawError"))) true K)))))))))
noncomputable def Zgf (a b:Str):Tst:=fun K=>obB (fun K=>PySem.W.subIn K (.ref (He.ga K a)) (.ref (He.ga K b))) (decide (a=b)) K && (decide (a=b) || neB a b K)
noncomputable def ZdY (ns:List Str) (fs:List (Str×Str)):Tst:=fun K=>ns.all (fun a=>ZdX a K) && (ns.all (fun a=>ns.all fun b=>Zgf a b K) && (ns.all (fun a=>(fs.any fun p=>decide (p.1=a)) || PySem.W.excIn K (He.ga K a) [.type "ValueError",.type "Exception",.type "BaseException",.type "object"] "ValueError.__new__") && (fs.all (fun p=>ns.contains p.1 && ZW p.1 p.2 K) && (Zg "DrawError" K && (Zp (fun K=>.ref (He.ga K "DrawError")) "type" K && (PySem.W.hasDictIn K (He.ga K "DrawError") && (Za5 (fun _=>.builtin "object.__class__") "__get__" "getset_descriptor.__get__" K && obB (fun K=>PySem.W.takesIn K (.builtin "object.__class__")) true K)))))))
section
variable {ct:Str→Option Addr} {P:Program} {w:World} {K:PySem.W.Frag} {mg:Str→Option Value} {base:Heap} {h:Heap} {ns:List Str} {fs:List (Str×Str)} {k:Nat}
theorem ZjL (X:K.In h) (G:h.Ns mainGlobals mg) (hct:∀ c∈ns,ct c=some (He.ga K c)) (zV:mg "ValueError"=none) (hb:ZdY ns fs K=true) (hDE:ns.contains "DrawError"=false)
  (h1:∀ p∈fs,∃ fI fd ps k0,OexC K (He.ga K p.1)∧PySem.W.findIn K (.ref (He.ga K p.1)) "__init__"=some (some (.ref fI))∧PySem.W.typeIn K (.ref fI)=some (.type "function")∧FnOk P w K mg base CX0 k0 fI fd ps (Zbm (He.ga K p.1) p.2)∧k0≤k∧Binds K fd ps []):ErOk ct (Zt ns fs) k P w K mg base:=by
 unfold ZdY at hb;obtain ⟨b1,hb⟩:=Za hb;obtain ⟨b2,hb⟩:=Za hb;obtain ⟨b3,hb⟩:=Za hb;obtain ⟨b4,hb⟩:=Za hb;obtain ⟨b5,hb⟩:=Za hb;obtain ⟨b6,hb⟩:=Za hb;obtain ⟨b7,hb⟩:=Za hb;obtain ⟨b8,b9⟩:=Za hb;have mgN:∀ a∈ns,mg a=some (.ref (He.ga K a)):=fun a ha=>by
  have e:=List.all_eq_true.mp b1 a ha;unfold ZdX at e;exact PySem.W.mg_of X G (Zr (Za e).1)
 have mgD:=PySem.W.mg_of X G (Zr b5);have exc:∀ a∈ns,ExcC K (He.ga K a)∧XfC K (He.ga K a)∧PySem.W.keepIn K (.ref (He.ga K a))=true∧PySem.W.typeIn K (.ref (He.ga K a))=some (.type "type")∧PySem.W.hasDictIn K (He.ga K a)=true∧PySem.W.subIn K (.ref (He.ga K a)) (.type "ValueError")=some true∧PySem.W.subIn K (.ref (He.ga K a)) (.ref (He.ga K "DrawError"))=some true:=fun a ha=>by
  have e:=List.all_eq_true.mp b1 a ha;unfold ZdX at e;obtain ⟨_,e⟩:=Za e;obtain ⟨e1,e⟩:=Za e;obtain ⟨e2,e⟩:=Za e;obtain ⟨e3,e⟩:=Za e;obtain ⟨e4,e⟩:=Za e;obtain ⟨e5,e⟩:=Za e;obtain ⟨e6,e⟩:=Za e;obtain ⟨e7,e⟩:=Za e;obtain ⟨e8,e⟩:=Za e;obtain ⟨e9,e10⟩:=Za e;have g5:=ZX e5;have g6:=Zaq e6;have g3:=Zh e3;exact ⟨⟨g5,g6,g3,e4,ZX e7,ZbN b8,Zh b9,Zh e8⟩,⟨g5,g6,g3,e4⟩,e1,Zq e2,e4,Zh e9,Zh e10⟩
 refine ⟨fun c' c b e=>?_,fun c f e=>?_,fun c e=>?_,fun c f e=>?_,fun c e=>?_⟩
 ·have e:ZdH ns c' c=some b:=e
  unfold ZdH at e;split at e
  ·rename_i hc
   have hc:=List.contains_iff_mem.mp hc;obtain ⟨x1,_,_,x4,x5,x6,x7⟩:=exc c' hc;refine ⟨_,hct c' hc,x1,?_⟩
   split at e
   ·rename_i hv
    cases e;rcases hv with rfl | rfl
    ·exact .inr ⟨rfl,zV,ZjK x6⟩
    ·exact .inl ⟨_,mgD,ZdW b7 (Zq b6) x7 (fun z=>nomatch z)⟩
   ·split at e
    ·rename_i hc2
     cases e;have hc2:=List.contains_iff_mem.mp hc2;obtain ⟨_,_,_,y4,y5,_⟩:=exc c hc2;have pr:=List.all_eq_true.mp (List.all_eq_true.mp b2 c' hc) c hc2;unfold Zgf at pr;obtain ⟨p1,p2⟩:=Za pr;refine .inl ⟨_,mgN c hc2,ZdW y5 y4 (Zh p1) fun z=>?_⟩
     rcases Bool.or_eq_true_iff.mp p2 with q | q
     ·rw [z] at q; cases q
     ·exact ZgR q
    ·cases e
  ·cases e
 ·obtain ⟨p,hp,e⟩:=List.any_eq_true.mp (show (fs.any fun p=>decide (p.1=c) && decide (p.2=f))=true from e)
  obtain ⟨e1,e2⟩:=Za e;cases of_decide_eq_true e1;cases of_decide_eq_true e2;obtain ⟨e3,e4⟩:=Za (List.all_eq_true.mp b4 p hp);have hc:=List.contains_iff_mem.mp e3;exact ⟨_,hct _ hc,(exc _ hc).2.1,Zaq e4⟩
 ·obtain ⟨e1,e2⟩:=Za (show (ns.contains c && !(fs.any fun p=>decide (p.1=c)))=true from e)
  have hc:=List.contains_iff_mem.mp e1;refine ⟨_,hct c hc,mgN c hc,?_,(exc c hc).2.2.1⟩
  rcases Bool.or_eq_true_iff.mp (List.all_eq_true.mp b3 c hc) with q | q
  ·rw [q] at e2; cases e2
  ·exact q
 ·obtain ⟨p,hp,e9⟩:=Option.map_eq_some_iff.mp (show (fs.find? fun p=>decide (p.1=c)).map (·.2)=some f from e)
  have e0:(decide (p.1=c))=true:=List.find?_some (p:=fun p:Str×Str=>decide (p.1=c)) hp;have e1:=of_decide_eq_true e0;have hm:=List.mem_of_find?_eq_some hp;subst e1;subst e9;have hc:=List.contains_iff_mem.mp (Za (List.all_eq_true.mp b4 p hm)).1;obtain ⟨fI,fd,ps,k0,r⟩:=h1 p hm;exact ⟨_,fI,fd,ps,k0,hct _ hc,mgN _ hc,r⟩
 ·rcases Bool.or_eq_true_iff.mp (show (decide (c= "DrawError") || ns.contains c)=true from e) with q | q
  ·cases of_decide_eq_true q
   exact ⟨_,mgD⟩
  ·exact ⟨_,mgN c (List.contains_iff_mem.mp q)⟩
end
end VS
namespace K16
open PySem PySem.Spec PyProof.Rows L2 VS
noncomputable def ZC (i:Nat):Stmt:=PySem.Challenge.pw_arrowtiers_k16_refusals_apart.main.body.getD i (.Pass ⟨0,0,0,0⟩)
noncomputable abbrev Zcs:Stmt:=ZC 24
noncomputable abbrev Zct:Stmt:=ZC 17
noncomputable abbrev Zcu:Stmt:=ZC 19
noncomputable abbrev Zcv:Stmt:=ZC 23
noncomputable abbrev Zcw:Stmt:=ZC 22
noncomputable abbrev Zcx:Stmt:=ZC 25
noncomputable abbrev Zcy:Stmt:=ZC 20
noncomputable abbrev Zcz:Stmt:=ZC 21
noncomputable abbrev ZcA:Stmt:=ZC 18
noncomputable abbrev Zaa:Stmt:=ZC 26
noncomputable abbrev ZaY:Stmt:=inClass (ZC 5) 0
noncomputable abbrev ZaZ:Stmt:=inClass (ZC 2) 0
noncomputable abbrev Za0:Stmt:=inClass (ZC 6) 0
noncomputable def ZjM:List Str:=[("__name__":Str),("DrawError":Str),("NoNet":Str),("NoOrder":Str),("NoText":Str),("NoArrow":Str),("Ringed":Str),("NoRows":Str),("NoWidth":Str),("NoRow":Str),("NoNode":Str),("TooMany":Str),("NoNumber":Str),("Twisted":Str),("NoPlaces":Str),("NoName":Str),("_law_cell_at":Str),("_law_tape":Str),("_law_digit":Str),("_law_firsts":Str),("_law_sorts":Str),("_law_made":Str),("_law_fault":Str),("_law_caught":Str),("_law_ringed":Str)]
noncomputable abbrev names:List Str:=ZjM
noncomputable def fs0:List Tst:=[ZbM,Zg "DrawError",fun K=>PySem.W.keepIn K (.ref (He.ga K "DrawError")),Zp (fun K=>.ref (He.ga K "DrawError")) "type",obB (fun K=>PySem.W.subIn K (.ref (He.ga K "DrawError")) (.type "BaseException")) true,fun K=>PySem.W.hasDictIn K (He.ga K "DrawError"),Zg "NoArrow",fun K=>PySem.W.keepIn K (.ref (He.ga K "NoArrow")),Zp (fun K=>.ref (He.ga K "NoArrow")) "type",obB (fun K=>PySem.W.subIn K (.ref (He.ga K "NoArrow")) (.type "BaseException")) true,fun K=>PySem.W.hasDictIn K (He.ga K "NoArrow"),ZF "NoArrow" "__getattribute__" "BaseException.__getattribute__",ZW "NoArrow" "__getattr__",ZF "NoArrow" "__class__" "object.__class__",Za5 (fun K=>.builtin "object.__class__") "__get__" "getset_descriptor.__get__",obB (fun K=>PySem.W.takesIn K (.builtin "object.__class__")) true,obB (fun K=>PySem.W.mroIn K (He.ga K "NoArrow") (.type "object")) true,Zg "NoName",fun K=>PySem.W.keepIn K (.ref (He.ga K "NoName")),Zp (fun K=>.ref (He.ga K "NoName")) "type",obB (fun K=>PySem.W.subIn K (.ref (He.ga K "NoName")) (.type "BaseException")) true,fun K=>PySem.W.hasDictIn K (He.ga K "NoName"),Zg "NoNet",fun K=>PySem.W.keepIn K (.ref (He.ga K "NoNet")),Zp (fun K=>.ref (He.ga K "NoNet")) "type",obB (fun K=>PySem.W.subIn K (.ref (He.ga K "NoNet")) (.type "BaseException")) true,fun K=>PySem.W.hasDictIn K (He.ga K "NoNet"),Zg "NoNode",fun K=>PySem.W.keepIn K (.ref (He.ga K "NoNode")),Zp (fun K=>.ref (He.ga K "NoNode")) "type"]
noncomputable def fs1:List Tst:=[obB (fun K=>PySem.W.subIn K (.ref (He.ga K "NoNode")) (.type "BaseException")) true,fun K=>PySem.W.hasDictIn K (He.ga K "NoNode"),Zg "NoNumber",fun K=>PySem.W.keepIn K (.ref (He.ga K "NoNumber")),Zp (fun K=>.ref (He.ga K "NoNumber")) "type",obB (fun K=>PySem.W.subIn K (.ref (He.ga K "NoNumber")) (.type "BaseException")) true,fun K=>PySem.W.hasDictIn K (He.ga K "NoNumber"),Zg "NoOrder",fun K=>PySem.W.keepIn K (.ref (He.ga K "NoOrder")),Zp (fun K=>.ref (He.ga K "NoOrder")) "type",obB (fun K=>PySem.W.subIn K (.ref (He.ga K "NoOrder")) (.type "BaseException")) true,fun K=>PySem.W.hasDictIn K (He.ga K "NoOrder"),Zg "NoPlaces",fun K=>PySem.W.keepIn K (.ref (He.ga K "NoPlaces")),Zp (fun K=>.ref (He.ga K "NoPlaces")) "type",obB (fun K=>PySem.W.subIn K (.ref (He.ga K "NoPlaces")) (.type "BaseException")) true,fun K=>PySem.W.hasDictIn K (He.ga K "NoPlaces"),Zg "NoRow",fun K=>PySem.W.keepIn K (.ref (He.ga K "NoRow")),Zp (fun K=>.ref (He.ga K "NoRow")) "type",obB (fun K=>PySem.W.subIn K (.ref (He.ga K "NoRow")) (.type "BaseException")) true,fun K=>PySem.W.hasDictIn K (He.ga K "NoRow"),Zg "NoRows",fun K=>PySem.W.keepIn K (.ref (He.ga K "NoRows")),Zp (fun K=>.ref (He.ga K "NoRows")) "type",obB (fun K=>PySem.W.subIn K (.ref (He.ga K "NoRows")) (.type "BaseException")) true,fun K=>PySem.W.hasDictIn K (He.ga K "NoRows"),Zg "NoText",fun K=>PySem.W.keepIn K (.ref (He.ga K "NoText")),Zp (fun K=>.ref (He.ga K "NoText")) "type"]
noncomputable def fs2:List Tst:=[obB (fun K=>PySem.W.subIn K (.ref (He.ga K "NoText")) (.type "BaseException")) true,fun K=>PySem.W.hasDictIn K (He.ga K "NoText"),Zg "NoWidth",fun K=>PySem.W.keepIn K (.ref (He.ga K "NoWidth")),Zp (fun K=>.ref (He.ga K "NoWidth")) "type",obB (fun K=>PySem.W.subIn K (.ref (He.ga K "NoWidth")) (.type "BaseException")) true,fun K=>PySem.W.hasDictIn K (He.ga K "NoWidth"),Zg "Ringed",fun K=>PySem.W.keepIn K (.ref (He.ga K "Ringed")),Zp (fun K=>.ref (He.ga K "Ringed")) "type",obB (fun K=>PySem.W.subIn K (.ref (He.ga K "Ringed")) (.type "BaseException")) true,fun K=>PySem.W.hasDictIn K (He.ga K "Ringed"),ZF "Ringed" "__getattribute__" "BaseException.__getattribute__",ZW "Ringed" "__getattr__",ZF "Ringed" "__class__" "object.__class__",obB (fun K=>PySem.W.mroIn K (He.ga K "Ringed") (.type "object")) true,Zg "TooMany",fun K=>PySem.W.keepIn K (.ref (He.ga K "TooMany")),Zp (fun K=>.ref (He.ga K "TooMany")) "type",obB (fun K=>PySem.W.subIn K (.ref (He.ga K "TooMany")) (.type "BaseException")) true,fun K=>PySem.W.hasDictIn K (He.ga K "TooMany"),Zg "Twisted",fun K=>PySem.W.keepIn K (.ref (He.ga K "Twisted")),Zp (fun K=>.ref (He.ga K "Twisted")) "type",obB (fun K=>PySem.W.subIn K (.ref (He.ga K "Twisted")) (.type "BaseException")) true,fun K=>PySem.W.hasDictIn K (He.ga K "Twisted"),ZF "NoArrow" "__setattr__" "object.__setattr__",Za6 "NoArrow",ZW "NoArrow" "arrow",Za4 "NoArrow" "__init__"]
noncomputable def fs3:List Tst:=[Zp (fun K=>.ref (He.ma K (He.ga K "NoArrow") "__init__")) "function",fun K=>PySem.W.keepIn K (.ref (He.ma K (He.ga K "NoArrow") "__init__")),ZF "NoNet" "__setattr__" "object.__setattr__",Za6 "NoNet",ZW "NoNet" "fault",Za4 "NoNet" "__init__",Zp (fun K=>.ref (He.ma K (He.ga K "NoNet") "__init__")) "function",fun K=>PySem.W.keepIn K (.ref (He.ma K (He.ga K "NoNet") "__init__")),ZF "Ringed" "__setattr__" "object.__setattr__",Za6 "Ringed",ZW "Ringed" "ring",Za4 "Ringed" "__init__",Zp (fun K=>.ref (He.ma K (He.ga K "Ringed") "__init__")) "function",fun K=>PySem.W.keepIn K (.ref (He.ma K (He.ga K "Ringed") "__init__")),Za5 (fun K=>.ref (He.ga K "DrawError")) "__getattribute__" "type.__getattribute__",fun K=>PySem.W.readsIn K (He.ga K "DrawError") (.type "type"),ZcN "DrawError" "type" "__init__" "ValueError.__init__",obB (fun K=>PySem.W.subIn K (.ref (He.ga K "NoArrow")) (.ref (He.ga K "NoArrow"))) true,obB (fun K=>PySem.W.subIn K (.ref (He.ga K "NoArrow")) (.ref (He.ga K "NoText"))) false,obB (fun K=>PySem.W.subIn K (.ref (He.ga K "Ringed")) (.ref (He.ga K "DrawError"))) true,obB (fun K=>PySem.W.subIn K (.ref (He.ga K "Ringed")) (.ref (He.ga K "NoRows"))) false,obB (fun K=>PySem.W.subIn K (.ref (He.ga K "Ringed")) (.ref (He.ga K "Ringed"))) true,ZV "ValueError",ZV "enumerate",ZV "isinstance",ZV "len",ZV "list",ZV "range",Zg "_law_caught",kpB "_law_caught"]
noncomputable def fs4:List Tst:=[Zg "_law_cell_at",kpB "_law_cell_at",Zg "_law_digit",kpB "_law_digit",Zg "_law_fault",kpB "_law_fault",Zg "_law_made",kpB "_law_made",Zg "_law_ringed",kpB "_law_ringed",Zg "_law_firsts",kpB "_law_firsts",Zg "_law_sorts",kpB "_law_sorts",Zg "_law_tape",kpB "_law_tape",Zg "law",kpB "law",ZdY ["NoNet", "NoOrder", "NoText", "NoArrow", "Ringed", "NoRows", "NoWidth", "NoRow", "NoNode", "TooMany", "NoNumber", "Twisted", "NoPlaces", "NoName"] [("NoNet", "fault"),("NoArrow", "arrow"),("Ringed", "ring")]]
noncomputable abbrev fs:List Tst:=fs0++(fs1++(fs2++(fs3++(fs4))))
noncomputable def fn0:List He.FnD:=[dM "NoArrow" "__init__" "NoArrow.__init__" ZaY,dM "NoNet" "__init__" "NoNet.__init__" ZaZ,dM "Ringed" "__init__" "Ringed.__init__" Za0,dT "_law_caught" Zcs,dT "_law_cell_at" Zct,dT "_law_digit" Zcu,dT "_law_fault" Zcv,dT "_law_made" Zcw,dT "_law_ringed" Zcx,dT "_law_firsts" Zcy,dT "_law_sorts" Zcz,dT "_law_tape" ZcA,dT "law" Zaa]
noncomputable abbrev fn:List He.FnD:=fn0
noncomputable abbrev RR:PySem.W.OpenRow:=PySem.W.OpenLaw.row PySem.Challenge.rw_arrowtiers_k16_refusals_apart
noncomputable abbrev qv:Program:=PySem.W.view RR.prog [26]
set_option maxHeartbeats 0 in
theorem ZjN (w:World):HandSHeadRun.RunEq RR qv (Zae [] []) (obV [] []) 12000 names w:=by
 intro os
 kernel_rfl
set_option maxHeartbeats 0 in
theorem ZjO (w:World):Zek RR fs 12000 w:=by
 intro os
 kernel_rfl
set_option maxHeartbeats 0 in
theorem ZjP (w:World):Zel RR fn 12000 w:=by
 intro os
 kernel_rfl
theorem run (w:World):HandSHeadRun.RunEq RR qv (Zae fs fn) (obV fs fn) 12000 names w:=ZgO (ZjN w) (ZjO w) (ZjP w)
noncomputable abbrev dL:DefRec:=HandSHeadRun.topDef RR.prog 26
theorem dL_df:dL.params.defaults=[]:=by kernel_rfl
theorem dL_nm:dL.name=("law":Str):=by kernel_rfl
open PySem.W PySem.Calls in
set_option maxHeartbeats 0 in
theorem fin_of (hc:PySem.W.WalkO qv names (PySem.W.XL qv []) (Zae fs fn).says RR.toRowW dL [] fun f vs=>PySem.call f vs):PySem.Challenge.rw_arrowtiers_k16_refusals_apart.Holds:=by
 w_on; o_law
 refine HandSHeadRun.head_any (r:=PySem.W.OpenLaw.row PySem.Challenge.rw_arrowtiers_k16_refusals_apart) (q:=qv) (H:=Zae fs fn) (ob:=obV fs fn) (M:=12000) (loose:=names) (d:=dL) (kwd:=[]) ZgN (by kernel_rfl) (fun s=>by kernel_rfl) run (by kernel_rfl) (by kernel_rfl) (by kernel_rfl) (by rfl) (by first | assumption | decide +kernel) (by decide +kernel) ⟨rfl,rfl,rfl,rfl,rfl,by decide +kernel⟩ ?hw hc
 case hw=>w_witness2
end K16
set_option maxHeartbeats 4000000
namespace VS
open PySem PySem.Spec PyProof.Rows L2
theorem ZjQ {X:Cx} {e:Expr} {es:List Expr} {ta:TA} {p1 p2 pos:Pos} {pl:Sem Bool} {x:Str} {B:Addr} (hg:Gl X x) (hm:X.mg x=some (.ref B))
  (hga:PySem.W.specialIn X.K (.ref B) "__getattribute__"=some (some (.builtin "type.__getattribute__"))) (hr:PySem.W.readsIn X.K B (.type "type")=true)
  (vV:PySem.W.findCls X.K (.ref B) (.type "type") "__init__"=some (.val (.builtin "ValueError.__init__"))) (ha:PA X (e ::es) ta)
  (hdb:(x ==("__debug__":Str))=false)
  (hc:eval (.Call (.Attribute (.Name x p1) "__init__" p2) (e ::es) [] pos) X.env=(do
   let ov ←eval (.Name x p1) X.env
   standAt p2.atName
   let (f,first) ←holding [ov] (getMethod ov "__init__" pl)
   callWith pos f first (backTo pos (starEach (e ::es) X.env)) (backToKw pos (keywordEach [] X.env))))
  (he:starEach (e ::es) X.env=(false,eval e X.env) ::starEach es X.env) (hpl:(backTo pos (starEach es X.env)).any (·.1)=false):
  PE X (.Call (.Attribute (.Name x p1) "__init__" p2) (e ::es) [] pos) (tVeI X.K ta):=by
 refine ⟨fun pins s σ H Q I h=>?_⟩
 refine PySem.W.methodCall_KW (ld_glob I hg hm ?_ hdb) hc
 refine PySem.W.method_cls I.kIn hga (PySem.W.cls_value I.kIn hr vV (by decide +kernel) ?_)
 show wpAny _ _ (callWith pos (Value.builtin "ValueError.__init__") [] (backTo pos (starEach (e ::es) X.env)) []) _ _ _;refine PyProof.Rows.callWith_method1 (thn (ha.run pos pins _ σ H _ (I.tok _) h) fun us s1 ⟨vs,H1,I1,r1,a,C,ws,ev,hl,T,ea,q⟩=>?_) he hpl
 subst ev;cases r1 with
 | @cons _ u0 _ ur ra rw'=>
  obtain rfl:u0=Value.ref a:=ra;have hlen:ur.length≤sizeLine:=by
   rw [←Paired.length rw',sizeLine_eq];omega
  exact oinit_ok T I1 ea hlen fun s' J=>⟨.non,H1,J,rfl,q⟩
end VS
namespace VS
open PySem PySem.Spec PyProof.Rows L2
theorem ZdZ {P:Program} {w:World} {K:PySem.W.Frag} {mg:Str→Option Value} {base:Heap} {x qual:Str} {st:Stmt} {f:Addr} {fd:FuncData} {y fld m:Str} {ba C:Addr} {j:Nat} {p1 p2 p3 p4 p5 p6 p7 p8 p9 p10:Pos}
  (Fu:Fun K x qual st f fd) (Sc':FnScope ["self",y] ["self",y] (defScope st))
  (hB:defBody st=[.Expr (.Call (.Attribute (.Name "DrawError" p1) "__init__" p2) [.Name "self" p3,.Constant (.str m) j p4] [] p5) p6,.Assign [.Attribute (.Name "self" p7) fld p8] (.Name y p9) p10])
  (hg:glo (defScope st) "DrawError"=true) (hv:vis (defScope st) "self"=true) (hv2:vis (defScope st) y=true) (hy:okN y=true) (hlo:Z4 p2 p5=true)
  (hm:mg "DrawError"=some (.ref ba)) (hga:PySem.W.specialIn K (.ref ba) "__getattribute__"=some (some (.builtin "type.__getattribute__"))) (hr:PySem.W.readsIn K ba (.type "type")=true)
  (vV:PySem.W.findCls K (.ref ba) (.type "type") "__init__"=some (.val (.builtin "ValueError.__init__"))) (T:OexC K C) (hno:PySem.W.findIn K (.ref C) fld=some none):
  FnOk P w K mg base CX0 1 f fd ["self",y] (ZfX C fld):=by
 refine Fu.ok (k:=0) Sc' (fun vs H Q E ⟨a,z,e,_⟩=>by rw [e]; rfl) fun cdv A outer s H vs Q E hrm hsp=>?_
 obtain ⟨a,z,rfl,ha,q⟩:=hsp;have hG:Gl (cxOf CX0 P w K mg base ["self",y] qual (defScope st) f cdv A outer s H E).nox "DrawError":=by
  unfold glo at hg;split at hg
  ·rename_i e; exact e
  ·cases hg
 have pe1:=ZjQ (X:=(cxOf CX0 P w K mg base ["self",y] qual (defScope st) f cdv A outer s H E).nox) (p1:=p1) (p2:=p2) (pos:=p5) hG hm hga hr vV (pa_cons (pe_var (i:=0) (x:= "self") (pos:=p3) rfl (ZaQ hv)) (pa_cons (pe_str (x:=m) (j:=j) (pos:=p4)) pa_nil rfl) rfl) (by decide) (Zfl (o:=.Name "DrawError" p1) (m:= "__init__") rfl hlo rfl (by show 2 < 20; decide)) rfl rfl;have ps2:=ps_ost (X:=(cxOf CX0 P w K mg base ["self",y] qual (defScope st) f cdv A outer s H E).nox) (f:=fld) (p':=p8) (pos:=p10) (pe_var (i:=0) (x:= "self") (pos:=p7) rfl (ZaQ hv)) (pe_var (i:=1) (x:=y) (pos:=p9) rfl (ZaQ hv2) (Zk hy).1 (Zk hy).2.1) rfl;rw [hB];refine ⟨_,pss_cons (ps_expr (pos:=p6) pe1) (pss_one ps2),?_⟩
 exact ⟨.ref a,rfl,a,C,_,rfl,by show 1≤1000; decide,T,ha,z,rfl,.ref a,rfl,a,C,rfl,T,hno,.inl ⟨ha,fun dx h1 h2=>q dx h1 h2⟩⟩
end VS
namespace VS
end VS
set_option maxHeartbeats 8000000
namespace AT
open PySem PySem.Spec PyProof.Rows L2 VS
noncomputable def Q0s:List Str:=["_law_script", "_law_k"]
noncomputable abbrev Q0j:List IS:=[.ifs (.cmp .lt (.v 1 true) (.bi .len [.v 0 true])) [.ret (.ix (.v 0 false) (.v 1 false))] [],.ret (.cI 0)]
noncomputable def Q0k:Gam:=(gamE.frAdd "len")
noncomputable def Q04:FnS:=fnI Q0k [.vw,.vw] 2 Q0j
@[simp] theorem Q24:Q04.md=[.vw,.vw]:=rfl
noncomputable def Q0t:List Str:=["_law_tape_here", "_law_size", "_law_digit_here"]
noncomputable abbrev Q0l:List IS:=[.asg 2 (.bin .mod (.ix (.v 0 true) (.cI 0)) (.v 1 true)),.set 0 (.cI 0) (.bin .fdiv (.ix (.v 0 false) (.cI 0)) (.v 1 false)),.ret (.v 2 false)]
noncomputable def Q0m:Gam:=gamE
noncomputable def Q03:FnS:=fnI Q0m [.io,.vw] 3 Q0l
@[simp] theorem Q25:Q03.md=[.io,.vw]:=rfl
noncomputable def Q0u:List Str:=["_law_cell", "_law_number", "_law_found", "_law_k"]
noncomputable def Q0n:List IS:=[.asg 1 (.bin .mod (.bin .add (.bin .add (.bin .mul (.v 1 true) (.cI 48271)) (.v 3 false)) (.cI 1)) (.cI 2147483647)),.asg 2 (.bin .add (.bin .mul (.v 2 true) (.cI 2147483647)) (.v 1 false))]
noncomputable abbrev Q0v:List IS:=[.ifs (.cmp .ge (.v 0 true) (.bin .pow (.cI 10) (.cI 18))) [.ret (.lst [.bin .sub (.v 0 true) (.bin .pow (.cI 10) (.cI 18))])] [],.asg 1 (.bin .mod (.bin .add (.bin .mul (.bin .mod (.v 0 false) (.cI 2147483629)) (.cI 48271)) (.cI 7919)) (.cI 2147483647)),.asg 2 (.cI 0),.for (.nm 3) (.r1 (.cI 32)) Q0n [3],.ret (.lst [.v 2 false])]
noncomputable def Q0f:Gam:=(gamE.frAdd "range")
noncomputable def Q09:FnS:=fnI Q0f [.vw] 4 Q0v
@[simp] theorem Q26:Q09.md=[.vw]:=rfl
end AT
namespace AT
open PySem PySem.Spec PyProof.Rows L2 VS
noncomputable def Q0w:List Str:=["_law_number", "_law_e"]
noncomputable def Q0x:List IY:=[.raisP "NoArrow" [.v 0 true]]
noncomputable def Q0y:List HC:=[⟨"NoText",none,[.ret (.p (.c (.bl false)))]⟩,⟨"NoArrow",(some 1),[.ret (.p (.cmp .eq (.fld "arrow") (.v 0)))]⟩]
noncomputable abbrev Q0z:List IY:=[.tryY Q0x Q0y,.n (.ret (.cB false))]
noncomputable def Q0o:Gam:=gamE
noncomputable def Q02:GamY:=(((((((gyE Q0o).xmAdd "NoArrow" "NoArrow" true).xmAdd "NoArrow" "NoText" false).xhAdd "NoArrow").xhAdd "NoText").xpAdd "NoArrow" "arrow").xfAdd "NoArrow" "arrow")
@[simp] theorem Q27:Q02.g=Q0o:=rfl
@[simp] theorem Q28:Q02.xm "NoArrow" "NoArrow"=some true:=rfl
@[simp] theorem Q29:Q02.xm "NoArrow" "NoText"=some false:=rfl
@[simp] theorem Q2a:Q02.xp "NoArrow"=some "arrow":=rfl
@[simp] theorem Q2b:Q02.xf "NoArrow" "arrow"=true:=rfl
noncomputable def Q0a:FnS:=Zcr Q02 [.vw] 2 Q0z
@[simp] theorem Q2c:Q0a.md=[.vw]:=rfl
noncomputable def Q10:List Str:=["_law_tape_here"]
noncomputable abbrev Q11:List IS:=[.ret (.tup [.ix (.lst [.cS "names",.cS "name",.cS "arrows",.cS "arrow"]) (.call "_law_digit" [.v 0 true,.cI 4]),.call "_law_digit" [.v 0 false,.bin .pow (.cI 10) (.cI 20)]])]
noncomputable def Q0g:Gam:=(gamE.fnAdd "_law_digit" Q03)
noncomputable def Q06:FnS:=fnI Q0g [.io] 1 Q11
@[simp] theorem Q2d:Q06.md=[.io]:=rfl
@[simp] theorem Q2e:Q0g.fn "_law_digit"=some Q03:=rfl
noncomputable def Q12:List Str:=["_law_fault_here", "_law_arrow", "_law_ring", "_law_found"]
noncomputable abbrev Q13:List IS:=[.asg 3 (.lst [.erM "NoNet" "fault" (.v 0 false),.er0 "NoOrder" (.cS "no"),.er0 "NoText" (.cS "no"),.erM "NoArrow" "arrow" (.v 1 false),.erM "Ringed" "ring" (.v 2 false),.er0 "NoRows" (.cS "no"),.er0 "NoWidth" (.cS "no")]),.asg 3 (.cat (.v 3 true) (.lst [.er0 "NoRow" (.cS "no"),.er0 "NoNode" (.cS "no"),.er0 "TooMany" (.cS "no"),.er0 "NoNumber" (.cS "no"),.er0 "Twisted" (.cS "no"),.er0 "NoPlaces" (.cS "no")])),.ret (.cat (.v 3 false) (.lst [.er0 "NoName" (.cS "no")]))]
noncomputable def Q0h:Gam:=(gamE.erAdd (Zt ["NoNet", "NoOrder", "NoText", "NoArrow", "Ringed", "NoRows", "NoWidth", "NoRow", "NoNode", "TooMany", "NoNumber", "Twisted", "NoPlaces", "NoName"] [("NoNet", "fault"),("NoArrow", "arrow"),("Ringed", "ring")]))
noncomputable def Q05:FnS:=fnI Q0h [.vw,.vw,.val] 4 Q13
@[simp] theorem Q2f:Q05.md=[.vw,.vw,.val]:=rfl
@[simp] theorem Q2g:Q0h.er=(Zt ["NoNet", "NoOrder", "NoText", "NoArrow", "Ringed", "NoRows", "NoWidth", "NoRow", "NoNode", "TooMany", "NoNumber", "Twisted", "NoPlaces", "NoName"] [("NoNet", "fault"),("NoArrow", "arrow"),("Ringed", "ring")]):=rfl
noncomputable def Q14:List Str:=["_law_ring", "_law_e"]
noncomputable def Q15:List IY:=[.raisP "Ringed" [.v 0 true]]
noncomputable def Q16:List HC:=[⟨"NoRows",none,[.ret (.p (.c (.bl false)))]⟩,⟨"DrawError",(some 1),[.ret (.p (.conj (.isi "Ringed") (.cmp .eq (.fld "ring") (.v 0))))]⟩]
noncomputable abbrev Q17:List IY:=[.tryY Q15 Q16,.n (.ret (.cB false))]
noncomputable def Q0p:Gam:=(gamE.frAdd "isinstance")
noncomputable def Q01:GamY:=((((((((gyE Q0p).xmAdd "Ringed" "DrawError" true).xmAdd "Ringed" "NoRows" false).xiAdd "Ringed" "Ringed" true).xhAdd "DrawError").xhAdd "NoRows").xpAdd "Ringed" "ring").xfAdd "Ringed" "ring")
@[simp] theorem Q2h:Q01.g=Q0p:=rfl
@[simp] theorem Q2i:Q01.xm "Ringed" "DrawError"=some true:=rfl
@[simp] theorem Q2j:Q01.xm "Ringed" "NoRows"=some false:=rfl
@[simp] theorem Q2k:Q01.xi "Ringed" "Ringed"=some true:=rfl
@[simp] theorem Q2l:Q01.xp "Ringed"=some "ring":=rfl
@[simp] theorem Q2m:Q01.xf "Ringed" "ring"=true:=rfl
noncomputable def Q0b:FnS:=Zcr Q01 [.val] 2 Q17
@[simp] theorem Q2n:Q0b.md=[.val]:=rfl
noncomputable def Q18:List Str:=["_law_e", "_law_found"]
noncomputable abbrev Q19:List IS:=[.asg 1 (.lst [.erI (.v 0 true) "NoNet",.erI (.v 0 true) "NoOrder",.erI (.v 0 true) "NoText",.erI (.v 0 true) "NoArrow"]),.ret (.cat (.v 1 false) (.lst [.erI (.v 0 true) "Ringed",.erI (.v 0 true) "NoRows",.erI (.v 0 true) "NoWidth",.erI (.v 0 false) "NoRow"]))]
noncomputable def Q0d:Gam:=((gamE.frAdd "isinstance").erAdd (Zt ["NoNet", "NoOrder", "NoText", "NoArrow", "Ringed", "NoRows", "NoWidth", "NoRow", "NoNode", "TooMany", "NoNumber", "Twisted", "NoPlaces", "NoName"] [("NoNet", "fault"),("NoArrow", "arrow"),("Ringed", "ring")]))
noncomputable def Q07:FnS:=fnI Q0d [.vw] 2 Q19
@[simp] theorem Q2o:Q07.md=[.vw]:=rfl
@[simp] theorem Q1e:Q0d.er=(Zt ["NoNet", "NoOrder", "NoText", "NoArrow", "Ringed", "NoRows", "NoWidth", "NoRow", "NoNode", "TooMany", "NoNumber", "Twisted", "NoPlaces", "NoName"] [("NoNet", "fault"),("NoArrow", "arrow"),("Ringed", "ring")]):=rfl
noncomputable def Q1a:List Str:=["_law_e", "_law_found"]
noncomputable abbrev Q1b:List IS:=[.asg 1 (.lst [.erI (.v 0 true) "NoNode",.erI (.v 0 true) "TooMany",.erI (.v 0 true) "NoNumber",.erI (.v 0 true) "Twisted"]),.ret (.cat (.cat (.call "_law_firsts" [.v 0 true]) (.v 1 false)) (.lst [.erI (.v 0 true) "NoPlaces",.erI (.v 0 false) "NoName"]))]
noncomputable def Q0c:Gam:=(((gamE.frAdd "isinstance").fnAdd "_law_firsts" Q07).erAdd (Zt ["NoNet", "NoOrder", "NoText", "NoArrow", "Ringed", "NoRows", "NoWidth", "NoRow", "NoNode", "TooMany", "NoNumber", "Twisted", "NoPlaces", "NoName"] [("NoNet", "fault"),("NoArrow", "arrow"),("Ringed", "ring")]))
noncomputable def Q08:FnS:=fnI Q0c [.vw] 2 Q1b
@[simp] theorem Q2p:Q08.md=[.vw]:=rfl
@[simp] theorem Q2q:Q0c.fn "_law_firsts"=some Q07:=rfl
@[simp] theorem Q1f:Q0c.er=(Zt ["NoNet", "NoOrder", "NoText", "NoArrow", "Ringed", "NoRows", "NoWidth", "NoRow", "NoNode", "TooMany", "NoNumber", "Twisted", "NoPlaces", "NoName"] [("NoNet", "fault"),("NoArrow", "arrow"),("Ringed", "ring")]):=rfl
noncomputable def Q1c:List Str:=["_law_script", "_law_tape_here", "_law_fault_here", "_law_arrow", "_law_ring", "_law_made_here", "_law_k", "_law_e", "_law_j"]
noncomputable def Q0q:IE:=.comp (.call "_law_digit" [.v 1 true,.cI 24]) (.nm 6) (.r1 (.bin .add (.cI 2) (.call "_law_digit" [.v 1 false,.cI 8]))) none [("_law_k",6)]
noncomputable def Q0r:IE:=.comp (.cmp .eq (.v 8 true) (.v 6 true)) (.nm 8) (.r1 (.cI 14)) none [("_law_j",8)]
noncomputable def Q0i:List IS:=[.ifs (.disj [.not (.erI (.v 7 true) "DrawError"),.not (.erI (.v 7 true) "ValueError")]) [.ret (.cB false)] [],.ifs (.cmp .ne (.call "_law_sorts" [.v 7 false]) Q0r) [.ret (.cB false)] []]
noncomputable abbrev Q1d:List IS:=[.asg 1 (.call "_law_tape" [.call "_law_cell_at" [.v 0 false,.cI 0]]),.asg 2 (.call "_law_fault" [.v 1 true]),.asg 3 (.bin .sub (.call "_law_digit" [.v 1 true,.bin .pow (.cI 10) (.cI 20)]) (.bin .pow (.cI 10) (.cI 10))),.asg 4 Q0q,.asg 5 (.call "_law_made" [.v 2 true,.v 3 true,.copy false (.v 4 true)]),.for (.tp [(.nm 6),(.nm 7)]) (.enum (.v 5 true)) Q0i [7,8],.ifs (.disj [.cmp .ne (.erF (.ix (.v 5 true) (.cI 0)) "NoNet" "fault") (.v 2 false),.cmp .ne (.erF (.ix (.v 5 true) (.cI 3)) "NoArrow" "arrow") (.v 3 true),.cmp .ne (.erF (.ix (.v 5 false) (.cI 4)) "Ringed" "ring") (.v 4 true)]) [.ret (.cB false)] [],.ret (.conj [.call "_law_caught" [.v 3 false],.call "_law_ringed" [.v 4 false]])]
noncomputable def Q00:Gam:=((((((((((((((gamE.frAdd "ValueError").frAdd "enumerate").frAdd "isinstance").frAdd "list").frAdd "range").fnAdd "_law_caught" Q0a).fnAdd "_law_cell_at" Q04).fnAdd "_law_digit" Q03).fnAdd "_law_fault" Q06).fnAdd "_law_made" Q05).fnAdd "_law_ringed" Q0b).fnAdd "_law_sorts" Q08).fnAdd "_law_tape" Q09).erAdd (Zt ["NoNet", "NoOrder", "NoText", "NoArrow", "Ringed", "NoRows", "NoWidth", "NoRow", "NoNode", "TooMany", "NoNumber", "Twisted", "NoPlaces", "NoName"] [("NoNet", "fault"),("NoArrow", "arrow"),("Ringed", "ring")]))
noncomputable def Q0e:FnS:=fnI Q00 [.vw] 9 Q1d
@[simp] theorem Q2r:Q0e.md=[.vw]:=rfl
@[simp] theorem Q2s:Q00.fn "_law_caught"=some Q0a:=rfl
@[simp] theorem Q2t:Q00.fn "_law_cell_at"=some Q04:=rfl
@[simp] theorem Q2u:Q00.fn "_law_digit"=some Q03:=rfl
@[simp] theorem Q2v:Q00.fn "_law_fault"=some Q06:=rfl
@[simp] theorem Q2w:Q00.fn "_law_made"=some Q05:=rfl
@[simp] theorem Q2x:Q00.fn "_law_ringed"=some Q0b:=rfl
@[simp] theorem Q2y:Q00.fn "_law_sorts"=some Q08:=rfl
@[simp] theorem Q2z:Q00.fn "_law_tape"=some Q09:=rfl
@[simp] theorem Q1g:Q00.er=(Zt ["NoNet", "NoOrder", "NoText", "NoArrow", "Ringed", "NoRows", "NoWidth", "NoRow", "NoNode", "TooMany", "NoNumber", "Twisted", "NoPlaces", "NoName"] [("NoNet", "fault"),("NoArrow", "arrow"),("Ringed", "ring")]):=rfl
end AT
local macro_rules
 | `(tactic| simp_arith [$xs,*])=>`(tactic| simp [VS.evSs,VS.evS,VS.ev,VS.evs,VS.evAnd,VS.evOr,VS.evO,VS.evC,VS.evW,VS.iosFrom,VS.slots0,VS.outsR,VS.mSeq,VS.mSkip,VS.mIfS,VS.mRet,VS.mRetN,VS.mDrop,VS.mAsg,VS.mUnp,VS.mSet,VS.mFldS,VS.ownO,VS.asB,VS.ofB,VS.mAnd,VS.mOr,VS.mNot,VS.mIf,VS.m1,VS.m2,VS.mC,VS.mV,VS.live,VS.rd,VS.take,VS.takes,VS.sto,VS.viewOf,VS.mB,VS.rds,VS.mCons,VS.mNil,VS.mIx,VS.ixR,VS.ixD,VS.vwR,VS.flat,VS.flats,VS.noOwn,VS.noOwns,VS.strip,VS.strips,VS.mCall,VS.applyF,VS.preps,VS.prep1,VS.bind2,VS.backs,VS.fnOr,VS.binD,VS.cmpD,VS.biD,VS.ownL,VS.intOf,VS.mNo,VS.mCont,VS.mMeth,VS.mFld,VS.fldR,VS.fldD,VS.mCopy,VS.elems,VS.seqOf,VS.flatO,VS.noOwnO,VS.mTup,VS.mLst,VS.mMake,VS.mFor,VS.mRng1,VS.mRng2,VS.smallI,$xs,*])
 | `(tactic| simp_arith [$xs,*] $l:location)=>`(tactic| simp [VS.evSs,VS.evS,VS.ev,VS.evs,VS.evAnd,VS.evOr,VS.evO,VS.evC,VS.evW,VS.iosFrom,VS.slots0,VS.outsR,VS.mSeq,VS.mSkip,VS.mIfS,VS.mRet,VS.mRetN,VS.mDrop,VS.mAsg,VS.mUnp,VS.mSet,VS.mFldS,VS.ownO,VS.asB,VS.ofB,VS.mAnd,VS.mOr,VS.mNot,VS.mIf,VS.m1,VS.m2,VS.mC,VS.mV,VS.live,VS.rd,VS.take,VS.takes,VS.sto,VS.viewOf,VS.mB,VS.rds,VS.mCons,VS.mNil,VS.mIx,VS.ixR,VS.ixD,VS.vwR,VS.flat,VS.flats,VS.noOwn,VS.noOwns,VS.strip,VS.strips,VS.mCall,VS.applyF,VS.preps,VS.prep1,VS.bind2,VS.backs,VS.fnOr,VS.binD,VS.cmpD,VS.biD,VS.ownL,VS.intOf,VS.mNo,VS.mCont,VS.mMeth,VS.mFld,VS.fldR,VS.fldD,VS.mCopy,VS.elems,VS.seqOf,VS.flatO,VS.noOwnO,VS.mTup,VS.mLst,VS.mMake,VS.mFor,VS.mRng1,VS.mRng2,VS.smallI,$xs,*] $l)
set_option maxHeartbeats 4000000
namespace AT
open PySem VS L2
noncomputable def cell (ns:List Int) (k:Nat):Int:=ns.getD k 0
theorem ZjR (ns:List Int) (k:Nat):Q04.sem [.lst false (ns.map .int),.int k]=some (.int (cell ns k),[]):=by
 simp only [Q04,fnI,ZH,Q0j];by_cases h:k < ns.length
 ·simp_arith [ZaT,h,Ziz,ZiA h,cell]
 ·simp_arith [ZaT,h,cell]
theorem ZjS (c:Int):∃ t:Int,0≤t∧Q09.sem [.int c]=some (.lst true [.int t],[]):=by
 by_cases h:(1000000000000000000:Int)≤c
 ·refine ⟨c - 1000000000000000000,by omega,?_⟩
  refine ZdD ⟨rfl,by decide⟩ (Zcj (ρ1:=[.vw (.int c),.dead,.dead,.dead]) (Zbv (t:=true) (ρ1:=[.vw (.int c),.dead,.dead,.dead]) ?_ (Zcj ?_))) rfl
  ·simp_arith [h]
  ·simp_arith []
 ·obtain ⟨ρ',h1,_,n,f,hf,hn,hn2,rfl⟩:=Zfr (io:=[]) (p:=.nm 3) (mb:=evSs Q0f [] Q0n) (kl:=[3])
   (fun rs ρ=>(∀ r∈rs,∃ j:Int,0≤j∧r=.own (.int j))∧∃ n f:Int,0≤f∧0≤n∧n < 2147483647∧ρ=[.vw (.int c),.own (.int n),.own (.int f),.dead]) (fun r rs ρ hI=>by
    obtain ⟨hr,n,f,hf,hn,hn2,rfl⟩:=hI;obtain ⟨j,hj,rfl⟩:=hr r (List.mem_cons_self ..);refine ⟨[.vw (.int c),.own (.int n),.own (.int f),.own (.int j)],[.vw (.int c),.own (.int ((n * 48271+j+1) % 2147483647)),.own (.int (f * 2147483647+(n * 48271+j+1) % 2147483647)),.own (.int j)],?_,?_,fun r hr'=>hr r (List.mem_cons_of_mem _ hr'),(n * 48271+j+1) % 2147483647,f * 2147483647+(n * 48271+j+1) % 2147483647,by omega,by omega,by omega,rfl⟩
    ·simp_arith [asP]
    ·simp_arith [Q0n]) (ZM 0 1 32) [.vw (.int c),.own (.int ((c % 2147483629 * 48271+7919) % 2147483647)),.own (.int 0),.dead] ⟨fun r hr=>by
     obtain ⟨i,_,rfl⟩:=List.mem_map.mp hr;exact ⟨0+(i:Int) * 1,by omega,rfl⟩,_,0,by omega,by omega,by omega,rfl⟩
  refine ⟨f,hf,?_⟩
  refine ZdD ⟨rfl,by decide⟩ (ZB [.vw (.int c),.dead,.dead,.dead] (Zbv (t:=false) (ρ1:=[.vw (.int c),.dead,.dead,.dead]) ?_ Zbu) (ZB [.vw (.int c),.own (.int ((c % 2147483629 * 48271+7919) % 2147483647)),.dead,.dead] ?_ (ZB [.vw (.int c),.own (.int ((c % 2147483629 * 48271+7919) % 2147483647)),.own (.int 0),.dead] ?_ (ZB _ (Zft ?_ h1) (Zcj (ρ1:=[.vw (.int c),.own (.int n),.own (.int f),.dead]) ?_))))) rfl
  ·simp_arith [h]
  ·simp_arith []
  ·simp_arith []
  ·simp_arith []
  ·simp_arith []
end AT
namespace AT
open PySem VS L2
end AT
namespace AT
open PySem VS L2
theorem Zd0 (i j:Int):PyData.eqv (toP (.int i)) (toP (.int j))=decide (i=j):=by
 show (i ==j)=_;rw [Bool.eq_iff_iff,beq_iff_eq,decide_eq_true_eq]
theorem Zd1 (i:Int):shp (.int i)=true:=rfl
end AT
set_option maxHeartbeats 1000000
namespace AT
open PySem VS L2
end AT
namespace AT
open PySem VS L2
noncomputable def ZjT (m:Bool) (zs:List Str) (ps:List (Int×Int)):D:=.obj m "Net" ["box_names", "own_arrows"] [.lst false (zs.map .str),.lst false (ps.map arr)]
end AT
namespace AT
open PySem VS L2
end AT
namespace AT
open PySem VS L2
noncomputable abbrev rr (zs:List Str) (ps:List (Int×Int)) (s3 s4 s5 s6 s7:Slot):Rho:=[.vw (ZjT false zs ps),.vw (.lst false (zs.map .str)),.vw (.lst false (ps.map arr)),s3,s4,s5,s6,s7]
end AT
namespace AT
open PySem VS L2
noncomputable abbrev tp (t:Int):Slot:=.own (.lst true [.int t])
end AT
namespace AT
open PySem VS L2
end AT
namespace AT
open PySem VS L2
end AT
namespace AT
open PySem VS L2
end AT
namespace AT
open PySem VS L2
end AT
namespace AT
open PySem VS L2
theorem ZjU (ns:List Int) (i:Int) (k:Nat) (h:i=k):Q04.sem [.lst false (ns.map .int),.int i]=some (.int (cell ns k),[]):=h▸ZjR ns k
end AT
set_option maxHeartbeats 8000000
namespace AT
open PySem PySem.Spec PyProof.Rows L2 VS
end AT
namespace AT
open PySem PySem.Spec PyProof.Rows L2 VS
end AT
namespace AT
open PySem PySem.Spec PyProof.Rows L2 VS
end AT
set_option maxHeartbeats 1000000
namespace AT
open PySem VS L2
end AT
namespace AT
open PySem VS L2
open TL (tl tl_append tl_mk mk_tl ext_tl len_tl)
noncomputable def vl:List Nat→Nat
 | []=>0
 | c ::cs=>(c - 97) * 26 ^ cs.length+vl cs
end AT
namespace AT
open PySem VS L2
open TL (tl tl_append tl_mk mk_tl ext_tl len_tl)
end AT
namespace AT
open PySem VS L2
noncomputable def rI (n:Nat):List Int:=(List.range n).map fun (i:Nat)=>(i:Int)
theorem Zgg (n:Nat):(rI n).length=n:=by unfold rI; simp
theorem rI_mem {n:Nat} {x:Int}:x∈rI n↔0≤x∧x < n:=by
 unfold rI;rw [List.mem_map];constructor
 ·rintro ⟨i,hi,rfl⟩; rw [List.mem_range] at hi; omega
 ·rintro ⟨h1,h2⟩; exact ⟨x.toNat,List.mem_range.mpr (by omega),by omega⟩
structure Ord (n:Nat) (o:List Int):Prop where
 pm : o.Perm (rI n)
theorem Ord.len {n:Nat} {o:List Int} (h:Ord n o):o.length=n:=by rw [h.pm.length_eq,Zgg]
noncomputable def pos (o:List Int) (x:Int):Nat:=o.idxOf x
end AT
namespace AT
open PySem VS L2
end AT
namespace AT
open PySem VS L2
structure Tn (m:Nat) (ts:List Int):Prop where
 nd : ts.Nodup
 rg : ∀ t∈ts,0≤t∧t < m
theorem Tn.len {m:Nat} {ts:List Int} (h:Tn m ts):ts.length≤m:=by
 have:=h.nd.length_le_of_subset (l₂:=rI m) fun x hx=>rI_mem.mpr (h.rg x hx)
 rwa [Zgg] at this
end AT
set_option maxHeartbeats 2000000
namespace AT
open PySem VS L2
end AT
namespace AT
open PySem VS L2
end AT
namespace AT
open PySem VS L2
open TL (tl tl_append tl_mk mk_tl ext_tl len_tl)
end AT
namespace AT
open PySem VS L2
end AT
namespace AT
open PySem VS L2
end AT
namespace AT
open PySem VS L2
end AT
namespace AT
open PySem VS L2
end AT
namespace AT
open PySem VS L2
theorem ex0 (p:Int×Int):atI [D.int p.1,D.int p.2] 0=some (.int p.1):=rfl
end AT
namespace AT
open PySem VS L2
end AT
namespace AT
open PySem VS L2
end AT
namespace AT
open PySem VS L2
end AT
set_option maxHeartbeats 8000000
namespace AT
open PySem PySem.Spec PyProof.Rows L2 VS
end AT
set_option maxHeartbeats 2000000
namespace AT
open PySem VS L2
end AT
namespace AT
open PySem VS L2
noncomputable def evT (G:Gam) (e:IE) (ρ:Rho):Option (D×Rho):=(ev G e ρ).bind fun p=>take p.1 p.2
theorem Zgh {ρ:Rho} {i:Nat} (h:ρ[i]?=some .dead) (s:Slot):(ρ.set i s).set i .dead=ρ:=by
 rw [List.set_set];refine List.ext_getElem? fun j=>?_
 by_cases hj:i=j
 ·subst hj
  have:=(List.getElem?_eq_some_iff.mp h).1
  rw [List.getElem?_set_self this,h]
 ·rw [List.getElem?_set_ne hj]
theorem ZjV {ρ:Rho} {i:Nat} (h:ρ[i]?=some .dead):kills [i] ρ=ρ:=by
 show ρ.set i .dead=ρ
 have:=Zgh h .dead
 rwa [List.set_set] at this
theorem ZjW {α:Type} {G:Gam} {e:IE} {i:Nat} {w:IW} {nm:Str} {ρ ρ1:Rho} (f g:α→D) (xs:List α) (hw:evW G w ρ=some (xs.map fun x=>Rv.own (f x),ρ1)) (hn:xs.length≤1000000) (hi:ρ1[i]?=some .dead)
  (hx:∀ x∈xs,∃ s,evT G e (ρ1.set i (.own (f x)))=some (g x,ρ1.set i s)):ev G (.comp e (.nm i) w none [(nm,i)]) ρ=some (.own (.lst true (xs.map g)),ρ1):=by
 have hl:=(List.getElem?_eq_some_iff.mp hi).1;have hk:=ZjV hi;have k:=Zfs (p:=.nm i) (vs:=[i]) (mc:=Zba) (me:=ev G e) (ρ0:=ρ1) (fun r=>match r with | .own _=>none | _=>none) [] [];clear k;have step:∀ (ys:List α) (acc:List D),(∀ x∈ys,x∈xs)→ZA (.nm i) [i] Zba (ev G e) (ys.map fun x=>Rv.own (f x)) ρ1 acc=some (acc++ys.map g,ρ1):=by
  intro ys;induction ys with
  | nil=>intro acc _; rw [List.map_nil,List.map_nil,List.append_nil]; rfl
  | cons y ys ih=>
   intro acc hy;obtain ⟨s,h1⟩:=hx y (hy y (List.mem_cons_self ..));obtain ⟨p,hp,ht⟩:=bind_some h1;rw [List.map_cons];unfold ZA;have ha:asP [] (.nm i) (.own (f y)) ρ1=some (ρ1.set i (.own (f y))):=by simp [ZdI,sto,take,hl]
   have hm:Zba (ρ1.set i (.own (f y)))=some (true,ρ1.set i (.own (f y))):=rfl;have hks:kills [i] (ρ1.set i s)=ρ1:=Zgh hi s;simp only [ha,hm,Option.bind_some,if_true,hp,ht,hks];rw [ih _ fun x hx=>hy x (List.mem_cons_of_mem _ hx),List.map_cons,List.append_assoc]; rfl
 have:=step xs [] fun _ h=>h
 rw [List.nil_append] at this;have r:=Zfu (G:=G) (e:=e) (p:=.nm i) (w:=w) (c:=none) (own:=[(nm,i)]) hw (by rw [List.length_map]; exact hn) (acc:=xs.map g) (ρ2:=ρ1) (by
  show ZA _ [i] _ _ _ (kills [i] ρ1) []=_;rw [hk]; exact this)
 rw [r];show some (_,kills [i] ρ1)=_;rw [hk]
end AT
set_option maxHeartbeats 4000000
namespace AT
open PySem VS L2
noncomputable abbrev ns16:List Str:=["NoNet", "NoOrder", "NoText", "NoArrow", "Ringed", "NoRows", "NoWidth", "NoRow", "NoNode", "TooMany", "NoNumber", "Twisted", "NoPlaces", "NoName"]
noncomputable abbrev Zab:List (Str×Str):=[("NoNet", "fault"),("NoArrow", "arrow"),("Ringed", "ring")]
theorem Zz:∀ c∈ns16,∀ c'∈ns16,(Zt ns16 Zab).isi c c'=some (decide (c=c')):=by decide +kernel
theorem ZjX:∀ c∈ns16,(Zt ns16 Zab).isi c "DrawError"=some true∧(Zt ns16 Zab).isi c "ValueError"=some true:=by decide +kernel
theorem ZbE {t:Int} {s:Nat} (h0:0 < s) (hl:s.log2 < 9000):Q03.sem [.lst true [.int t],.int s]=some (.int (t % s),[.lst true [.int (t / s)]]):=by
 simp only [Q03,fnI,ZH,Q0l];simp_arith [h0,hl,atI,ixN]
theorem Zgi:Nat.log2 100000000000000000000 < 9000:=by decide +kernel
theorem ZjY {c:Str} (hc:c∈ns16) (ks:List Str) (ds:List D):Q07.sem [.err c ks ds]=some (.lst true [.bl (decide (c= "NoNet")),.bl (decide (c= "NoOrder")),.bl (decide (c= "NoText")),.bl (decide (c= "NoArrow")),.bl (decide (c= "Ringed")),.bl (decide (c= "NoRows")),.bl (decide (c= "NoWidth")),.bl (decide (c= "NoRow"))],[]):=by
 have i1:=Zz c hc "NoNet" (by decide);have i2:=Zz c hc "NoOrder" (by decide);have i3:=Zz c hc "NoText" (by decide);have i4:=Zz c hc "NoArrow" (by decide);have i5:=Zz c hc "Ringed" (by decide);have i6:=Zz c hc "NoRows" (by decide);have i7:=Zz c hc "NoWidth" (by decide);have i8:=Zz c hc "NoRow" (by decide);have er:Q0d.er=Zt ns16 Zab:=rfl;generalize Zt ns16 Zab=E at *;simp only [Q07,fnI,ZH];simp_arith [-Q1e,er,ZaP,Za3,i1,i2,i3,i4,i5,i6,i7,i8]
theorem Zgj {c:Str} (hc:c∈ns16) (ks:List Str) (ds:List D):Q08.sem [.err c ks ds]=some (.lst true (ns16.map fun c'=>.bl (decide (c=c'))),[]):=by
 have i1:=Zz c hc "NoNode" (by decide);have i2:=Zz c hc "TooMany" (by decide);have i3:=Zz c hc "NoNumber" (by decide);have i4:=Zz c hc "Twisted" (by decide);have i5:=Zz c hc "NoPlaces" (by decide);have i6:=Zz c hc "NoName" (by decide);have k:=ZjY hc ks (strips ds);have er:Q0c.er=Zt ns16 Zab:=rfl;generalize Zt ns16 Zab=E at *;simp only [Q08,fnI,ZH];simp_arith [-Q1f,er,ZaP,Za3,i1,i2,i3,i4,i5,i6,k]
theorem ZjZ {F:D} (hF:flat F=true) (a:Int) (rs:List Int):Q05.sem [F,.int a,.lst false (rs.map .int)]=some (.lst true [.err "NoNet" ["fault"] [F],.err "NoOrder" [] [],.err "NoText" [] [],.err "NoArrow" ["arrow"] [.int a],.err "Ringed" ["ring"] [.lst false (rs.map .int)],.err "NoRows" [] [],.err "NoWidth" [] [],.err "NoRow" [] [],.err "NoNode" [] [],.err "TooMany" [] [],.err "NoNumber" [] [],.err "Twisted" [] [],.err "NoPlaces" [] [],.err "NoName" [] []],[]):=by
 have h1:=ZaT rs;have h2:=ZdG rs;have h3:=Zd3 hF;have h4:noOwn F=true:=by have:=ZK F; rwa [h3] at this
 generalize rs.map D.int=R at *;simp only [Q05,fnI,ZH];simp_arith [Zdr,Zds,Za3,hF,h1,h2,h3,h4]
theorem Zj0 (t:Int):∃ (w:Str) (r t':Int),PyData.strOk w=true∧Q06.sem [.lst true [.int t]]=some (.tup [.str w,.int r],[.lst true [.int t']]):=by
 have k1:Q03.sem [.lst true [.int t],.int 4]=some (.int (t % 4),[.lst true [.int (t / 4)]]):=ZbE (s:=4) (by decide) (by decide +kernel);have k2:Q03.sem [.lst true [.int (t / 4)],.int 100000000000000000000]=some (.int (t / 4 % 100000000000000000000),[.lst true [.int (t / 4 / 100000000000000000000)]]):=ZbE (s:=100000000000000000000) (by decide) Zgi;have ha:∃ w:Str,PyData.strOk w=true∧atI [D.str "names",.str "name",.str "arrows",.str "arrow"] (t % 4)=some (.str w):=by
  rcases (show t % 4=0∨t % 4=1∨t % 4=2∨t % 4=3 by omega) with h | h | h | h<;>(rw [h]; exact ⟨_,by decide +kernel,rfl⟩)
 obtain ⟨w,hw,ha⟩:=ha;refine ⟨w,t / 4 % 100000000000000000000,t / 4 / 100000000000000000000,hw,?_⟩
 have p:binD .pow (.int 10) (.int 20)=some (.int 100000000000000000000):=rfl;generalize t % 4=d at *;generalize t / 4=q at *;generalize q % 100000000000000000000=r at *;generalize q / 100000000000000000000=q2 at *;simp only [Q06,fnI,ZH];simp_arith [-binD,p,k1,k2,ha]
theorem Zj1 (a:Int):Q0a.sem [.int a]=some (.bl true,[]):=by
 have a1:evYs Q02 [] Q0x [.vw (.int a),.dead]=some (.xc "NoArrow" (some ("arrow",.int a)) [.vw (.int a),.dead]):=by
  refine Zgb ?_
  show ZaV "NoArrow" "arrow" (mCons (mV 0 true) mNil) _=_;simp [ZaV,mCons,mNil,mV,live,takes,take,VS.strip,flat]
 have e:cmpD .eq (.int a) (.int a)=some (.bl true):=by simp_arith [Zd1,Zd0]
 have hp:Zaz Q02.xm Q02.xi Q02.xf [] "NoArrow" (some ("arrow",.int a)) [.vw (.int a),.dead] Q0y=some (.o (.rt (.bl true) [.vw (.int a),.dead])):=by
  have q:hP Q02.xi Q02.xf "NoArrow" (some ("arrow",.int a)) (.cmp .eq (.fld "arrow") (.v 0)) [.vw (.int a),.dead]=some (.bl true):=by
   show (some (D.int a)).bind (fun x=>(some (D.int a)).bind fun y=>cmpD .eq x y)=_;simp only [Option.bind_some,e]
  show ((hP Q02.xi Q02.xf "NoArrow" (some ("arrow",.int a)) (.cmp .eq (.fld "arrow") (.v 0)) [.vw (.int a),.dead]).bind fun d=>some (Out.rt d [.vw (.int a),.dead])).map _=_;rw [q];rfl
 exact Zge (Zgd (ρ:=[.vw (.int a),.dead]) ⟨rfl,by decide⟩ (Zga (Zgc a1 hp)) rfl)
theorem Zj2 (rs:List Int):Q0b.sem [.lst false (rs.map .int)]=some (.bl true,[]):=by
 have s1:shp (.lst false (rs.map .int))=true:=ZfA rs false;have e1:PyData.eqv (toP (.lst false (rs.map D.int))) (toP (.lst false (rs.map D.int)))=true:=ZfB _ _ _;have h1:=ZaT rs;have h2:=ZdG rs;generalize rs.map D.int=R at *;have a1:evYs Q01 [] Q15 [.own (.lst false R),.dead]=some (.xc "Ringed" (some ("ring",.lst false R)) [.own (.lst false R),.dead]):=by
  refine Zgb ?_
  show ZaV "Ringed" "ring" (mCons (mV 0 true) mNil) _=_;simp [ZaV,mCons,mNil,mV,live,takes,take,VS.strip,noOwn,h1,h2]
 have e:cmpD .eq (.lst false R) (.lst false R)=some (.bl true):=by simp_arith [s1,e1]
 have hp:Zaz Q01.xm Q01.xi Q01.xf [] "Ringed" (some ("ring",.lst false R)) [.own (.lst false R),.dead] Q16=some (.o (.rt (.bl true) [.own (.lst false R),.dead])):=by
  have q:hP Q01.xi Q01.xf "Ringed" (some ("ring",.lst false R)) (.conj (.isi "Ringed") (.cmp .eq (.fld "ring") (.v 0))) [.own (.lst false R),.dead]=some (.bl true):=by
   have n:noOwn (.lst false R)=true:=h2;show (some (D.lst false R)).bind (fun x=>(if noOwn (.lst false R)=true then some (D.lst false R) else none).bind fun y=>cmpD .eq x y)=_;rw [if_pos n];simp only [Option.bind_some,e]
  have g:evHSs Q01.xi Q01.xf "Ringed" (some ("ring",.lst false R)) (ioJ [] (some 1)) [.ret (.p (.conj (.isi "Ringed") (.cmp .eq (.fld "ring") (.v 0))))] [.own (.lst false R),.dead]=some (.rt (.bl true) [.own (.lst false R),.dead]):=by
   simp only [evHSs,ZaW,mSeq,hX,q];rfl
  show (evHSs Q01.xi Q01.xf "Ringed" (some ("ring",.lst false R)) (ioJ [] (some 1)) [.ret (.p (.conj (.isi "Ringed") (.cmp .eq (.fld "ring") (.v 0))))] [.own (.lst false R),.dead]).map _=_;rw [g];rfl
 exact Zge (Zgd (ρ:=[.own (.lst false R),.dead]) ⟨rfl,by decide⟩ (Zga (Zgc a1 hp)) rfl)
end AT
namespace AT
open PySem VS L2
theorem Zj3 {α:Type} {G:Gam} {e:IE} {p:Pat} {w:IW} {own:List (Str×Nat)} {ρ ρ1:Rho} (I:Rho→Prop) (itm:α→Rv) (J:D→Prop) (xs:List α) (hw:evW G w ρ=some (xs.map itm,ρ1)) (hn:xs.length≤1000000) (h0:I (kills (own.map (·.2)) ρ1))
  (ha:∀ x∈xs,∀ ρ,I ρ→∃ ρ2 ρ4 d,asP [] p (itm x) ρ=some ρ2∧evT G e ρ2=some (d,ρ4)∧J d∧I (kills (own.map (·.2)) ρ4)):∃ ρ' ds,I ρ'∧ds.length=xs.length∧(∀ d∈ds,J d)∧ev G (.comp e p w none own) ρ=some (.own (.lst true ds),kills (own.map (·.2)) ρ'):=by
 have step:∀ (ys:List α) (acc:List D) (ρ:Rho),(∀ x∈ys,x∈xs)→I ρ→∃ ρ' ds,I ρ'∧ds.length=ys.length∧(∀ d∈ds,J d)∧ZA p (own.map (·.2)) (evC G none) (ev G e) (ys.map itm) ρ acc=some (acc++ds,ρ'):=by
  intro ys;induction ys with
  | nil=>intro acc ρ _ h; exact ⟨ρ,[],h,rfl,fun _ z=>(nomatch z),by rw [List.map_nil,List.append_nil]; rfl⟩
  | cons y ys ih=>
   intro acc ρ hs h;obtain ⟨ρ2,ρ4,d,a1,a2,a3,a4⟩:=ha y (hs y (List.mem_cons_self ..)) ρ h;obtain ⟨q,hq,ht⟩:=bind_some a2;obtain ⟨ρ',ds,b1,b2,b3,b4⟩:=ih (acc++[d]) _ (fun x hx=>hs x (List.mem_cons_of_mem _ hx)) a4;refine ⟨ρ',d ::ds,b1,by rw [List.length_cons,List.length_cons,b2],fun z hz=>?_,?_⟩
   ·rcases List.mem_cons.mp hz with rfl | hz
    ·exact a3
    ·exact b3 z hz
   ·rw [List.map_cons]
    unfold ZA;have hm:evC G none ρ2=some (true,ρ2):=rfl;simp only [a1,hm,Option.bind_some,if_true,hq,ht,b4];rw [List.append_assoc]; rfl
 obtain ⟨ρ',ds,b1,b2,b3,b4⟩:=step xs [] _ (fun _ h=>h) h0;rw [List.nil_append] at b4;exact ⟨ρ',ds,b1,b2,b3,Zfu (G:=G) (e:=e) (p:=p) (w:=w) (c:=none) (own:=own) hw (by rw [List.length_map]; exact hn) b4⟩
theorem Zgk:∀ {ds:List D} {k:Nat} {d:D},noOwns ds=true→ds[k]?=some d→noOwn d=true
 | [],_,_,_,h=>by simp at h
 | x ::xs,0,d,n,h=>by
  have n2:=Bool.and_eq_true_iff.mp (show (noOwn x && noOwns xs)=true from n);cases h;exact n2.1
 | x ::xs,k+1,d,n,h=>by
  have n2:=Bool.and_eq_true_iff.mp (show (noOwn x && noOwns xs)=true from n);exact Zgk n2.2 (by simpa using h)
noncomputable abbrev l16 (S:D) (s1 s2 s3 s4 s5 s6 s7 s8:Slot):Rho:=[.vw S,s1,s2,s3,s4,s5,s6,s7,s8]
theorem Zj4:∀ k:Nat,k < 14→ns16.map (fun c'=>decide (ns16.getD k ""=c'))=(List.range 14).map fun j:Nat=>decide ((j:Int)=(k:Int)):=by decide +kernel
theorem Zj5 (a:Bool) (l:List Bool):shp (.lst a (l.map .bl))=true:=Zfx _ (k:=0) (by decide) (fun _ _=>rfl) fun _ _=>Nat.le_refl _
theorem Zj6 (l:List Bool):strips (l.map .bl)=l.map .bl:=ZdF _ _ fun _ _=>rfl
theorem Zj7 (l:List Bool):PyData.eqv (toP (.lst false (l.map .bl))) (toP (.lst false (l.map .bl)))=true:=ZdE _ l fun x _=>beq_self_eq_true x
theorem law_16 (ns:List Int):Q0e.sem [.lst false (ns.map .int)]=some (.bl true,[]):=by
 have c0:=ZjU ns 0 0 rfl;obtain ⟨t1,_,kt⟩:=ZjS (cell ns 0);obtain ⟨w,r,t2,hw,kf⟩:=Zj0 t1;have k3:Q03.sem [.lst true [.int t2],.int 100000000000000000000]=some (.int (t2 % 100000000000000000000),[.lst true [.int (t2 / 100000000000000000000)]]):=ZbE (s:=100000000000000000000) (by decide) Zgi;generalize t2 / 100000000000000000000=t3 at k3;generalize t2 % 100000000000000000000=a0 at k3;have k4:Q03.sem [.lst true [.int t3],.int 8]=some (.int (t3 % 8),[.lst true [.int (t3 / 8)]]):=ZbE (s:=8) (by decide) (by decide +kernel);have k8a:=Int.emod_nonneg t3 (show (8:Int)≠0 by decide);have k8b:=Int.emod_lt_of_pos t3 (show (0:Int) < 8 by decide);obtain ⟨m,em⟩:∃ m:Nat,2+t3 % 8=(m:Int):=⟨(2+t3 % 8).toNat,by omega⟩;generalize t3 / 8=t4 at k4;have hS:strip (.lst false (ns.map .int))=.lst false (ns.map .int):=by show D.lst false (strips _)=_; rw [ZaT]
 generalize hSS:D.lst false (ns.map .int)=S at *;let F:D:=.tup [.str w,.int r];have p20:binD .pow (.int 10) (.int 20)=some (.int 100000000000000000000):=rfl;have p10:binD .pow (.int 10) (.int 10)=some (.int 10000000000):=rfl;have ps:binD .sub (.int a0) (.int 10000000000)=some (.int (a0 - 10000000000)):=rfl;have pm:binD .add (.int 2) (.int (t3 % 8))=some (.int m):=by rw [←em]; rfl
 generalize t3 % 8=e8 at *;generalize a0 - 10000000000=a at *;have a1:evS Q00 [] (.asg 1 (.call "_law_tape" [.call "_law_cell_at" [.v 0 false,.cI 0]])) (l16 S .dead .dead .dead .dead .dead .dead .dead .dead)=some (.nx (l16 S (tp t1) .dead .dead .dead .dead .dead .dead .dead)):=by
  simp_arith [hS,c0,kt]
 have a2:evS Q00 [] (.asg 2 (.call "_law_fault" [.v 1 true])) (l16 S (tp t1) .dead .dead .dead .dead .dead .dead .dead)=some (.nx (l16 S (tp t2) (.own F) .dead .dead .dead .dead .dead .dead)):=by
  simp_arith [kf,F]
 have a3:evS Q00 [] (.asg 3 (.bin .sub (.call "_law_digit" [.v 1 true,.bin .pow (.cI 10) (.cI 20)]) (.bin .pow (.cI 10) (.cI 10)))) (l16 S (tp t2) (.own F) .dead .dead .dead .dead .dead .dead)=some (.nx (l16 S (tp t3) (.own F) (.own (.int a)) .dead .dead .dead .dead .dead)):=by
  simp_arith [-binD,p20,p10,k3,ps]
 obtain ⟨ρ',ds,⟨t5,rfl⟩,hdl,hds,kc⟩:=Zj3 (G:=Q00) (e:=.call "_law_digit" [.v 1 true,.cI 24]) (p:=.nm 6) (w:=.r1 (.bin .add (.cI 2) (.call "_law_digit" [.v 1 false,.cI 8]))) (own:=[("_law_k",6)]) (ρ:=l16 S (tp t3) (.own F) (.own (.int a)) .dead .dead .dead .dead .dead) (ρ1:=l16 S (tp t4) (.own F) (.own (.int a)) .dead .dead .dead .dead .dead)
  (fun ρ=>∃ t:Int,ρ=l16 S (tp t) (.own F) (.own (.int a)) .dead .dead .dead .dead .dead) (fun i:Nat=>Rv.own (.int (i:Int))) (fun d=>∃ x:Int,d=.int x) (List.range m) (by
   rw [←ZfD];have hm:(m:Int)≤1000000000:=by omega
   simp_arith [-binD,k4,pm,hm]) (by rw [List.length_range]; omega) ⟨t4,rfl⟩ (fun i _ ρ hI=>by
   obtain ⟨t,rfl⟩:=hI;have kd:Q03.sem [.lst true [.int t],.int 24]=some (.int (t % 24),[.lst true [.int (t / 24)]]):=ZbE (s:=24) (by decide) (by decide +kernel);refine ⟨l16 S (tp t) (.own F) (.own (.int a)) .dead .dead (.own (.int i)) .dead .dead,l16 S (tp (t / 24)) (.own F) (.own (.int a)) .dead .dead (.own (.int i)) .dead .dead,.int (t % 24),?_,?_,⟨_,rfl⟩,⟨t / 24,rfl⟩⟩
   ·rw [ZdI]
    simp_arith []
   ·simp_arith [evT,kd])
 obtain ⟨rs,ers⟩:∃ rs:List Int,ds=rs.map .int:=by
  clear kc hdl;induction ds with
  | nil=>exact ⟨[],rfl⟩
  | cons d ds ih=>
   obtain ⟨x,rfl⟩:=hds d (List.mem_cons_self ..);obtain ⟨rs,rfl⟩:=ih fun d hd=>hds d (List.mem_cons_of_mem _ hd)
   exact ⟨x ::rs,rfl⟩
 subst ers;have kc:ev Q00 Q0q (l16 S (tp t3) (.own F) (.own (.int a)) .dead .dead .dead .dead .dead)=some (.own (.lst true (rs.map .int)),l16 S (tp t5) (.own F) (.own (.int a)) .dead .dead .dead .dead .dead):=kc;have a4:evS Q00 [] (.asg 4 Q0q) (l16 S (tp t3) (.own F) (.own (.int a)) .dead .dead .dead .dead .dead)=some (.nx (l16 S (tp t5) (.own F) (.own (.int a)) (.own (.lst true (rs.map .int))) .dead .dead .dead .dead)):=Zix rfl kc rfl;have hF:flat F=true:=rfl;have km:=ZjZ hF a rs;have kcg:=Zj1 a;have krg:=Zj2 rs;have hr1:=ZaT rs;have hr2:=ZdG rs;have hr3:=Ziy rs;have sR:shp (.lst false (rs.map .int))=true:=ZfA rs false;have eR:PyData.eqv (toP (.lst false (rs.map D.int))) (toP (.lst false (rs.map D.int)))=true:=ZfB _ _ _;have sF:shp F=true:=by
  show ((PyData.strOk w && (true && true)) && decide ((PyData.tuple [.str w,.int r]).depth≤64))=true;rw [hw]; rfl
 have eF:PyData.eqv (toP F) (toP F)=true:=by
  show ((w ==w) && ((r ==r) && true))=true;rw [beq_self_eq_true,beq_self_eq_true]; rfl
 generalize hRR:rs.map D.int=R at *;let M:List D:=[.err "NoNet" ["fault"] [F],.err "NoOrder" [] [],.err "NoText" [] [],.err "NoArrow" ["arrow"] [.int a],.err "Ringed" ["ring"] [.lst false R],.err "NoRows" [] [],.err "NoWidth" [] [],.err "NoRow" [] [],.err "NoNode" [] [],.err "TooMany" [] [],.err "NoNumber" [] [],.err "Twisted" [] [],.err "NoPlaces" [] [],.err "NoName" [] []];have hM:∀ k:Nat,k < 14→∃ ks ds,M[k]?=some (.err (ns16.getD k "") ks ds):=fun k hk=>by
  match k,hk with
  | 0,_=>exact ⟨_,_,rfl⟩
  | 1,_=>exact ⟨_,_,rfl⟩
  | 2,_=>exact ⟨_,_,rfl⟩
  | 3,_=>exact ⟨_,_,rfl⟩
  | 4,_=>exact ⟨_,_,rfl⟩
  | 5,_=>exact ⟨_,_,rfl⟩
  | 6,_=>exact ⟨_,_,rfl⟩
  | 7,_=>exact ⟨_,_,rfl⟩
  | 8,_=>exact ⟨_,_,rfl⟩
  | 9,_=>exact ⟨_,_,rfl⟩
  | 10,_=>exact ⟨_,_,rfl⟩
  | 11,_=>exact ⟨_,_,rfl⟩
  | 12,_=>exact ⟨_,_,rfl⟩
  | 13,_=>exact ⟨_,_,rfl⟩
 have km:Q05.sem [F,.int a,.lst false R]=some (.lst true M,[]):=km;have hMl:M.length=14:=rfl;have hM0:M[0]?=some (.err "NoNet" ["fault"] [F]):=rfl;have hM3:M[3]?=some (.err "NoArrow" ["arrow"] [.int a]):=rfl;have hM4:M[4]?=some (.err "Ringed" ["ring"] [.lst false R]):=rfl;have nF:noOwn F=true:=rfl;have zF:strip F=F:=rfl;have hMs:strips M=M:=by
  show strips [_,_,_,_,_,_,_,_,_,_,_,_,_,_]=_;simp only [strips,strip,hr1,zF];rfl
 have hMn:noOwns M=true:=by
  show noOwns [_,_,_,_,_,_,_,_,_,_,_,_,_,_]=_;simp only [noOwns,noOwn,nF,hr2];rfl
 clear_value M F
 have a5:evS Q00 [] (.asg 5 (.call "_law_made" [.v 2 true,.v 3 true,.copy false (.v 4 true)])) (l16 S (tp t5) (.own F) (.own (.int a)) (.own (.lst true R)) .dead .dead .dead .dead)=some (.nx (l16 S (tp t5) (.own F) (.own (.int a)) (.own (.lst true R)) (.own (.lst true M)) .dead .dead .dead)):=by
  simp_arith [nF,zF,hF,hr1,hr2,hr3,km]
 let g (s6 s7 s8:Slot):Rho:=l16 S (tp t5) (.own F) (.own (.int a)) (.own (.lst true R)) (.own (.lst false M)) s6 s7 s8;have hen:evW Q00 (.enum (.v 5 true)) (l16 S (tp t5) (.own F) (.own (.int a)) (.own (.lst true R)) (.own (.lst true M)) .dead .dead .dead)=some (M.zipIdx.map fun q:D×Nat=>Rv.own (.tup [.int (q.2:Int),q.1]),g .dead .dead .dead):=by
  have e:=ZiE (fun d:D=>d) M;rw [List.map_id'] at e;rw [←e];simp only [g];simp_arith [Zc0,Zas,Za9,seqOf,hMs]
 have body:∀ (k:Nat) (hk:k < 14) (s6:Slot),∃ ρ1 ρ2,asP [] (.tp [.nm 6,.nm 7]) (Rv.own (.tup [.int (k:Int),M[k]'(by omega)])) (g s6 .dead .dead)=some ρ1∧evSs Q00 [] Q0i ρ1=some (.nx ρ2)∧kills [7,8] ρ2=g (.own (.int k)) .dead .dead:=fun k hk s6=>by
  obtain ⟨ks,ds,hk2⟩:=hM k hk;have hk3:M[k]'(by omega)=.err (ns16.getD k "") ks ds:=by
   rw [List.getElem?_eq_getElem (by omega)] at hk2;exact Option.some.inj hk2
  rw [hk3];have hc:ns16.getD k ""∈ns16:=by
   rw [List.getD_eq_getElem?_getD,List.getElem?_eq_getElem (show k < ns16.length from hk)];exact List.getElem_mem _
  obtain ⟨d1,d2⟩:=ZjX _ hc;have ks2:=Zgj hc ks (strips ds);have ks3:=Zgj hc ks ds;have ew:(ns16.map fun c'=>D.bl (decide (ns16.getD k ""=c')))=((List.range 14).map fun j:Nat=>decide ((j:Int)=(k:Int))).map .bl:=by
   rw [←Zj4 k hk,List.map_map]; rfl
  rw [ew] at ks2 ks3;have nD:noOwn (.err (ns16.getD k "") ks ds)=true:=by
   exact Zgk hMn hk2
  have zD:strips ds=ds:=noOwns_strip nD;generalize ns16.getD k ""=c at *;have kj:ev Q00 Q0r (g (.own (.int k)) (.own (.err c ks ds)) .dead)=some (.own (.lst true (((List.range 14).map fun j:Nat=>decide ((j:Int)=(k:Int))).map .bl)),g (.own (.int k)) (.own (.err c ks ds)) .dead):=by
   rw [List.map_map];refine ZjW (fun j:Nat=>D.int (j:Int)) (D.bl∘fun j:Nat=>decide ((j:Int)=(k:Int))) (List.range 14) ?_ (by decide) rfl fun j _=>⟨.own (.int j),?_⟩
   ·rw [←ZfD]
    simp only [g];simp_arith []
   ·simp only [g]
    simp_arith [evT,Zd1,Zd0]
  have sb:=Zj5 false ((List.range 14).map fun j:Nat=>decide ((j:Int)=(k:Int)));have zb:=Zj6 ((List.range 14).map fun j:Nat=>decide ((j:Int)=(k:Int)));have eb:=Zj7 ((List.range 14).map fun j:Nat=>decide ((j:Int)=(k:Int)));generalize ((List.range 14).map fun j:Nat=>decide ((j:Int)=(k:Int))).map D.bl=L at *;have er:Q00.er=Zt ns16 Zab:=rfl;generalize Zt ns16 Zab=E at *;refine ⟨g (.own (.int k)) (.own (.err c ks ds)) .dead,g (.own (.int k)) (.own (.err c ks ds)) .dead,?_,?_,rfl⟩
  ·simp only [g]
   simp_arith [ZdI,ZiB,ZiC,ZiD,nD]
  ·refine ZB (g (.own (.int k)) (.own (.err c ks ds)) .dead) (Zbv (t:=false) ?_ Zbu) (ZB (g (.own (.int k)) (.own (.err c ks ds)) .dead) (Zbv (t:=false) ?_ Zbu) Zbu)
   ·simp only [g]
    simp_arith [-Q1g,er,ZaP,nD,d1,d2]
   ·simp only [g] at *
    generalize Q0r=B at *;simp_arith [nD,zD,ks2,ks3,kj,sb,zb,eb]
 have a6:∃ s6,evS Q00 [] (.for (.tp [(.nm 6),(.nm 7)]) (.enum (.v 5 true)) Q0i [7,8]) (l16 S (tp t5) (.own F) (.own (.int a)) (.own (.lst true R)) (.own (.lst true M)) .dead .dead .dead)=some (.nx (g s6 .dead .dead)):=by
  obtain ⟨ρ',e,s6,rfl⟩:=ZfE (io:=[]) (p:=.tp [(.nm 6),(.nm 7)]) (mb:=evSs Q00 [] Q0i) (kl:=[7,8]) (fun q:D×Nat=>Rv.own (.tup [.int (q.2:Int),q.1])) M.zipIdx (fun _ ρ=>∃ s6,ρ=g s6 .dead .dead) (fun k hk ρ hI=>by
   obtain ⟨s6,rfl⟩:=hI;rw [List.length_zipIdx,hMl] at hk;obtain ⟨ρ1,ρ2,b1,b2,b3⟩:=body k hk s6;refine ⟨ρ1,ρ2,?_,b2,_,b3⟩
   rw [List.getElem_zipIdx];simpa using b1) (g .dead .dead .dead) ⟨.dead,rfl⟩
  exact ⟨s6,Zft hen e⟩
 obtain ⟨s6,a6⟩:=a6;have at0:atI M 0=some (.err "NoNet" ["fault"] [F]):=by
  show (ixN M.length 0).bind _=_;rw [hMl];exact hM0
 have at3:atI M 3=some (.err "NoArrow" ["arrow"] [.int a]):=by
  show (ixN M.length 3).bind _=_;rw [hMl];exact hM3
 have at4:atI M 4=some (.err "Ringed" ["ring"] [.lst false R]):=by
  show (ixN M.length 4).bind _=_;rw [hMl];exact hM4
 have zz:∀ (f:Str) (d:D),([f].zip [d]).lookup f=some d:=fun f d=>by
  rw [List.zip_cons_cons,List.lookup_cons,beq_self_eq_true]
 have z1:=zz "fault" F;have z2:=zz "arrow" (.int a);have z3:=zz "ring" (.lst false R);clear zz;have c7:asB (ev Q00 (.disj [.cmp .ne (.erF (.ix (.v 5 true) (.cI 0)) "NoNet" "fault") (.v 2 false),.cmp .ne (.erF (.ix (.v 5 true) (.cI 3)) "NoArrow" "arrow") (.v 3 true),.cmp .ne (.erF (.ix (.v 5 false) (.cI 4)) "Ringed" "ring") (.v 4 true)])) (g s6 .dead .dead)=some (false,g s6 .dead .dead):=by
  simp only [g];simp_arith [Zdq,Zdp,Z2,at0,at3,at4,z1,z2,z3,nF,zF,sF,eF,sR,eR,hr1,hr2,Zd1,Zd0]
 have fin:∃ ρ',evS Q00 [] (.ret (.conj [.call "_law_caught" [.v 3 false],.call "_law_ringed" [.v 4 false]])) (g s6 .dead .dead)=some (.rt (.bl true) ρ')∧outsR [.vw] ρ'=some []:=by
  refine ⟨l16 S (tp t5) (.own F) (.own (.int a)) (.own (.lst false R)) (.own (.lst false M)) s6 .dead .dead,?_,rfl⟩
  simp only [g];simp_arith [kcg,krg,hr1,hr2]
 obtain ⟨ρ',fin,ho⟩:=fin;exact ZdD (ρ:=ρ') ⟨rfl,by decide⟩ (ZB _ a1 (ZB _ a2 (ZB _ a3 (ZB _ a4 (ZB _ a5 (ZB _ a6 (ZB _ (Zbv c7 Zbu) (Zcj fin)))))))) ho
end AT
namespace K16
theorem law_true:∀ ns:List Int,ns.length≤63→AT.Q0e.sem [.lst false (ns.map .int)]=some (.bl true,[]):=fun ns _=>AT.law_16 ns
end K16
set_option maxHeartbeats 8000000
namespace K16
open PySem PySem.Spec PyProof.Rows L2 VS AT
theorem Q1h:okYs Q02 Q0w (defScope Zcs) Q0z (defBody Zcs)=true:=by decide +kernel
theorem Q1i:FnScope Q0w ["_law_number"] (defScope Zcs):=⟨rfl,rfl,rfl,by decide +kernel,rfl,by decide +kernel,by decide +kernel⟩
theorem Q1j:okSs Q0k Q0s (defScope Zct) Q0j (defBody Zct)=true:=by decide +kernel
theorem Q1k:FnScope Q0s ["_law_script", "_law_k"] (defScope Zct):=⟨rfl,rfl,rfl,by decide +kernel,rfl,by decide +kernel,by decide +kernel⟩
theorem Q1l:okSs Q0m Q0t (defScope Zcu) Q0l (defBody Zcu)=true:=by decide +kernel
theorem Q1m:FnScope Q0t ["_law_tape_here", "_law_size"] (defScope Zcu):=⟨rfl,rfl,rfl,by decide +kernel,rfl,by decide +kernel,by decide +kernel⟩
theorem Q1n:okSs Q0g Q10 (defScope Zcv) Q11 (defBody Zcv)=true:=by decide +kernel
theorem Q1o:FnScope Q10 ["_law_tape_here"] (defScope Zcv):=⟨rfl,rfl,rfl,by decide +kernel,rfl,by decide +kernel,by decide +kernel⟩
theorem Q1p:okSs Q0h Q12 (defScope Zcw) Q13 (defBody Zcw)=true:=by decide +kernel
theorem Q1q:FnScope Q12 ["_law_fault_here", "_law_arrow", "_law_ring"] (defScope Zcw):=⟨rfl,rfl,rfl,by decide +kernel,rfl,by decide +kernel,by decide +kernel⟩
theorem Q1r:okYs Q01 Q14 (defScope Zcx) Q17 (defBody Zcx)=true:=by decide +kernel
theorem Q1s:FnScope Q14 ["_law_ring"] (defScope Zcx):=⟨rfl,rfl,rfl,by decide +kernel,rfl,by decide +kernel,by decide +kernel⟩
theorem Q1t:okSs Q0d Q18 (defScope Zcy) Q19 (defBody Zcy)=true:=by decide +kernel
theorem Q1u:FnScope Q18 ["_law_e"] (defScope Zcy):=⟨rfl,rfl,rfl,by decide +kernel,rfl,by decide +kernel,by decide +kernel⟩
theorem Q1v:okSs Q0c Q1a (defScope Zcz) Q1b (defBody Zcz)=true:=by decide +kernel
theorem Q1w:FnScope Q1a ["_law_e"] (defScope Zcz):=⟨rfl,rfl,rfl,by decide +kernel,rfl,by decide +kernel,by decide +kernel⟩
theorem Q1x:okSs Q0f Q0u (defScope ZcA) Q0v (defBody ZcA)=true:=by decide +kernel
theorem Q1y:FnScope Q0u ["_law_cell"] (defScope ZcA):=⟨rfl,rfl,rfl,by decide +kernel,rfl,by decide +kernel,by decide +kernel⟩
theorem Q1z:okSs Q00 Q1c (defScope Zaa) Q1d (defBody Zaa)=true:=by decide +kernel
theorem Q20:FnScope Q1c ["_law_script"] (defScope Zaa):=⟨rfl,rfl,rfl,by decide +kernel,rfl,by decide +kernel,by decide +kernel⟩
theorem Q21:FnScope ["self", "arrow"] ["self", "arrow"] (defScope ZaY):=⟨rfl,rfl,rfl,by decide +kernel,rfl,by decide +kernel,by decide +kernel⟩
theorem Q22:FnScope ["self", "fault"] ["self", "fault"] (defScope ZaZ):=⟨rfl,rfl,rfl,by decide +kernel,rfl,by decide +kernel,by decide +kernel⟩
theorem Q23:FnScope ["self", "ring"] ["self", "ring"] (defScope Za0):=⟨rfl,rfl,rfl,by decide +kernel,rfl,by decide +kernel,by decide +kernel⟩
theorem facts {l:PySem.W.OpenLaw} {w:World} {K:PySem.W.Frag} {h:Heap} {mg:Str→Option Value} {fa:Addr} (X:K.In h) (c:SaysV fs fn K) (G:h.Ns mainGlobals mg) (hfa:mg "law"=some (.ref fa))
  : ∃ (ct:Str→Option Addr) (fd:FuncData),(∀ (s:Shared) (v:Value),BindsTo s fd ⟨[v],[]⟩ [("_law_script",v)])∧∀ base:Heap,K.In base→base.Ns mainGlobals mg→FnOk l.prog w K mg base CX0 7 fa fd ["_law_script"] (spI ct Q0e):=by
 obtain ⟨nm0,qn0,NN0,bs0,bm0,sn0,sb0,ab0,cl0,dd0,ka0,kb0,kc_0,kd0,ke0,oX0,rX0⟩:=ZcO (c:= "NoArrow") (c.fact 87);obtain ⟨ocX0,odX0,slX0,kVX0,dcX0,pmX0,anX0,cdX0,ctX0,lX0,cX0⟩:=c.def_ 0 (d:=⟨("NoArrow",some "__init__"), "__init__", "NoArrow.__init__",defArgs ZaY,defBody ZaY,defScope ZaY⟩);obtain ⟨nm1,qn1,NN1,bs1,bm1,sn1,sb1,ab1,cl1,dd1,ka1,kb1,kc_1,kd1,ke1,oX1,rX1⟩:=ZcO (c:= "NoNet") (c.fact 93);obtain ⟨ocX1,odX1,slX1,kVX1,dcX1,pmX1,anX1,cdX1,ctX1,lX1,cX1⟩:=c.def_ 1 (d:=⟨("NoNet",some "__init__"), "__init__", "NoNet.__init__",defArgs ZaZ,defBody ZaZ,defScope ZaZ⟩);obtain ⟨nm2,qn2,NN2,bs2,bm2,sn2,sb2,ab2,cl2,dd2,ka2,kb2,kc_2,kd2,ke2,oX2,rX2⟩:=ZcO (c:= "Ringed") (c.fact 99);obtain ⟨ocX2,odX2,slX2,kVX2,dcX2,pmX2,anX2,cdX2,ctX2,lX2,cX2⟩:=c.def_ 2 (d:=⟨("Ringed",some "__init__"), "__init__", "Ringed.__init__",defArgs Za0,defBody Za0,defScope Za0⟩);have aE0:=(Zr (c.fact 1));have kE0:=(c.fact 2);have tE0:=(Zq (v:=fun K=>.ref (He.ga K "DrawError")) (n:= "type") (c.fact 3));have sE0:=(Zh (o:=fun K=>PySem.W.subIn K (.ref (He.ga K "DrawError")) (.type "BaseException")) (b:=true) (c.fact 4));have dE0:=(c.fact 5);have aE1:=(Zr (c.fact 6));have kE1:=(c.fact 7);have tE1:=(Zq (v:=fun K=>.ref (He.ga K "NoArrow")) (n:= "type") (c.fact 8));have sE1:=(Zh (o:=fun K=>PySem.W.subIn K (.ref (He.ga K "NoArrow")) (.type "BaseException")) (b:=true) (c.fact 9));have dE1:=(c.fact 10);have gE1:=(ZX (c.fact 11));have hE1:=(Zaq (c.fact 12));have cE1:=(ZX (c.fact 13));have nE1:=(ZbN (v:=fun K=>.builtin "object.__class__") (f:= "__get__") (b:= "getset_descriptor.__get__") (c.fact 14));have uE1:=(Zh (o:=fun K=>PySem.W.takesIn K (.builtin "object.__class__")) (b:=true) (c.fact 15));have mE1:=(Zh (o:=fun K=>PySem.W.mroIn K (He.ga K "NoArrow") (.type "object")) (b:=true) (c.fact 16));have aE2:=(Zr (c.fact 17));have kE2:=(c.fact 18);have tE2:=(Zq (v:=fun K=>.ref (He.ga K "NoName")) (n:= "type") (c.fact 19));have sE2:=(Zh (o:=fun K=>PySem.W.subIn K (.ref (He.ga K "NoName")) (.type "BaseException")) (b:=true) (c.fact 20));have dE2:=(c.fact 21);have aE3:=(Zr (c.fact 22));have kE3:=(c.fact 23);have tE3:=(Zq (v:=fun K=>.ref (He.ga K "NoNet")) (n:= "type") (c.fact 24));have sE3:=(Zh (o:=fun K=>PySem.W.subIn K (.ref (He.ga K "NoNet")) (.type "BaseException")) (b:=true) (c.fact 25));have dE3:=(c.fact 26);have aE4:=(Zr (c.fact 27));have kE4:=(c.fact 28);have tE4:=(Zq (v:=fun K=>.ref (He.ga K "NoNode")) (n:= "type") (c.fact 29));have sE4:=(Zh (o:=fun K=>PySem.W.subIn K (.ref (He.ga K "NoNode")) (.type "BaseException")) (b:=true) (c.fact 30));have dE4:=(c.fact 31);have aE5:=(Zr (c.fact 32));have kE5:=(c.fact 33);have tE5:=(Zq (v:=fun K=>.ref (He.ga K "NoNumber")) (n:= "type") (c.fact 34));have sE5:=(Zh (o:=fun K=>PySem.W.subIn K (.ref (He.ga K "NoNumber")) (.type "BaseException")) (b:=true) (c.fact 35));have dE5:=(c.fact 36);have aE6:=(Zr (c.fact 37));have kE6:=(c.fact 38);have tE6:=(Zq (v:=fun K=>.ref (He.ga K "NoOrder")) (n:= "type") (c.fact 39));have sE6:=(Zh (o:=fun K=>PySem.W.subIn K (.ref (He.ga K "NoOrder")) (.type "BaseException")) (b:=true) (c.fact 40));have dE6:=(c.fact 41);have aE7:=(Zr (c.fact 42));have kE7:=(c.fact 43);have tE7:=(Zq (v:=fun K=>.ref (He.ga K "NoPlaces")) (n:= "type") (c.fact 44));have sE7:=(Zh (o:=fun K=>PySem.W.subIn K (.ref (He.ga K "NoPlaces")) (.type "BaseException")) (b:=true) (c.fact 45));have dE7:=(c.fact 46);have aE8:=(Zr (c.fact 47));have kE8:=(c.fact 48);have tE8:=(Zq (v:=fun K=>.ref (He.ga K "NoRow")) (n:= "type") (c.fact 49));have sE8:=(Zh (o:=fun K=>PySem.W.subIn K (.ref (He.ga K "NoRow")) (.type "BaseException")) (b:=true) (c.fact 50));have dE8:=(c.fact 51);have aE9:=(Zr (c.fact 52));have kE9:=(c.fact 53);have tE9:=(Zq (v:=fun K=>.ref (He.ga K "NoRows")) (n:= "type") (c.fact 54));have sE9:=(Zh (o:=fun K=>PySem.W.subIn K (.ref (He.ga K "NoRows")) (.type "BaseException")) (b:=true) (c.fact 55));have dE9:=(c.fact 56);have aE10:=(Zr (c.fact 57));have kE10:=(c.fact 58);have tE10:=(Zq (v:=fun K=>.ref (He.ga K "NoText")) (n:= "type") (c.fact 59));have sE10:=(Zh (o:=fun K=>PySem.W.subIn K (.ref (He.ga K "NoText")) (.type "BaseException")) (b:=true) (c.fact 60));have dE10:=(c.fact 61);have aE11:=(Zr (c.fact 62));have kE11:=(c.fact 63);have tE11:=(Zq (v:=fun K=>.ref (He.ga K "NoWidth")) (n:= "type") (c.fact 64));have sE11:=(Zh (o:=fun K=>PySem.W.subIn K (.ref (He.ga K "NoWidth")) (.type "BaseException")) (b:=true) (c.fact 65));have dE11:=(c.fact 66);have aE12:=(Zr (c.fact 67));have kE12:=(c.fact 68);have tE12:=(Zq (v:=fun K=>.ref (He.ga K "Ringed")) (n:= "type") (c.fact 69));have sE12:=(Zh (o:=fun K=>PySem.W.subIn K (.ref (He.ga K "Ringed")) (.type "BaseException")) (b:=true) (c.fact 70));have dE12:=(c.fact 71);have gE12:=(ZX (c.fact 72));have hE12:=(Zaq (c.fact 73));have cE12:=(ZX (c.fact 74));have nE12:=(ZbN (v:=fun K=>.builtin "object.__class__") (f:= "__get__") (b:= "getset_descriptor.__get__") (c.fact 14));have uE12:=(Zh (o:=fun K=>PySem.W.takesIn K (.builtin "object.__class__")) (b:=true) (c.fact 15));have mE12:=(Zh (o:=fun K=>PySem.W.mroIn K (He.ga K "Ringed") (.type "object")) (b:=true) (c.fact 75));have aE13:=(Zr (c.fact 76));have kE13:=(c.fact 77);have tE13:=(Zq (v:=fun K=>.ref (He.ga K "TooMany")) (n:= "type") (c.fact 78));have sE13:=(Zh (o:=fun K=>PySem.W.subIn K (.ref (He.ga K "TooMany")) (.type "BaseException")) (b:=true) (c.fact 79));have dE13:=(c.fact 80);have aE14:=(Zr (c.fact 81));have kE14:=(c.fact 82);have tE14:=(Zq (v:=fun K=>.ref (He.ga K "Twisted")) (n:= "type") (c.fact 83));have sE14:=(Zh (o:=fun K=>PySem.W.subIn K (.ref (He.ga K "Twisted")) (.type "BaseException")) (b:=true) (c.fact 84));have dE14:=(c.fact 85);have saX0:=(ZX (c.fact 86));have nfX0:=(Zaq (c.fact 88));have inX0:=(ZcM (c.fact 89));have tyX0:=(Zq (v:=fun K=>.ref (He.ma K (He.ga K "NoArrow") "__init__")) (n:= "function") (c.fact 90));have kX0:=(c.fact 91);have saX1:=(ZX (c.fact 92));have nfX1:=(Zaq (c.fact 94));have inX1:=(ZcM (c.fact 95));have tyX1:=(Zq (v:=fun K=>.ref (He.ma K (He.ga K "NoNet") "__init__")) (n:= "function") (c.fact 96));have kX1:=(c.fact 97);have saX2:=(ZX (c.fact 98));have nfX2:=(Zaq (c.fact 100));have inX2:=(ZcM (c.fact 101));have tyX2:=(Zq (v:=fun K=>.ref (He.ma K (He.ga K "Ringed") "__init__")) (n:= "function") (c.fact 102));have kX2:=(c.fact 103);have gaB:=(ZbN (v:=fun K=>.ref (He.ga K "DrawError")) (f:= "__getattribute__") (b:= "type.__getattribute__") (c.fact 104));have rdB:=(c.fact 105);have vvB:=(ZgQ (c:= "DrawError") (t:= "type") (f:= "__init__") (b:= "ValueError.__init__") (c.fact 106));have vS0:=(Zh (o:=fun K=>PySem.W.subIn K (.ref (He.ga K "NoArrow")) (.ref (He.ga K "NoArrow"))) (b:=true) (c.fact 107));have vS1:=(Zh (o:=fun K=>PySem.W.subIn K (.ref (He.ga K "NoArrow")) (.ref (He.ga K "NoText"))) (b:=false) (c.fact 108));have vS2:=(Zh (o:=fun K=>PySem.W.subIn K (.ref (He.ga K "Ringed")) (.ref (He.ga K "DrawError"))) (b:=true) (c.fact 109));have vS3:=(Zh (o:=fun K=>PySem.W.subIn K (.ref (He.ga K "Ringed")) (.ref (He.ga K "NoRows"))) (b:=false) (c.fact 110));have vS4:=(Zh (o:=fun K=>PySem.W.subIn K (.ref (He.ga K "Ringed")) (.ref (He.ga K "Ringed"))) (b:=true) (c.fact 111));have z0:=ZaU X G (c.fact 112);have z1:=ZaU X G (c.fact 113);have z2:=ZaU X G (c.fact 114);have z3:=ZaU X G (c.fact 115);have z4:=ZaU X G (c.fact 116);have z5:=ZaU X G (c.fact 117);obtain ⟨fd0,F0,a0⟩:=dfT c 3 118 119;obtain ⟨fd1,F1,a1⟩:=dfT c 4 120 121;obtain ⟨fd2,F2,a2⟩:=dfT c 5 122 123;obtain ⟨fd3,F3,a3⟩:=dfT c 6 124 125;obtain ⟨fd4,F4,a4⟩:=dfT c 7 126 127;obtain ⟨fd5,F5,a5⟩:=dfT c 8 128 129;obtain ⟨fd6,F6,a6⟩:=dfT c 9 130 131;obtain ⟨fd7,F7,a7⟩:=dfT c 10 132 133;obtain ⟨fd8,F8,a8⟩:=dfT c 11 134 135;obtain ⟨oc9,od9,sl9,kV9,dc9,pm9,an9,cd9,ct9,l9,c9⟩:=c.def_ 12 (d:=dT "law" Zaa);have a9:=Zr (x:= "law") (c.fact 136);have F9:=fun_mk (st:=Zaa) l9 c9 (c.fact 137 (f:=kpB "law"));have e:=hfa.symm.trans (PySem.W.mg_of X G a9);cases e;let ct:Str→Option Addr:=fun c=>if c= "DrawError" then some (He.ga K "DrawError") else if c= "NoArrow" then some (He.ga K "NoArrow") else if c= "NoName" then some (He.ga K "NoName") else if c= "NoNet" then some (He.ga K "NoNet") else if c= "NoNode" then some (He.ga K "NoNode") else if c= "NoNumber" then some (He.ga K "NoNumber") else if c= "NoOrder" then some (He.ga K "NoOrder") else if c= "NoPlaces" then some (He.ga K "NoPlaces") else if c= "NoRow" then some (He.ga K "NoRow") else if c= "NoRows" then some (He.ga K "NoRows") else if c= "NoText" then some (He.ga K "NoText") else if c= "NoWidth" then some (He.ga K "NoWidth") else if c= "Ringed" then some (He.ga K "Ringed") else if c= "TooMany" then some (He.ga K "TooMany") else if c= "Twisted" then some (He.ga K "Twisted") else none
 have hE_0:ct "DrawError"=some (He.ga K "DrawError"):=rfl;have hE_1:ct "NoArrow"=some (He.ga K "NoArrow"):=rfl;have hE_2:ct "NoName"=some (He.ga K "NoName"):=rfl;have hE_3:ct "NoNet"=some (He.ga K "NoNet"):=rfl;have hE_4:ct "NoNode"=some (He.ga K "NoNode"):=rfl;have hE_5:ct "NoNumber"=some (He.ga K "NoNumber"):=rfl;have hE_6:ct "NoOrder"=some (He.ga K "NoOrder"):=rfl;have hE_7:ct "NoPlaces"=some (He.ga K "NoPlaces"):=rfl;have hE_8:ct "NoRow"=some (He.ga K "NoRow"):=rfl;have hE_9:ct "NoRows"=some (He.ga K "NoRows"):=rfl;have hE_10:ct "NoText"=some (He.ga K "NoText"):=rfl;have hE_11:ct "NoWidth"=some (He.ga K "NoWidth"):=rfl;have hE_12:ct "Ringed"=some (He.ga K "Ringed"):=rfl;have hE_13:ct "TooMany"=some (He.ga K "TooMany"):=rfl;have hE_14:ct "Twisted"=some (He.ga K "Twisted"):=rfl;have T0:OexC K (He.ga K "NoArrow"):=⟨⟨_,_,_,_,_,_,_,_,_,_,_,_,_,_,_,oX0,rX0⟩,saX0,sE1,tE1,kE1⟩;have FX0:=fun_mk (st:=ZaY) lX0 cX0 kX0;have bX0:=FX0.binds (ps:=["self", "arrow"]) fun _ _ _ _ _ _ us hl=>match us,hl with | [_,_],_=>rfl
 have T1:OexC K (He.ga K "NoNet"):=⟨⟨_,_,_,_,_,_,_,_,_,_,_,_,_,_,_,oX1,rX1⟩,saX1,sE3,tE3,kE3⟩;have FX1:=fun_mk (st:=ZaZ) lX1 cX1 kX1;have bX1:=FX1.binds (ps:=["self", "fault"]) fun _ _ _ _ _ _ us hl=>match us,hl with | [_,_],_=>rfl
 have T2:OexC K (He.ga K "Ringed"):=⟨⟨_,_,_,_,_,_,_,_,_,_,_,_,_,_,_,oX2,rX2⟩,saX2,sE12,tE12,kE12⟩;have FX2:=fun_mk (st:=Za0) lX2 cX2 kX2;have bX2:=FX2.binds (ps:=["self", "ring"]) fun _ _ _ _ _ _ us hl=>match us,hl with | [_,_],_=>rfl
 have b0:=F0.binds (ps:=["_law_number"]) fun _ _ _ _ _ _ us hl=>match us,hl with | [_],_=>rfl
 have b1:=F1.binds (ps:=["_law_script", "_law_k"]) fun _ _ _ _ _ _ us hl=>match us,hl with | [_,_],_=>rfl
 have b2:=F2.binds (ps:=["_law_tape_here", "_law_size"]) fun _ _ _ _ _ _ us hl=>match us,hl with | [_,_],_=>rfl
 have b3:=F3.binds (ps:=["_law_tape_here"]) fun _ _ _ _ _ _ us hl=>match us,hl with | [_],_=>rfl
 have b4:=F4.binds (ps:=["_law_fault_here", "_law_arrow", "_law_ring"]) fun _ _ _ _ _ _ us hl=>match us,hl with | [_,_,_],_=>rfl
 have b5:=F5.binds (ps:=["_law_ring"]) fun _ _ _ _ _ _ us hl=>match us,hl with | [_],_=>rfl
 have b6:=F6.binds (ps:=["_law_e"]) fun _ _ _ _ _ _ us hl=>match us,hl with | [_],_=>rfl
 have b7:=F7.binds (ps:=["_law_e"]) fun _ _ _ _ _ _ us hl=>match us,hl with | [_],_=>rfl
 have b8:=F8.binds (ps:=["_law_cell"]) fun _ _ _ _ _ _ us hl=>match us,hl with | [_],_=>rfl
 have b9:=F9.binds (ps:=["_law_script"]) fun _ _ _ _ _ _ us hl=>match us,hl with | [_],_=>rfl
 refine ⟨ct,PySem.W.fnOf "law" "law" (defArgs Zaa) (defBody Zaa) (defScope Zaa) .none kV9 dc9 pm9 an9 cd9 ct9,fun s v=>.of_eq rfl,fun base _ _=>?_⟩
 have pX0:=ZdZ (P:=l.prog) (w:=w) (mg:=mg) (base:=base) FX0 Q21 rfl (by decide +kernel) (by decide +kernel) (by decide +kernel) (by decide +kernel) (by decide +kernel) (PySem.W.mg_of X G aE0) gaB rdB vvB T0 nfX0;have pX1:=ZdZ (P:=l.prog) (w:=w) (mg:=mg) (base:=base) FX1 Q22 rfl (by decide +kernel) (by decide +kernel) (by decide +kernel) (by decide +kernel) (by decide +kernel) (PySem.W.mg_of X G aE0) gaB rdB vvB T1 nfX1;have pX2:=ZdZ (P:=l.prog) (w:=w) (mg:=mg) (base:=base) FX2 Q23 rfl (by decide +kernel) (by decide +kernel) (by decide +kernel) (by decide +kernel) (by decide +kernel) (PySem.W.mg_of X G aE0) gaB rdB vvB T2 nfX2;have hER:∀ k,1≤k→ErOk ct (Zt ["NoNet", "NoOrder", "NoText", "NoArrow", "Ringed", "NoRows", "NoWidth", "NoRow", "NoNode", "TooMany", "NoNumber", "Twisted", "NoPlaces", "NoName"] [("NoNet", "fault"),("NoArrow", "arrow"),("Ringed", "ring")]) k l.prog w K mg base:=fun k hk=>ZjL X G (by intro c hc; simp only [List.mem_cons,List.not_mem_nil,or_false] at hc; rcases hc with rfl | rfl | rfl | rfl | rfl | rfl | rfl | rfl | rfl | rfl | rfl | rfl | rfl | rfl<;>rfl) z0 (c.fact 138) (by decide +kernel) (by intro p hp; simp only [List.mem_cons,List.not_mem_nil,or_false] at hp; rcases hp with rfl | rfl | rfl; (exact ⟨_,_,_,_,T1,inX1,tyX1,pX1,hk,bX1⟩); (exact ⟨_,_,_,_,T0,inX0,tyX0,pX0,hk,bX0⟩); (exact ⟨_,_,_,_,T2,inX2,tyX2,pX2,hk,bX2⟩))
 have x0:Ctx ct l.prog w K mg base Q0o 1:=(ZS (k:=1));have e0:EXY ct Q02 1 l.prog w K mg base:=(((((((eyE (k:=1)).xmAdd hE_1 (PySem.W.mg_of X G aE1) (PySem.W.exm_ref sE1 dE1 tE1 vS0)).xmAdd hE_1 (PySem.W.mg_of X G aE10) (PySem.W.exm_ref sE10 dE10 tE10 vS1)).xhAdd (PySem.W.mg_of X G aE1)).xhAdd (PySem.W.mg_of X G aE10)).xpAdd hE_1 (PySem.W.mg_of X G aE1) T0 inX0 tyX0 pX0 (by decide) bX0).xfAdd hE_1 ⟨gE1,hE1,sE1,dE1⟩ nfX0);have p0:FnOk l.prog w K mg base CX0 3 _ _ ["_law_number"] (spI ct Q0a):=Zf9 x0 e0 F0 Q1i rfl Q1h;have q0:PkF ct l.prog w K mg base 3 "_law_caught" Q0a:=⟨_,_,_,p0,PySem.W.mg_of X G a0,F0.kp,b0⟩;have x1:Ctx ct l.prog w K mg base Q0k 0:=((ZS (k:=0)).frAdd z3);have p1:FnOk l.prog w K mg base CX0 2 _ _ ["_law_script", "_law_k"] (spI ct Q04):=fn_ok x1 F1 Q1k rfl Q1j;have q1:PkF ct l.prog w K mg base 2 "_law_cell_at" Q04:=⟨_,_,_,p1,PySem.W.mg_of X G a1,F1.kp,b1⟩;have x2:Ctx ct l.prog w K mg base Q0m 0:=(ZS (k:=0));have p2:FnOk l.prog w K mg base CX0 2 _ _ ["_law_tape_here", "_law_size"] (spI ct Q03):=fn_ok x2 F2 Q1m rfl Q1l;have q2:PkF ct l.prog w K mg base 2 "_law_digit" Q03:=⟨_,_,_,p2,PySem.W.mg_of X G a2,F2.kp,b2⟩;have x3:Ctx ct l.prog w K mg base Q0g 2:=((ZS (k:=2)).fA q2);have p3:FnOk l.prog w K mg base CX0 4 _ _ ["_law_tape_here"] (spI ct Q06):=fn_ok x3 F3 Q1o rfl Q1n;have q3:PkF ct l.prog w K mg base 4 "_law_fault" Q06:=⟨_,_,_,p3,PySem.W.mg_of X G a3,F3.kp,b3⟩;have x4:Ctx ct l.prog w K mg base Q0h 1:=((ZS (k:=1)).erAdd (hER _ (by decide)));have p4:FnOk l.prog w K mg base CX0 3 _ _ ["_law_fault_here", "_law_arrow", "_law_ring"] (spI ct Q05):=fn_ok x4 F4 Q1q rfl Q1p;have q4:PkF ct l.prog w K mg base 3 "_law_made" Q05:=⟨_,_,_,p4,PySem.W.mg_of X G a4,F4.kp,b4⟩;have x5:Ctx ct l.prog w K mg base Q0p 1:=((ZS (k:=1)).frAdd z2);have e5:EXY ct Q01 1 l.prog w K mg base:=((((((((eyE (k:=1)).xmAdd hE_12 (PySem.W.mg_of X G aE0) (PySem.W.exm_ref sE0 dE0 tE0 vS2)).xmAdd hE_12 (PySem.W.mg_of X G aE9) (PySem.W.exm_ref sE9 dE9 tE9 vS3)).xiAdd hE_12 (PySem.W.mg_of X G aE12) ⟨gE12,hE12,sE12,dE12,cE12,nE12,uE12,mE12⟩ (ZdW dE12 tE12 vS4 (fun z=>nomatch z))).xhAdd (PySem.W.mg_of X G aE0)).xhAdd (PySem.W.mg_of X G aE9)).xpAdd hE_12 (PySem.W.mg_of X G aE12) T2 inX2 tyX2 pX2 (by decide) bX2).xfAdd hE_12 ⟨gE12,hE12,sE12,dE12⟩ nfX2);have p5:FnOk l.prog w K mg base CX0 3 _ _ ["_law_ring"] (spI ct Q0b):=Zf9 x5 e5 F5 Q1s rfl Q1r;have q5:PkF ct l.prog w K mg base 3 "_law_ringed" Q0b:=⟨_,_,_,p5,PySem.W.mg_of X G a5,F5.kp,b5⟩;have x6:Ctx ct l.prog w K mg base Q0d 1:=(((ZS (k:=1)).frAdd z2).erAdd (hER _ (by decide)));have p6:FnOk l.prog w K mg base CX0 3 _ _ ["_law_e"] (spI ct Q07):=fn_ok x6 F6 Q1u rfl Q1t;have q6:PkF ct l.prog w K mg base 3 "_law_firsts" Q07:=⟨_,_,_,p6,PySem.W.mg_of X G a6,F6.kp,b6⟩;have x7:Ctx ct l.prog w K mg base Q0c 3:=((((ZS (k:=3)).frAdd z2).fA q6).erAdd (hER _ (by decide)));have p7:FnOk l.prog w K mg base CX0 5 _ _ ["_law_e"] (spI ct Q08):=fn_ok x7 F7 Q1w rfl Q1v;have q7:PkF ct l.prog w K mg base 5 "_law_sorts" Q08:=⟨_,_,_,p7,PySem.W.mg_of X G a7,F7.kp,b7⟩;have x8:Ctx ct l.prog w K mg base Q0f 0:=((ZS (k:=0)).frAdd z5);have p8:FnOk l.prog w K mg base CX0 2 _ _ ["_law_cell"] (spI ct Q09):=fn_ok x8 F8 Q1y rfl Q1x;have q8:PkF ct l.prog w K mg base 2 "_law_tape" Q09:=⟨_,_,_,p8,PySem.W.mg_of X G a8,F8.kp,b8⟩;have x9:Ctx ct l.prog w K mg base Q00 5:=(((((((((((((((ZS (k:=5)).frAdd z0).frAdd z1).frAdd z2).frAdd z4).frAdd z5).fA q0).fA q1).fA q2).fA q3).fA q4).fA q5).fA q7).fA q8).erAdd (hER _ (by decide)));exact fn_ok x9 F9 Q20 rfl Q1z
end K16
open PySem PySem.W PySem.Calls PyProof.Rows in
set_option maxHeartbeats 0 in
theorem PySem.Challenge.cw_arrowtiers_k16_refusals_apart_holds : PySem.Challenge.rw_arrowtiers_k16_refusals_apart.Holds := by
  refine K16.fin_of ?hc
  refine VS.walk_allV (l := PySem.Challenge.rw_arrowtiers_k16_refusals_apart) (k := 7) (x := "_law_script") (fn := AT.Q0e) rfl K16.dL_df rfl ⟨rfl, by decide, by decide⟩ K16.law_true (fun K c => c.fact 0) ?F
  intro w K mg fa h hK c G hmg0
  have hmg : mg ("law" : PySem.Str) = some (.ref fa) := by
    rw [← K16.dL_nm]
    exact hmg0
  exact K16.facts hK c G hmg
