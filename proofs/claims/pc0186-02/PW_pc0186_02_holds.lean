import PyProof.Rows.All
import Wide.All
import OpenK.AllK
import Wide.FinOn
import PyProof.DictTable
import PyProof.InstStoreFacts
import PyProof.CompFree
import PyProof.Rows.TupDisplay
import PyProof.ListIndex
import PyProof.Rows.Chain
import PyProof.ListCopy
import PyProof.Rows.TupMore
import PyProof.Rows.SumAny
import PyProof.TupleOfGen
import PySem.Challenge.RW_pc0186_02
set_option Elab.async false
set_option linter.all false
set_option maxRecDepth 100000
set_option bootstrap.genMatcherCode false
set_option genInjectivity false
set_option genSizeOf false
namespace Mine
open Nat renaming le_of_ble_eq_true->qa,le_trans->qb,lt_of_lt_of_le->qc,lt_of_le_of_lt->qd,ne_of_gt->qe,ne_of_lt->qf,lt_add_of_pos_right->qg,le_add_right_of_le->qh,le_add_right->qi,lt_succ_of_le->qj,le_of_eq->qk,le_of_lt->ql,le_refl->qm,zero_le->qn,lt_irrefl->qo,le_succ->qp
open Option.some renaming inj->qq
open And renaming intro->qr
open List renaming getElem?_eq_none_iff->qs,getElem?_map->qt,getElem?_eq_getElem->qu,getElem?_append_right->qv,getElem?_append_left->qw,nodup_cons->qx,length_set->qy,mem_append->qz,getElem?_eq_some_iff->qA,mem_singleton->qB,mem_cons->qC,mem_of_getElem?->qD,length_map->qF,size_toArray->qG
open PySem.Str renaming ofString->qH
open Bool renaming and_eq_true_iff->qI
open False renaming elim->qJ
open PySem.Heap renaming get?_push_size->qK,get?_push_of_some->qL,lt_size->qM,get?_update_self->qN
open PySem.PyData renaming keyHash->qO
open PySem renaming wpAny_bind->qP,wpAny_pure->qQ,mainGlobals->qR,call_gives->qS,wpAny_of_eq->qT,builtinLookup_eq_fast->qU,wpAny_mono->qV,wpAny_holding->qW,starEach->qX,sizeLine_eq->qY,treeTable->qZ,wpAny_specialOf->qa1,typeLookup_type->qb1,behindInMarks->qc1,builtinsNs->qd1,typeLookup->qe1
open PySem.W renaming typeIs_bytes->qf1
open PySem PySem.W PySem.Calls PyProof.Rows
section
variable {p1:Prop}
@[elab_as_elim] theorem rz {α:Sort u} {a b:α} {p:α->Prop} (h:a=b) (k:p b):p a:=Eq.rec (motive:=fun x o_=>p x->p a) id h k
theorem x_A {p0 G:Prop} (h:p0/\(p1)) (k:p0->p1->G):G:=k h.1 h.2
theorem x_E.{u0} {α0:Sort u0} {p0:α0->Prop} {G:Prop} (h:∃x0,p0 x0) (k:∀x0,p0 x0->G):G:=h.elim k
variable {p0 p2:Prop}
theorem x_AA {G:Prop} (h:p0/\(p1/\(p2))) (k:p0->p1->p2->G):G:=x_A h.2 (k h.1)
theorem x_AE.{u0} {α0:Sort u0} {p1:α0->Prop} {G:Prop} (h:p0/\(∃x0,p1 x0)) (k:p0->∀x0,p1 x0->G):G:=x_E h.2 (k h.1)
theorem x_EA.{u0} {α0:Sort u0} {p0 p1:α0->Prop} {G:Prop} (h:∃x0,p0 x0/\(p1 x0)) (k:∀x0,p0 x0->p1 x0->G):G:=h.elim fun x h=>x_A h (k x)
theorem x_EE.{u0,u1} {α0:Sort u0} {α1:Sort u1} {p0:α0->α1->Prop} {G:Prop} (h:∃x0,∃x1,p0 x0 x1) (k:∀x0,∀x1,p0 x0 x1->G):G:=h.elim fun x h=>x_E h (k x)
variable {p3:Prop}
theorem kJ {G:Prop} (h:p0/\(p1/\(p2/\(p3)))) (k:p0->p1->p2->p3->G):G:=x_AA h.2 (k h.1)
theorem y115.{u0} {α0:Sort u0} {p2:α0->Prop} {G:Prop} (h:p0/\(p1/\(∃x0,p2 x0))) (k:p0->p1->∀x0,p2 x0->G):G:=x_AE h.2 (k h.1)
theorem yO6.{u0} {α0:Sort u0} {p1 p2:α0->Prop} {G:Prop} (h:p0/\(∃x0,p1 x0/\(p2 x0))) (k:p0->∀x0,p1 x0->p2 x0->G):G:=x_EA h.2 (k h.1)
theorem yY11.{u0,u1} {α0:Sort u0} {α1:Sort u1} {p1:α0->α1->Prop} {G:Prop} (h:p0/\(∃x0,∃x1,p1 x0 x1)) (k:p0->∀x0,∀x1,p1 x0 x1->G):G:=x_EE h.2 (k h.1)
theorem jR.{u0} {α0:Sort u0} {p0 p1 p2:α0->Prop} {G:Prop} (h:∃x0,p0 x0/\(p1 x0/\(p2 x0))) (k:∀x0,p0 x0->p1 x0->p2 x0->G):G:=h.elim fun x h=>x_AA h (k x)
theorem jk.{u0,u1} {α0:Sort u0} {α1:Sort u1} {p0 p1:α0->α1->Prop} {G:Prop} (h:∃x0,∃x1,p0 x0 x1/\(p1 x0 x1)) (k:∀x0,∀x1,p0 x0 x1->p1 x0 x1->G):G:=h.elim fun x h=>x_EA h (k x)
theorem jF.{u0,u1,u2} {α0:Sort u0} {α1:Sort u1} {α2:Sort u2} {p0:α0->α1->α2->Prop} {G:Prop} (h:∃x0,∃x1,∃x2,p0 x0 x1 x2) (k:∀x0,∀x1,∀x2,p0 x0 x1 x2->G):G:=h.elim fun x h=>x_EE h (k x)
variable {p4:Prop}
theorem jK {G:Prop} (h:p0/\(p1/\(p2/\(p3/\(p4))))) (k:p0->p1->p2->p3->p4->G):G:=kJ h.2 (k h.1)
theorem yv9.{u0} {α0:Sort u0} {p2 p3:α0->Prop} {G:Prop} (h:p0/\(p1/\(∃x0,p2 x0/\(p3 x0)))) (k:p0->p1->∀x0,p2 x0->p3 x0->G):G:=yO6 h.2 (k h.1)
theorem yw9.{u0} {α0:Sort u0} {p1 p2 p3:α0->Prop} {G:Prop} (h:p0/\(∃x0,p1 x0/\(p2 x0/\(p3 x0)))) (k:p0->∀x0,p1 x0->p2 x0->p3 x0->G):G:=jR h.2 (k h.1)
theorem yx9.{u0,u1} {α0:Sort u0} {α1:Sort u1} {p1 p2:α0->α1->Prop} {G:Prop} (h:p0/\(∃x0,∃x1,p1 x0 x1/\(p2 x0 x1))) (k:p0->∀x0,∀x1,p1 x0 x1->p2 x0 x1->G):G:=jk h.2 (k h.1)
theorem zC.{u0} {α0:Sort u0} {p0 p1 p2 p3:α0->Prop} {G:Prop} (h:∃x0,p0 x0/\(p1 x0/\(p2 x0/\(p3 x0)))) (k:∀x0,p0 x0->p1 x0->p2 x0->p3 x0->G):G:=h.elim fun x h=>kJ h (k x)
theorem ye14.{u0,u1} {α0:Sort u0} {α1:Sort u1} {p0 p1:α0->Prop} {p2:α0->α1->Prop} {G:Prop} (h:∃x0,p0 x0/\(p1 x0/\(∃x1,p2 x0 x1))) (k:∀x0,p0 x0->p1 x0->∀x1,p2 x0 x1->G):G:=h.elim fun x h=>y115 h (k x)
theorem yf14.{u0,u1} {α0:Sort u0} {α1:Sort u1} {p0:α0->Prop} {p1 p2:α0->α1->Prop} {G:Prop} (h:∃x0,p0 x0/\(∃x1,p1 x0 x1/\(p2 x0 x1))) (k:∀x0,p0 x0->∀x1,p1 x0 x1->p2 x0 x1->G):G:=h.elim fun x h=>yO6 h (k x)
theorem y3.{u0,u1,u2} {α0:Sort u0} {α1:Sort u1} {α2:Sort u2} {p0:α0->Prop} {p1:α0->α1->α2->Prop} {G:Prop} (h:∃x0,p0 x0/\(∃x1,∃x2,p1 x0 x1 x2)) (k:∀x0,p0 x0->∀x1,∀x2,p1 x0 x1 x2->G):G:=h.elim fun x h=>yY11 h (k x)
theorem jp.{u0,u1} {α0:Sort u0} {α1:Sort u1} {p0 p1 p2:α0->α1->Prop} {G:Prop} (h:∃x0,∃x1,p0 x0 x1/\(p1 x0 x1/\(p2 x0 x1))) (k:∀x0,∀x1,p0 x0 x1->p1 x0 x1->p2 x0 x1->G):G:=h.elim fun x h=>jR h (k x)
theorem ks1.{u0,u1,u2} {α0:Sort u0} {α1:Sort u1} {α2:Sort u2} {p0 p1:α0->α1->α2->Prop} {G:Prop} (h:∃x0,∃x1,∃x2,p0 x0 x1 x2/\(p1 x0 x1 x2)) (k:∀x0,∀x1,∀x2,p0 x0 x1 x2->p1 x0 x1 x2->G):G:=h.elim fun x h=>jk h (k x)
variable {p5:Prop}
theorem yC1 {G:Prop} (h:p0/\(p1/\(p2/\(p3/\(p4/\(p5)))))) (k:p0->p1->p2->p3->p4->p5->G):G:=jK h.2 (k h.1)
theorem yc11.{u0} {α0:Sort u0} {p3 p4:α0->Prop} {G:Prop} (h:p0/\(p1/\(p2/\(∃x0,p3 x0/\(p4 x0))))) (k:p0->p1->p2->∀x0,p3 x0->p4 x0->G):G:=yv9 h.2 (k h.1)
theorem ys4.{u0,u1} {α0:Sort u0} {α1:Sort u1} {p1 p2 p3:α0->α1->Prop} {G:Prop} (h:p0/\(∃x0,∃x1,p1 x0 x1/\(p2 x0 x1/\(p3 x0 x1)))) (k:p0->∀x0,∀x1,p1 x0 x1->p2 x0 x1->p3 x0 x1->G):G:=jp h.2 (k h.1)
theorem yP6.{u0} {α0:Sort u0} {p0 p1 p2 p3 p4:α0->Prop} {G:Prop} (h:∃x0,p0 x0/\(p1 x0/\(p2 x0/\(p3 x0/\(p4 x0))))) (k:∀x0,p0 x0->p1 x0->p2 x0->p3 x0->p4 x0->G):G:=h.elim fun x h=>jK h (k x)
theorem yd11.{u0,u1} {α0:Sort u0} {α1:Sort u1} {p0:α0->Prop} {p1 p2 p3:α0->α1->Prop} {G:Prop} (h:∃x0,p0 x0/\(∃x1,p1 x0 x1/\(p2 x0 x1/\(p3 x0 x1)))) (k:∀x0,p0 x0->∀x1,p1 x0 x1->p2 x0 x1->p3 x0 x1->G):G:=h.elim fun x h=>yw9 h (k x)
theorem kK.{u0,u1,u2} {α0:Sort u0} {α1:Sort u1} {α2:Sort u2} {p0:α0->Prop} {p1 p2:α0->α1->α2->Prop} {G:Prop} (h:∃x0,p0 x0/\(∃x1,∃x2,p1 x0 x1 x2/\(p2 x0 x1 x2))) (k:∀x0,p0 x0->∀x1,∀x2,p1 x0 x1 x2->p2 x0 x1 x2->G):G:=h.elim fun x h=>yx9 h (k x)
theorem jS.{u0,u1} {α0:Sort u0} {α1:Sort u1} {p0 p1 p2 p3:α0->α1->Prop} {G:Prop} (h:∃x0,∃x1,p0 x0 x1/\(p1 x0 x1/\(p2 x0 x1/\(p3 x0 x1)))) (k:∀x0,∀x1,p0 x0 x1->p1 x0 x1->p2 x0 x1->p3 x0 x1->G):G:=h.elim fun x h=>zC h (k x)
theorem ku.{u0,u1,u2} {α0:Sort u0} {α1:Sort u1} {α2:Sort u2} {p0 p1 p2:α0->α1->α2->Prop} {G:Prop} (h:∃x0,∃x1,∃x2,p0 x0 x1 x2/\(p1 x0 x1 x2/\(p2 x0 x1 x2))) (k:∀x0,∀x1,∀x2,p0 x0 x1 x2->p1 x0 x1 x2->p2 x0 x1 x2->G):G:=h.elim fun x h=>jp h (k x)
theorem ze.{u0,u1,u2,u3} {α0:Sort u0} {α1:Sort u1} {α2:Sort u2} {α3:Sort u3} {p0 p1:α0->α1->α2->α3->Prop} {G:Prop} (h:∃x0,∃x1,∃x2,∃x3,p0 x0 x1 x2 x3/\(p1 x0 x1 x2 x3)) (k:∀x0,∀x1,∀x2,∀x3,p0 x0 x1 x2 x3->p1 x0 x1 x2 x3->G):G:=h.elim fun x h=>ks1 h (k x)
theorem zB {p6 G:Prop} (h:p0/\(p1/\(p2/\(p3/\(p4/\(p5/\(p6))))))) (k:p0->p1->p2->p3->p4->p5->p6->G):G:=yC1 h.2 (k h.1)
theorem yy9.{u0} {α0:Sort u0} {p0 p1 p2 p3 p4 p5:α0->Prop} {G:Prop} (h:∃x0,p0 x0/\(p1 x0/\(p2 x0/\(p3 x0/\(p4 x0/\(p5 x0)))))) (k:∀x0,p0 x0->p1 x0->p2 x0->p3 x0->p4 x0->p5 x0->G):G:=h.elim fun x h=>yC1 h (k x)
theorem yt2.{u0,u1,u2} {α0:Sort u0} {α1:Sort u1} {α2:Sort u2} {p0:α0->Prop} {p1 p2 p3:α0->α1->α2->Prop} {G:Prop} (h:∃x0,p0 x0/\(∃x1,∃x2,p1 x0 x1 x2/\(p2 x0 x1 x2/\(p3 x0 x1 x2)))) (k:∀x0,p0 x0->∀x1,∀x2,p1 x0 x1 x2->p2 x0 x1 x2->p3 x0 x1 x2->G):G:=h.elim fun x h=>ys4 h (k x)
theorem yu2.{u0,u1} {α0:Sort u0} {α1:Sort u1} {p0 p1 p2 p3 p4:α0->α1->Prop} {G:Prop} (h:∃x0,∃x1,p0 x0 x1/\(p1 x0 x1/\(p2 x0 x1/\(p3 x0 x1/\(p4 x0 x1))))) (k:∀x0,∀x1,p0 x0 x1->p1 x0 x1->p2 x0 x1->p3 x0 x1->p4 x0 x1->G):G:=h.elim fun x h=>yP6 h (k x)
theorem jD.{u0,u1,u2} {α0:Sort u0} {α1:Sort u1} {α2:Sort u2} {p0 p1 p2 p3:α0->α1->α2->Prop} {G:Prop} (h:∃x0,∃x1,∃x2,p0 x0 x1 x2/\(p1 x0 x1 x2/\(p2 x0 x1 x2/\(p3 x0 x1 x2)))) (k:∀x0,∀x1,∀x2,p0 x0 x1 x2->p1 x0 x1 x2->p2 x0 x1 x2->p3 x0 x1 x2->G):G:=h.elim fun x h=>jS h (k x)
theorem yz9.{u0,u1,u2,u3} {α0:Sort u0} {α1:Sort u1} {α2:Sort u2} {α3:Sort u3} {p0 p1 p2:α0->α1->α2->α3->Prop} {G:Prop} (h:∃x0,∃x1,∃x2,∃x3,p0 x0 x1 x2 x3/\(p1 x0 x1 x2 x3/\(p2 x0 x1 x2 x3))) (k:∀x0,∀x1,∀x2,∀x3,p0 x0 x1 x2 x3->p1 x0 x1 x2 x3->p2 x0 x1 x2 x3->G):G:=h.elim fun x h=>ku h (k x)
theorem yv2.{u0,u1,u2,u3,u4} {α0:Sort u0} {α1:Sort u1} {α2:Sort u2} {α3:Sort u3} {α4:Sort u4} {p0 p1:α0->α1->α2->α3->α4->Prop} {G:Prop} (h:∃x0,∃x1,∃x2,∃x3,∃x4,p0 x0 x1 x2 x3 x4/\(p1 x0 x1 x2 x3 x4)) (k:∀x0,∀x1,∀x2,∀x3,∀x4,p0 x0 x1 x2 x3 x4->p1 x0 x1 x2 x3 x4->G):G:=h.elim fun x h=>ze h (k x)
structure Hp where
 heap:Heap
 os:OsState
 gens:Array GenState
noncomputable abbrev hpp (s:Shared):Hp:=⟨s.heap,s.os,s.gens⟩
structure Lam where
 qual:Str
 params:Arguments
 body:Expr
 scope:Scope
 cap:Str
structure Tab where
 prog:Program
 w:World
 K:Frag
 exc:Addr
 names:List Str
 nd:names.Nodup
 lamOk:Nat->Lam->Bool
 tab:Addr
noncomputable abbrev Tab.P (T:Tab):Params:=T.w.params
noncomputable abbrev Tab.M (T:Tab):Model:=model T.prog T.w
set_option genInjectivity true in
inductive AV where
 |nil|bool (b:Bool)|int (i:Int)|str (n:Nat)|bytes (l:List UInt8)|tup (l:List AV)|ref (i:Nat)|clo (k:Nat) (v:AV)|top (a:Addr)
noncomputable abbrev j9 (its:List Value):Obj:=⟨.type "tuple",none,.seq ⟨its⟩ 0, #[]⟩
noncomputable abbrev jz (its:List Value) (n:Nat):Obj:=⟨.type "list",none,.seq ⟨its⟩ n, #[]⟩
noncomputable abbrev j3 (es:List DictEntry) (n:Nat):Obj:=⟨.type "dict",none,.dict ⟨es⟩ n, #[]⟩
noncomputable abbrev y13 (C dx:Addr):Obj:=⟨.ref C,some dx,.plain, #[]⟩
noncomputable def Froz (o:Obj):Prop:=(o.cls=.type "tuple"/\∃a n,o.data=.seq a n)\/(∃fd,o.data=.func fd)\/(∃vs q t,o.data=.fields vs/\vs[1]? =some (.str q t))\/∃v,o.data=.cell (some v)
theorem y21 (its:List Value):Froz (j9 its):=.inl ⟨rfl,_,_,rfl⟩
theorem yd2 (its:List Value) (n:Nat):¬Froz (jz its n):=by
 rintro (⟨h,_⟩|⟨fd,h⟩|⟨fd,_,_,h,_⟩|⟨fd,h⟩)
 ·exact absurd (Value.type.inj h:("list":String)="tuple") (by decide)
 all_goals injection h
variable {o:Obj} {n:Nat}
theorem ky1 {es:Array DictEntry} (e:o.data=.dict es n):¬Froz o:=by
 rintro (⟨_,_,_,h⟩|⟨fd,h⟩|⟨fd,_,_,h,_⟩|⟨fd,h⟩)<;>(rw [e] at h;injection h)
theorem yc2 (es:List DictEntry) (n:Nat):¬Froz (j3 es n):=ky1 rfl
theorem ye7 (C dx:Addr):¬Froz (y13 C dx):=by
 rintro (⟨_,_,_,h⟩|⟨fd,h⟩|⟨fd,_,_,h,_⟩|⟨fd,h⟩)<;>nomatch h
theorem yz {vs:Array Value} (e:o.data=.fields vs) (h1:∀q t,vs[1]? ≠some (.str q t)):¬Froz o:=by
 rintro (⟨_,_,_,h⟩|⟨fd,h⟩|⟨fd,q,t,h,h2⟩|⟨fd,h⟩)<;>(rw [e] at h;cases h)
 exact h1 _ _ h2
end
mutual
inductive Er (T:Tab) (μ:List Addr) (h:Heap):Value->AV->Prop
 |nil:Er T μ h .none .nil
 |bool (b:Bool):Er T μ h (.bool b) (.bool b)
 |int (i:Int) (t:Tok):Er T μ h (.int i t) (.int i)
 |str {n:Nat} {s:Str} (t:Tok) (e:T.names[n]? =some s):Er T μ h (.str s t) (.str n)
 |bytes (l:List UInt8) (t:Tok):Er T μ h (.bytes ⟨l⟩ t) (.bytes l)
 |ref {i:Nat} {a:Addr} (e:μ[i]? =some a):Er T μ h (.ref a) (.ref i)
 |tup {a:Addr} {its:List Value} {l:List AV} (ho:h.get? a=some (j9 its)) (hl:ErL T μ h its l):Er T μ h (.ref a) (.tup l)
 |clo {a ca c:Addr} {pm ct rv:Value} {v:AV} {k:Nat} {lam:Lam} {oc ocell:Obj} {vs:Array Value} {t:Tok} (hl:T.lamOk k lam=true)
  (ho:h.get? a=some (kla_obj "<lambda>" lam.qual lam.params lam.body lam.scope [(lam.cap,ca)] pm c ct)) (hc:h.get? c=some oc) (hcd:oc.data=.fields vs) (hq:vs[1]? =some (.str lam.qual t))
  (hca:h.get? ca=some ocell) (hcl:ocell.data=.cell (some rv)) (hv:Er T μ h rv v):Er T μ h (.ref a) (.clo k v)
 |top {a:Addr} {o:Obj} (e:T.K.lookup a=some o):Er T μ h (.ref a) (.top a)
inductive ErL (T:Tab) (μ:List Addr) (h:Heap):List Value->List AV->Prop
 |nil:ErL T μ h [] []
 |cons {v:Value} {a:AV} {vs:List Value} {l:List AV} (hv:Er T μ h v a) (hl:ErL T μ h vs l):ErL T μ h (v::vs) (a::l)
end
noncomputable def TK (h h':Heap):Prop:=∀a o,h.get? a=some o->Froz o->h'.get? a=some o
theorem TK.refl (h:Heap):TK h h:=fun o_ o_ e o_=>e
section
variable {h₁:Heap}
theorem TK.trans {h₂ h₃:Heap} (x:TK h₁ h₂) (y:TK h₂ h₃):TK h₁ h₃:=fun a i e f=>y a i (x a i e f) f
variable {h h':Heap}
theorem TK.of_keeps (k:∀b o,h.get? b=some o->h'.get? b=some o):TK h h':=fun a o_ e o_=>k a _ e
noncomputable def Pre (μ μ':List Addr):Prop:=∃t,μ'=μ++t
theorem Pre.refl (μ:List Addr):Pre μ μ:=⟨[],by simp⟩
theorem Pre.trans {a b c:List Addr} (x:Pre a b) (y:Pre b c):Pre a c:=by
 obtain ⟨t,rfl⟩:=x;obtain ⟨u,rfl⟩:=y;exact ⟨t++u,by simp⟩
variable {μ μ':List Addr}
theorem Pre.get (x:Pre μ μ') {i:Nat} {a:Addr} (e:μ[i]? =some a):μ'[i]? =some a:=by
 obtain ⟨t,rfl⟩:=x
 refine rz (qw (qA.mp e).1) ?_;exact e
theorem Pre.snoc (μ:List Addr) (a:Addr):Pre μ (μ++[a]):=⟨[a],rfl⟩
variable {T:Tab}
theorem ErL.ind {m:List Value->List AV->Prop} (hn:m [] []) (hc:∀{v a vs l},Er T μ h v a->ErL T μ h vs l->m vs l->m (v::vs) (a::l)) {vs:List Value} {l:List AV} (e:ErL T μ h vs l):m vs l:=
 ErL.rec (motive_1:=fun o_ o_ o_=>True) (motive_2:=fun vs l o_=>m vs l) trivial (fun o_=>trivial) (fun o_ o_=>trivial) (fun o_ o_=>trivial) (fun o_ o_=>trivial) (fun o_=>trivial) (fun o_ o_ o_=>trivial) (fun o_ o_ o_ o_ o_ o_ o_ o_ o_=>trivial) (fun o_=>trivial) hn (fun hv hl o_ ih=>hc hv hl ih) e
theorem Er.keep (p:Pre μ μ') (k:TK h h') {v:Value} {a:AV} (e:Er T μ h v a):Er T μ' h' v a:=
 Er.rec (motive_1:=fun v a o_=>Er T μ' h' v a) (motive_2:=fun vs l o_=>ErL T μ' h' vs l) .nil .bool .int (fun t e=>.str t e) .bytes (fun e=>.ref (p.get e)) (fun ho o_ ih=>.tup (k _ _ ho (y21 _)) ih)
  (fun hl ho hc hcd hq hca hcl o_ ih=>.clo hl (k _ _ ho (.inr (.inl ⟨_,rfl⟩))) (k _ _ hc (.inr (.inr (.inl ⟨_,_,_,hcd,hq⟩)))) hcd hq (k _ _ hca (.inr (.inr (.inr ⟨_,hcl⟩)))) hcl ih) (fun e=>.top e) .nil (fun o_ o_ i j=>.cons i j) e
theorem ErL.keep (p:Pre μ μ') (k:TK h h') {v:List Value} {a:List AV} (e:ErL T μ h v a):ErL T μ' h' v a:=e.ind .nil fun i o_ j=>.cons (i.keep p k) j
theorem ErL.length {vs:List Value} {l:List AV} (e:ErL T μ h vs l):vs.length=l.length:=e.ind (m:=fun vs l=>vs.length=l.length) rfl fun o_ o_ i=>congrArg (·+1) i
variable {m:List AV}
theorem ErL.append {vs:List Value} {l:List AV} {ws:List Value} (x:ErL T μ h vs l) (y:ErL T μ h ws m):ErL T μ h (vs++ws) (l++m):=x.ind (m:=fun vs l=>ErL T μ h (vs++ws) (l++m)) y fun i o_ j=>.cons i j
theorem ErL.get {vs:List Value} {l:List AV} (x:ErL T μ h vs l):∀{i:Nat} {a:AV},l[i]? =some a->∃v,vs[i]? =some v/\Er T μ h v a:=
 x.ind (m:=fun vs l=>∀{i:Nat} {a:AV},l[i]? =some a->∃v,vs[i]? =some v/\Er T μ h v a) (fun e=>nomatch e) fun hv o_ ih=>by
  intro i a e;rcases i with _|i
  ·exact ⟨_,rfl,qq e▸hv⟩
  ·exact ih e
theorem ErL.set {vs:List Value} {l:List AV} (x:ErL T μ h vs l):∀(i:Nat) {v:Value} {a:AV},Er T μ h v a->ErL T μ h (vs.set i v) (l.set i a):=
 x.ind (m:=fun vs l=>∀(i:Nat) {v:Value} {a:AV},Er T μ h v a->ErL T μ h (vs.set i v) (l.set i a)) (fun o_ o_ o_ o_=>.nil) fun hv hl ih i=>by
  rcases i with _|i
  ·exact fun e=>.cons e hl
  ·exact fun e=>.cons hv (ih i e)
theorem ErL.take {vs:List Value} {l:List AV} (x:ErL T μ h vs l):∀(n:Nat),ErL T μ h (vs.take n) (l.take n):=
 x.ind (m:=fun vs l=>∀(n:Nat),ErL T μ h (vs.take n) (l.take n)) (fun n=>by rcases n with _|_<;>exact .nil) fun hv o_ ih n=>by
  rcases n with _|n
  ·exact .nil
  ·exact .cons hv (ih n)
theorem ErL.drop {vs:List Value} {l:List AV} (x:ErL T μ h vs l):∀(n:Nat),ErL T μ h (vs.drop n) (l.drop n):=
 x.ind (m:=fun vs l=>∀(n:Nat),ErL T μ h (vs.drop n) (l.drop n)) (fun n=>by rcases n with _|_<;>exact .nil) fun hv hl ih n=>by
  rcases n with _|n
  ·exact .cons hv hl
  ·exact ih n
theorem ErL.reverse {vs:List Value} {l:List AV} (x:ErL T μ h vs l):ErL T μ h vs.reverse l.reverse:=
 x.ind (m:=fun vs l=>ErL T μ h vs.reverse l.reverse) .nil fun hv o_ ih=>by exact rz List.reverse_cons (rz List.reverse_cons (ih.append (.cons hv .nil)))
variable {p:Value->Prop} {q:List Value->Prop} {v:Value} {vs:List Value} {a:AV} {l:List AV}
theorem Er.xnil (e:Er T μ h v .nil) (k:p .none):p v:=by cases e;exact k
theorem Er.xbool {b:Bool} (e:Er T μ h v (.bool b)) (k:p (.bool b)):p v:=by cases e;exact k
theorem Er.bytesA {b:Array UInt8} {l:List UInt8} (e:b.toList=l) (t:Tok):Er T μ h (.bytes b t) (.bytes l):=by subst e;exact .bytes _ _
theorem Er.xint {i:Int} (e:Er T μ h v (.int i)) (k:∀t,p (.int i t)):p v:=by cases e;exact k _
variable {n:Nat}
theorem Er.xstr (e:Er T μ h v (.str n)) (k:∀{s} t,T.names[n]? =some s->p (.str s t)):p v:=by cases e with|str t e=>exact k t e
theorem Er.xbytes {l:List UInt8} (e:Er T μ h v (.bytes l)) (k:∀t,p (.bytes ⟨l⟩ t)):p v:=by cases e;exact k _
variable {i:Nat}
theorem Er.xref (e:Er T μ h v (.ref i)) (k:∀{a},μ[i]? =some a->p (.ref a)):p v:=by cases e with|ref e=>exact k e
theorem Er.xtup (e:Er T μ h v (.tup l)) (k:∀{a its},h.get? a=some (j9 its)->ErL T μ h its l->p (.ref a)):p v:=by cases e with|tup e g=>exact k e g
theorem Er.xtop {b:Addr} (e:Er T μ h v (.top b)) (k:∀{o},T.K.lookup b=some o->p (.ref b)):p v:=by cases e with|top e=>exact k e
theorem ErL.ofNil (e:ErL T μ h vs []):vs=[]:=by cases e;rfl
theorem ErL.ofCons (e:ErL T μ h vs (a::l)):∃v ws,vs=v::ws/\Er T μ h v a/\ErL T μ h ws l:=by cases e with|cons e g=>exact ⟨_,_,rfl,e,g⟩
theorem ja {α:Type} {a:α} {G:Prop} (h:none=some a):G:=nomatch h
theorem ob_e {α β:Type} {o:Option α} {f:α->Option β} {y:β} {G:Prop}:o.bind f=some y->(∀x,o=some x->f x=some y->G)->G:=by
 rcases o with _|x
 ·exact ja
 ·exact fun h k=>k x rfl h
theorem om_e {α β:Type} {o:Option α} {f:α->β} {y:β} {G:Prop}:o.map f=some y->(∀x,o=some x->f x=y->G)->G:=by
 rcases o with _|x
 ·exact ja
 ·exact fun h k=>k x rfl (qq h)
noncomputable def gd (c r:Bool):Option Bool:=match c with
 |true=>some r
 |false=>none
theorem gd_e {c r q:Bool} {p:Bool->Prop}:gd c r=some q->(c=true->p r)->p q:=by
 rcases c with _|_
 ·exact ja
 ·exact fun h k=>qq h▸k rfl
noncomputable def zy:AV->Option Nat
 |.ref i=>some i
 |_=>none
theorem ja1:zy a=some i->a=.ref i:=by
 rcases a with _|_|_|_|_|_|j|⟨_,_⟩|_
 ·exact ja
 ·exact ja
 ·exact ja
 ·exact ja
 ·exact ja
 ·exact ja
 ·exact fun h=>congrArg AV.ref (qq h)
 ·exact ja
 ·exact ja
noncomputable def okA (yb yt:Bool):AV->Bool
 |.nil=>true
 |.bool _=>true
 |.int _=>true
 |.str _=>true
 |.bytes _=>yb
 |.tup _=>yt
 |_=>false
variable {p:Value->AV->Prop} {b:AV}
theorem Er.xat {yb yt:Bool} (n:p .none .nil) (bo:∀q,p (.bool q) (.bool q)) (i:∀j u,p (.int j u) (.int j)) (s:∀{n s} u,T.names[n]? =some s->p (.str s u) (.str n)) (bb:yb=true->∀l u,p (.bytes ⟨l⟩ u) (.bytes l))
 (t:yt=true->∀{a its l},h.get? a=some (j9 its)->ErL T μ h its l->p (.ref a) (.tup l)) (y:Er T μ h v b) (f:okA yb yt b=true):p v b:=
 Er.rec (motive_1:=fun v b o_=>okA yb yt b=true->p v b) (motive_2:=fun o_ o_ o_=>True) (fun o_=>n) (fun q o_=>bo q) (fun j u o_=>i j u) (fun u e o_=>s u e) (fun l u f=>bb f l u) (fun o_ e=>Bool.noConfusion e) (fun ho hl o_ f=>t f ho hl) (fun o_ o_ o_ o_ o_ o_ o_ o_ o_ f=>Bool.noConfusion f) (fun o_ f=>Bool.noConfusion f) trivial (fun o_ o_ o_ o_=>trivial) y f
theorem Er.xall (n:p .none .nil) (bo:∀q,p (.bool q) (.bool q)) (i:∀j u,p (.int j u) (.int j)) (s:∀{n s} u,T.names[n]? =some s->p (.str s u) (.str n)) (bb:∀l u,p (.bytes ⟨l⟩ u) (.bytes l))
 (r:∀{a i},μ[i]? =some a->p (.ref a) (.ref i)) (t:∀{a its l},h.get? a=some (j9 its)->ErL T μ h its l->p (.ref a) (.tup l)) (c:∀{a} k v,p (.ref a) (.clo k v)) (to:∀{a},p (.ref a) (.top a)) (y:Er T μ h v b):p v b:=
 Er.rec (motive_1:=fun v b o_=>p v b) (motive_2:=fun o_ o_ o_=>True) n bo i (fun u e=>s u e) bb (fun e=>r e) (fun ho hl o_=>t ho hl) (fun o_ o_ o_ o_ o_ o_ o_ o_ o_=>c _ _) (fun o_=>to) trivial (fun o_ o_ o_ o_=>trivial) y
theorem ErL.xm {p:List Value->List AV->Prop} (e:ErL T μ h vs l) (n:p [] []) (c:∀{v a vs l},Er T μ h v a->ErL T μ h vs l->p (v::vs) (a::l)):p vs l:=e.ind n fun a b o_=>c a b
variable {p:List Value->Prop}
theorem ErL.x0 (e:ErL T μ h vs []) (k:p []):p vs:=e.ofNil▸k
theorem ErL.xc (e:ErL T μ h vs (a::l)) (k:∀{v ws},Er T μ h v a->ErL T μ h ws l->p (v::ws)):p vs:=jp e.ofCons fun o_ o_ q x y=>q▸k x y
theorem ErL.x1 (e:ErL T μ h vs [a]) (k:∀{v},Er T μ h v a->p [v]):p vs:=e.xc fun {v ws} x y=>y.x0 (p:=fun ws=>p (v::ws)) (k x)
theorem ErL.x2 (e:ErL T μ h vs [a,b]) (k:∀{v w},Er T μ h v a->Er T μ h w b->p [v,w]):p vs:=e.xc fun {v ws} x y=>y.x1 (p:=fun ws=>p (v::ws)) (k x)
theorem ErL.xv {p:List AV->Prop} (y:ErL T μ h (v::vs) m) (k:∀{b m},Er T μ h v b->ErL T μ h vs m->p (b::m)):p m:=
 ErL.ind (m:=fun ws m=>match (motive:=List Value->Prop) ws with
  |[]=>True
  |w::ws=>(∀{b m},Er T μ h w b->ErL T μ h ws m->p (b::m))->p m) trivial (fun a b o_ k=>k a b) y k
end
inductive kT (T:Tab):AV->Int->Prop
 |str {n s} (e:T.names[n]? =some s):kT T (.str n) (qO T.P s)
 |bytes (l:List UInt8):kT T (.bytes l) (PySem.W.hashW T.P (.bytes l))
set_option genInjectivity true in
inductive AO where
 |list (l:List AV)
 |dict (l:List (AV×AV))
 |inst (C:Addr) (j:Nat)
 |junk
 |tab (l:List (Int×Int))
inductive ErD (T:Tab) (μ:List Addr) (h:Heap):List DictEntry->List (AV×AV)->Prop
 |nil:ErD T μ h [] []
 |cons {e:DictEntry} {es:List DictEntry} {k v:AV} {l:List (AV×AV)} (hh:kT T k e.hash) (hk:Er T μ h e.key k) (hv:Er T μ h e.val v) (hl:ErD T μ h es l):ErD T μ h (e::es) ((k,v)::l)
theorem ErD.ind {T μ h} {m:List DictEntry->List (AV×AV)->Prop} (hn:m [] []) (hc:∀{e:DictEntry} {es:List DictEntry} {k v:AV} {l:List (AV×AV)},kT T k e.hash->Er T μ h e.key k->Er T μ h e.val v->ErD T μ h es l->m es l->m (e::es) ((k,v)::l)) {es l} (x:ErD T μ h es l):m es l:=
 ErD.rec (motive:=fun es l o_=>m es l) hn (fun a b c d i=>hc a b c d i) x
theorem ErD.keep {T μ μ' h h'} (p:Pre μ μ') (k:TK h h') {es l} (x:ErD T μ h es l):ErD T μ' h' es l:=x.ind .nil fun a b c o_ d=>.cons a (b.keep p k) (c.keep p k) d
noncomputable def AO.ls:AO->Option (List AV)
 |.list l=>some l
 |_=>none
noncomputable def lsAt (H:List AO) (i:Nat):Option (List AV):=H[i]?.bind AO.ls
section
variable {H:List AO} {i:Nat}
theorem j6 {l:List AV} (h:lsAt H i=some l):H[i]? =some (.list l):=ob_e h fun o e=>by
 rcases o with _|_|⟨_,_⟩|_|_
 ·exact fun q=>e.trans (congrArg (fun l=>some (AO.list l)) (qq q))
 ·exact ja
 ·exact ja
 ·exact ja
 ·exact ja
theorem jU {l:List AV} (h:H[i]? =some (.list l)):lsAt H i=some l:=congrArg (fun o=>Option.bind o AO.ls) h
noncomputable def yd1:List Value->List (Int×Int)
 |.int a _::.int b _::_::rest=>(a,b)::yd1 rest
 |_=>[]
variable {pos:Pos}
theorem yU1:∀{l:List Value},TriplesOk l->((pos.line:Int),(pos.col:Int))∉yd1 l->codeAmong pos l=none:=by
 intro l
 fun_induction codeAmong pos l with
 |case1 line t col u c rest h=>
  intro _ hn;simp only [Bool.and_eq_true,beq_iff_eq] at h;exact absurd (by simp [yd1,h.1,h.2]) hn
 |case2 line t col u c rest h ih=>
  intro ht hn;exact ih ht fun m=>hn (by simp [yd1,m])
 |case3 l h=>intro _ _;rfl
theorem yV5 {c:Value}:∀{l:List Value},TriplesOk l->yd1 (l++[rawInt pos.line,rawInt pos.col,c])=yd1 l++[((pos.line:Int),(pos.col:Int))]/\TriplesOk (l++[rawInt pos.line,rawInt pos.col,c]):=by
 intro l
 fun_induction TriplesOk l with
 |case1=>intro _;exact ⟨rfl,trivial⟩
 |case2 a t b u c rest ih=>intro h;obtain ⟨x,y⟩:=ih h;exact ⟨by simp only [List.cons_append,yd1,x],y⟩
 |case3 l h1 h2=>intro h;exact h.elim
theorem yr5 {l:List Value} (h:TriplesOk l):∀q t,l[1]? ≠some (.str q t):=by
 intro q t
 fun_cases TriplesOk l with
 |case1=>simp
 |case2 a t b u c rest=>simp
 |case3 l h1 h2=>unfold TriplesOk at h;split at h<;>simp_all
noncomputable def DKey (l:List (AV×AV)) (n:Nat):Prop:=(l.map (·.1)).Nodup/\n=l.length
noncomputable def HasO (T:Tab) (μ:List Addr) (h:Heap) (a:Addr):AO->Prop
 |.list l=>∃its n,h.get? a=some (jz its n)/\ErL T μ h its l
 |.dict l=>∃es n,h.get? a=some (j3 es n)/\ErD T μ h es l/\DKey l n
 |.inst C j=>∃dx,μ[j]? =some dx/\h.get? a=some (y13 C dx)
 |.junk=>∃o,h.get? a=some o/\¬Froz o
 |.tab l=>∃ps,h.get? a=some (tabObj ps)/\TriplesOk ps.toList/\yd1 ps.toList=l
structure RH (T:Tab) (μ:List Addr) (H:List AO) (h:Heap):Prop where
 top:T.K.In h
 len:μ.length=H.length
 o:∀(i:Nat) (a:Addr) (ao:AO),μ[i]? =some a->H[i]? =some ao->HasO T μ h a ao
 nd:μ.Nodup
 kn:∀a∈μ,T.K.lookup a=none
 t0:μ[0]? =some T.tab
variable {T:Tab} {μ μ':List Addr} {h h':Heap}
variable {a:Addr} {o:AO}
theorem HasO.there (x:HasO T μ h a o):∃r,h.get? a=some r/\¬Froz r:=by
 rcases o with l|l|⟨C,j⟩|_|l
 ·obtain ⟨its,n,e,_⟩:=x;exact ⟨_,e,yd2 _ _⟩
 ·obtain ⟨es,n,e,_⟩:=x;exact ⟨_,e,yc2 _ _⟩
 ·obtain ⟨dx,_,e⟩:=x;exact ⟨_,e,ye7 _ _⟩
 ·exact x
 ·obtain ⟨ps,e,t,_⟩:=x;exact ⟨_,e,yz rfl fun q u z=>yr5 t q u (by rw [<-Array.getElem?_toList] at z;exact z)⟩
theorem HasO.keep (x:HasO T μ h a o) (p:Pre μ μ') (k:TK h h') (e:∀r,h.get? a=some r->h'.get? a=some r):HasO T μ' h' a o:=by
 rcases o with l|l|⟨C,j⟩|_|l
 ·obtain ⟨its,n,q,r⟩:=x;exact ⟨its,n,e _ q,r.keep p k⟩
 ·obtain ⟨its,n,q,r,z⟩:=x;exact ⟨its,n,e _ q,r.keep p k,z⟩
 ·obtain ⟨dx,q,r⟩:=x;exact ⟨dx,p.get q,e _ r⟩
 ·obtain ⟨r,q,z⟩:=x;exact ⟨r,e _ q,z⟩
 ·obtain ⟨ps,q,r⟩:=x;exact ⟨ps,e _ q,r⟩
variable {ao:AO}
theorem RH.at (R:RH T μ H h) (e:H[i]? =some ao):∃a,μ[i]? =some a/\HasO T μ h a ao:=by
 have hl:i<μ.length:=by exact rz R.len ((qA.mp e).1)
 exact ⟨μ[i],qu hl,R.o i _ _ (qu hl) e⟩
variable {v:Value} {p:Value->Prop}
theorem RH.xlist (R:RH T μ H h) {l:List AV} (hi:H[i]? =some (.list l)) (e:Er T μ h v (.ref i)) (k:∀{la its n},μ[i]? =some la->h.get? la=some (jz its n)->ErL T μ h its l->p (.ref la)):p v:=
 e.xref fun {a} em=>jk (R.o i a _ em hi) fun its n hd el=>k em hd el
theorem RH.xdict (R:RH T μ H h) {l:List (AV×AV)} (hi:H[i]? =some (.dict l)) (e:Er T μ h v (.ref i)) (k:∀{a es n},μ[i]? =some a->h.get? a=some (j3 es n)->ErD T μ h es l->DKey l n->p (.ref a)):p v:=
 e.xref fun {a} em=>jp (R.o i a _ em hi) fun es n hd er nd=>k em hd er nd
theorem RH.mem (R:RH T μ H h) (m:a∈μ):∃r,h.get? a=some r/\¬Froz r:=by
 obtain ⟨i,hi,rfl⟩:=List.mem_iff_getElem.mp m
 have hl:i<H.length:=by exact rz (Eq.symm R.len) hi
 exact (R.o i _ H[i] (qu hi) (qu hl)).there
theorem RH.keeps (R:RH T μ H h) (k:∀b o,h.get? b=some o->h'.get? b=some o):RH T μ H h':=
 ⟨fun a o e=>k _ _ (R.top a o e),R.len,fun i a ao e f=>(R.o i a ao e f).keep (.refl _) (.of_keeps k) (k a),R.nd,R.kn,R.t0⟩
variable {L:Addr}
theorem RH.but (R:RH T μ H h) (k:∀b o,b≠L->h.get? b=some o->h'.get? b=some o) (hK:T.K.lookup L=none) (hN:L∉μ) (tk:TK h h'):RH T μ H h':=by
 refine ⟨fun a o e=>k _ _ (fun q=>?_) (R.top a o e),R.len,fun i a ao e f=>(R.o i a ao e f).keep (.refl _) tk fun r q=>k a r (fun z=>hN (z▸qD e)) q,R.nd,R.kn,R.t0⟩;rw [q] at e;rw [hK] at e;injection e
variable {o:Obj}
theorem RH.push (R:RH T μ H h) (ho:HasO T (μ++[h.objs.size]) (h.push o) h.objs.size ao):RH T (μ++[h.objs.size]) (H++[ao]) (h.push o):=by
 have k:∀b r,h.get? b=some r->(h.push o).get? b=some r:=fun b r e=>qL _ e;have R':=R.keeps k;have fr:h.objs.size∉μ:=fun m=>by
  obtain ⟨r,e,_⟩:=R.mem m
  exact qo _ (qM e)
 refine ⟨R'.top,by simp [R.len],fun i a ao' e f=>?_,?_,fun a ha=>?_,(Pre.snoc _ _).get R.t0⟩
 ·by_cases hi:i<μ.length
  ·rw [qw hi] at e;rw [qw (by exact rz (Eq.symm R.len) hi)] at f;exact (R'.o i a ao' e f).keep (.snoc _ _) (.refl _) fun o_ q=>q
  ·have h1:i=μ.length:=by
    have:=(qA.mp e).1;simp at this;lia
   subst h1;rw [qv (qm _)] at e;rw [R.len,qv (qm _)] at f;simp at e f;subst e;subst f;exact ho
 ·exact List.nodup_append.mpr ⟨R.nd,by simp,fun a ha b hb q=>fr (by simp at hb;exact rz (Eq.symm hb) (rz (Eq.symm q) ha))⟩
 ·rcases qz.mp ha with ha|ha
  ·exact R.kn a ha
  ·simp at ha;subst ha;rcases q:T.K.lookup h.objs.size with _|x
   ·rfl
   ·exact absurd (qM (R.top _ _ q)) (qo _)
variable {f:Obj->Obj}
theorem zK {r:Obj} (e:h.get? a=some r) (ht:¬Froz r):TK h (h.update a f):=fun b o q z=>
 (Heap.get?_update_other h f (fun w:a=b=>ht (by subst w;rw [e] at q;obtain rfl:=qq q;exact z))).trans q
variable {j:Nat}
theorem yA {α:Type} {l:List α} (n:l.Nodup) {a:α} (e:l[i]? =some a) (f:l[j]? =some a):i=j:=(List.getElem?_inj (qA.mp e).1 n).mp (e.trans f.symm)
variable {o':AO}
theorem RH.update (R:RH T μ H h) (hi:μ[i]? =some a) (ho:HasO T μ (h.update a f) a o'):RH T μ (H.set i o') (h.update a f):=by
 have hm:=qD hi;obtain ⟨r,e,ht⟩:=R.mem hm
 have tk:TK h (h.update a f):=zK e ht;have ne:∀b,b≠a->∀r,h.get? b=some r->(h.update a f).get? b=some r:=fun b q r z=>(Heap.get?_update_other h f (Ne.symm q)).trans z;refine ⟨fun b x q=>ne b (fun z=>?_) _ (R.top b x q),by simp [R.len],fun j b ao e1 e2=>?_,R.nd,R.kn,R.t0⟩
 ·have:=R.kn a hm;rw [<-z,q] at this;injection this
 ·by_cases z:j=i
  ·subst z;rw [hi] at e1;obtain rfl:=qq e1;rw [List.getElem?_set_self (by exact rz (Eq.symm R.len) ((qA.mp hi).1))] at e2;obtain rfl:=qq e2;exact ho
  ·rw [List.getElem?_set_ne (Ne.symm z)] at e2;exact (R.o j b ao e1 e2).keep (.refl _) tk (ne b fun w=>z (yA R.nd e1 (w▸hi)))
structure Evo (own:List Addr) (μ:List Addr) (h:Heap) (μ':List Addr) (h':Heap):Prop where
 pre:Pre μ μ'
 fresh:∀a∈μ',a∈μ\/h.get? a=none
 keep:∀b o,h.get? b=some o->b∉μ->(b∉own\/Froz o)->h'.get? b=some o
 th:∀a o,h.get? a=some o->∃o',h'.get? a=some o'
theorem Evo.refl (own μ:List Addr) (h:Heap):Evo own μ h μ h:=⟨.refl _,fun o_ h=>.inl h,fun o_ o_ e o_ o_=>e,fun o_ o e=>⟨o,e⟩⟩
theorem Evo.keeps {own:List Addr} (k:∀b o,h.get? b=some o->h'.get? b=some o):Evo own μ h μ h':=⟨.refl _,fun o_ h=>.inl h,fun b o e o_ o_=>k b o e,fun a o e=>⟨o,k a o e⟩⟩
theorem Evo.tk {T own μ h μ' h' H:_} (R:RH T μ H h) (x:Evo own μ h μ' h'):TK h h':=fun a o e z=>x.keep a o e (fun hm=>by
 obtain ⟨r,q,ht⟩:=R.mem hm
 rw [e] at q;obtain rfl:=qq q;exact ht z) (.inr z)
theorem Evo.trans {own μ h μ₁ h₁ μ₂ h₂:_} (x:Evo own μ h μ₁ h₁) (y:Evo own μ₁ h₁ μ₂ h₂):Evo own μ h μ₂ h₂:=by
 have back:∀a,h₁.get? a=none->h.get? a=none:=fun a e=>by
  rcases z:h.get? a with _|o
  ·rfl
  ·obtain ⟨o',e'⟩:=x.th a o z;rw [e] at e';injection e'
 refine ⟨x.pre.trans y.pre,fun a m=>?_,fun b o e hb hf=>y.keep b o (x.keep b o e hb hf) (fun hm=>?_) hf,fun a o e=>let ⟨_,e'⟩:=x.th a o e;y.th a _ e'⟩
 ·rcases y.fresh a m with q|q
  ·exact x.fresh a q
  ·exact .inr (back a q)
 ·rcases x.fresh b hm with q|q
  ·exact hb q
  ·rw [e] at q;injection q
theorem Evo.push {own:List Addr}:Evo own μ h (μ++[h.objs.size]) (h.push o):=
 ⟨.snoc _ _,fun a m=>(qz.mp m).imp id fun q=>by
   simp at q;subst q;rcases z:h.get? h.objs.size with _|r
   ·rfl
   ·exact absurd (qM z) (qo _),fun b r e o_ o_=>qL _ e,fun a r e=>⟨r,qL _ e⟩⟩
theorem Evo.update {own μ h:_} {x:Obj} (hm:a∈μ) (ha:(h.update a f).get? a=some x):Evo own μ h μ (h.update a f):=by
 have ne:∀b,b≠a->∀r,h.get? b=some r->(h.update a f).get? b=some r:=fun b q r z=>(Heap.get?_update_other h f (Ne.symm q)).trans z;refine ⟨.refl _,fun o_ q=>.inl q,fun b o e hb o_=>ne b (fun q=>hb (q▸hm)) o e,fun b o e=>?_⟩;by_cases q:b=a
 ·subst q;exact ⟨_,ha⟩
 ·exact ⟨o,ne b q o e⟩
theorem Evo.own {own μ h h':_} (hL:L∈own) (k:∀b o,b≠L->h.get? b=some o->h'.get? b=some o) (hf:∀o,h.get? L=some o->¬Froz o) (ht:∃o,h'.get? L=some o):Evo own μ h μ h':=by
 refine ⟨.refl _,fun o_ q=>.inl q,fun b o e o_ hb=>k b o (fun q=>?_) e,fun b o e=>?_⟩
 ·subst q;rcases hb with hb|hb
  ·exact hb hL
  ·exact hf o e hb
 ·by_cases q:b=L
  ·subst q;exact ht
  ·exact ⟨o,k b o q e⟩
theorem Evo.less {own μ h μ' h':_} (x:Evo [] μ h μ' h'):Evo own μ h μ' h':=⟨x.pre,x.fresh,fun b o e m o_=>x.keep b o e m (.inl (by simp)),x.th⟩
noncomputable abbrev Loc:=List (Nat×AV)
noncomputable def lk:Loc->Nat->Option AV
 |[],_=>none
 |p::r,x=>if x=p.1 then some p.2 else lk r x
noncomputable def put:Loc->Nat->AV->Loc
 |[],x,v=>[(x,v)]
 |p::r,x,v=>if x=p.1 then (x,v)::r else p::put r x v
theorem y63 (x:Nat) (v:AV) (y:Nat):∀m:Loc,lk (put m x v) y=if y=x then some v else lk m y
 |[]=>by simp [put,lk]
 |p::r=>by
  unfold put;split
  ·rename_i h;subst h;simp only [lk];split<;>simp_all
  ·rename_i h;simp only [lk];refine rz (y63 x v y r) ?_;split<;>split<;>simp_all
structure St where
 H:List AO
 m:Loc
structure Cx where
 A:Around
 env:Env
 fr:List Env
 own:List Addr
noncomputable abbrev frs (l:List Env):List Addr:=l.filterMap (·.frame)
noncomputable def kZ (o:Obj):Prop:=∃es n,o.data=.dict es n
noncomputable def yu1 (T:Tab) (μ:List Addr) (env:Env) (mm:Str->Option Value) (h:Heap) (x:Str) (v:AV):Prop:=
 (env.kindOf x=some .local/\∃rv,mm x=some rv/\Er T μ h rv v)\/
 ((env.kindOf x=some .cell\/env.kindOf x=some .free)/\∃ca rv,env.cells.lookup x=some ca/\h.IsCell ca (some rv)/\Er T μ h rv v)
noncomputable def zD (T:Tab) (μ:List Addr) (env:Env) (m:Loc) (h:Heap):Prop:=
 ∃mm,h.Ns env.locals mm/\∀x v,lk m x=some v->∃n,T.names[x]? =some n/\yu1 T μ env mm h n v
structure CxOk (c:Cx):Prop where
 frames:c.A.frames=some c.fr
 kind:c.env.scope.kind=.function
 glob:c.env.globals=qR
 blt:c.env.builtins=qd1
 loc:c.env.locals∈c.own
 hnd:c.A.handled=none
 units:c.A.units<=9100
structure kh1 (T:Tab) (μ:List Addr) (l:List Env) (h:Heap):Prop where
 e:∀env∈l,env.scope.kind≠.module/\∃L,env.frame=some L
 o:∀a∈frs l,∃o,h.get? a=some o/\kZ o
 n:∀a∈frs l,a∉μ
 k:∀a∈frs l,T.K.lookup a=none
structure Rel (T:Tab) (c:Cx) (σ:St) (μ:List Addr) (h:Heap):Prop where
 rh:RH T μ σ.H h
 fr:zD T μ c.env σ.m h
 ownO:∀a∈c.own,∃o,h.get? a=some o/\kZ o
 ownN:∀a∈c.own,a∉μ
 ownK:∀a∈c.own,T.K.lookup a=none
 frs:kh1 T μ c.fr h
structure y6 (T:Tab) (l:List Env) (ea:Addr) (Bh h':Heap):Prop where
 none:Bh.get? ea=none
 keep:∀b o,Bh.get? b=some o->b∉frs l->h'.get? b=some o
 slots:∀b o,Bh.get? b=some o->b∈frs l->∃sl,h'.get? b=some {o with slots:=sl}
 exc:∃a0,h'.TracedW (hideAll Bh (frs l)) ea (.ref T.exc) a0\/(∃env r L,l=env::r/\env.frame=some L/\h'.TracedAtW (hideAll Bh (frs l)) ea (.ref T.exc) a0 (rawInt L))\/∃oe vs,h'.get? ea=some oe/\oe.cls=.ref T.exc/\oe.data=.fields vs/\vs[1]? =some .none/\vs[0]? =some a0
structure At (T:Tab) (c:Cx) (μ₀:List Addr) (h₀:Hp) (σ:St) (μ:List Addr) (h:Hp):Prop where
 rel:Rel T c σ μ h.heap
 evo:Evo c.own μ₀ h₀.heap μ h.heap
 os:h.os=h₀.os
 gens:h.gens=h₀.gens
theorem At.trans {T c μ₀ h₀ σ μ h σ' μ' h':_} (a:At T c μ₀ h₀ σ μ h) (b:At T c μ h σ' μ' h'):At T c μ₀ h₀ σ' μ' h':=⟨b.rel,a.evo.trans b.evo,b.os.trans a.os,b.gens.trans a.gens⟩
end
inductive EX (T:Tab) (c:Cx) (X:St->Prop) (μ:List Addr) (h₀:Hp) (e:Value) (s':Shared):Prop
 |mk (μ':List Addr) (σ':St) (Bh:Heap) (ea:Addr) (he:e=.ref ea) (x:X σ') (av:At T c μ h₀ σ' μ' ⟨Bh,s'.os,s'.gens⟩) (fl:y6 T c.fr ea Bh s'.heap)
theorem EX.trans {T c X μ h₀ σ₁ μ₁ h₁ e s'} (v:At T c μ h₀ σ₁ μ₁ h₁) (x:EX T c X μ₁ h₁ e s'):EX T c X μ h₀ e s':=
 let ⟨μ',σ',Bh,ea,e,a,b,f⟩:=x;⟨μ',σ',Bh,ea,e,a,v.trans b,f⟩
inductive WQ (T:Tab) (c:Cx) {α β:Type} (R:List Addr->Heap->α->β->Prop) (Q:β->St->Prop) (μ:List Addr) (h:Hp) (a:α) (s':Shared):Prop
 |mk (μ':List Addr) (b:β) (σ':St) (av:At T c μ h σ' μ' (hpp s')) (r:R μ' s'.heap a b) (q:Q b σ')
noncomputable def W (T:Tab) (c:Cx) {α β:Type} (R:List Addr->Heap->α->β->Prop) (t:Sem α) (Q:β->St->Prop) (X:St->Prop) (σ:St):Prop:=
 ∀μ s,Rel T c σ μ s.heap->wpAny T.M c.A t (WQ T c R Q μ (hpp s)) (EX T c X μ (hpp s)) s
noncomputable def Wat (T:Tab) (c:Cx) (pre:List Addr->Heap->Prop) {α β:Type} (R:List Addr->Heap->α->β->Prop) (t:Sem α) (Q:β->St->Prop) (X:St->Prop) (σ:St):Prop:=
 ∀μ s,Rel T c σ μ s.heap->pre μ s.heap->wpAny T.M c.A t (WQ T c R Q μ (hpp s)) (EX T c X μ (hpp s)) s
section
variable {T:Tab} {c:Cx} {α β:Type} {R:List Addr->Heap->α->β->Prop} {t:Sem α} {Q:β->St->Prop} {X:St->Prop} {σ:St} {μ₀ μ μ':List Addr} {h₀:Hp} {h h':Heap} {g:Hp} {s:Shared}
theorem Rel.at (r:Rel T c σ μ g.heap):At T c μ g σ μ g:=⟨r,.refl _ _ _,rfl,rfl⟩
theorem W.go (w:W T c R t Q X σ) (a:At T c μ₀ h₀ σ μ (hpp s)) {Q':α->Shared->Prop}
 (k:∀v s' μ' b σ',At T c μ₀ h₀ σ' μ' (hpp s')->R μ' s'.heap v b->Q b σ'->Pre μ μ'->TK s.heap s'.heap->Q' v s'):wpAny T.M c.A t Q' (EX T c X μ₀ h₀) s:=
 qV (w μ s a.rel) (fun v s' ⟨μ',b,σ',e,x,q⟩=>k v s' μ' b σ' (a.trans e) x q e.evo.pre (e.evo.tk a.rel.rh)) fun o_ o_ x=>x.trans a
variable {pre:List Addr->Heap->Prop}
theorem Wat.go (w:Wat T c pre R t Q X σ) (a:At T c μ₀ h₀ σ μ (hpp s)) (p:pre μ s.heap) {Q':α->Shared->Prop}
 (k:∀v s' μ' b σ',At T c μ₀ h₀ σ' μ' (hpp s')->R μ' s'.heap v b->Q b σ'->Pre μ μ'->TK s.heap s'.heap->Q' v s'):wpAny T.M c.A t Q' (EX T c X μ₀ h₀) s:=
 qV (w μ s a.rel p) (fun v s' ⟨μ',b,σ',e,x,q⟩=>k v s' μ' b σ' (a.trans e) x q e.evo.pre (e.evo.tk a.rel.rh)) fun o_ o_ x=>x.trans a
variable {env:Env} {mm:Str->Option Value} {x:Str} {v:AV}
theorem yu1.keep (n:yu1 T μ env mm h x v) (p:Pre μ μ') (k:TK h h'):yu1 T μ' env mm h' x v:=by
 rcases n with ⟨a,rv,b,e⟩|⟨a,ca,rv,b,⟨o,e,d⟩,f⟩
 ·exact .inl ⟨a,rv,b,e.keep p k⟩
 ·exact .inr ⟨a,ca,rv,b,⟨o,k _ _ e (.inr (.inr (.inr ⟨_,d⟩))),d⟩,f.keep p k⟩
variable {L:Addr}
theorem zJ (n:h.Ns L mm) (k:∀o,h.get? L=some o->h'.get? L=some o):h'.Ns L mm:=
 let ⟨o,es,ep,e,r⟩:=n;⟨o,es,ep,k o e,r⟩
theorem zD.keep {m:Loc} (f:zD T μ env m h) (p:Pre μ μ') (k:TK h h') (hL:∀o,h.get? env.locals=some o->h'.get? env.locals=some o):zD T μ' env m h':=
 let ⟨mm,n,q⟩:=f;⟨mm,zJ n hL,fun x v e=>let ⟨n,a,b⟩:=q x v e;⟨n,a,b.keep p k⟩⟩
theorem kh1.keep {l:List Env} (f:kh1 T μ l h) (k:∀a∈Mine.frs l,∀o,h.get? a=some o->kZ o->∃o',h'.get? a=some o'/\kZ o') (hn:∀a∈Mine.frs l,a∉μ'):kh1 T μ' l h':=
 ⟨f.e,fun a m=>let ⟨o,e,d⟩:=f.o a m;k a m o e d,hn,f.k⟩
theorem Rel.keeps (r:Rel T c σ μ h) (k:∀b o,h.get? b=some o->h'.get? b=some o):Rel T c σ μ h':=
 ⟨r.rh.keeps k,r.fr.keep (.refl _) (.of_keeps k) (k _),fun a m=>let ⟨o,e,d⟩:=r.ownO a m;⟨o,k _ _ e,d⟩,r.ownN,r.ownK,r.frs.keep (fun a o_ o e d=>⟨o,k a o e,d⟩) r.frs.n⟩
theorem At.keeps (r:At T c μ₀ h₀ σ μ g) (k:∀b o,g.heap.get? b=some o->h'.get? b=some o):At T c μ₀ h₀ σ μ {g with heap:=h'}:=⟨r.rel.keeps k,r.evo.trans (.keeps k),r.os,r.gens⟩
theorem jm (h:Heap) (o:Obj):∀b r,h.get? b=some r->(h.push o).get? b=some r:=fun o_ o_ e=>qL _ e
variable {a:Addr} {o:Obj}
theorem jc1 (e:h.get? a=some o):a≠h.objs.size:=qf (qM e)
variable {ao:AO}
theorem At.push (r:At T c μ₀ h₀ σ μ g) (ho:HasO T (μ++[g.heap.objs.size]) (g.heap.push o) g.heap.objs.size ao):At T c μ₀ h₀ ⟨σ.H++[ao],σ.m⟩ (μ++[g.heap.objs.size]) {g with heap:=g.heap.push o}:=by
 obtain ⟨h,os,gens⟩:=g
 have k:=jm h o;have r':=r.rel.keeps k;have nw:∀a,(∃o,h.get? a=some o)->a∉μ->a∉μ++[h.objs.size]:=fun a ⟨o,e⟩ n m=>by
  rcases qz.mp m with m|m
  ·exact n m
  ·simp at m;exact jc1 e m
 refine ⟨⟨r.rel.rh.push ho,r.rel.fr.keep (.snoc _ _) (.of_keeps k) (k _),r'.ownO,fun a m=>?_,r'.ownK,r.rel.frs.keep (fun a o_ o e d=>⟨o,k a o e,d⟩) fun a m=>?_⟩,r.evo.trans .push,r.os,r.gens⟩
 ·exact x_EA (r.rel.ownO a m) fun o e o_=>nw a ⟨o,e⟩ (r.rel.ownN a m)
 ·exact x_EA (r.rel.frs.o a m) fun o e o_=>nw a ⟨o,e⟩ (r.rel.frs.n a m)
variable {f:Obj->Obj}
theorem yr3:∀b o,b≠a->h.get? b=some o->(h.update a f).get? b=some o:=fun b o q e=>(Heap.get?_update_other h f (Ne.symm q)).trans e
theorem At.update (O:CxOk c) (r:At T c μ₀ h₀ σ μ g) {i:Nat} {o':AO} (hi:μ[i]? =some a) (ho:HasO T μ (g.heap.update a f) a o'):At T c μ₀ h₀ ⟨σ.H.set i o',σ.m⟩ μ {g with heap:=g.heap.update a f}:=by
 obtain ⟨h,os,gens⟩:=g
 have hm:=qD hi;refine x_EA (r.rel.rh.mem hm) fun x hx hxt=>x_EA (ho.there) fun x' hx' o_=>?_;have tk:=zK (f:=f) hx hxt;have ne:∀b,b∉μ->∀o,h.get? b=some o->(h.update a f).get? b=some o:=fun b n o e=>yr3 b o (fun q=>n (q▸hm)) e;exact ⟨⟨r.rel.rh.update hi ho,r.rel.fr.keep (.refl _) tk (ne _ (r.rel.ownN _ O.loc)),fun b m=>let ⟨o,e,d⟩:=r.rel.ownO b m;⟨o,ne b (r.rel.ownN b m) o e,d⟩,r.rel.ownN,r.rel.ownK,
  r.rel.frs.keep (fun b m o e d=>⟨o,ne b (r.rel.frs.n b m) o e,d⟩) r.rel.frs.n⟩,r.evo.trans (.update hm hx'),r.os,r.gens⟩
end
inductive AF where
 |next|brk|cont|ret (v:AV)
inductive FlR (T:Tab) (μ:List Addr) (h:Heap):Flow->AF->Prop
 |next:FlR T μ h .next .next
 |brk:FlR T μ h .brk .brk
 |cont:FlR T μ h .cont .cont
 |ret {v a} (e:Er T μ h v a):FlR T μ h (.ret v) (.ret a)
noncomputable abbrev BoR (_:List Addr) (_:Heap) (a b:Bool):Prop:=a=b
section
variable {T:Tab} {c:Cx} {Q:AV->St->Prop} {Qb:Bool->St->Prop} {Ql:List AV->St->Prop} {Qf:AF->St->Prop} {Qu:Unit->St->Prop} {X:St->Prop} {σ:St}
theorem W.mono {α β:Type} {R:List Addr->Heap->α->β->Prop} {t:Sem α} {Q Q':β->St->Prop} {X':St->Prop} (w:W T c R t Q X σ) (k:∀b σ',Q b σ'->Q' b σ') (kx:∀σ',X σ'->X' σ'):W T c R t Q' X' σ:=fun μ s r=>
 qV (w μ s r) (fun v s' ⟨μ',b,σ',e,x,q⟩=>⟨μ',b,σ',e,x,k _ _ q⟩) fun _ _ ⟨μ',σ',Bh,ea,e,x,y,z⟩=>⟨μ',σ',Bh,ea,e,kx _ x,y,z⟩
variable {k:Nat} {pos:Pos}
theorem yV15 {i:Int} (h:Q (.int i) σ):W T c (Er T) (eval (.Constant (.int i) k pos) c.env) Q X σ:=fun μ s r=>
 wpAny_Constant_int ⟨μ,_,σ,r.at,.int _ _,h⟩
variable {x:Str} {n:Nat}
theorem yX15 (e:T.names[n]? =some x) (h:Q (.str n) σ):W T c (Er T) (eval (.Constant (.str x) k pos) c.env) Q X σ:=fun μ s r=>
 Constant_str ⟨μ,_,σ,r.at,.str _ e,h⟩
variable {b:Bool}
theorem yV13 (h:Q (.bool b) σ):W T c (Er T) (eval (.Constant (.bool b) k pos) c.env) Q X σ:=fun μ s r=>
 Constant_bool ⟨μ,_,σ,r.at,.bool _,h⟩
theorem y613 (h:Q .nil σ):W T c (Er T) (eval (.Constant .none k pos) c.env) Q X σ:=fun μ s r=>
 Constant_none ⟨μ,_,σ,r.at,.nil,h⟩
theorem yZ10 {l:List UInt8} (h:Q (.bytes l) σ):W T c (Er T) (eval (.Constant (.bytes l) k pos) c.env) Q X σ:=fun μ s r=>by
 refine (?_:wpAny T.M c.A (mkTextBytes l.toArray) _ _ s);exact fun o_ o_ o_=>⟨μ,_,σ,r.at,.bytes _ _,h⟩
variable {v:AV}
theorem y513 (O:CxOk c) (hx:T.names[n]? =some x) (hv:lk σ.m n=some v) (h:Q v σ) (hd:(x==("__debug__":Str))=false) (hn:(x==("__classdict__":Str))=false):W T c (Er T) (eval (.Name x pos) c.env) Q X σ:=fun μ s r=>by
 refine x_EA (r.fr) fun mm ns q=>x_EA (q n v hv) fun x' hx' q=>?_;rw [hx] at hx';obtain rfl:=qq hx';rcases q with ⟨hk,rv,e,er⟩|⟨hk,ca,rv,e,ic,er⟩
 ·exact wpAny_Name (wpAny_loadName_local O.kind hk ns e ⟨μ,v,σ,r.at,er,h⟩) hd
 ·rcases hk with hk|hk
  ·exact wpAny_Name (wpAny_loadName_cell O.kind hk e ic ⟨μ,v,σ,r.at,er,h⟩) hd
  ·exact wpAny_Name (wpAny_loadName_free O.kind hk e ic ⟨μ,v,σ,r.at,er,h⟩ hn) hd
noncomputable def WBin (T:Tab) (c:Cx) (op:Operator) (a b:AV) (Q:AV->St->Prop) (X:St->Prop) (σ:St):Prop:=
 ∀v1 v2,Wat T c (fun μ h=>Er T μ h v1 a/\Er T μ h v2 b) (Er T) (binaryOp op v1 v2) Q X σ
variable {r:Expr}
theorem yX10 {l:Expr} {op:Operator} (h:W T c (Er T) (eval l c.env) (fun a σ1=>W T c (Er T) (eval r c.env) (fun b σ2=>WBin T c op a b Q X σ2) X σ1) X σ):W T c (Er T) (eval (.BinOp l op r pos) c.env) Q X σ:=fun μ s rl=>
 wpAny_BinOp (h.go rl.at fun v1 s1 μ1 a σ1 a1 e1 h1 p1 k1=>h1.go a1 fun v2 s2 μ2 b σ2 a2 e2 h2 p2 k2=>(h2 v1 v2).go a2 ⟨e1.keep p2 k2,e2⟩ fun v s3 μ3 d σ3 a3 e3 h3 o_ o_=>⟨μ3,d,σ3,a3,e3,h3⟩)
noncomputable def WUn (T:Tab) (c:Cx) (op:UnaryOp) (a:AV) (Q:AV->St->Prop) (X:St->Prop) (σ:St):Prop:=
 ∀v,Wat T c (fun μ h=>Er T μ h v a) (Er T) (unaryOp op v) Q X σ
variable {x:Expr}
theorem yc14 {op:UnaryOp} (h:W T c (Er T) (eval x c.env) (fun a σ1=>WUn T c op a Q X σ1) X σ):W T c (Er T) (eval (.UnaryOp op x pos) c.env) Q X σ:=fun μ s rl=>
 UnaryOp_ (h.go rl.at fun v1 s1 μ1 a σ1 a1 e1 h1 p1 k1=>(h1 v1).go a1 e1 fun v s3 μ3 d σ3 a3 e3 h3 o_ o_=>⟨μ3,d,σ3,a3,e3,h3⟩)
noncomputable def WCmp (T:Tab) (c:Cx) (op:CmpOp) (a b:AV) (Q:AV->St->Prop) (X:St->Prop) (σ:St):Prop:=
 ∀v1 v2,Wat T c (fun μ h=>Er T μ h v1 a/\Er T μ h v2 b) (Er T) (compareOp op v1 v2) Q X σ
variable {op:CmpOp}
theorem yT15 {l:Expr} (hm:qc1 op r=false) (h:W T c (Er T) (eval l c.env) (fun a σ1=>W T c (Er T) (eval r c.env) (fun b σ2=>WCmp T c op a b Q X σ2) X σ1) X σ):W T c (Er T) (eval (.Compare l [op] [r] pos) c.env) Q X σ:=fun μ s rl=>
 wpAny_Compare1 (h.go rl.at fun v1 s1 μ1 a σ1 a1 e1 h1 p1 k1=>h1.go a1 fun v2 s2 μ2 b σ2 a2 e2 h2 p2 k2=>(h2 v1 v2).go a2 ⟨e1.keep p2 k2,e2⟩ fun v s3 μ3 d σ3 a3 e3 h3 o_ o_=>⟨μ3,d,σ3,a3,e3,h3⟩) hm
noncomputable def WTr (T:Tab) (c:Cx) (a:AV) (Q:Bool->St->Prop) (X:St->Prop) (σ:St):Prop:=∀v,Wat T c (fun μ h=>Er T μ h v a) BoR (truthy v) Q X σ
theorem yr4 (h:Qb b σ):WTr T c (.bool b) Qb X σ:=fun v μ s r e=>by cases e;exact wpAny_truthy_bool ⟨μ,b,σ,r.at,rfl,h⟩
theorem yd14 (h:Qb false σ):WTr T c .nil Qb X σ:=fun v μ s r e=>by cases e;exact truthy_none ⟨μ,false,σ,r.at,rfl,h⟩
variable {whole:Sem Value}
theorem ya14 {l:Expr} (hm:qc1 op r=false) (h:W T c (Er T) (eval l c.env) (fun a σ1=>W T c (Er T) (eval r c.env) (fun b σ2=>WCmp T c op a b (fun v σ3=>WTr T c v Qb X σ3) X σ2) X σ1) X σ):W T c BoR (isTrue (.Compare l [op] [r] pos) c.env whole) Qb X σ:=fun μ s rl=>
 wpAny_isTrue_Compare1 (h.go rl.at fun v1 s1 μ1 a σ1 a1 e1 h1 p1 k1=>h1.go a1 fun v2 s2 μ2 b σ2 a2 e2 h2 p2 k2=>(h2 v1 v2).go a2 ⟨e1.keep p2 k2,e2⟩ fun v s3 μ3 d σ3 a3 e3 h3 o_ o_=>
  (h3 v).go a3 e3 fun v s3 μ3 d σ3 a3 e3 h3 o_ o_=>⟨μ3,d,σ3,a3,e3,h3⟩) hm
theorem yb14 (h:W T c BoR (isTrue x c.env (eval x c.env)) (fun b σ1=>Qb (!b) σ1) X σ):W T c BoR (isTrue (.UnaryOp .Not x pos) c.env whole) Qb X σ:=fun μ s rl=>
 isTrue_not (h.go rl.at fun v1 s1 μ1 a σ1 a1 e1 h1 p1 k1=>⟨μ1, !a,σ1,a1,congrArg _ e1,h1⟩)
theorem y95 (h:Qb true σ):W T c BoR (isTrue (.BoolOp .And [] pos) c.env whole) Qb X σ:=fun μ s r=>isTrue_and_nil ⟨μ,true,σ,r.at,rfl,h⟩
theorem yq7 (h:Qb false σ):W T c BoR (isTrue (.BoolOp .Or [] pos) c.env whole) Qb X σ:=fun μ s r=>isTrue_or_nil ⟨μ,false,σ,r.at,rfl,h⟩
variable {rest:List Expr}
theorem yt9 (h:W T c BoR (isTrue x c.env (eval x c.env)) (fun b σ1=>match b with|true=>W T c BoR (isTrue (.BoolOp .And rest pos) c.env whole) Qb X σ1|false=>Qb false σ1) X σ):W T c BoR (isTrue (.BoolOp .And (x::rest) pos) c.env whole) Qb X σ:=fun μ s rl=>
 isTrue_and (h.go rl.at fun v1 s1 μ1 a σ1 a1 e1 h1 p1 k1=>by
  subst (e1:v1=a);rcases v1 with _|_
  ·exact ⟨μ1,_,σ1,a1,rfl,h1⟩
  ·exact h1.go a1 fun v s3 μ3 d σ3 a3 e3 h3 o_ o_=>⟨μ3,d,σ3,a3,e3,h3⟩)
theorem yX11 (h:W T c BoR (isTrue x c.env (eval x c.env)) (fun b σ1=>match b with|true=>Qb true σ1|false=>W T c BoR (isTrue (.BoolOp .Or rest pos) c.env whole) Qb X σ1) X σ):W T c BoR (isTrue (.BoolOp .Or (x::rest) pos) c.env whole) Qb X σ:=fun μ s rl=>
 isTrue_or (h.go rl.at fun v1 s1 μ1 a σ1 a1 e1 h1 p1 k1=>by
  subst (e1:v1=a);rcases v1 with _|_
  ·exact h1.go a1 fun v s3 μ3 d σ3 a3 e3 h3 o_ o_=>⟨μ3,d,σ3,a3,e3,h3⟩
  ·exact ⟨μ1,_,σ1,a1,rfl,h1⟩)
theorem yK {e:Expr} (he:isTrue e c.env whole=(do let v <-whole;standAt e.pos;holding [v] (truthy v))) (h:W T c (Er T) whole (fun v σ1=>WTr T c v Qb X σ1) X σ):W T c BoR (isTrue e c.env whole) Qb X σ:=fun μ s rl=>
 isTrue_plain (h.go rl.at fun v1 s1 μ1 a σ1 a1 e1 h1 p1 k1=>(h1 v1).go a1 e1 fun v s3 μ3 d σ3 a3 e3 h3 o_ o_=>⟨μ3,d,σ3,a3,e3,h3⟩) he
variable {t:Expr}
theorem y310 {b o:Expr} (h:W T c BoR (isTrue t c.env (eval t c.env)) (fun x σ1=>match x with|true=>W T c (Er T) (eval b c.env) Q X σ1|false=>W T c (Er T) (eval o c.env) Q X σ1) X σ):W T c (Er T) (eval (.IfExp t b o pos) c.env) Q X σ:=fun μ s rl=>
 IfExp_ (h.go rl.at fun v1 s1 μ1 a σ1 a1 e1 h1 p1 k1=>by
  subst (e1:v1=a);rcases v1 with _|_<;>exact W.go h1 a1 fun v s3 μ3 d σ3 a3 e3 h3 o_ o_=>⟨μ3,d,σ3,a3,e3,h3⟩)
theorem yW11 {op:BoolOp} {e:Expr} (h:W T c (Er T) (eval e c.env) Q X σ):W T c (Er T) (eval (.BoolOp op [e] pos) c.env) Q X σ:=fun μ s r=>BoolOp_one (h μ s r)
variable {y:Expr}
theorem yS15 (h:W T c (Er T) (eval x c.env) (fun a σ1=>WTr T c a (fun b σ2=>match b with|true=>W T c (Er T) (eval (.BoolOp .And (y::rest) pos) c.env) Q X σ2|false=>Q a σ2) X σ1) X σ):W T c (Er T) (eval (.BoolOp .And (x::y::rest) pos) c.env) Q X σ:=fun μ s rl=>
 BoolOp_and (h.go rl.at fun v1 s1 μ1 a σ1 a1 e1 h1 p1 k1=>(h1 v1).go a1 e1 fun g s2 μ2 d σ2 a2 e2 h2 p2 k2=>by
  subst (e2:g=d);rcases g with _|_
  ·exact ⟨μ2,a,σ2,a2,e1.keep p2 k2,h2⟩
  ·exact h2.go a2 fun v s3 μ3 d σ3 a3 e3 h3 o_ o_=>⟨μ3,d,σ3,a3,e3,h3⟩)
theorem w_or (h:W T c (Er T) (eval x c.env) (fun a σ1=>WTr T c a (fun b σ2=>match b with|true=>Q a σ2|false=>W T c (Er T) (eval (.BoolOp .Or (y::rest) pos) c.env) Q X σ2) X σ1) X σ):W T c (Er T) (eval (.BoolOp .Or (x::y::rest) pos) c.env) Q X σ:=fun μ s rl=>
 BoolOp_or (h.go rl.at fun v1 s1 μ1 a σ1 a1 e1 h1 p1 k1=>(h1 v1).go a1 e1 fun g s2 μ2 d σ2 a2 e2 h2 p2 k2=>by
  subst (e2:g=d);rcases g with _|_
  ·exact h2.go a2 fun v s3 μ3 d σ3 a3 e3 h3 o_ o_=>⟨μ3,d,σ3,a3,e3,h3⟩
  ·exact ⟨μ2,a,σ2,a2,e1.keep p2 k2,h2⟩)
theorem yp9 (h:Ql [] σ):W T c (ErL T) (spliced (backTo pos (qX [] c.env))) Ql X σ:=fun μ s r=>wpAny_items_nil ⟨μ,[],σ,r.at,.nil,h⟩
theorem y85 {e:Expr} (he:qX (e::rest) c.env=(false,eval e c.env)::qX rest c.env) (h:W T c (Er T) (eval e c.env) (fun a σ1=>W T c (ErL T) (spliced (backTo pos (qX rest c.env))) (fun l σ2=>Ql (a::l) σ2) X σ1) X σ):W T c (ErL T) (spliced (backTo pos (qX (e::rest) c.env))) Ql X σ:=fun μ s rl=>
 wpAny_items_cons (h.go rl.at fun v1 s1 μ1 a σ1 a1 e1 h1 p1 k1=>h1.go a1 fun vs s2 μ2 l σ2 a2 e2 h2 p2 k2=>⟨μ2,a::l,σ2,a2,.cons (e1.keep p2 k2) e2,h2⟩) he
variable {elts:List Expr}
theorem y810 (h:W T c (ErL T) (spliced (backTo pos (qX elts c.env))) (fun l σ1=>l.length<=1000/\Q (.tup l) σ1) X σ):W T c (Er T) (eval (.Tuple elts n pos) c.env) Q X σ:=fun μ s rl=>
 wpAny_Tuple (h.go rl.at fun vs s1 μ1 l σ1 a1 e1 h1 p1 k1=>by
  have kp:=jm s1.heap (j9 vs);have a2:=a1.keeps kp;exact ⟨by refine rz e1.length (rz qY ?_);lia,μ1,.tup l,σ1,a2,.tup (qK _ rfl) (e1.keep (.refl _) (.of_keeps kp)),h1.2⟩)
theorem y313 (h:W T c (ErL T) (spliced (backTo pos (qX elts c.env))) (fun l σ1=>l.length<=1000/\Q (.ref σ1.H.length) ⟨σ1.H++[.list l],σ1.m⟩) X σ):W T c (Er T) (eval (.List elts pos) c.env) Q X σ:=fun μ s rl=>
 wpAny_List (h.go rl.at fun vs s1 μ1 l σ1 a1 e1 h1 p1 k1=>by
  have kp:=jm s1.heap (jz vs 0);have a2:=a1.push (o:=jz vs 0) (ao:=.list l) ⟨vs,0,qK _ rfl,e1.keep (.snoc _ _) (.of_keeps kp)⟩;exact ⟨by refine rz e1.length (rz qY ?_);lia,_,_,_,a2,.ref (by refine rz (Eq.symm a1.rel.rh.len) ?_;simp),h1.2⟩)
theorem yZ13 (h:Qf .next σ):W T c (FlR T) (execs [] c.env) Qf X σ:=fun μ s r=>wpAny_execs_nil ⟨μ,.next,σ,r.at,.next,h⟩
theorem y913 {st:Stmt} {rest:List Stmt} (h:W T c (FlR T) (exec st c.env) (fun f σ1=>match f with|.next=>W T c (FlR T) (execs rest c.env) Qf X σ1|.brk=>Qf .brk σ1|.cont=>Qf .cont σ1|.ret v=>Qf (.ret v) σ1) X σ):W T c (FlR T) (execs (st::rest) c.env) Qf X σ:=fun μ s rl=>
 wpAny_execs_cons (h.go rl.at fun f s1 μ1 a σ1 a1 e1 h1 p1 k1=>by
  cases e1 with
  |next=>exact h1.go a1 fun v s3 μ3 d σ3 a3 e3 h3 o_ o_=>⟨μ3,d,σ3,a3,e3,h3⟩
  |brk=>exact ⟨μ1,.brk,σ1,a1,.brk,h1⟩
  |cont=>exact ⟨μ1,.cont,σ1,a1,.cont,h1⟩
  |ret e=>exact ⟨μ1,.ret _,σ1,a1,.ret e,h1⟩)
theorem yq9 {e:Expr} (h:W T c (Er T) (eval e c.env) (fun v σ1=>Qf (.ret v) σ1) X σ):W T c (FlR T) (exec (.Return (some e) pos) c.env) Qf X σ:=fun μ s rl=>
 wpAny_Return_some (h.go rl.at fun v1 s1 μ1 a σ1 a1 e1 h1 p1 k1=>⟨μ1,.ret a,σ1,a1,.ret e1,h1⟩)
theorem w_if {b o:List Stmt} (h:W T c BoR (isTrue t c.env (eval t c.env)) (fun x σ1=>match x with|true=>W T c (FlR T) (execs b c.env) Qf X σ1|false=>W T c (FlR T) (execs o c.env) Qf X σ1) X σ):W T c (FlR T) (exec (.If t b o pos) c.env) Qf X σ:=fun μ s rl=>
 wpAny_If (h.go rl.at fun v1 s1 μ1 a σ1 a1 e1 h1 p1 k1=>by
  subst (e1:v1=a);rcases v1 with _|_<;>exact W.go h1 a1 fun v s3 μ3 d σ3 a3 e3 h3 o_ o_=>⟨μ3,d,σ3,a3,e3,h3⟩)
theorem y713 (h:Qf .next σ):W T c (FlR T) (exec (.Pass pos) c.env) Qf X σ:=fun μ s r=>wpAny_Pass ⟨μ,.next,σ,r.at,.next,h⟩
theorem yY10 (h:Qf .brk σ):W T c (FlR T) (exec (.Break pos) c.env) Qf X σ:=fun μ s r=>wpAny_Break ⟨μ,.brk,σ,r.at,.brk,h⟩
theorem y013 {e:Expr} (hi:interactive c.env=false) (hs:swapsWith e none pos.line c.env=pure false) (h:W T c (Er T) (eval e c.env) (fun o_ σ1=>Qf .next σ1) X σ):W T c (FlR T) (exec (.Expr e pos) c.env) Qf X σ:=fun μ s rl=>
 wpAny_Expr_any (h.go rl.at fun v1 s1 μ1 a σ1 a1 e1 h1 p1 k1=>⟨μ1,.next,σ1,a1,.next,h1⟩) hi hs
variable {i j:Nat} {s:Str}
theorem zH (hi:T.names[i]? =some s) (hj:T.names[j]? =some s):i=j:=yA T.nd hi hj
theorem yL11 {x y:Str} (hi:T.names[i]? =some x) (hj:T.names[j]? =some y):(x==y)=(i==j):=by
 by_cases z:i=j
 ·subst z;refine rz (qq (hi.symm.trans hj)) ?_;rw [beq_self_eq_true,beq_self_eq_true]
 ·exact rz (beq_eq_false_iff_ne.mpr z) (rz (beq_eq_false_iff_ne.mpr fun w=>z (zH hi (hj.trans (congrArg some w.symm)))) rfl)
noncomputable def isS (n:Nat):AV->Bool
 |.str m=>m==n
 |_=>false
noncomputable def strK:AV->Bool
 |.str _=>true
 |_=>false
noncomputable def dget (l:List (AV×AV)) (n:Nat):Option AV:=(l.find? fun p=>isS n p.1).map (·.2)
noncomputable def dput (l:List (AV×AV)) (n:Nat) (v:AV):List (AV×AV):=List.rec (motive:=fun o_=>List (AV×AV)) [(.str n,v)] (fun p r ih=>bif isS n p.1 then (p.1,v)::r else p::ih) l
noncomputable def kA (l:List (AV×AV)):Bool:=l.all fun p=>strK p.1
theorem y27 {p:AV×AV} {r:List (AV×AV)} {m:List (AV×AV)->Prop} (h1:isS n p.1=true->m ((p.1,v)::r)) (h2:isS n p.1=false->m (p::dput r n v)):m (dput (p::r) n v):=
 Bool.rec (motive:=fun b=>isS n p.1=b->m (bif b then (p.1,v)::r else p::dput r n v)) h2 h1 (isS n p.1) rfl
theorem y37 {k:AV} {G:Prop} (g1:k=.str n->G) (l:List (AV×AV)):(k∈l.map (·.1)->G)->k∈(dput l n v).map (·.1)->G:=by
 induction l with
 |nil=>exact fun o_ h=>g1 (qB.mp h)
 |cons p r ih=>exact fun g2=>y27 (n:=n) (v:=v) (m:=fun l=>k∈l.map (·.1)->G) (fun o_ h=>g2 h) fun o_ h=>(qC.mp h).elim (fun h=>g2 (qC.mpr (.inl h))) (ih fun h=>g2 (List.mem_cons_of_mem _ h))
variable {a:AV}
theorem yr8 (e:a=.str n):isS n a=true:=e▸beq_self_eq_true n
theorem yK5 (l:List (AV×AV)):(l.map (·.1)).Nodup->((dput l n v).map (·.1)).Nodup:=by
 induction l with
 |nil=>exact fun o_=>qx.mpr ⟨List.not_mem_nil,.nil⟩
 |cons p r ih=>exact fun h=>y27 (n:=n) (v:=v) (m:=fun l=>(l.map (·.1)).Nodup) (fun o_=>h) fun q=>qx.mpr ⟨y37 (fun e=>Bool.noConfusion (q.symm.trans (yr8 e))) r (qx.mp h).1,ih (qx.mp h).2⟩
noncomputable def getO (a:Bool):Option DictEntry->Option (Option Value)
 |some e=>some (some e.val)
 |none=>if a then none else some none
variable {es:List DictEntry}
theorem yY3:getL s es=getO (es.any (·.refKey)) (es.find? (·.key.isStr s)):=by
 delta getL getO;rcases es.find? (·.key.isStr s) with _|_<;>rfl
variable {μ:List Addr} {h:Heap}
theorem ya5 (hn:T.names[n]? =some s) {k:Value} (e:Er T μ h k a):k.isStr s=isS n a:=
 e.xall (p:=fun k a=>k.isStr s=isS n a) rfl (fun o_=>rfl) (fun o_ o_=>rfl) (fun o_ w=>yL11 w hn) (fun o_ o_=>rfl) (fun o_=>rfl) (fun o_ o_=>rfl) (fun o_ o_=>rfl) rfl
theorem ErD.find {P:Option DictEntry->Option (AV×AV)->Prop} (hn:T.names[n]? =some s) (h1:P none none) (h2:∀{e p},Er T μ h e.val p.2->P (some e) (some p)) {es l:_} (x:ErD T μ h es l):P (es.find? (·.key.isStr s)) (l.find? fun p=>isS n p.1):=
 x.ind (m:=fun es l=>P (es.find? (·.key.isStr s)) (l.find? fun p=>isS n p.1)) h1 fun {e es k v l} o_ hk hv o_ ih=>by
  refine (?_:P (match e.key.isStr s with|true=>some e|false=>es.find? (·.key.isStr s)) (match isS n k with|true=>some (k,v)|false=>l.find? fun p=>isS n p.1));refine rz (ya5 hn hk) ?_;rcases isS n k with _|_
  ·exact ih
  ·exact h2 hv
theorem y17 (hn:T.names[n]? =some s) {es l:_} (x:ErD T μ h es l) (e:dget l n=some v) {G:Prop} (k:∀rv,getL s es=some (some rv)->Er T μ h rv v->G):G:=
 x.find (P:=fun oe op=>op.map (·.2)=some v->(∀rv,getO (es.any (·.refKey)) oe=some (some rv)->Er T μ h rv v->G)->G) hn (fun e=>ja e) (fun er e k=>k _ rfl (qq e▸er)) e fun rv q=>k rv (yY3.trans q)
theorem yU8 {es l:_} (x:ErD T μ h es l):kA l=true->es.any (·.refKey)=false:=
 x.ind (m:=fun es l=>kA l=true->es.any (·.refKey)=false) (fun o_=>rfl) fun {e es k v l} o_ hk o_ o_ ih a=>by
  have ⟨a1,a2⟩:=qI.mp a;refine rz List.any_cons ?_;rw [ih a2,Bool.or_false];exact hk.xall (p:=fun w k=>strK k=true->(match w with|.ref _=>true|_=>false)=false) (fun o_=>rfl) (fun o_ o_=>rfl) (fun o_ o_ o_=>rfl) (fun o_ o_ o_=>rfl) (fun o_ o_ o_=>rfl) (fun o_ e=>Bool.noConfusion e) (fun o_ o_ e=>Bool.noConfusion e) (fun o_ o_ e=>Bool.noConfusion e) (fun e=>Bool.noConfusion e) a1
theorem y26 (hn:T.names[n]? =some s) {es l:_} (x:ErD T μ h es l) (a:kA l=true) (e:dget l n=none):getL s es=some none:=
 yY3.trans (x.find (P:=fun oe op=>op.map (·.2)=none->getO (es.any (·.refKey)) oe=some none) hn (fun o_=>by refine rz (yU8 x a) ?_;rfl) (fun o_ e=>ja e.symm) e)
theorem yt5 (hn:T.names[n]? =some s) {es l:_} (x:ErD T μ h es l) (a:kA l=true):(getL s es).isSome=true:=
 yY3▸x.find (P:=fun oe o_=>(getO (es.any (·.refKey)) oe).isSome=true) hn (by refine rz (yU8 x a) ?_;rfl) (fun o_=>rfl)
variable {key v:Value}
theorem y08 (hn:T.names[n]? =some s) (hk:Er T μ h key (.str n)) (hv:Er T μ h v a) {es l:_} (x:ErD T μ h es l):ErD T μ h (putL s (qO T.P s) key v es) (dput l n a):=
 x.ind (m:=fun es l=>ErD T μ h (putL s (qO T.P s) key v es) (dput l n a)) (.cons (.str hn) hk hv .nil) fun {e es k w l} hh hk' hv' hl ih=>by
  refine (?_:ErD T μ h (if e.key.isStr s then ⟨e.hash,e.key,v⟩::es else e::putL s (qO T.P s) key v es) (bif isS n k then (k,a)::l else (k,w)::dput l n a));refine rz (ya5 hn hk') ?_;rcases isS n k with _|_
  ·exact .cons hh hk' hv' ih
  ·exact .cons hh hk' hv hl
theorem ErD.length {es l:_} (x:ErD T μ h es l):es.length=l.length:=x.ind (m:=fun es l=>es.length=l.length) rfl fun o_ o_ o_ o_ i=>congrArg (·+1) i
theorem Er.handed (e:Er T μ h v a):handedIn v=true:=
 e.xall (p:=fun v o_=>handedIn v=true) rfl (fun o_=>rfl) (fun o_ o_=>rfl) (fun o_ o_=>rfl) (fun o_ o_=>rfl) (fun o_=>rfl) (fun o_ o_=>rfl) (fun o_ o_=>rfl) rfl
noncomputable def kD (K:Frag) (C:Addr) (name:Str):Bool:=plainGet K C name&&hasDictIn K C&&findIn K (.ref C) name==some none&&
 findIn K (.ref C) "__setattr__"==some (some (.builtin "object.__setattr__"))&&plainOver K C&&takerIn K C name==some none
theorem y18 (name:Str) (hsh:Int) (key v:Value) (n:Nat) (es:List DictEntry):(putL name hsh key v es).length+n=putN name es n+es.length:=
 List.rec (motive:=fun es=>(putL name hsh key v es).length+n=putN name es n+es.length) (Nat.add_comm _ _) (fun e r ih=>by
  refine (?_:(if e.key.isStr name then (⟨e.hash,e.key,v⟩::r:List DictEntry) else e::putL name hsh key v r).length+n=(if (e.key.isStr name||r.any (·.key.isStr name)) then n else n+1)+(r.length+1));rcases e.key.isStr name with _|_
  ·exact (Nat.succ_add _ _).trans (congrArg (·+1) ih)
  ·exact Nat.add_comm _ _) es
variable {H:List AO} {C:Addr}
theorem zF (R:RH T μ H h) {l:List (AV×AV)} (hi:H[i]? =some (.inst C j)) (hj:H[j]? =some (.dict l)) {G:Prop}
 (k:∀x dx es n,μ[i]? =some x->μ[j]? =some dx->InstAt h x (y13 C dx) C (some (dictOf es n))->h.get? dx=some (dictOf es n)->ErD T μ h es l->DKey l n->G):G:=
 yf14 (R.at hi) fun x hx dx hdx ho=>yt2 (R.at hj) fun dx' hdx' es n hd er kn=>
  have hd:=(congrArg h.get? (qq (hdx.symm.trans hdx'))).trans hd
  k x dx es n hx hdx ⟨ho,rfl,rfl,hd⟩ hd er kn
end
section
variable {T:Tab}
variable {Q:AV->St->Prop}
variable {σ:St}
inductive GetA (T:Tab) (n:Nat) (Q:AV->St->Prop) (σ:St):AV->Prop
 |mk {i C j l s v} (hi:σ.H[i]? =some (.inst C j)) (hj:σ.H[j]? =some (.dict l)) (hn:T.names[n]? =some s) (hp:kD T.K C s=true) (hg:dget l n=some v) (q:Q v σ):GetA T n Q σ (.ref i)
variable {K:Frag} {C:Addr}
theorem yD {s:Str} {G:Prop} (h:kD K C s=true) (k:plainGet K C s=true->hasDictIn K C=true->findIn K (.ref C) s=some none->findIn K (.ref C) "__setattr__"=some (some (.builtin "object.__setattr__"))->plainOver K C=true->takerIn K C s=some none->G):G:=
 have h:=qI.mp h;have g:=qI.mp h.1;have e:=qI.mp g.1;have d:=qI.mp e.1;have b:=qI.mp d.1
 k b.1 b.2 (eq_of_beq d.2) (eq_of_beq e.2) g.2 (eq_of_beq h.2)
variable {μ:List Addr} {h:Heap} {v:Value} {i:Nat} {x:Addr}
theorem yk4 (e:Er T μ h v (.ref i)) (hx:μ[i]? =some x):v=.ref x:=e.xref (p:=(·=.ref x)) fun q=>congrArg Value.ref (qq (q.symm.trans hx))
variable {c:Cx}
variable {A:Around} {a:AV} {n:Nat} {name:Str}
theorem y31 {s:Shared} (rl:Rel T c σ μ s.heap) (e:Er T μ s.heap v a) (hn:T.names[n]? =some name) {ex:Bool} {E} {Q':Value->Shared->Prop}
 (h:GetA T n Q σ a) (k:∀rv av,Er T μ s.heap rv av->Q av σ->Q' rv {s with toks:=s.toks+1}):wpAny T.M A (getAttr v name ex) Q' E s:=by
 cases h with
 |mk hi hj hn' hp hg q=>
  obtain rfl:=(qq (hn.symm.trans hn'))
  exact zF rl.rh hi hj fun x dx es m hx hdx I hd er o_=>y17 hn er hg fun rv g er2=>yD hp fun h1 h2 h3 o_ o_ o_=>yk4 e hx▸
   get_value rl.rh.top I (plainGet_of h1).1 (findObj_own h2 h3 rfl g) er2.handed (k rv _ er2 q)
variable {X:St->Prop}
variable {pos:Pos}
theorem yU13 {e:Expr} (hn:T.names[n]? =some name) (h:W T c (Er T) (eval e c.env) (fun a σ1=>GetA T n Q σ1 a) X σ)
 (he:eval (.Attribute e name pos) c.env=(do
  let o <-eval e c.env
  standAt pos.atName
  let r <-holding [o] (getAttr o name true)
  letTemporaryGo e o r
  pure r)):W T c (Er T) (eval (.Attribute e name pos) c.env) Q X σ:=fun μ s rl=>
 Attribute_any_ (h.go rl.at fun v1 s1 μ1 a σ1 a1 e1 h1 p1 k1=>y31 a1.rel e1 hn h1 fun rv av er q=>⟨μ1,av,σ1,a1,er,q⟩) he
end
section
variable {T:Tab}
variable {σ:St}
inductive SetA (T:Tab) (n:Nat) (v:AV) (Qu:St->Prop) (σ:St):AV->Prop
 |mk {i C j l s} (hi:σ.H[i]? =some (.inst C j)) (hj:σ.H[j]? =some (.dict l)) (hn:T.names[n]? =some s) (hp:kD T.K C s=true) (al:kA l=true) (hz:(dput l n v).length<=1000) (q:Qu ⟨σ.H.set j (.dict (dput l n v)),σ.m⟩):SetA T n v Qu σ (.ref i)
theorem yO8 {s:Str} {es:List DictEntry} (hl:(getL s es).isSome=true):(!(es.toArray.any (·.key.isStr s))&&es.toArray.any (·.refKey))=false:=by
 refine rz (Eq.symm Array.any_toList) (rz (Eq.symm Array.any_toList) ?_);delta getL at hl;rcases he:es.find? (·.key.isStr s) with _|en
 ·rw [he] at hl;rcases z:es.any (·.refKey) with _|_
  ·exact Bool.and_false _
  ·rw [z] at hl;exact Bool.noConfusion hl
 ·refine rz (List.any_eq_true.mpr ⟨en,List.mem_of_find?_eq_some he,List.find?_some he⟩) ?_;rfl
variable {c:Cx}
variable {A:Around} {C:Addr} {n:Nat} {name:Str} {μ₀ μ:List Addr} {h₀:Hp} {s:Shared} {R:Result->Shared->Prop}
theorem yF10 (O:CxOk c) {i j:Nat} {l:List (AV×AV)} {tk:Tok} {x:Addr} {rv:Value} {av:AV} (rl:At T c μ₀ h₀ σ μ (hpp s))
 (hi:σ.H[i]? =some (.inst C j)) (hj:σ.H[j]? =some (.dict l)) (hxi:μ[i]? =some x) (ev:Er T μ s.heap rv av) (hn:T.names[n]? =some name) (hp:kD T.K C name=true) (al:kA l=true) (hz:(dput l n av).length<=1000)
 (k:∀s',At T c μ₀ h₀ ⟨σ.H.set j (.dict (dput l n av)),σ.m⟩ μ (hpp s')->TK s.heap s'.heap->R (.ok (.ret .none)) s'):codeAny T.M A (.call (.builtin "object.__setattr__") ⟨[.ref x,.str name tk,rv],[]⟩) R s:=by
 refine zF rl.rel.rh hi hj fun x' dx es m hx hdx I hd er kn=>?_;obtain rfl:=(qq (hx.symm.trans hxi))
 refine yD hp fun o_ h2 o_ o_ h5 h6=>osa_open rl.rel.rh.top I h5 h6 fun b=>x_EA (any_some h2) fun cd hc hd'=>?_;have D':=qN (Obj.putName name (qO T.P name) (.str name s.toks) rv) hd (by rw [putName_dict];rfl);rw [putName_dict] at D';have tk':TK s.heap (s.heap.update dx (Obj.putName name (qO T.P name) (.str name s.toks) rv)):=zK hd (yc2 _ _);have ED:=y08 hn (.str s.toks hn) (ev.keep (.refl _) tk') (er.keep (.refl _) tk');have a2:=rl.update O (o':=.dict (dput l n av)) hdx ⟨_,_,D',ED,yK5 _ kn.1,by have h1:=y18 name (qO T.P name) (.str name s.toks) rv m es;rw [ED.length,er.length,<-kn.2] at h1;exact (Nat.add_right_cancel h1).symm⟩;refine qP (qQ (qP (qP (wpAny_loadPart I.at_ (qP ((looks_clsIn rl.rel.rh.top hc).here ?_))))));refine rz hd' (qQ (a:=some dx) (qP (qQ (qP ?_))));delta nsSet;refine qP (qP (wpAny_askSetting (qQ (qP (wpAny_mkText (qP (wpAny_loadPart hd ?_)))))));refine (?_:wpAny _ _ (if aRefKeyMayBeTheName name es.toArray then _ else _) _ _ _);rw [aRefKeyMayBeTheName_at];refine rz (yO8 (yt5 hn er al)) ?_;refine wpAny_updatePart hd (qP (wpAny_lookBehind D' (pastItsLine_dict ?_) (qQ (k _ a2 tk'))));exact rz qG (rz ED.length (rz qY (qb hz (qa rfl))))
variable {v:Value} {Q':Unit->Shared->Prop}
theorem yn5 (O:CxOk c) {a:AV} {rv:Value} {av:AV} {Qu:St->Prop} (rl:At T c μ₀ h₀ σ μ (hpp s)) (e:Er T μ s.heap v a) (ev:Er T μ s.heap rv av) (hn:T.names[n]? =some name) {E}
 (h:SetA T n av Qu σ a) (k:∀s' σ',At T c μ₀ h₀ σ' μ (hpp s')->TK s.heap s'.heap->Qu σ'->Q' () s'):wpAny T.M A (setAttr v name rv) Q' E s:=by
 cases h with
 |mk hi hj hn' hp al hz q=>
  obtain rfl:=(qq (hn.symm.trans hn'))
  exact zF rl.rel.rh hi hj fun x dx es m hx hdx I hd er o_=>yk4 e hx▸yD hp fun o_ o_ o_ h4 o_ o_=>
   set_plain rl.rel.rh.top I h4 (yF10 (s:={s with toks:=s.toks+1}) O rl hi hj hx ev hn hp al hz fun s' a tk=>k s' _ a tk q)
variable {h':Heap} {o:Obj}
theorem At.frame (O:CxOk c) {m':Loc} {o':Obj} (rl:At T c μ₀ h₀ σ μ (hpp s)) (ne:∀b o,b≠c.env.locals->s.heap.get? b=some o->h'.get? b=some o) (tk:TK s.heap h') (e:s.heap.get? c.env.locals=some o) (nf:¬Froz o) (e':h'.get? c.env.locals=some o') (d':kZ o')
 (f:zD T μ c.env m' h'):At T c μ₀ h₀ ⟨σ.H,m'⟩ μ ⟨h',s.os,s.gens⟩:=
 have thr:∀b,(∃o,s.heap.get? b=some o/\kZ o)->∃o',h'.get? b=some o'/\kZ o':=fun b x=>(Classical.em (b=c.env.locals)).elim (fun q=>⟨o',q▸e',d'⟩) fun q=>x_EA x fun o e d=>⟨o,ne b o q e,d⟩
 ⟨⟨rl.rel.rh.but ne (rl.rel.ownK _ O.loc) (rl.rel.ownN _ O.loc) tk,f,fun b m=>thr b (rl.rel.ownO b m),rl.rel.ownN,rl.rel.ownK,rl.rel.frs.keep (fun b o_ o e d=>thr b ⟨o,e,d⟩) rl.rel.frs.n⟩,
   rl.evo.trans (.own O.loc ne (fun o1 e1=>qq (e.symm.trans e1)▸nf) ⟨o',e'⟩),rl.os,rl.gens⟩
theorem ko1 (O:CxOk c) {rv:Value} {av:AV} (rl:At T c μ₀ h₀ σ μ (hpp s)) (ev:Er T μ s.heap rv av) (hn:T.names[n]? =some name) (hl:c.env.kindOf name=some .local) {E}
 (k:∀s',At T c μ₀ h₀ ⟨σ.H,put σ.m n av⟩ μ (hpp s')->TK s.heap s'.heap->(∀b o,b≠c.env.locals->s.heap.get? b=some o->s'.heap.get? b=some o)->Q' () s'):wpAny T.M A (storeName c.env name rv) Q' E s:=
 x_EA rl.rel.fr fun mm ns hm=>x_EA (rl.rel.ownO _ O.loc) fun o e d=>wpAny_storeName_local hl ns (fun h' ns' sb=>
  have nf:¬Froz o:=x_EE d fun es m e=>ky1 e;have ne:∀b o,b≠c.env.locals->s.heap.get? b=some o->h'.get? b=some o:=fun b o q e=>(sb.2 b q).trans e;have tk:TK s.heap h':=fun b o1 e1 f=>ne b o1 (fun q=>nf (qq ((e1.symm.trans (congrArg s.heap.get? q)).trans e)▸f)) e1
  ku ns' fun o' es' ep' e' d' o_=>k _ (rl.frame O ne tk e nf e' ⟨es',ep',d'⟩ ⟨_,ns',fun y v q=>by
   rw [y63] at q;by_cases z:y=n
   ·rw [if_pos z] at q;exact ⟨name,z▸hn,.inl ⟨hl,rv,if_pos rfl,qq q▸ev.keep (.refl _) tk⟩⟩
   ·rw [if_neg z] at q;exact x_EA (hm y v q) fun x hx nh=>⟨x,hx,(nh.keep (.refl _) tk).imp (fun r=>yO6 r fun a rv' b f=>⟨a,rv',(if_neg fun w=>z (zH hx (hn.trans (congrArg some w.symm)))).trans b,f⟩) id⟩⟩) tk ne) (by refine rz O.kind ?_;rfl)
variable {Qf:AF->St->Prop}
variable {X:St->Prop}
variable {p pos:Pos}
theorem yn9 (O:CxOk c) {e:Expr} (hn:T.names[n]? =some name) (hl:c.env.kindOf name=some .local) (hs:swapsWith e (some (.Name name p)) pos.line c.env=pure false)
 (h:W T c (Er T) (eval e c.env) (fun a σ1=>Qf .next ⟨σ1.H,put σ1.m n a⟩) X σ):W T c (FlR T) (exec (.Assign [.Name name p] e pos) c.env) Qf X σ:=fun μ s rl=>
 wpAny_Assign_Name (h.go rl.at fun v1 s1 μ1 a σ1 a1 e1 h1 p1 k1=>ko1 O a1 e1 hn hl fun s2 a2 o_ o_=>⟨μ1,.next,_,a2,.next,h1⟩) hs
structure TabOk (T:Tab):Prop where
 lim:∀h,T.K.In h->h.NoLimit
 glob:∀h,T.K.In h->∃mg,h.Ns qR mg
 blt:∀h,T.K.In h->∃mb,h.Ns qd1 mb
noncomputable def Room (A:Around) (k:Nat):Prop:=A.depth+2*k<=990/\A.units+8*k<=9000
end
inductive CRet (T:Tab) (μ:List Addr) (h:Hp) (Q:AV->List AO->Prop) (v:Value) (s':Shared):Prop
 |mk (μ':List Addr) (a:AV) (H':List AO) (e:Evo [] μ h.heap μ' s'.heap/\s'.os=h.os/\s'.gens=h.gens) (r:RH T μ' H' s'.heap) (er:Er T μ' s'.heap v a) (q:Q a H')
inductive CExc (T:Tab) (fr:List Env) (μ:List Addr) (h:Hp) (X:List AO->Prop) (e:Value) (s':Shared):Prop
 |mk (μ':List Addr) (H':List AO) (Bh:Heap) (ea:Addr) (he:e=.ref ea) (x:X H') (ev:Evo [] μ h.heap μ' Bh/\s'.os=h.os/\s'.gens=h.gens) (r:RH T μ' H' Bh) (fl:y6 T fr ea Bh s'.heap)
noncomputable def y5 (T:Tab) (fr:List Env) (μ:List Addr) (h:Hp) (Q:AV->List AO->Prop) (X:List AO->Prop) (r:Result) (s':Shared):Prop:=match r with
 |.ok (.ret v)=>CRet T μ h Q v s'
 |.ok _=>False
 |.error e=>CExc T fr μ h X e s'
noncomputable def yh (T:Tab) (k:Nat) (fv:Value) (args:List AV) (H:List AO) (Q:AV->List AO->Prop) (X:List AO->Prop):Prop:=
 ∀(A:Around) (fr:List Env) (μ:List Addr) (s:Shared) (vs:List Value),Room A k->A.frames=some fr->A.handled=none->kh1 T μ fr s.heap->RH T μ H s.heap->ErL T μ s.heap vs args->
  codeAny T.M A (.call fv ⟨vs,[]⟩) (y5 T fr μ (hpp s) Q X) s
structure FnAt (T:Tab) (f:Addr) (fd:FuncData) (body:List Stmt):Prop where
 o:∃oc od osl,T.K.lookup f=some ⟨oc,od,.func fd,osl⟩
 code:codeIn T.K fd.code fd.qualname=true
 body:fd.body=.stmts body
 clo:fd.closure=[]
 glob:fd.globals=qR
 blt:fd.builtins=qd1
 co:fd.scope.isCoroutine=false
 gen:fd.scope.isGenerator=false
 kind:fd.scope.kind=.function
theorem Evo.close {own μ h₀ h₁ μ' h'} (k:∀b o,(h₀:Heap).get? b=some o->(h₁:Heap).get? b=some o) (x:Evo own μ h₁ μ' h') (hf:∀a∈own,h₀.get? a=none):Evo [] μ h₀ μ' h':=by
 refine ⟨x.pre,fun a m=>?_,fun b o e n o_=>x.keep b o (k b o e) n (.inl fun m=>?_),fun b o e=>x.th b o (k b o e)⟩
 ·rcases x.fresh a m with q|q
  ·exact .inl q
  ·refine .inr ?_;rcases z:h₀.get? a with _|o
   ·rfl
   ·rw [k a o z] at q;injection q
 ·rw [hf b m] at e;injection e
section
variable {T:Tab}
theorem kh1.evo {l:List Env} {μ h μ' h'} (f:kh1 T μ l h) (x:Evo [] μ h μ' h'):kh1 T μ' l h':=
 f.keep (fun a m o e d=>⟨o,x.keep a o e (f.n a m) (.inl (by simp)),d⟩) fun a m q=>by
  rcases x.fresh a q with q|q
  ·exact f.n a m q
  ·refine x_EA (f.o a m) fun o e o_=>?_;rw [q] at e;injection e
variable {ps:List Str}
theorem zc {vs:List Value} (x:Str×Value) (m:x∈ps.zip vs):x.1∈ps:=(List.of_mem_zip (a:=x.1) (b:=x.2) m).1
variable {x:Str}
theorem y8 {ko:Str->Option NameKind}:∀{bs:List (Str×Value)} {m:Str->Option Value},(∀p∈bs,p.1≠x)->bindL ko bs m x=m x
 |[],_,_=>rfl
 |(n,v)::r,m,h=>by
  unfold bindL;refine rz (y8 fun p hp=>h p (.tail _ hp)) ?_;split
  ·exact if_neg (fun e=>h _ (.head _) e.symm)
  ·rfl
theorem y7 {ko:Str->Option NameKind}:∀{bs:List (Str×Value)} {m:Str->Option Value},(∀p∈bs,p.1≠x)->bindC ko bs m x=m x
 |[],_,_=>rfl
 |(n,v)::r,m,h=>by
  unfold bindC;refine rz (y7 fun p hp=>h p (.tail _ hp)) ?_;split
  ·rfl
  ·exact if_neg (fun e=>h _ (.head _) e.symm)
variable {v:Value}
theorem yn {ko:Str->Option NameKind} (hk:ko x=some .local):∀{bs:List (Str×Value)} {m:Str->Option Value},(bs.map (·.1)).Nodup->(x,v)∈bs->bindL ko bs m x=some v
 |[],_,_,h=>nomatch h
 |(n,w)::r,m,nd,h=>by
  rw [List.map_cons,qx] at nd;unfold bindL;rcases qC.mp h with e|h
  ·obtain ⟨rfl,rfl⟩:=Prod.mk.inj e
   refine rz (y8 fun p hp e=>nd.1 (by have:=List.mem_map_of_mem (f:=(·.1)) hp;rw [e] at this;exact this)) ?_;rw [if_pos hk,if_pos rfl]
  ·exact yn hk nd.2 h
theorem yP4 {ko:Str->Option NameKind} (hk:ko x≠some .local):∀{bs:List (Str×Value)} {m:Str->Option Value},(bs.map (·.1)).Nodup->(x,v)∈bs->bindC ko bs m x=some v
 |[],_,_,h=>nomatch h
 |(n,w)::r,m,nd,h=>by
  rw [List.map_cons,qx] at nd;unfold bindC;rcases qC.mp h with e|h
  ·obtain ⟨rfl,rfl⟩:=Prod.mk.inj e
   refine rz (y7 fun p hp e=>nd.1 (by have:=List.mem_map_of_mem (f:=(·.1)) hp;rw [e] at this;exact this)) ?_;rw [if_neg hk,if_pos rfl]
  ·exact yP4 hk nd.2 h
theorem yQ6 {vs:List Value} (h:ps.length=vs.length):(ps.zip vs).map (·.1)=ps:=List.map_fst_zip (qk h)
end
inductive ParL (T:Tab):List Nat->List Str->Prop
 |nil:ParL T [] []
 |cons {n s ns ss} (e:T.names[n]? =some s) (r:ParL T ns ss):ParL T (n::ns) (s::ss)
section
variable {T:Tab} {μ:List Addr} {h:Heap}
theorem ParL.at {ns ss} (P:ParL T ns ss):∀{vs as},ErL T μ h vs as->∀{n a},lk (ns.zip as) n=some a->∃s v,T.names[n]? =some s/\(s,v)∈ss.zip vs/\Er T μ h v a:=by
 induction P with
 |nil=>exact fun o_ o_ o_ e=>ja e
 | @cons i x ns ss hn r ih=>
  exact fun {vs as} el {n a}=>el.xm (p:=fun vs as=>lk ((i::ns).zip as) n=some a->∃s v,T.names[n]? =some s/\(s,v)∈(x::ss).zip vs/\Er T μ h v a) (fun e=>ja e) fun {v b vs as} hv hl e=>by
   refine (?_:∃s w,T.names[n]? =some s/\(s,w)∈(x,v)::ss.zip vs/\Er T μ h w a);by_cases q:n=i
   ·exact ⟨x,v,q▸hn,.head _,qq ((if_pos q).symm.trans e)▸hv⟩
   ·exact jp (ih hl ((if_neg q).symm.trans e)) fun s w e1 e2 e3=>⟨s,w,e1,.tail _ e2,e3⟩
theorem ParL.length {ns ss} (P:ParL T ns ss):ns.length=ss.length:=by
 induction P with
 |nil=>rfl
 |cons _ _ ih=>exact congrArg (·+1) ih
variable {ea:Addr} {Bh h':Heap}
theorem y61 {l:List Env} (f:y6 T l ea Bh h') (fo:∀a∈frs l,∃o,Bh.get? a=some o/\kZ o) (fe:∀env∈l,env.scope.kind≠.module/\∃L,env.frame=some L):
 (hideAll Bh (frs l)).StaysIn h'/\(hideAll Bh (frs l)).get? ea=none/\h'.FunFrames (hideAll Bh (frs l)) l:=by
 refine ⟨fun b o e=>f.keep b o (of_hideAll _ e) fun m=>?_,?_,?_⟩
 ·rw [hideAll_none _ m] at e;injection e
 ·rcases q:(hideAll Bh (frs l)).get? ea with _|o
  ·rfl
  ·have:=of_hideAll _ q;rw [f.none] at this;injection this
 ·have:∀l':List Env,(∀env∈l',env∈l)->h'.FunFrames (hideAll Bh (frs l)) l':=by
   intro l'
   induction l' with
   |nil=>intro _;trivial
   |cons env r ih=>
    intro hm;refine x_AE (fe env (hm _ (.head _))) fun hk L hL=>?_;have hLm:L∈frs l:=List.mem_filterMap.mpr ⟨env,hm _ (.head _),hL⟩;refine y3 (fo L hLm) fun o eo es n d=>x_E (f.slots L o eo hLm) fun sl e'=>⟨hk,⟨L,_,hL,hideAll_none _ hLm,e',fun vs q=>?_⟩,ih fun e he=>hm e (.tail _ he)⟩;change o.data=_ at q;rw [d] at q;injection q
  exact this l fun o_ h=>h
structure Kept (T:Tab) (l:List Env) (Bh h':Heap):Prop where
 keep:∀b o,Bh.get? b=some o->b∉frs l->h'.get? b=some o
 slots:∀b o,Bh.get? b=some o->b∈frs l->∃sl,h'.get? b=some {o with slots:=sl}
theorem yw8 {l:List Env} (f:y6 T l ea Bh h) (fo:∀a∈frs l,∃o,Bh.get? a=some o/\kZ o) (st:(hideAll Bh (frs l)).StaysIn h') (sl:∀b o,h.get? b=some o->(∀vs,o.data≠.fields vs)->∃sl,h'.get? b=some {o with slots:=sl}):Kept T l Bh h':=by
 refine ⟨fun b o e n=>st b o (hideAll_get _ e n),fun b o e m=>?_⟩;refine x_E (f.slots b o e m) fun sl1 e'=>y3 (fo b m) fun o' eo es n d=>?_;rw [e] at eo;obtain rfl:=qq eo;obtain ⟨sl',e''⟩:=sl b _ e' (fun vs q=>by change o.data=_ at q;rw [d] at q;injection q)
 exact ⟨sl',e''⟩
variable {A:Around} {env:Env} {outer:List Env} {L:Addr} {s:Shared} {Q:Unit->Shared->Prop}
theorem yi13 {E:Value->Shared->Prop} (hfr:A.frames=some (env::outer)) (hf:env.frame=some L) (f:y6 T (env::outer) ea Bh s.heap)
 (fo:∀a∈frs (env::outer),∃o,Bh.get? a=some o/\kZ o) (fe:∀env'∈env::outer,env'.scope.kind≠.module/\∃L,env'.frame=some L)
 (k:∀h' a0,Kept T (env::outer) Bh h'->h'.TracedW (hideAll Bh (frs (env::outer))) ea (.ref T.exc) a0->Q () {s with heap:=h'}):
 wpAny T.M A (leaving env (.ref ea)) Q E s:=by
 refine x_AA (y61 f fo fe) fun h1 h2 h3=>?_;have fin:∀h' a0,Heap.LeftW (hideAll Bh (frs (env::outer))) (env::outer) ea (.ref T.exc) a0 s.heap h'->Q () {s with heap:=h'}:=fun h' a0 hL=>by
  exact kJ (hL) fun x1 x2 x3 x4=>k h' a0 (yw8 f fo x1 x4) x3
 obtain ⟨a0,t|⟨env',r,L',q,hf',t⟩|⟨oe,vs,e1,e2,e3,e4,e5⟩⟩:=f.exc
 ·exact wpAny_leaving_nextW hfr h3 hf t h1 h2 (fun h'=>fin h' a0)
 ·cases q;rw [hf] at hf';obtain rfl:=qq hf';unfold leaving;refine qP (wpAny_noteFrame_againW hf t ?_);refine wpAny_setFlight_noneW h1 h3 t fun h' k1 k2 k3 k4=>k h' a0 (yw8 f fo k1 fun b o e n=>⟨o.slots,k4 b o e n⟩) k3
 ·exact wpAny_leaving_firstW hfr h3 hf e1 h1 h2 e3 e4 e5 (by exact rz e2 (fun h'=>fin h' a0))
theorem yN11 {E:Value->Shared->Prop} (hfr:A.frames=some (env::outer)) (hf:env.frame=some L) (f:y6 T (env::outer) ea Bh s.heap)
 (fo:∀a∈frs (env::outer),∃o,Bh.get? a=some o/\kZ o) (fe:∀env'∈env::outer,env'.scope.kind≠.module/\∃L,env'.frame=some L)
 (k:∀h' a0,y6 T (env::outer) ea Bh h'->h'.TracedAtW (hideAll Bh (frs (env::outer))) ea (.ref T.exc) a0 (rawInt L)->Q () {s with heap:=h'}):
 wpAny T.M A (noteFrame (.ref ea) env) Q E s:=by
 refine x_AA (y61 f fo fe) fun h1 h2 h3=>?_;have fin:∀h' a0,Heap.NotedW (hideAll Bh (frs (env::outer))) (env::outer) ea (.ref T.exc) a0 (rawInt L) s.heap h'->Q () {s with heap:=h'}:=fun h' a0 hL=>by
  refine kJ (hL) fun x1 x2 x3 x4=>?_;have kp:=yw8 f fo x1 x4;exact k h' a0 ⟨f.none,kp.keep,kp.slots,a0,.inr (.inl ⟨env,outer,L,rfl,hf,x3⟩)⟩ x3
 obtain ⟨a0,t|⟨env',r,L',q,hf',t⟩|⟨oe,vs,e1,e2,e3,e4,e5⟩⟩:=f.exc
 ·exact wpAny_noteFrame_onW hfr h3 hf t h1 h2 fun h'=>fin h' a0
 ·cases q;rw [hf] at hf';obtain rfl:=qq hf';exact wpAny_noteFrame_againW hf t (k s.heap a0 f t)
 ·unfold noteFrame;simp only [hf];refine qP (wpAny_field e1 e3 e4 ?_);exact rz (if_neg (by decide)) (wpAny_entryW hfr h3 hf e1 h1 h2 e3 (Array.getElem?_eq_some_iff.mp e4).1 e5 (by exact rz e2 (fun h'=>fin h' a0)))
end
section
variable {T:Tab}
inductive HX (T:Tab) (c:Cx) (X:St->Prop) (μ:List Addr) (h₀:Hp) (e:Value) (s':Shared):Prop
 |mk (μ':List Addr) (σ':St) (Bh:Heap) (ea L:Addr) (a0:Value) (he:e=.ref ea) (x:X σ') (av:At T c μ h₀ σ' μ' ⟨Bh,s'.os,s'.gens⟩) (fl:y6 T c.fr ea Bh s'.heap) (hf:c.env.frame=some L) (t:s'.heap.TracedAtW (hideAll Bh (frs c.fr)) ea (.ref T.exc) a0 (rawInt L))
variable {c:Cx} {X:St->Prop} {μ:List Addr} {h₀:Hp} {s:Shared} {outer:List Env} {L:Addr} {A:Around}
theorem EX.noted {e:Value} (O:CxOk c) (hfr:c.fr=c.env::outer) (hf:c.env.frame=some L) (x:EX T c X μ h₀ e s) (hA:A.frames=c.A.frames)
 {E:Value->Shared->Prop} (k:∀s',HX T c X μ h₀ e s'->E e s'):notedBy T.M A c.env E e s:=by
 obtain ⟨μ',σ',Bh,ea,rfl,hx,av,fl⟩:=x
 have rl:=av.rel;unfold notedBy;have fo:=rl.frs.o;have fe:=rl.frs.e;rw [hfr] at fl fo fe;refine yN11 (by exact rz hA (rz O.frames (rz hfr rfl))) hf fl fo fe fun h' a0 fl' t=>k _ ⟨μ',σ',Bh,ea,L,a0,rfl,hx,av,by exact rz hfr fl',hf,by exact rz hfr t⟩
theorem HX.back {e:Value} (hfr:c.fr=c.env::outer) (x:HX T c X μ h₀ e s) {E:Value->Shared->Prop} (k:∀s',EX T c X μ h₀ e s'->E e s'):cameBackBy T.M A c.env E e s:=by
 obtain ⟨μ',σ',Bh,ea,L,a0,rfl,hx,av,fl,hf,t⟩:=x
 have rl:=av.rel;refine jF (t) fun oe vs T' hz=>jS hz fun oT ts he hcls hd hz=>yC1 hz fun h1 hnT hTe hT hdT h3=>?_;unfold cameBackBy;refine qP (wpAny_field he hd h1 ?_);refine rz (if_neg (by simp)) ?_;unfold setFlight;refine qP (wpAny_field he hd h1 ?_);refine rz (if_pos (show (Value.ref T' != Value.none)=true from by simp)) ?_;have hsz3:3<ts.size:=(Array.getElem?_eq_some_iff.mp h3).1;refine wpAny_setField hT hdT hsz3 (k _ ⟨μ',σ',Bh,ea,rfl,hx,av,?_⟩);have other:∀b,b≠T'->(s.heap.update T' (Obj.mapFields (·.setIfInBounds 3 (c.env.frame.elim Value.none fun f=>rawInt f)))).get? b=s.heap.get? b:=fun b hb=>Heap.get?_update_other _ _ (Ne.symm hb);have nT:∀b o,Bh.get? b=some o->b≠T':=fun b o e q=>by
  subst q;by_cases m:b∈frs c.fr
  ·refine y3 (rl.frs.o b m) fun o' eo es n d=>x_E (fl.slots b _ eo m) fun sl e'=>?_;rw [hT] at e';obtain rfl:=qq e';change o'.data=_ at hdT;rw [d] at hdT;injection hdT
  ·rw [hideAll_get _ e m] at hnT;injection hnT
 refine ⟨fl.none,fun b o e n=>(other b (nT b o e)).trans (fl.keep b o e n),fun b o e m=>?_,a0,.inr (.inl ⟨c.env,outer,L,hfr,hf,?_⟩)⟩
 ·exact x_E (fl.slots b o e m) fun sl e'=>⟨sl,(other b (nT b o e)).trans e'⟩
 ·exact ⟨oe,vs,T',_,_,(other ea (Ne.symm hTe)).trans he,hcls,hd,h1,hnT,hTe,qN _ hT (Obj.isFreed_of_fields (Obj.data_mapFields hdT _)),Obj.data_mapFields hdT _,by refine rz hf ?_;simp [hsz3]⟩
variable {k:Nat} {f:Addr} {fd:FuncData} {body:List Stmt} {ns:List Nat} {ps:List Str} {args:List AV} {H:List AO} {Q:AV->List AO->Prop} {X:List AO->Prop}
noncomputable def jw (Q:AV->List AO->Prop) (fl:AF) (σ:St):Prop:=match fl with|.ret a=>Q a σ.H|.next=>Q .nil σ.H|_=>False
variable {prog:Program} {R:Result->Shared->Prop} {a:Addr} {vals:List Value}
theorem yU4 {w:World} {o:Obj} {binds:List (Str×Value)}
 (hroom:A.depth<recursionLimit) (ho:s.heap.get? a=some o) (hdata:o.data=.func fd) (hlim:s.heap.NoLimit) (hcd:s.heap.CodeRec fd.code fd.qualname)
 (hbody:fd.body=.stmts body) (hbind:BindsTo s fd ⟨vals,[]⟩ binds) (hclo:fd.closure=[])
 (hkind:∀x∈binds,fd.scope.names.lookup x.1=some .local\/(fd.scope.names.lookup x.1=some .cell/\((cellsFrom (s.heap.objs.size+1) fd.scope.names []).lookup x.1).isSome=true))
 (h:∀s₁,InCallC s (callEnvC fd s.heap.objs.size a).locals (bindL (callEnvC fd s.heap.objs.size a).kindOf binds fun o_=>none) (callEnvC fd s.heap.objs.size a).cells
  (bindC (callEnvC fd s.heap.objs.size a).kindOf binds fun o_=>none) s₁->
  wpAny (model prog w) (A.deeper (callEnvC fd s.heap.objs.size a)) (execs body (callEnvC fd s.heap.objs.size a)) (fun f s'=>R (.ok (.ret (match f with|.ret v=>v|_=>.none))) s')
   (fun e s'=>wpAny (model prog w) (A.deeper (callEnvC fd s.heap.objs.size a)) (leaving (callEnvC fd s.heap.objs.size a) e) (fun o_ s''=>R (.error e) s'') (fun e' s''=>R (.error e') s'') s') s₁)
 (hco:fd.scope.isCoroutine=false) (hgen:fd.scope.isGenerator=false) (hk:fd.scope.kind=.function):
 codeAny (model prog w) A (.call (.ref a) ⟨vals,[]⟩) R s:=by
 refine codeAny_call_function hroom ho hdata hco hgen hbody hcd (hbind _ _ _ _ ?_);refine rz hclo (wpAny_newFunctionEnv_cells hk hkind fun env he s' x=>?_);subst he;exact ⟨hlim.keeps x.toInCall.keep,codeAny_func (h s' x)⟩
theorem ya4 {α:Type} {o:Option α} (h:∀x,o=some x->False):o=none:=Option.eq_none_iff_forall_ne_some.mpr h
theorem zb (h:Heap):h.get? h.objs.size=none:=ya4 fun o_ e=>qo _ (qM e)
variable {h:Heap}
theorem RH.fresh_n (R:RH T μ H h):h.objs.size∉μ:=fun m=>x_EA (R.mem m) fun o_ e o_=>qo _ (qM e)
theorem RH.fresh_k (R:RH T μ H h):T.K.lookup h.objs.size=none:=ya4 fun o_ e=>qo _ (qM (R.top _ _ e))
noncomputable abbrev cx1 (A:Around) (env:Env) (fr:List Env) (L:Addr):Cx:=⟨A.deeper env,env,env::fr,[L]⟩
variable {env:Env} {fr:List Env}
theorem yz1 (hL:env.frame=some L) (m:a∈frs (env::fr)):a=L\/a∈frs fr:=by
 rw [frs,List.filterMap_cons,hL] at m;exact qC.mp m
theorem yo6 (hL:env.frame=some L) (m:a=L\/a∈frs fr):a∈frs (env::fr):=by
 rw [frs,List.filterMap_cons];exact rz hL (qC.mpr m)
theorem yR8 (hfr:A.frames=some fr) (hhd:A.handled=none) (rm:Room A (k+1)) (hk:env.scope.kind=.function) (hg:env.globals=qR) (hb:env.builtins=qd1) (hl:env.locals=L):CxOk (cx1 A env fr L):=
 ⟨Around.frames_deeper hfr,hk,hg,hb,qB.mpr hl,hhd,qb (Nat.add_le_add_left (qa rfl:3<=8*1) _) (qb (Nat.add_le_add_left (Nat.mul_le_mul_left 8 (Nat.le_add_left 1 k)) _) (qb rm.2 (qa rfl)))⟩
theorem ye1 (rm:Room A (k+1)):Room (A.deeper env) k:=
 ⟨by have:=rm.1;refine (?_:A.depth+1+2*k<=990);lia,by have:=rm.2;refine (?_:A.units+3+8*k<=9000);lia⟩
theorem yD6 {h₁:Heap} {m:Loc} (R:RH T μ H h) (FO:kh1 T μ fr h) (kp:∀b o,h.get? b=some o->h₁.get? b=some o) (hL:env.frame=some h.objs.size) (hk:env.scope.kind=.function) (hF:∃o,h₁.get? h.objs.size=some o/\kZ o) (hf:zD T μ env m h₁):Rel T (cx1 A env fr h.objs.size) ⟨H,m⟩ μ h₁:=
 ⟨R.keeps kp,hf,fun a m=>qB.mp m▸hF,fun a m=>qB.mp m▸R.fresh_n,fun a m=>qB.mp m▸R.fresh_k,
  ⟨fun e he=>(qC.mp he).elim (fun q=>q▸⟨by refine rz hk ?_;decide,_,hL⟩) (FO.e e),fun a m=>(yz1 hL m).elim (fun q=>q▸hF) fun m=>x_EA (FO.o a m) fun o e d=>⟨o,kp _ _ e,d⟩,fun a m=>(yz1 hL m).elim (fun q=>q▸R.fresh_n) (FO.n a),fun a m=>(yz1 hL m).elim (fun q=>q▸R.fresh_k) (FO.k a)⟩⟩
variable {s':Shared}
theorem yg3 {g g1:Hp} {e:Value} (hfr:A.frames=some fr) (hL:env.frame=some L) (none_:g.heap.get? L=none) (kL:T.K.lookup L=none)
 (kp:∀b o,g.heap.get? b=some o->g1.heap.get? b=some o) (ko:g1.os=g.os) (kg:g1.gens=g.gens) (z:EX T (cx1 A env fr L) (fun σ=>X σ.H) μ g1 e s'):
 wpAny T.M (A.deeper env) (leaving env e) (fun o_ s''=>y5 T fr μ g Q X (.error e) s'') (fun e' s''=>y5 T fr μ g Q X (.error e') s'') s':=by
 rcases z with ⟨μ',σ',Bh,ea,he,x,av',fl⟩
 ·subst he;have rl':=av'.rel;have evc:=av'.evo.close kp fun a m=>qB.mp m▸none_;refine yi13 (Around.frames_deeper hfr) hL fl rl'.frs.o rl'.frs.e fun h' a0 ⟨a1,a2⟩ a3=>?_;have LM:L∈frs (env::fr):=yo6 hL (.inl rfl);have hne:∀b o,b≠L->Bh.get? b=some o->(Bh.hide L).get? b=some o:=fun b o n e=>(Heap.hide_ne Bh n).trans e;have inv:∀{b o},(Bh.hide L).get? b=some o->b≠L:=fun {b o} e q=>ja (((congrArg (Bh.hide L).get? q).trans (Heap.hide_self Bh L)).symm.trans e);have neS:∀{b o},g.heap.get? b=some o->b≠L:=fun {b o} e q=>ja (none_.symm.trans ((congrArg g.heap.get? q).symm.trans e));have nf:∀o,Bh.get? L=some o->¬Froz o:=fun o e=>x_EA (rl'.frs.o _ LM) fun o' e' d=>x_EE d fun es n d=>qq (e'.symm.trans e)▸ky1 d;refine ⟨μ',σ'.H,Bh.hide L,ea,rfl,x,⟨⟨evc.pre,evc.fresh,fun b o e n q=>hne b o (neS e) (evc.keep b o e n q),fun b o e=>x_E (evc.th b o e) fun o' e'=>⟨o',hne b o' (neS e) e'⟩⟩,av'.os.trans ko,av'.gens.trans kg⟩,
   rl'.rh.but hne kL (rl'.frs.n _ LM) fun a o e z=>hne a o (fun q=>nf o (q▸e) z) e,⟨ya4 fun o e=>ja (fl.none.symm.trans (Heap.of_hide e)),fun b o e n=>a1 b o (Heap.of_hide e) fun m=>(yz1 hL m).elim (inv e) n,fun b o e m=>a2 b o (Heap.of_hide e) (yo6 hL (.inr m)),a0,.inl ?_⟩⟩
  rw [frs,List.filterMap_cons,hL] at a3;exact a3
noncomputable def yQ11 (fl:Flow):Value:=match fl with|.ret v=>v|_=>.none
variable {μ₀:List Addr} {σ:St}
theorem yB7 {g:Hp} {fl:Flow} {a:AF} (x:FlR T μ s'.heap fl a) (e:Evo [] μ₀ g.heap μ s'.heap/\s'.os=g.os/\s'.gens=g.gens) (R:RH T μ σ.H s'.heap):jw Q a σ->y5 T fr μ₀ g Q X (.ok (.ret (yQ11 fl))) s':=
 FlR.casesOn (motive:=fun fl a o_=>jw Q a σ->y5 T fr μ₀ g Q X (.ok (.ret (yQ11 fl))) s') x (fun q=>⟨μ,.nil,σ.H,e,R,.nil,q⟩) (fun q=>q.elim) (fun q=>q.elim) fun er q=>⟨μ,_,σ.H,e,R,er,q⟩
variable {dargs:List AV}
theorem yO3 (TO:TabOk T) (F:FnAt T f fd body) (hbind:∀(s:Shared) (vs:List Value),T.K.In s.heap->vs.length=args.length->∃ds,BindsTo s fd ⟨vs,[]⟩ (ps.zip (vs++ds))/\∀μ h,T.K.In h->ErL T μ h ds dargs) (hps:ParL T ns ps) (hnd:ps.Nodup) (hlen:(args++dargs).length=ns.length)
 (hkind:∀x∈ps,fd.scope.names.lookup x=some .local\/(fd.scope.names.lookup x=some .cell/\∀n,((cellsFrom n fd.scope.names []).lookup x).isSome=true))
 {A:Around} {fr:List Env} {μ:List Addr} {s:Shared} {vs:List Value} (rm:Room A (k+1)) (hfr:A.frames=some fr) (hhd:A.handled=none) (FO:kh1 T μ fr s.heap) (R:RH T μ H s.heap) (ev:ErL T μ s.heap vs args)
 (hb:∀L c,CxOk c->Room c.A k->c.env=callEnvC fd L f->c.fr=c.env::fr->c.own=[L]->W T c (FlR T) (execs body c.env) (jw Q) (fun σ=>X σ.H) ⟨H,ns.zip (args++dargs)⟩):
 codeAny T.M A (.call (.ref f) ⟨vs,[]⟩) (y5 T fr μ (hpp s) Q X) s:=by
 refine jF F.o fun oc od osl ho=>x_EA (hbind s vs R.top ev.length) fun ds hbi hds=>?_;have evd:=ev.append (hds μ _ R.top);have hnd':((ps.zip (vs++ds)).map (·.1)).Nodup:=by exact rz (yQ6 (evd.length.trans (hlen.trans hps.length)).symm) hnd
 refine yU4 (body:=body) (binds:=ps.zip (vs++ds)) (qd (qb (qi _ _) rm.1) (qa rfl)) (R.top _ _ ho) rfl (TO.lim _ R.top) (codeRec_of R.top F.code) F.body hbi F.clo
  (fun x hx=>(hkind x.1 (zc x hx)).imp id fun q=>⟨q.1,q.2 _⟩) (fun s₁ ic=>?_) F.co F.gen F.kind
 have kp:=ic.toInCall.keep;have same:s₁.os=s.os/\s₁.gens=s.gens:=x_EE ic.toInCall.same fun o_ o_ e=>e▸⟨rfl,rfl⟩;refine ku ic.toInCall.ns fun oL esL epL hoL hdL o_=>qV (hb s.heap.objs.size _ (yR8 hfr hhd rm F.kind F.glob F.blt rfl) (ye1 rm) rfl rfl rfl μ s₁ (yD6 R FO kp rfl F.kind ⟨oL,hoL,_,_,hdL⟩ ⟨_,ic.toInCall.ns,fun x v e=>?_⟩)) (fun fl s' z=>?_) (fun e s' z=>yg3 (g:=hpp s) (g1:=hpp s₁) hfr rfl (zb _) R.fresh_k kp same.1 same.2 z)
 ·refine jp (hps.at (evd.keep (.refl μ) (.of_keeps kp)) e) fun n rv hn hm er=>⟨n,hn,(hkind n (zc _ hm)).imp (fun hl=>⟨hl,rv,yn (ko:=(callEnvC fd s.heap.objs.size f).kindOf) hl hnd' hm,er⟩) fun q=>?_⟩;refine x_E (Option.isSome_iff_exists.mp (q.2 (s.heap.objs.size+1))) fun ca hca=>⟨.inl q.1,ca,rv,hca,?_,er⟩;exact yP4 (ko:=(callEnvC fd s.heap.objs.size f).kindOf) (fun e=>Option.noConfusion rfl (heq_of_eq (q.1.symm.trans e)) fun e=>NameKind.noConfusion (eq_of_heq e)) hnd' hm▸ic.cell n ca hca
 ·rcases z with ⟨μ',b,σ',av',fr',q⟩
  ·exact yB7 (g:=hpp s) fr' ⟨av'.evo.close kp fun a m=>(qB.mp m:a=s.heap.objs.size)▸zb s.heap,av'.os.trans same.1,av'.gens.trans same.2⟩ av'.rel.rh q
theorem yP7 (TO:TabOk T) (F:FnAt T f fd body) (hbind:∀vs:List Value,vs.length=ps.length->bindArgs fd ⟨vs,[]⟩=pure (ps.zip vs)) (hps:ParL T ns ps) (hnd:ps.Nodup) (hlen:args.length=ns.length)
 (hkind:∀x∈ps,fd.scope.names.lookup x=some .local\/(fd.scope.names.lookup x=some .cell/\∀n,((cellsFrom n fd.scope.names []).lookup x).isSome=true))
 (hb:∀L c fr,CxOk c->Room c.A k->c.env=callEnvC fd L f->c.fr=c.env::fr->c.own=[L]->W T c (FlR T) (execs body c.env) (jw Q) (fun σ=>X σ.H) ⟨H,ns.zip args⟩):yh T (k+1) (.ref f) args H Q X:=
 fun o_ fr o_ o_ o_ rm hfr hhd FO R ev=>yO3 TO F (dargs:=[]) (fun s vs o_ hv=>⟨[],by rw [List.append_nil];exact .of_eq (hbind vs (by refine rz hv ?_;rw [hlen,hps.length])),fun o_ o_ o_=>.nil⟩) hps hnd (by rw [List.append_nil];exact hlen) hkind rm hfr hhd FO R ev fun L c a b d e g=>by rw [List.append_nil];exact hb L c fr a b d e g
theorem yX6 (TO:TabOk T) (F:FnAt T f fd body) (hbind:∀(s:Shared) (vs:List Value),T.K.In s.heap->vs.length=args.length->∃ds,BindsTo s fd ⟨vs,[]⟩ (ps.zip (vs++ds))/\∀μ h,T.K.In h->ErL T μ h ds dargs) (hps:ParL T ns ps) (hnd:ps.Nodup) (hlen:(args++dargs).length=ns.length)
 (hkind:∀x∈ps,fd.scope.names.lookup x=some .local\/(fd.scope.names.lookup x=some .cell/\∀n,((cellsFrom n fd.scope.names []).lookup x).isSome=true))
 (hb:∀L c fr,CxOk c->Room c.A k->c.env=callEnvC fd L f->c.fr=c.env::fr->c.own=[L]->W T c (FlR T) (execs body c.env) (jw Q) (fun σ=>X σ.H) ⟨H,ns.zip (args++dargs)⟩):yh T (k+1) (.ref f) args H Q X:=
 fun o_ fr o_ o_ o_ rm hfr hhd FO R ev=>yO3 TO F hbind hps hnd hlen hkind rm hfr hhd FO R ev fun L c a b d e g=>hb L c fr a b d e g
noncomputable def y93:Expr->Bool
 |.Starred _ _=>false
 |_=>true
noncomputable def ju:List Expr->Bool
 |[]=>true
 |e::r=>y93 e&&ju r
theorem kc {e:Expr} {rest:List Expr} (h:y93 e=true):qX (e::rest) env=(false,eval e env)::qX rest env:=by
 rcases e with _|_|_|_|_|_|_|_|_|_|_|_|_|_|_|_|_|_|_|_|_|_|_|_|_|_|_<;>first|rfl|injection h
variable {pos:Pos}
theorem kn1:∀{es:List Expr},ju es=true->(backTo pos (qX es env)).any (·.1)=false
 |[],_=>rfl
 |e::r,h=>by
  refine x_A (qI.mp h) fun a b=>rz (kc a) ((?_:(false||(backTo pos (qX r env)).any (·.1))=false));refine rz (kn1 b) ?_;rfl
theorem yc1:∀{es:List Expr},ju es=true->(backTo pos (qX es env)).all (fun x=> !x.1)=true
 |[],_=>rfl
 |e::r,h=>by
  refine x_A (qI.mp h) fun a b=>rz (kc a) ((?_:(true&&(backTo pos (qX r env)).all (fun x=> !x.1))=true));refine rz (yc1 b) ?_;rfl
variable {Q:AV->St->Prop} {Ql:List AV->St->Prop} {Qf:AF->St->Prop} {X:St->Prop}
variable {μ':List Addr} {H':List AO}
theorem At.back (O:CxOk c) {g g':Hp} (a:At T c μ₀ h₀ σ μ g) (ee:Evo [] μ g.heap μ' g'.heap/\g'.os=g.os/\g'.gens=g.gens) (r:RH T μ' H' g'.heap):At T c μ₀ h₀ ⟨H',σ.m⟩ μ' g':=by
 refine x_AA (ee) fun e eo eg=>?_;have keep:∀b o,g.heap.get? b=some o->b∉μ->g'.heap.get? b=some o:=fun b o e' n=>e.keep b o e' n (.inl (by simp));refine ⟨⟨r,a.rel.fr.keep e.pre (e.tk a.rel.rh) (fun o e'=>keep _ o e' (a.rel.ownN _ O.loc)),fun b m=>?_,fun b m q=>?_,a.rel.ownK,a.rel.frs.evo e⟩,a.evo.trans e.less,eo.trans a.os,eg.trans a.gens⟩
 ·exact x_EA (a.rel.ownO b m) fun o e' d=>⟨o,keep b o e' (a.rel.ownN b m),d⟩
 ·rcases e.fresh b q with q|q
  ·exact a.rel.ownN b m q
  ·refine x_EA (a.rel.ownO b m) fun o e' o_=>?_;rw [q] at e';injection e'
end
section
variable {T:Tab}
variable {c:Cx}
variable {Q:AV->St->Prop}
inductive CQ (T:Tab) (c:Cx) (Q:AV->List AO->Prop) (μ₀:List Addr) (h₀:Hp) (μ:List Addr) (h:Heap) (m:Loc) (v:Value) (s':Shared):Prop
 |mk (μ':List Addr) (av:AV) (H':List AO) (a:At T c μ₀ h₀ ⟨H',m⟩ μ' (hpp s')) (er:Er T μ' s'.heap v av) (q:Q av H') (p:Pre μ μ') (k:TK h s'.heap)
variable {σ:St}
variable {k:Nat} {fv:Value} {args:List AV} {A:Around} {μ₀ μ:List Addr} {h₀:Hp} {s:Shared}
theorem yh.go {Q:AV->List AO->Prop} {X:List AO->Prop} (C:yh T k fv args σ.H Q X) (O:CxOk c) (rm:Room A k) (hA:A.frames=c.A.frames) (hh:A.handled=c.A.handled) {vs:List Value} (a:At T c μ₀ h₀ σ μ (hpp s)) (ev:ErL T μ s.heap vs args):
 wpAny T.M A (call fv vs) (CQ T c Q μ₀ h₀ μ s.heap σ.m) (EX T c (fun σ'=>σ'.m=σ.m/\X σ'.H) μ₀ h₀) s:=by
 refine wpAny_call (codeAny_mono (C A c.fr μ s vs rm (hA.trans O.frames) (hh.trans O.hnd) a.rel.frs a.rel.rh ev) fun r s' z=>?_);rcases r with e|(v|_|_|_)<;>first|exact z.elim|skip
 rotate_left
 ·obtain ⟨μ',av,H',e,r,er,q⟩:=z
  exact ⟨μ',av,H',a.back O (g':=hpp s') e r,er,q,e.1.pre,e.1.tk a.rel.rh⟩
 obtain ⟨μ',H',Bh,ea,e1,x,ev',r,fl⟩:=z
 have b:=a.back O (g':=⟨Bh,s'.os,s'.gens⟩) ev' r;exact ⟨μ',⟨H',σ.m⟩,Bh,ea,e1,⟨rfl,x⟩,b,fl⟩
noncomputable def yV2 (T:Tab) (c:Cx) (fv:Value) (args:List AV) (Q:AV->St->Prop) (X:St->Prop) (σ:St):Prop:=
 ∃k,Room c.A k/\yh T k fv args σ.H (fun a H'=>Q a ⟨H',σ.m⟩) (fun H'=>X ⟨H',σ.m⟩)
variable {X:St->Prop}
variable {Q':Value->Shared->Prop}
theorem yV2.wat (O:CxOk c) (C:yV2 T c fv args Q X σ) {vs:List Value} (a:At T c μ₀ h₀ σ μ (hpp s)) (ev:ErL T μ s.heap vs args)
 (k:∀v s' μ' av σ',At T c μ₀ h₀ σ' μ' (hpp s')->Er T μ' s'.heap v av->Q av σ'->Q' v s'):wpAny T.M c.A (call fv vs) Q' (EX T c X μ₀ h₀) s:=by
 exact x_EA (C) fun n rm C=>qV (C.go O rm rfl rfl a ev) (fun v s' ⟨μ',av,H',a',er,q,_,_⟩=>k v s' μ' av _ a' er q) fun e s' ⟨μ',σ',Bh,ea,e1,⟨hm,x⟩,y,z⟩=>⟨μ',σ',Bh,ea,e1,by obtain ⟨H,m⟩:=σ';subst hm;exact x,y,z⟩
variable {x:Str} {pos:Pos} {v:Value}
theorem y74 (TO:TabOk T) (O:CxOk c) (hk:c.env.kindOf x=some .globalImplicit) (hx:nsIn T.K qR x=some (some v)) (hd:(x==("__debug__":Str))=false) (X:T.K.In s.heap) {E} (h:Q' v s):
 wpAny T.M c.A (eval (.Name x pos) c.env) Q' E s:=by
 exact x_E (TO.glob _ X) fun mg g=>Calls.Name_function_global O.kind hk (Calls.loadGlobal_global (by exact rz O.glob g) (mg_of X g hx) h) hd
variable {h:Heap} {d:Addr}
theorem zI {K:Frag} {mg:Str->Option Value} {n:Str} (X:K.In h) (G:h.Ns d mg) (e:nsIn K d n=some (some v)):mg n=some v:=by
 refine jD (G) fun o es ep ho hd o_ hf=>?_;unfold nsIn at e;split at e
 ·rename_i c d es' n' sl q;have:=X _ _ q;rw [ho] at this;obtain rfl:=qq this
  cases hd;split at e
  ·rename_i en he;cases e;rw [<-hf];unfold nsFind findBy;refine rz (Eq.symm Array.find?_toList) ?_;refine rz he ?_;rfl
  ·split at e<;>nomatch e
 ·injection e
theorem yz5 (TO:TabOk T) (O:CxOk c) (hk:c.env.kindOf x=some .globalImplicit) (hx:nsIn T.K qR x=some none) (hb:nsIn T.K qd1 x=some (some v)) (hd:(x==("__debug__":Str))=false) (X:T.K.In s.heap) {E} (h:Q' v s):
 wpAny T.M c.A (eval (.Name x pos) c.env) Q' E s:=by
 exact x_E (TO.glob _ X) fun mg g=>x_E (TO.blt _ X) fun mb b=>Calls.Name_function_global O.kind hk (Calls.loadGlobal_builtin (by exact rz O.glob g) (mg_none_of X g hx) (by exact rz O.blt b) (zI X b hb) h) hd
variable {a:AV}
theorem y213 (TO:TabOk T) (O:CxOk c) (hk:c.env.kindOf x=some .globalImplicit) (hx:nsIn T.K qR x=some (some v)) (hd:(x==("__debug__":Str))=false) (hv:∀μ h,RH T μ σ.H h->Er T μ h v a) (h:Q a σ):
 W T c (Er T) (eval (.Name x pos) c.env) Q X σ:=fun μ s rl=>y74 TO O hk hx hd rl.rh.top ⟨μ,a,σ,rl.at,hv _ _ rl.rh,h⟩
variable {first:List Value} {es:List Expr} {env:Env}
theorem ku1 {P:Heap->Prop} (hs:ju es=true) {M:Model} {E}
 (hk:∀h,P h->∃k,(k=Keeper.frame\/k=Keeper.machine\/k=Keeper.boundFrame)/\Looks M h (keeperOf fv) k)
 (h:wpAny M A (spliced (backTo pos (qX es env))) (fun vs s₁=>P s₁.heap/\wpAny M A (call fv (first++vs)) Q' E s₁) E s):wpAny M A (callWith pos fv first (backTo pos (qX es env)) []) Q' E s:=by
 refine callWith_of (by refine rz (kn1 hs) ?_;rfl) hk ?_;rcases es with _|⟨e,r⟩
 ·refine (?_:wpAny M A (evalArgs fv true [] []) _ E s);unfold evalArgs;refine (?_:wpAny M A (spliced []>>=_) _ E s);refine qP (qV h (fun vs s₁ h₁=>?_) fun o_ o_ x=>x);exact qW (qP (qQ (qP (qQ (qQ h₁)))))
 ·refine x_A (qI.mp hs) fun a b=>?_;rw [kc a] at h⊢;exact evalArgs_plain h
variable {p:Pos}
theorem y110 (TO:TabOk T) (O:CxOk c) (hk:c.env.kindOf x=some .globalImplicit) (hx:nsIn T.K qR x=some (some fv)) (hd:(x==("__debug__":Str))=false) (hf:keepIn T.K fv=true) (hs:ju es=true)
 (h:W T c (ErL T) (spliced (backTo pos (qX es c.env))) (fun l σ1=>yV2 T c fv l Q X σ1) X σ):W T c (Er T) (eval (.Call (.Name x p) es [] pos) c.env) Q X σ:=fun μ s rl=>
 Call_Name rfl (y74 TO O hk hx hd rl.rh.top (ku1 (P:=T.K.In) hs (keeps_K hf) (h.go rl.at fun vs s1 μ1 l σ1 a1 e1 h1 p1 k1=>⟨a1.rel.rh.top,h1.wat O a1 e1 fun v s' μ' av σ' a' er q=>⟨μ',av,σ',a',er,q⟩⟩)))
noncomputable def z7:Expr->Bool
 |.Call (.Name _ _) [] [] _=>false
 |_=>true
variable {o:Expr} {name:Str} {whole:Sem Value}
theorem ye6 (h:z7 o=true):attributeBase o name env whole=whole:=by
 unfold attributeBase;split
 ·injection h
 ·rfl
variable {apos:Pos}
theorem y9 (hb:z7 o=true) (hl:(apos.endLine==pos.line)=true) (hs:ju es=true) (hn:(decide (es.length<30))=true):
 ∃pl,eval (.Call (.Attribute o name apos) es [] pos) env=(do
  let ov <-eval o env
  standAt apos.atName
  let (f,first) <-holding [ov] (getMethod ov name pl)
  callWith pos f first (backTo pos (qX es env)) (backToKw pos (keywordEach [] env))):=by
 refine ⟨do return (<-importBound o env).getD true,?_⟩;rw [arm_eval_Call];refine rz (ye6 hb) ?_;have hf:methodCallForm (es.length+([]:List Keyword).length) (backTo pos (qX es env)) (backToKw pos (keywordEach [] env))=true:=by
  unfold methodCallForm;refine rz (yc1 hs) ?_;have e:backToKw pos (keywordEach [] env)=[]:=rfl;refine rz e ?_;simpa using hn
 unfold methodCall calleeOf methodCallPos;simp only [hf,hl,Bool.not_true,Bool.false_or,if_true];rfl
variable {μ':List Addr} {h':Heap}
theorem kh1.keeps {l:List Env} (f:kh1 T μ l h) (k:∀b o,h.get? b=some o->h'.get? b=some o) (hn:∀a∈μ',a∈μ\/h.get? a=none):kh1 T μ' l h':=
 f.keep (fun a m o e d=>⟨o,k a o e,d⟩) fun a m q=>by
  rcases hn a q with q|q
  ·exact f.n a m q
  ·refine x_EA (f.o a m) fun o e o_=>?_;rw [q] at e;injection e
variable {Ql:List AV->St->Prop} {Qf:AF->St->Prop}
variable {C fI:Addr} {H:List AO}
theorem yq13 {Q:AV->List AO->Prop} {X:List AO->Prop} (hm:makesIn T.K C=true) (hi:findIn T.K (.ref C) "__init__"=some (some (.ref fI))) (hf:typeIn T.K (.ref fI)=some (.type "function"))
 (S:yh T k (.ref fI) (.ref (H.length+1)::args) (H++[.dict [],.inst C H.length]) (fun a H'=>a=.nil/\Q (.ref (H.length+1)) H') X):yh T (k+1) (.ref C) args H Q X:=by
 intro A fr μ s vs rm hfr hhd FO R ev;obtain ⟨h,g,d,t,os⟩:=s
 refine make_core (makes_of R.top hm) (looks_findIn R.top hi) (fun self=>bind_fn R.top self hf) (.inl rfl) ?_;have k1:=jm h emptyDict;have k2:=jm (h.push emptyDict) (instObj C h.objs.size);have R1:=R.push (o:=emptyDict) (ao:=.dict []) ⟨[],0,qK _ rfl,.nil,by simp,rfl⟩;have hsz:(h.push emptyDict).objs.size=h.objs.size+1:=Heap.size_push ..;have R2:=R1.push (o:=instObj C h.objs.size) (ao:=.inst C H.length) ⟨h.objs.size,by
  refine rz (qw (by simp [R.len])) ?_;refine rz (Eq.symm R.len) (rz (qv (qm _)) ?_);simp,qK _ rfl⟩
 rw [hsz] at R2;have hH:H++[AO.dict []]++[AO.inst C H.length]=H++[.dict [],.inst C H.length]:=by simp
 rw [hH] at R2;have kk:∀b o,h.get? b=some o->((h.push emptyDict).push (instObj C h.objs.size)).get? b=some o:=fun b o e=>k2 b o (k1 b o e);have fresh:∀a∈μ++[h.objs.size]++[h.objs.size+1],a∈μ\/h.get? a=none:=fun a m=>by
  simp only [List.append_assoc,qz,qC,List.not_mem_nil,or_false] at m;rcases m with m|m|m
  ·exact .inl m
  all_goals
   refine .inr ?_;rcases q:h.get? a with _|o
   ·rfl
   ·exact absurd (qM q) (by subst m;exact Nat.not_lt.mpr (by first|exact qm _|exact qp _))
 have pre:Pre μ (μ++[h.objs.size]++[h.objs.size+1]):=⟨[h.objs.size,h.objs.size+1],by simp⟩;have ev0:Evo [] μ h (μ++[h.objs.size]++[h.objs.size+1]) ((h.push emptyDict).push (instObj C h.objs.size)):=⟨pre,fresh,fun b o e o_ o_=>kk b o e,fun b o e=>⟨o,kk b o e⟩⟩;have hx:(μ++[h.objs.size]++[h.objs.size+1])[H.length+1]? =some (h.objs.size+1):=by
  refine rz (Eq.symm R.len) (rz (qv (by simp)) ?_);simp
 have call:=S (A.under (.builtin "type.__call__" ⟨.ref C::vs,[]⟩)) fr (μ++[h.objs.size]++[h.objs.size+1]) ⟨(h.push emptyDict).push (instObj C h.objs.size),g,d,t,os⟩ (.ref (h.objs.size+1)::vs)
  ⟨by have:=rm.1;refine (?_:A.depth+1+2*k<=990);lia,by have:=rm.2;refine (?_:A.units+1+8*k<=9000);lia⟩ hfr hhd (FO.keeps kk fresh) R2 (.cons (.ref hx) (ev.keep pre (.of_keeps kk)))
 refine codeAny_mono call fun r s' z=>?_;rcases r with e|(v|_|_|_)<;>first|exact z|exact z.elim|skip
 ·obtain ⟨μ',H',Bh,ea,e1,x,ev',r,fl⟩:=z
  exact ⟨μ',H',Bh,ea,e1,x,⟨ev0.trans ev'.1,ev'.2⟩,r,fl⟩
 ·obtain ⟨μ',av,H',e,r,er,rfl,q⟩:=z
  cases er;exact ⟨rfl,μ',.ref (H.length+1),H',⟨ev0.trans e.1,e.2⟩,r,.ref (e.1.pre.get hx),q⟩
variable {n:Nat}
theorem yp7 (O:CxOk c) {e:Expr} (hn:T.names[n]? =some name) (hs:swapsWith e (some (.Attribute o name p)) pos.line c.env=pure false)
 (h:W T c (Er T) (eval e c.env) (fun v σ1=>W T c (Er T) (eval o c.env) (fun a σ2=>SetA T n v (Qf .next) σ2 a) X σ1) X σ):W T c (FlR T) (exec (.Assign [.Attribute o name p] e pos) c.env) Qf X σ:=fun μ s rl=>
 plainObj_wpAny_Assign_Attribute (h.go rl.at fun v1 s1 μ1 a σ1 a1 e1 h1 p1 k1=>h1.go a1 fun v2 s2 μ2 b σ2 a2 e2 h2 p2 k2=>yn5 O a2 e2 (e1.keep p2 k2) hn h2 fun s' σ' a' o_ q=>⟨μ2,.next,σ',a',.next,q⟩) hs
noncomputable def WIn (T:Tab) (c:Cx) (op:Operator) (a b:AV) (Q:AV->St->Prop) (X:St->Prop) (σ:St):Prop:=
 ∀v1 v2,Wat T c (fun μ h=>Er T μ h v1 a/\Er T μ h v2 b) (Er T) (inplaceOp op v1 v2) Q X σ
variable {op:Operator}
theorem yn7 (O:CxOk c) {e:Expr} (hn:T.names[n]? =some name)
 (h:W T c (Er T) (eval o c.env) (fun a σ1=>GetA T n (fun old σ2=>W T c (Er T) (eval e c.env) (fun v σ3=>WIn T c op old v (fun w σ4=>SetA T n w (Qf .next) σ4 a) X σ3) X σ2) σ1 a) X σ):W T c (FlR T) (exec (.AugAssign (.Attribute o name p) op e pos) c.env) Qf X σ:=fun μ s rl=>
 wpAny_AugAssign_AttributeAny (h.go rl.at fun v1 s1 μ1 a σ1 a1 e1 h1 p1 k1=>y31 a1.rel e1 hn h1 fun rv av er q=>W.go (s:={s1 with toks:=s1.toks+1}) q a1 fun v2 s2 μ2 b σ2 a2 e2 h2 p2 k2=>
  (h2 rv v2).go a2 ⟨er.keep p2 k2,e2⟩ fun v3 s3 μ3 d σ3 a3 e3 h3 p3 k3=>yn5 O a3 (e1.keep (p2.trans p3) (k2.trans k3)) e3 hn h3 fun s' σ' a' o_ q=>⟨μ3,.next,σ',a',.next,q⟩)
theorem yo7 (O:CxOk c) {e:Expr} {old:AV} (hn:T.names[n]? =some name) (hl:c.env.kindOf name=some .local) (ho:lk σ.m n=some old)
 (h:W T c (Er T) (eval e c.env) (fun v σ3=>WIn T c op old v (fun w σ4=>Qf .next ⟨σ4.H,put σ4.m n w⟩) X σ3) X σ):W T c (FlR T) (exec (.AugAssign (.Name name p) op e pos) c.env) Qf X σ:=fun μ s rl=>by
 refine x_EA (rl.fr) fun mm ns q=>x_EA (q n old ho) fun x' hx' q=>?_;rw [hn] at hx';obtain rfl:=qq hx';rcases q with ⟨hk,rv,e0,er⟩|⟨hk,ca,rv,e0,ic,er⟩
 ·exact wpAny_AugAssign_Name (wpAny_loadName_local O.kind hk ns e0 (h.go rl.at fun v2 s2 μ2 b σ2 a2 e2 h2 p2 k2=>(h2 rv v2).go a2 ⟨er.keep p2 k2,e2⟩ fun v3 s3 μ3 d σ3 a3 e3 h3 p3 k3=>
   ko1 O a3 e3 hn hl fun s2 a2 o_ o_=>⟨μ3,.next,_,a2,.next,h3⟩))
 ·exact hk.elim (fun hk=>nomatch hl.symm.trans hk) fun hk=>nomatch hl.symm.trans hk
noncomputable def Kp (s s':Shared):Prop:=(∀b o,s.heap.get? b=some o->s'.heap.get? b=some o)/\s'.os=s.os/\s'.gens=s.gens
theorem At.kp {s':Shared} (a:At T c μ₀ h₀ σ μ (hpp s)) (k:Kp s s'):At T c μ₀ h₀ σ μ (hpp s'):=
 ⟨a.rel.keeps k.1,a.evo.trans (.keeps k.1),k.2.1.trans a.os,k.2.2.trans a.gens⟩
noncomputable def Gv (T:Tab) (H:List AO) (pre:List Addr->Heap->Prop) (t:Sem Value) (a:AV):Prop:=
 ∀(A:Around) (E:Value->Shared->Prop) (Q':Value->Shared->Prop) (μ:List Addr) (s:Shared),A.units<=9100->RH T μ H s.heap->pre μ s.heap->
  (∀v s',Kp s s'->Er T μ s'.heap v a->Q' v s')->wpAny T.M A t Q' E s
noncomputable abbrev Er1 (T:Tab) (v:Value) (a:AV) (μ:List Addr) (h:Heap):Prop:=Er T μ h v a
noncomputable abbrev Er2 (T:Tab) (v1 v2:Value) (a b:AV) (μ:List Addr) (h:Heap):Prop:=Er T μ h v1 a/\Er T μ h v2 b
variable {t:Sem Value}
theorem Gv.wat (O:CxOk c) {pre:List Addr->Heap->Prop} (g:Gv T σ.H pre t a) (h:Q a σ):Wat T c pre (Er T) t Q X σ:=fun μ s rl p=>
 g c.A _ _ μ s O.units rl.rh p fun v s' k e=>⟨μ,a,σ,(rl.at (g:=hpp s)).kp k,e,h⟩
noncomputable def GBin (T:Tab) (H:List AO) (op:Operator) (a b r:AV):Prop:=∀v1 v2,Gv T H (Er2 T v1 v2 a b) (binaryOp op v1 v2) r
noncomputable def GIn (T:Tab) (H:List AO) (op:Operator) (a b r:AV):Prop:=∀v1 v2,Gv T H (Er2 T v1 v2 a b) (inplaceOp op v1 v2) r
noncomputable def GUn (T:Tab) (H:List AO) (op:UnaryOp) (a r:AV):Prop:=∀v,Gv T H (Er1 T v a) (unaryOp op v) r
noncomputable def GCmp (T:Tab) (H:List AO) (op:CmpOp) (a b:AV) (r:Bool):Prop:=∀v1 v2,Gv T H (Er2 T v1 v2 a b) (compareOp op v1 v2) (.bool r)
theorem GBin.w (O:CxOk c) {op a b r:_} (g:GBin T σ.H op a b r) (h:Q r σ):WBin T c op a b Q X σ:=fun v1 v2=>(g v1 v2).wat O h
theorem GIn.w (O:CxOk c) {op a b r:_} (g:GIn T σ.H op a b r) (h:Q r σ):WIn T c op a b Q X σ:=fun v1 v2=>(g v1 v2).wat O h
theorem GUn.w (O:CxOk c) {op a r:_} (g:GUn T σ.H op a r) (h:Q r σ):WUn T c op a Q X σ:=fun v1=>(g v1).wat O h
theorem GCmp.w (O:CxOk c) {op a b r:_} (g:GCmp T σ.H op a b r) (h:Q (.bool r) σ):WCmp T c op a b Q X σ:=fun v1 v2=>(g v1 v2).wat O h
variable {i j r:Int}
noncomputable abbrev T1 (s:Shared):Shared:={heap:=s.heap,gens:=s.gens,drawn:=s.drawn,toks:=s.toks+1,os:=s.os}
theorem kp0:Kp s s:=⟨fun o_ o_ e=>e,rfl,rfl⟩
theorem kp1 {g:Nat}:Kp s {heap:=s.heap,gens:=s.gens,drawn:=s.drawn,toks:=g,os:=s.os}:=⟨fun o_ o_ e=>e,rfl,rfl⟩
noncomputable def TInt (T:Tab) (t:Sem Value) (r:Int):Prop:=∀{A:Around} {E Q:Value->Shared->Prop} {s:Shared},Q (.int r s.toks) (T1 s)->wpAny T.M A t Q E s
theorem TInt.g {p:List Addr->Heap->Prop} (h:TInt T t r) {E Q:Value->Shared->Prop} (k:∀v s',Kp s s'->Er T μ s'.heap v (.int r)->Q v s'):wpAny T.M A t Q E s:=h (k _ _ kp1 (.int _ _))
theorem kA1 (h:∀{t1 t2:Tok},TInt T (binaryOp op (.int i t1) (.int j t2)) r):GBin T H op (.int i) (.int j) (.int r):=fun v1 v2 A E Q' μ s u R p k=>
 p.1.xint (p:=fun v=>wpAny T.M A (binaryOp op v v2) Q' E s) fun t1=>p.2.xint (p:=fun v=>wpAny T.M A (binaryOp op (.int i t1) v) Q' E s) fun t2=>h (k _ _ kp1 (.int _ _))
theorem yT14:GBin T H .Add (.int i) (.int j) (.int (i+j)):=kA1 PyProof.Rows.add_int
theorem y714:GBin T H .Sub (.int i) (.int j) (.int (i-j)):=kA1 PyProof.Rows.sub_int
theorem y314 (h:i.natAbs<2^64):GBin T H .Mult (.int i) (.int j) (.int (i*j)):=kA1 fun q=>PyProof.Rows.mul_int q (.of_left (PyProof.Rows.intBits_le (k:=64) h))
theorem yW14 (h0:j≠0) (h:j.natAbs<1073741824):GBin T H .FloorDiv (.int i) (.int j) (.int (i.fdiv j)):=kA1 fun q=>PyProof.Rows.floordiv_int h0 q (.inl (PyProof.noPylong_small h))
theorem y214 (h0:j≠0):GBin T H .Mod (.int i) (.int j) (.int (i.fmod j)):=kA1 fun q=>PyProof.Rows.mod_int h0 q
theorem yU14:GBin T H .BitAnd (.int i) (.int j) (.int (Builtin.bitAnd i j)):=kA1 PyProof.Rows.and_int
theorem y614 (h0:0<=j) (h1:j<=1000000) (h:i.natAbs<2^64):GBin T H .LShift (.int i) (.int j) (.int (i*2^j.toNat)):=kA1 (PyProof.Rows.lshift_int_small h0 h1 h)
theorem yd8:GIn T H .Add (.int i) (.int j) (.int (i+j)):=fun v1 v2 A E Q' μ s u R p k=>
 p.1.xint (p:=fun v=>wpAny T.M A (inplaceOp .Add v v2) Q' E s) fun t1=>p.2.xint (p:=fun v=>wpAny T.M A (inplaceOp .Add (.int i t1) v) Q' E s) fun t2=>PyProof.Rows.iadd_int (k _ _ kp1 (.int _ _))
theorem y414:GUn T H .USub (.int i) (.int (-i)):=fun v A E Q' μ s u R p k=>
 p.xint (p:=fun v=>wpAny T.M A (unaryOp .USub v) Q' E s) fun t1=>PySem.P.neg_int (k _ _ kp1 (.int _ _))
theorem y514 {b:Bool}:GUn T H .Not (.bool b) (.bool (!b)):=fun v A E Q' μ s u R p k=>
 p.xbool (p:=fun v=>wpAny T.M A (unaryOp .Not v) Q' E s) (not_of (wpAny_truthy_bool (k _ _ kp0 (.bool _))))
theorem yF12 {l m:List UInt8} (h:l.length+m.length<=16777216):GBin T H .Add (.bytes l) (.bytes m) (.bytes (l++m)):=fun v1 v2 A E Q' μ s u R p k=>
 p.1.xbytes (p:=fun v=>wpAny T.M A (binaryOp .Add v v2) Q' E s) fun t1=>p.2.xbytes (p:=fun v=>wpAny T.M A (binaryOp .Add (.bytes ⟨l⟩ t1) v) Q' E s) fun t2=>PySem.W.KBy.add_bytes (b:=⟨l⟩) (c:=⟨m⟩) h fun t' n=>k _ _ kp1 (Er.bytesA (Array.toList_append (xs:=⟨l⟩) (ys:=⟨m⟩)) _)
noncomputable def jr:AV->Bool
 |.nil=>true
 |_=>false
theorem yd3 (e:Er T μ h v a):(v== .none)=jr a:=
 e.rec (motive_1:=fun v a o_=>(v== .none)=jr a) (motive_2:=fun o_ o_ o_=>True) rfl (fun o_=>rfl) (fun o_ o_=>rfl) (fun o_ o_=>rfl) (fun o_ o_=>rfl) (fun o_=>rfl) (fun o_ o_ o_=>rfl) (fun o_ o_ o_ o_ o_ o_ o_ o_ o_=>rfl) (fun o_=>rfl) trivial (fun o_ o_ o_ o_=>trivial)
theorem g_is:GCmp T H .Is a .nil (jr a):=fun v1 v2 A E Q' μ s u R p k=>
 p.2.xnil (p:=fun v=>wpAny T.M A (compareOp .Is v1 v) Q' E s) (PyProof.Rows.is_none_gen (yd3 p.1▸k _ _ kp0 (.bool _)))
theorem y89:GCmp T H .IsNot a .nil (!jr a):=fun v1 v2 A E Q' μ s u R p k=>
 p.2.xnil (p:=fun v=>wpAny T.M A (compareOp .IsNot v1 v) Q' E s) (PyProof.Rows.isnot_none_gen (yd3 p.1▸k _ _ kp0 (.bool _)))
theorem yw1 {op:CmpOp} {r:Bool} (h:∀{t1 t2:Tok} {A:Around} {E Q:Value->Shared->Prop} {s:Shared},Q (.bool r) s->wpAny T.M A (compareOp op (.int i t1) (.int j t2)) Q E s):GCmp T H op (.int i) (.int j) r:=fun v1 v2 A E Q' μ s u R p k=>
 p.1.xint (p:=fun v=>wpAny T.M A (compareOp op v v2) Q' E s) fun t1=>p.2.xint (p:=fun v=>wpAny T.M A (compareOp op (.int i t1) v) Q' E s) fun t2=>h (k _ _ kp0 (.bool _))
theorem g_lt:GCmp T H .Lt (.int i) (.int j) (decide (i<j)):=yw1 PyProof.Rows.lt_int
theorem g_le:GCmp T H .LtE (.int i) (.int j) (decide (i<=j)):=yw1 PyProof.Rows.le_int
theorem g_gt:GCmp T H .Gt (.int i) (.int j) (decide (j<i)):=yw1 PyProof.Rows.gt_int
theorem g_ge:GCmp T H .GtE (.int i) (.int j) (decide (j<=i)):=yw1 PyProof.Rows.ge_int
open PySem.SeqAt PySem.Spec Builtin
variable {b:Array UInt8} {t:Tok}
variable {x:Value} {Tx:String}
theorem jO (hT:∀s:Shared,s.TypeIs x Tx) (hs:isSubtype (.type Tx) (.type "bytes")=pure false):Gives («bytes.__eq__» ⟨[.bytes b t,x],[]⟩) (.val .notImplemented):=by
 refine .of_wp fun M A E s Q hq=>(?_:wpAny M A (isInstance x (.type "bytes")>>=fun r=>_) _ E s);refine qP (wpAny_isInstance (hT s) hs ?_);exact qP (wpAny_rule (qP (qQ (qQ ⟨_,rfl,hq⟩))))
theorem jP (hT:∀s:Shared,s.TypeIs x Tx) (hs:isSubtype (.type Tx) (.type "bytes")=pure false):Gives («bytes.__ne__» ⟨[.bytes b t,x],[]⟩) (.val .notImplemented):=by
 refine .of_wp fun M A E s Q hq=>(?_:wpAny M A (isInstance x (.type "bytes")>>=fun r=>_) _ E s);refine qP (wpAny_isInstance (hT s) hs ?_);exact qP (wpAny_rule (qP (qQ (qQ ⟨_,rfl,hq⟩))))
theorem zT (x:Str) (u:Tok):Gives («str.__eq__» ⟨[.str x u,.bytes b t],[]⟩) (.val .notImplemented):=.of_wp fun M A E s Q h=>by obtain ⟨hp,g,d,tk,os⟩:=s;wp_walk;exact ⟨_,rfl,h⟩
theorem zU (x:Str) (u:Tok):Gives («str.__ne__» ⟨[.str x u,.bytes b t],[]⟩) (.val .notImplemented):=.of_wp fun M A E s Q h=>by obtain ⟨hp,g,d,tk,os⟩:=s;wp_walk;exact ⟨_,rfl,h⟩
theorem yb3 (x:Int) (u:Tok):Gives («int.__eq__» ⟨[.int x u,.bytes b t],[]⟩) (.val .notImplemented):=.of_wp fun M A E s Q h=>by obtain ⟨hp,g,d,tk,os⟩:=s;wp_walk;exact ⟨_,rfl,h⟩
theorem yc3 (x:Int) (u:Tok):Gives («int.__ne__» ⟨[.int x u,.bytes b t],[]⟩) (.val .notImplemented):=.of_wp fun M A E s Q h=>by obtain ⟨hp,g,d,tk,os⟩:=s;wp_walk;exact ⟨_,rfl,h⟩
theorem yo (x:Bool):Gives («int.__eq__» ⟨[.bool x,.bytes b t],[]⟩) (.val .notImplemented):=.of_wp fun M A E s Q h=>by obtain ⟨hp,g,d,tk,os⟩:=s;wp_walk;exact ⟨_,rfl,h⟩
theorem yp (x:Bool):Gives («int.__ne__» ⟨[.bool x,.bytes b t],[]⟩) (.val .notImplemented):=.of_wp fun M A E s Q h=>by obtain ⟨hp,g,d,tk,os⟩:=s;wp_walk;exact ⟨_,rfl,h⟩
theorem yl3:Gives («NoneType.__eq__» ⟨[.none,.bytes b t],[]⟩) (.val .notImplemented):=.of_wp fun M A E s Q h=>by obtain ⟨hp,g,d,tk,os⟩:=s;wp_walk;exact ⟨_,rfl,h⟩
theorem ym3:Gives («NoneType.__ne__» ⟨[.none,.bytes b t],[]⟩) (.val .notImplemented):=.of_wp fun M A E s Q h=>by obtain ⟨hp,g,d,tk,os⟩:=s;wp_walk;exact ⟨_,rfl,h⟩
variable (b:Array UInt8) (t:Tok)
theorem ye2 (c:Array UInt8) (u:Tok):RcAt A s (.bytes b t) (.bytes c u) (b.toList==c.toList):=fun prog w E Q h=>eq_bytes h
theorem yr1 (c:Array UInt8) (u:Tok):RcNeAt A s (.bytes b t) (.bytes c u) (!(b.toList==c.toList)):=fun prog w E Q h=>ne_bytes h
theorem yh4 (x:Str) (u:Tok):RcAt A s (.bytes b t) (.str x u) false:=fun prog w E Q h=>
 rc_eq_decline_or (k:=false) (qf1 s b t) (typeIs_str s x u) (by decide) F.sub_str_bytes FB.slot_bytes_eq F.slot_str_eq_refl
  (fun o_ hq=>qS FB.slot_bytes_eq (qf1 s b t) FB.entry_bytes_eq (FB.args_bytes_eq_2 _ _) (jO (fun s=>typeIs_str s x u) F.sub_str_bytes) hq)
  (fun o_ hq=>qS F.slot_str_eq_refl (typeIs_str s x u) F.entry_str_eq (F.args_str_eq_2 _ _) (zT x u) hq)
  (fun o_ hq=>qT (rfl:isSame (.bytes b t) (.str x u)=pure false) hq) (.inl rfl) h
theorem yM2 (x:Str) (u:Tok):RcNeAt A s (.bytes b t) (.str x u) true:=fun prog w E Q h=>
 rc_ne_decline_or (k:=false) (qf1 s b t) (typeIs_str s x u) (by decide) F.sub_str_bytes FB.slot_bytes_ne F.slot_str_ne_refl
  (fun o_ hq=>qS FB.slot_bytes_ne (qf1 s b t) FB.entry_bytes_ne (FB.args_bytes_ne_2 _ _) (jP (fun s=>typeIs_str s x u) F.sub_str_bytes) hq)
  (fun o_ hq=>qS F.slot_str_ne_refl (typeIs_str s x u) F.entry_str_ne (F.args_str_ne_2 _ _) (zU x u) hq)
  (fun o_ hq=>qT (rfl:isSame (.bytes b t) (.str x u)=pure false) hq) (.inl rfl) h
theorem yj4 (x:Str) (u:Tok):RcAt A s (.str x u) (.bytes b t) false:=fun prog w E Q h=>
 rc_eq_decline_or (k:=false) (typeIs_str s x u) (qf1 s b t) (by decide) F.sub_bytes_str F.slot_str_eq FB.slot_bytes_eq
  (fun o_ hq=>qS F.slot_str_eq (typeIs_str s x u) F.entry_str_eq (F.args_str_eq_2 _ _) (zT x u) hq)
  (fun o_ hq=>qS FB.slot_bytes_eq (qf1 s b t) FB.entry_bytes_eq (FB.args_bytes_eq_2 _ _) (jO (fun s=>typeIs_str s x u) F.sub_str_bytes) hq)
  (fun o_ hq=>qT (rfl:isSame (.str x u) (.bytes b t)=pure false) hq) (.inl rfl) h
theorem yO2 (x:Str) (u:Tok):RcNeAt A s (.str x u) (.bytes b t) true:=fun prog w E Q h=>
 rc_ne_decline_or (k:=false) (typeIs_str s x u) (qf1 s b t) (by decide) F.sub_bytes_str F.slot_str_ne FB.slot_bytes_ne
  (fun o_ hq=>qS F.slot_str_ne (typeIs_str s x u) F.entry_str_ne (F.args_str_ne_2 _ _) (zU x u) hq)
  (fun o_ hq=>qS FB.slot_bytes_ne (qf1 s b t) FB.entry_bytes_ne (FB.args_bytes_ne_2 _ _) (jP (fun s=>typeIs_str s x u) F.sub_str_bytes) hq)
  (fun o_ hq=>qT (rfl:isSame (.str x u) (.bytes b t)=pure false) hq) (.inl rfl) h
theorem yg4 (x:Int) (u:Tok):RcAt A s (.bytes b t) (.int x u) false:=fun prog w E Q h=>
 rc_eq_decline_or (k:=false) (qf1 s b t) (typeIs_int s x u) (by decide) F.sub_int_bytes FB.slot_bytes_eq F.slot_int_eq_refl
  (fun o_ hq=>qS FB.slot_bytes_eq (qf1 s b t) FB.entry_bytes_eq (FB.args_bytes_eq_2 _ _) (jO (fun s=>typeIs_int s x u) F.sub_int_bytes) hq)
  (fun o_ hq=>qS F.slot_int_eq_refl (typeIs_int s x u) F.entry_int_eq (F.args_int_eq_2 _ _) (yb3 x u) hq)
  (fun o_ hq=>qT (rfl:isSame (.bytes b t) (.int x u)=pure false) hq) (.inl rfl) h
theorem yi4 (x:Int) (u:Tok):RcAt A s (.int x u) (.bytes b t) false:=fun prog w E Q h=>
 rc_eq_decline_or (k:=false) (typeIs_int s x u) (qf1 s b t) (by decide) F.sub_bytes_int F.slot_int_eq FB.slot_bytes_eq
  (fun o_ hq=>qS F.slot_int_eq (typeIs_int s x u) F.entry_int_eq (F.args_int_eq_2 _ _) (yb3 x u) hq)
  (fun o_ hq=>qS FB.slot_bytes_eq (qf1 s b t) FB.entry_bytes_eq (FB.args_bytes_eq_2 _ _) (jO (fun s=>typeIs_int s x u) F.sub_int_bytes) hq)
  (fun o_ hq=>qT (rfl:isSame (.int x u) (.bytes b t)=pure false) hq) (.inl rfl) h
theorem yJ2:RcAt A s (.bytes b t) .none false:=fun prog w E Q h=>
 rc_eq_decline_or (k:=false) (qf1 s b t) rfl (by decide) F.sub_NoneType_bytes FB.slot_bytes_eq F.slot_NoneType_eq_refl
  (fun o_ hq=>qS FB.slot_bytes_eq (qf1 s b t) FB.entry_bytes_eq (FB.args_bytes_eq_2 _ _) (jO (fun o_=>rfl) F.sub_NoneType_bytes) hq)
  (fun o_ hq=>qS F.slot_NoneType_eq_refl rfl F.entry_NoneType_eq (F.args_NoneType_eq_2 _ _) yl3 hq)
  (fun o_ hq=>qT (rfl:isSame (.bytes b t) .none=pure false) hq) (.inl rfl) h
theorem yK2:RcAt A s .none (.bytes b t) false:=fun prog w E Q h=>
 rc_eq_decline_or (k:=false) rfl (qf1 s b t) (by decide) F.sub_bytes_NoneType F.slot_NoneType_eq FB.slot_bytes_eq
  (fun o_ hq=>qS F.slot_NoneType_eq rfl F.entry_NoneType_eq (F.args_NoneType_eq_2 _ _) yl3 hq)
  (fun o_ hq=>qS FB.slot_bytes_eq (qf1 s b t) FB.entry_bytes_eq (FB.args_bytes_eq_2 _ _) (jO (fun o_=>rfl) F.sub_NoneType_bytes) hq)
  (fun o_ hq=>qT (rfl:isSame .none (.bytes b t)=pure false) hq) (.inl rfl) h
theorem yI2 (x:Bool):RcAt A s (.bytes b t) (.bool x) false:=fun prog w E Q h=>
 rc_eq_decline_or (k:=false) (qf1 s b t) rfl (by decide) F.sub_bool_bytes FB.slot_bytes_eq F.slot_bool_eq_refl
  (fun o_ hq=>qS FB.slot_bytes_eq (qf1 s b t) FB.entry_bytes_eq (FB.args_bytes_eq_2 _ _) (jO (fun o_=>rfl) F.sub_bool_bytes) hq)
  (fun o_ hq=>qS F.slot_bool_eq_refl rfl F.entry_int_eq (F.args_int_eq_2 _ _) (yo x) hq)
  (fun o_ hq=>qT (rfl:isSame (.bytes b t) (.bool x)=pure false) hq) (.inl rfl) h
theorem yH2 (x:Bool):RcAt A s (.bool x) (.bytes b t) false:=fun prog w E Q h=>
 rc_eq_decline_or (k:=false) rfl (qf1 s b t) (by decide) F.sub_bytes_bool F.slot_bool_eq FB.slot_bytes_eq
  (fun o_ hq=>qS F.slot_bool_eq rfl F.entry_int_eq (F.args_int_eq_2 _ _) (yo x) hq)
  (fun o_ hq=>qS FB.slot_bytes_eq (qf1 s b t) FB.entry_bytes_eq (FB.args_bytes_eq_2 _ _) (jO (fun o_=>rfl) F.sub_bool_bytes) hq)
  (fun o_ hq=>qT (rfl:isSame (.bool x) (.bytes b t)=pure false) hq) (.inl rfl) h
theorem yL2 (x:Int) (u:Tok):RcNeAt A s (.bytes b t) (.int x u) true:=fun prog w E Q h=>
 rc_ne_decline_or (k:=false) (qf1 s b t) (typeIs_int s x u) (by decide) F.sub_int_bytes FB.slot_bytes_ne F.slot_int_ne_refl
  (fun o_ hq=>qS FB.slot_bytes_ne (qf1 s b t) FB.entry_bytes_ne (FB.args_bytes_ne_2 _ _) (jP (fun s=>typeIs_int s x u) F.sub_int_bytes) hq)
  (fun o_ hq=>qS F.slot_int_ne_refl (typeIs_int s x u) F.entry_int_ne (F.args_int_ne_2 _ _) (yc3 x u) hq)
  (fun o_ hq=>qT (rfl:isSame (.bytes b t) (.int x u)=pure false) hq) (.inl rfl) h
theorem yN2 (x:Int) (u:Tok):RcNeAt A s (.int x u) (.bytes b t) true:=fun prog w E Q h=>
 rc_ne_decline_or (k:=false) (typeIs_int s x u) (qf1 s b t) (by decide) F.sub_bytes_int F.slot_int_ne FB.slot_bytes_ne
  (fun o_ hq=>qS F.slot_int_ne (typeIs_int s x u) F.entry_int_ne (F.args_int_ne_2 _ _) (yc3 x u) hq)
  (fun o_ hq=>qS FB.slot_bytes_ne (qf1 s b t) FB.entry_bytes_ne (FB.args_bytes_ne_2 _ _) (jP (fun s=>typeIs_int s x u) F.sub_int_bytes) hq)
  (fun o_ hq=>qT (rfl:isSame (.int x u) (.bytes b t)=pure false) hq) (.inl rfl) h
theorem yh2:RcNeAt A s (.bytes b t) (.none) true:=fun prog w E Q h=>
 rc_ne_decline_or (k:=false) (qf1 s b t) rfl (by decide) F.sub_NoneType_bytes FB.slot_bytes_ne F.slot_NoneType_ne_refl
  (fun o_ hq=>qS FB.slot_bytes_ne (qf1 s b t) FB.entry_bytes_ne (FB.args_bytes_ne_2 _ _) (jP (fun o_=>rfl) F.sub_NoneType_bytes) hq)
  (fun o_ hq=>qS F.slot_NoneType_ne_refl rfl F.entry_NoneType_ne (F.args_NoneType_ne_2 _ _) (ym3) hq)
  (fun o_ hq=>qT (rfl:isSame (.bytes b t) (.none)=pure false) hq) (.inl rfl) h
theorem yi2:RcNeAt A s (.none) (.bytes b t) true:=fun prog w E Q h=>
 rc_ne_decline_or (k:=false) rfl (qf1 s b t) (by decide) F.sub_bytes_NoneType F.slot_NoneType_ne FB.slot_bytes_ne
  (fun o_ hq=>qS F.slot_NoneType_ne rfl F.entry_NoneType_ne (F.args_NoneType_ne_2 _ _) (ym3) hq)
  (fun o_ hq=>qS FB.slot_bytes_ne (qf1 s b t) FB.entry_bytes_ne (FB.args_bytes_ne_2 _ _) (jP (fun o_=>rfl) F.sub_NoneType_bytes) hq)
  (fun o_ hq=>qT (rfl:isSame (.none) (.bytes b t)=pure false) hq) (.inl rfl) h
theorem yg2 (x:Bool):RcNeAt A s (.bytes b t) (.bool x) true:=fun prog w E Q h=>
 rc_ne_decline_or (k:=false) (qf1 s b t) rfl (by decide) F.sub_bool_bytes FB.slot_bytes_ne F.slot_bool_ne_refl
  (fun o_ hq=>qS FB.slot_bytes_ne (qf1 s b t) FB.entry_bytes_ne (FB.args_bytes_ne_2 _ _) (jP (fun o_=>rfl) F.sub_bool_bytes) hq)
  (fun o_ hq=>qS F.slot_bool_ne_refl rfl F.entry_int_ne (F.args_int_ne_2 _ _) (yp x) hq)
  (fun o_ hq=>qT (rfl:isSame (.bytes b t) (.bool x)=pure false) hq) (.inl rfl) h
theorem yf2 (x:Bool):RcNeAt A s (.bool x) (.bytes b t) true:=fun prog w E Q h=>
 rc_ne_decline_or (k:=false) rfl (qf1 s b t) (by decide) F.sub_bytes_bool F.slot_bool_ne FB.slot_bytes_ne
  (fun o_ hq=>qS F.slot_bool_ne rfl F.entry_int_ne (F.args_int_ne_2 _ _) (yp x) hq)
  (fun o_ hq=>qS FB.slot_bytes_ne (qf1 s b t) FB.entry_bytes_ne (FB.args_bytes_ne_2 _ _) (jP (fun o_=>rfl) F.sub_bool_bytes) hq)
  (fun o_ hq=>qT (rfl:isSame (.bool x) (.bytes b t)=pure false) hq) (.inl rfl) h
noncomputable def eqL (f:AV->AV->Option Bool) (l m:List AV):Option Bool:=(l.zipWith f m).foldr (fun o r=>o.bind fun x=>r.map (x&&·)) (some true)
noncomputable def nB (x:Bool):AV->Bool
 |.bool y=>x==y
 |.int y=>(if x then 1 else 0)==y
 |_=>false
noncomputable def nI (x:Int):AV->Bool
 |.bool y=>x==(if y then 1 else 0)
 |.int y=>x==y
 |_=>false
noncomputable def nS (x:Nat):AV->Bool
 |.str y=>x==y
 |_=>false
noncomputable def nY (x:List UInt8):AV->Bool
 |.bytes y=>x==y
 |_=>false
noncomputable def vTup (f:AV->AV->Option Bool) (l:List AV) (b:AV):Option Bool:=match b with
 |.tup m=>(eqL f l m).map (·&&l.length==m.length)
 |b=>gd (okA false false b) false
noncomputable def vRef (H:List AO) (f:AV->AV->Option Bool) (i:Nat) (b:AV):Option Bool:=(zy b).bind fun j=>(lsAt H i).bind fun l=>(lsAt H j).bind fun m=>if l.length=m.length then eqL f l m else some false
noncomputable def eqS (H:List AO) (f:AV->AV->Option Bool) (a b:AV):Option Bool:=match a with
 |.nil=>gd (okA true true b) (jr b)
 |.bool x=>gd (okA true true b) (nB x b)
 |.int x=>gd (okA true true b) (nI x b)
 |.str x=>gd (okA true true b) (nS x b)
 |.bytes x=>gd (okA true false b) (nY x b)
 |.tup l=>vTup f l b
 |.ref i=>vRef H f i b
 |_=>none
noncomputable def eqV (H:List AO) (n:Nat):AV->AV->Option Bool:=Nat.rec (motive:=fun o_=>AV->AV->Option Bool) (fun o_ o_=>none) (fun o_ f=>eqS H f) n
variable {f:AV->AV->Option Bool}
theorem ym5 (ih:∀{a b v r},f a b=some r->Er T μ h v a->Er T μ h v b->r=true) {vs:List Value} {l:List AV} (x:ErL T μ h vs l):∀{m:List AV} {y:Bool},eqL f l m=some y->ErL T μ h vs m->y=true:=
 x.ind (m:=fun vs l=>∀{m y},eqL f l m=some y->ErL T μ h vs m->y=true) (fun e o_=>(qq e).symm) fun {v a vs l} h1 h2 ih2 {m y} e g=>
  g.xv (p:=fun m=>eqL f (a::l) m=some y->y=true) (fun {b m} g1 g2 e=>ob_e e fun q e1 e=>om_e e fun z e2 e=>e.symm.trans (qI.mpr ⟨ih e1 h1 g1,ih2 e2 g2⟩)) e
theorem yR11 {P:Value->Value->Bool->Prop} (ih:∀{a b v w r},f a b=some r->Er T μ h v a->Er T μ h w b->P v w r) {vs:List Value} {l:List AV} (x:ErL T μ h vs l):∀{ws:List Value} {m:List AV} {y:Bool} {G:Prop},ErL T μ h ws m->eqL f l m=some y->
 (∀g:Nat->Bool,(∀j (g1:j<vs.length) (g2:j<ws.length),P vs[j] ws[j] (g j))->(List.range (min vs.length ws.length)).all g=y->G)->G:=
 x.ind (m:=fun vs l=>∀{ws:List Value} {m:List AV} {y:Bool} {G:Prop},ErL T μ h ws m->eqL f l m=some y->
  (∀g:Nat->Bool,(∀j (g1:j<vs.length) (g2:j<ws.length),P vs[j] ws[j] (g j))->(List.range (min vs.length ws.length)).all g=y->G)->G)
  (fun {ws} o_ o_ o_ o_ e k=>k (fun o_=>true) (fun o_ g o_=>(Nat.not_lt_zero _ g).elim) ((congrArg (fun n=>(List.range n).all fun o_=>true) (Nat.zero_min ws.length)).trans (qq e)))
  fun {v a vs l} h1 h2 ih2 {ws m y G} g=>g.ind (m:=fun ws m=>eqL f (a::l) m=some y->(∀g:Nat->Bool,(∀j (g1:j<vs.length+1) (g2:j<ws.length),P (v::vs)[j] ws[j] (g j))->(List.range (min (vs.length+1) ws.length)).all g=y->G)->G)
   (fun e k=>k (fun o_=>true) (fun o_ o_ g=>(Nat.not_lt_zero _ g).elim) (qq e))
   fun {w b ws m} g1 g2 o_ e k=>ob_e e fun q e1 e=>om_e e fun z e2 e=>ih2 g2 e2 fun g pg eg=>k (fun j=>Nat.casesOn j q g)
    (fun j=>Nat.casesOn j (fun o_ o_=>ih e1 h1 g1) fun j a1 a2=>pg j (Nat.lt_of_succ_lt_succ a1) (Nat.lt_of_succ_lt_succ a2))
    (by refine rz List.length_cons ?_;rw [Nat.succ_min_succ,List.range_succ_eq_map,List.all_cons,List.all_map];exact (congrArg (q&&·) eg).trans e)
variable {i:Nat} {b:AV} {r:Bool}
theorem yl9 {p:AV->Prop} (e:vRef H f i b=some r) (k:∀{j l m},H[i]? =some (.list l)->H[j]? =some (.list m)->(if l.length=m.length then eqL f l m else some false)=some r->p (.ref j)):p b:=
 ob_e e fun o_ e0 e=>ob_e e fun o_ e1 e=>ob_e e fun o_ e2 e=>ja1 e0▸k (j6 e1) (j6 e2) e
theorem ym9 {l m:List AV} {p:Bool->Prop} (e:vTup f l (.tup m)=some r) (k:∀z,eqL f l m=some z->p (z&&l.length==m.length)):p r:=om_e e fun z e1 e2=>e2▸k z e1
noncomputable def VInv (T:Tab) (b:AV):Value->Prop
 |.none=>b=.nil
 |.bool q=>b=.bool q
 |.int i _=>b=.int i
 |.str s _=>∃n,T.names[n]? =some s/\b=.str n
 |.bytes l _=>b=.bytes l.toList
 |_=>True
theorem Er.vinv (y:Er T μ h v a):VInv T a v:=
 y.xall (p:=fun v a=>VInv T a v) rfl (fun o_=>rfl) (fun o_ o_=>rfl) (fun o_ e=>⟨_,e,rfl⟩) (fun o_ o_=>rfl) (fun o_=>trivial) (fun o_ o_=>trivial) (fun o_ o_=>trivial) trivial
noncomputable def yG6 (P:Addr->Prop):Value->Prop
 |.ref a=>P a
 |_=>True
variable {its:List Value}
theorem yf9 {l:List AV} {a:Addr} (ih:∀{a b v r},f a b=some r->Er T μ h v a->Er T μ h v b->r=true) (ho:h.get? a=some (j9 its)) (hl:ErL T μ h its l) (e:vTup f l b=some r) (y:Er T μ h (.ref a) b):r=true:=
 y.xall (p:=fun v b=>yG6 (fun a'=>a'=a->vTup f l b=some r->r=true) v) trivial (fun o_=>trivial) (fun o_ o_=>trivial) (fun o_ o_=>trivial) (fun o_ o_=>trivial) (fun o_ o_ e=>ja e)
  (fun {a' its' m} ho' hl' w e=>ym9 (p:=(·=true)) e fun z hz=>qI.mpr ⟨ym5 ih hl hz ((Array.mk.inj (Data.seq.inj (Obj.mk.inj (qq (ho'.symm.trans ((congrArg h.get? w).trans ho)))).2.2.1).1:its'=its)▸hl'),beq_iff_eq.mpr (hl.length.symm.trans ((congrArg List.length (Array.mk.inj (Data.seq.inj (Obj.mk.inj (qq (ho'.symm.trans ((congrArg h.get? w).trans ho)))).2.2.1).1)).symm.trans hl'.length))⟩) (fun o_ o_ o_ e=>ja e) (fun o_ e=>ja e) rfl e
theorem y28 {a:Addr} (R:RH T μ H h) (ih:∀{a b v r},f a b=some r->Er T μ h v a->Er T μ h v b->r=true) (e1:μ[i]? =some a) (e:vRef H f i b=some r) (y:Er T μ h (.ref a) b):r=true:=
 yl9 (p:=fun b=>Er T μ h (.ref a) b->r=true) e (fun {j l m} hl hm q y=>y.xref (p:=yG6 (fun a'=>a'=a->r=true)) (fun e2 w=>by
  have hj:j=i:=yA R.nd e2 (e1.trans (congrArg some w.symm));subst hj;have lm:l=m:=qq (congrArg AO.ls (qq (hl.symm.trans hm)));subst lm;rw [if_pos rfl] at q;exact kK (R.at hl) fun a ha its k ho el=>ym5 ih el q el) rfl) y
theorem y44 (R:RH T μ H h) (n:Nat):∀{a b:AV} {v:Value} {r:Bool},eqV H n a b=some r->Er T μ h v a->Er T μ h v b->r=true:=by
 induction n with
 |zero=>exact fun e=>ja e
 |succ n ih=>
  intro a b v r e x;exact x.xall (p:=fun v a=>eqV H (n+1) a b=some r->Er T μ h v b->r=true) (fun e=>gd_e (p:=fun r=>Er T μ h .none b->r=true) e fun o_ y=>(y.vinv:b=.nil)▸rfl) (fun q e=>gd_e (p:=fun r=>Er T μ h (.bool q) b->r=true) e fun o_ y=>(y.vinv:b=.bool q)▸beq_self_eq_true q) (fun j u e=>gd_e (p:=fun r=>Er T μ h (.int j u) b->r=true) e fun o_ y=>(y.vinv:b=.int j)▸beq_self_eq_true j)
   (fun {i s} u q e=>gd_e (p:=fun r=>Er T μ h (.str s u) b->r=true) e fun o_ y=>x_EA (y.vinv:∃n,T.names[n]? =some s/\b=.str n) fun j h1 h2=>h2▸beq_iff_eq.mpr (zH q h1)) (fun l u e=>gd_e (p:=fun r=>Er T μ h (.bytes ⟨l⟩ u) b->r=true) e fun o_ y=>(y.vinv:b=.bytes l)▸beq_self_eq_true l)
   (fun h1 e=>y28 (f:=eqV H n) R ih h1 e) (fun h1 h2 e=>yf9 (f:=eqV H n) ih h1 h2 e) (fun o_ o_ e=>ja e) (fun e=>ja e) e
variable {v1 v2:Value}
theorem rcEq (rc:RcAt A s v1 v2 r) (hs:v1=v2->r=true) (hf:∀x t,v1≠.float x t):EqAt A s v1 v2 r:=fun prog w E Q hq=>by
 delta eqBool;refine qW (wpAny_ite_split (fun hab=>qP (wpAny_rule (qQ (hs (eq_of_beq hab)▸hq)))) fun o_=>?_);have fin:wpAny (model prog w) A (richCompare .Eq v1 v2>>=truthOfDropped) Q E s:=qP (rc prog w E _ (wpAny_truthy_bool hq));rcases v1 with _|_|_|_|_|_|_|_|_|_|_<;>first|exact absurd rfl (hf _ _)|exact fin
theorem y11 (e:Er T μ h v a):∀x t,v≠.float x t:=
 e.xall (p:=fun v o_=>∀x t,v≠.float x t) (fun o_ o_ e=>nomatch e) (fun o_ o_ o_ e=>nomatch e) (fun o_ o_ o_ o_ e=>nomatch e) (fun o_ o_ o_ o_ e=>nomatch e) (fun o_ o_ o_ o_ e=>nomatch e) (fun o_ o_ o_ e=>nomatch e) (fun o_ o_ o_ o_ e=>nomatch e) (fun o_ o_ o_ o_ e=>nomatch e) (fun o_ o_ e=>nomatch e)
theorem jY {a:Addr} (e:h.get? a=some (j9 its)):h.IsTuple a its.toArray:=⟨_,e,rfl,_,rfl⟩
theorem kP {a:Addr} (e:h.get? a=some (jz its n)):h.IsList a its.toArray:=⟨_,e,rfl,_,rfl⟩
structure Rc2 (A:Around) (s:Shared) (v1 v2:Value) (r:Bool):Prop where
 q:RcAt A s v1 v2 r
 n:RcNeAt A s v1 v2 (!r)
end
open PySem.SeqAt PySem.Spec Builtin
section
variable {A:Around} {s:Shared} {v1 v2:Value} {b:AV} {r:Bool} (hu:A.units<cLine)
include hu
variable {T:Tab}
variable {μ:List Addr}
theorem yp12 (f:okA true true b=true) (y:Er T μ s.heap v2 b):Rc2 A s .none v2 (jr b):=
 y.xat (p:=fun v b=>Rc2 A s .none v (jr b)) ⟨.none_none,.none_none⟩ (fun o_=>⟨.none_bool _,.none_bool _⟩) (fun o_ o_=>⟨.none_int _ _,.none_int _ _⟩) (fun o_ o_=>⟨.none_str _ _,.none_str _ _⟩) (fun o_ o_ o_=>⟨yK2 _ _,yi2 _ _⟩) (fun o_ o_ o_ o_ h o_=>⟨.none_tuple (jY h) hu,.none_tuple (jY h) hu⟩) f
theorem yZ9 {x:Bool} (f:okA true true b=true) (y:Er T μ s.heap v2 b):Rc2 A s (.bool x) v2 (nB x b):=
 y.xat (p:=fun v b=>Rc2 A s (.bool x) v (nB x b)) ⟨.bool_none _,.bool_none _⟩ (fun o_=>⟨.bool_bool _ _,.bool_bool _ _⟩) (fun o_ o_=>⟨.bool_int _ _ _,.bool_int _ _ _⟩) (fun o_ o_=>⟨.bool_str _ _ _,.bool_str _ _ _⟩) (fun o_ o_ o_=>⟨yH2 _ _ _,yf2 _ _ _⟩) (fun o_ o_ o_ o_ h o_=>⟨.bool_tuple _ (jY h) hu,.bool_tuple _ (jY h) hu⟩) f
variable {t:Tok}
theorem yo12 {x:Int} (f:okA true true b=true) (y:Er T μ s.heap v2 b):Rc2 A s (.int x t) v2 (nI x b):=
 y.xat (p:=fun v b=>Rc2 A s (.int x t) v (nI x b)) ⟨.int_none _ _,.int_none _ _⟩ (fun o_=>⟨.int_bool _ _ _,.int_bool _ _ _⟩) (fun o_ o_=>⟨.int_int _ _ _ _,.int_int _ _ _ _⟩) (fun o_ o_=>⟨.int_str _ _ _ _,.int_str _ _ _ _⟩) (fun o_ o_ o_=>⟨yi4 _ _ _ _,yN2 _ _ _ _⟩) (fun o_ o_ o_ o_ h o_=>⟨.int_tuple _ _ (jY h) hu,.int_tuple _ _ (jY h) hu⟩) f
variable {i:Nat}
theorem yr12 {x:Str} (hi:T.names[i]? =some x) (f:okA true true b=true) (y:Er T μ s.heap v2 b):Rc2 A s (.str x t) v2 (nS i b):=
 y.xat (p:=fun v b=>Rc2 A s (.str x t) v (nS i b)) ⟨.str_none _ _,.str_none _ _⟩ (fun o_=>⟨.str_bool _ _ _,.str_bool _ _ _⟩) (fun o_ o_=>⟨.str_int _ _ _ _,.str_int _ _ _ _⟩) (fun {n y} u hj=>(yL11 hi hj▸⟨.str_str _ _ _ _,.str_str _ _ _ _⟩:Rc2 A s (.str x t) (.str y u) (i==n))) (fun o_ o_ o_=>⟨yj4 _ _ _ _,yO2 _ _ _ _⟩) (fun o_ o_ o_ o_ h o_=>⟨.str_tuple _ _ (jY h) hu,.str_tuple _ _ (jY h) hu⟩) f
theorem yn12 {x:List UInt8} (f:okA true false b=true) (y:Er T μ s.heap v2 b):Rc2 A s (.bytes ⟨x⟩ t) v2 (nY x b):=
 y.xat (p:=fun v b=>Rc2 A s (.bytes ⟨x⟩ t) v (nY x b)) ⟨yJ2 _ _,yh2 _ _⟩ (fun o_=>⟨yI2 _ _ _,yg2 _ _ _⟩) (fun o_ o_=>⟨yg4 _ _ _ _,yL2 _ _ _ _⟩) (fun o_ o_=>⟨yh4 _ _ _ _,yM2 _ _ _ _⟩) (fun o_ o_ o_=>⟨ye2 _ _ _ _,yr1 _ _ _ _⟩) (fun f=>Bool.noConfusion f) f
variable {H:List AO}
variable {a:AV}
variable {n:Nat} (ih:∀{a b v1 v2 r},eqV H n a b=some r->Er T μ s.heap v1 a->Er T μ s.heap v2 b->EqAt A.in1 s v1 v2 r)
include ih
variable {its:List Value}
theorem ys12 {a:Addr} {l:List AV} (ho:s.heap.get? a=some (j9 its)) (hl:ErL T μ s.heap its l) (e:vTup (eqV H n) l b=some r) (y:Er T μ s.heap v2 b):Rc2 A s (.ref a) v2 r:=
 y.xall (p:=fun v b=>vTup (eqV H n) l b=some r->Rc2 A s (.ref a) v r) (fun e=>gd_e (c:=true) (r:=false) e fun o_=>⟨.tuple_none (jY ho) hu,.tuple_none (jY ho) hu⟩) (fun o_ e=>gd_e (c:=true) (r:=false) e fun o_=>⟨.tuple_bool _ (jY ho) hu,.tuple_bool _ (jY ho) hu⟩) (fun o_ o_ e=>gd_e (c:=true) (r:=false) e fun o_=>⟨.tuple_int _ _ (jY ho) hu,.tuple_int _ _ (jY ho) hu⟩) (fun o_ o_ e=>gd_e (c:=true) (r:=false) e fun o_=>⟨.tuple_str _ _ (jY ho) hu,.tuple_str _ _ (jY ho) hu⟩)
  (fun o_ o_ e=>ja e) (fun o_ e=>ja e) (fun {a' its' m} ho' hl' e=>ym9 e fun z hz=>yR11 (P:=EqAt A.in1 s) ih hl hl' hz fun g pg eg=>by
   refine rz (Eq.symm eg) (rz (Eq.symm hl.length) (rz (Eq.symm hl'.length) ?_));exact ⟨.tuples (jY ho) (jY ho') hu pg,.tuples (jY ho) (jY ho') hu pg⟩) (fun o_ o_ e=>ja e) (fun e=>ja e) e
theorem yq12 {a:Addr} (R:RH T μ H s.heap) (e1:μ[i]? =some a) (e:vRef H (eqV H n) i b=some r) (y:Er T μ s.heap v2 b):Rc2 A s (.ref a) v2 r:=
 yl9 (p:=fun b=>Er T μ s.heap v2 b->Rc2 A s (.ref a) v2 r) e (fun {j l m} hl hm q y=>R.xlist (p:=fun v=>Rc2 A s v v2 r) hl (.ref e1) fun o_ o1 l1=>R.xlist (p:=fun v=>Rc2 A s _ v r) hm y fun o_ o2 l2=>by
  by_cases hlen:l.length=m.length
  ·rw [if_pos hlen] at q;have hsz:=(l1.length.trans hlen).trans l2.length.symm;refine yR11 (P:=EqAt A.in1 s) ih l1 l2 q fun g pg eg=>?_;rw [<-hsz,Nat.min_self] at eg;exact eg▸⟨.lists (kP o1) (kP o2) hsz hu pg,.lists (kP o1) (kP o2) hsz hu pg⟩
  ·rw [if_neg hlen] at q;have hne:=bne_iff_ne.mpr fun z=>hlen ((l1.length.symm.trans z).trans l2.length);exact qq q▸⟨.lists_lengths (kP o1) (kP o2) hne hu,.lists_lengths (kP o1) (kP o2) hne hu⟩) y
end
section
variable {T:Tab}
variable {H:List AO}
variable {μ:List Addr}
variable {a:AV}
theorem yW3 (n:Nat):∀{a b r},eqV H n a b=some r->∀{A:Around} {s:Shared} {v1 v2:Value},RH T μ H s.heap->Er T μ s.heap v1 a->Er T μ s.heap v2 b->A.units+n<cLine->Rc2 A s v1 v2 r:=by
 induction n with
 |zero=>exact fun e=>ja e
 |succ n ih=>
  intro a b r e A s v1 v2 R x y hu;have hu':A.units<cLine:=qd (qi _ _) hu;have ih:∀{a b v1 v2 r},eqV H n a b=some r->Er T μ s.heap v1 a->Er T μ s.heap v2 b->EqAt A.in1 s v1 v2 r:=fun {a b v1 v2 r} e x y=>
   rcEq (ih e R x y (qd (qk (Nat.succ_add_eq_add_succ _ _)) hu)).1 (fun q=>y44 R n e x (q▸y)) (y11 x)
  exact x.xall (p:=fun v a=>eqV H (n+1) a b=some r->Rc2 A s v v2 r) (fun e=>gd_e e fun f=>yp12 hu' f y) (fun o_ e=>gd_e e fun f=>yZ9 hu' f y) (fun o_ o_ e=>gd_e e fun f=>yo12 hu' f y) (fun o_ q e=>gd_e e fun f=>yr12 hu' q f y) (fun o_ o_ e=>gd_e e fun f=>yn12 hu' f y)
   (fun e1 e=>yq12 hu' ih R e1 e y) (fun ho hl e=>ys12 hu' ih ho hl e y) (fun o_ o_ e=>ja e) ja e
variable {b:AV} {r:Bool} {A:Around} {s:Shared} {v1 v2:Value}
theorem ym12 (n:Nat) (e:eqV H n a b=some r) (R:RH T μ H s.heap) (x:Er T μ s.heap v1 a) (y:Er T μ s.heap v2 b) (hu:A.units+n<cLine):RcAt A s v1 v2 r:=(yW3 n e R x y hu).1
variable {n:Nat}
theorem g_eq (hn:n<=500) (e:eqV H n a b=some r):GCmp T H .Eq a b r:=fun v1 v2 A E Q' μ s u R p k=>
 (yW3 n e R p.1 p.2 (qd (Nat.add_le_add u hn) (qa rfl))).q _ _ _ _ (k _ _ kp0 (.bool _))
theorem g_ne (hn:n<=500) (e:eqV H n a b=some r):GCmp T H .NotEq a b (!r):=fun v1 v2 A E Q' μ s u R p k=>
 (yW3 n e R p.1 p.2 (qd (Nat.add_le_add u hn) (qa rfl))).n _ _ _ _ (k _ _ kp0 (.bool _))
noncomputable def jG (T:Tab) (fp:List Addr) (h₀:Heap) (μ:List Addr) (h:Heap):Prop:=
 ∀a∈fp,h₀.get? a=none/\a∉μ/\T.K.lookup a=none/\∃o vs,h.get? a=some o/\o.data=.fields vs/\∀q t,vs[1]? ≠some (.str q t)
variable {c:Cx} {σ σ':St} {μ₀ μ':List Addr} {h₀:Hp} {h h':Heap} {fp:List Addr}
theorem jG.tk (l:jG T fp h₀.heap μ h) (k:∀b o,b∉fp->h.get? b=some o->h'.get? b=some o):TK h h':=fun b o e f=>k b o (fun m=>by
 refine kJ (l b m) fun o_ o_ o_ hz=>jp hz fun o' vs e' d q=>?_;rw [e] at e';obtain rfl:=qq e';exact yz d q f) e
theorem At.loose {g:Hp} (r:At T c μ₀ h₀ σ μ g) (l:jG T fp h₀.heap μ g.heap) (k:∀b o,b∉fp->g.heap.get? b=some o->h'.get? b=some o):At T c μ₀ h₀ σ μ {g with heap:=h'}:=by
 obtain ⟨h,os,gens⟩:=g
 have tk:=l.tk k;have nd:∀a o,h.get? a=some o->kZ o->a∉fp:=fun a o e ⟨es,n,d⟩ m=>by
  refine kJ (l a m) fun o_ o_ o_ hz=>jp hz fun o' vs e' d' o_=>?_;rw [e] at e';obtain rfl:=qq e';rw [d] at d';injection d'
 refine ⟨⟨⟨fun a o e=>k a o (fun m=>by have:=(l a m).2.2.1;rw [e] at this;injection this) (r.rel.rh.top a o e),r.rel.rh.len,fun i a ao e f=>(r.rel.rh.o i a ao e f).keep (.refl _) tk fun o e'=>k a o (fun m=>(l a m).2.1 (qD e)) e',r.rel.rh.nd,r.rel.rh.kn,r.rel.rh.t0⟩,
  ?_,fun a m=>let ⟨o,e,d⟩:=r.rel.ownO a m;⟨o,k a o (nd a o e d) e,d⟩,r.rel.ownN,r.rel.ownK,r.rel.frs.keep (fun a m o e d=>⟨o,k a o (nd a o e d) e,d⟩) r.rel.frs.n⟩,⟨r.evo.pre,r.evo.fresh,fun b o e n f=>?_,fun b o e=>?_⟩,r.os,r.gens⟩
 ·exact x_EA (r.rel.fr) fun mm ns q=>ku (ns) fun oL es ep e d z=>⟨mm,⟨oL,es,ep,k _ _ (nd _ _ e ⟨_,_,d⟩) e,d,z⟩,fun x v e=>let ⟨n,a,b⟩:=q x v e;⟨n,a,b.keep (.refl _) tk⟩⟩
 ·exact k b o (fun m=>by have:=(l b m).1;rw [e] at this;injection this) (r.evo.keep b o e n f)
 ·exact x_E (r.evo.th b o e) fun o' e'=>⟨o',k b o' (fun m=>by have:=(l b m).1;rw [e] at this;injection this) e'⟩
theorem jG.evo (l:jG T fp h₀.heap μ h) (e:Evo c.own μ h μ' h') (ho:∀a∈fp,a∉c.own):(∀a∈fp,∀o,h.get? a=some o->h'.get? a=some o)/\jG T fp h₀.heap μ' h':=by
 have k:∀a∈fp,∀o,h.get? a=some o->h'.get? a=some o:=fun a m o q=>e.keep a o q (l a m).2.1 (.inl (ho a m));refine ⟨k,fun a m=>?_⟩;refine kJ (l a m) fun h1 h2 h3 hz=>jp hz fun o vs e1 e2 e3=>⟨h1,fun q=>?_,h3,o,vs,k a m o e1,e2,e3⟩;rcases e.fresh a q with q|q
 ·exact h2 q
 ·rw [q] at e1;injection e1
end
inductive Src where
 |list (i:Nat)|enum (i:Nat)|range (a n:Nat)|tup (l:List AV)
noncomputable def Src.item (H:List AO):Src->Nat->Option (Option AV)
 |.list i,n=>(lsAt H i).map fun l=>l[n]?
 |.enum i,n=>(lsAt H i).map fun l=>l[n]?.map fun v=>.tup [.int n,v]
 |.range a m,n=>some (if n<m then some (.int (a+n)) else none)
 |.tup l,n=>some l[n]?
noncomputable def IsIt (T:Tab) (μ:List Addr) (h:Heap) (it:Value) (n:Nat) (fp:List Addr):Src->Prop
 |.list i=>∃I l,it=.ref I/\fp=[I]/\μ[i]? =some l/\h.IsListIter I l n
 |.enum i=>∃e I l old,it=.ref e/\fp=[e,I]/\e≠I/\μ[i]? =some l/\h.IsListIter I l n/\IsEnum h e I n old
 |.range a m=>∃I,it=.ref I/\fp=[I]/\IsRangeIter h I (a+n:Nat) ((m:Int)-n) 1
 |.tup l=>∃I t its,it=.ref I/\fp=[I]/\h.get? t=some (j9 its)/\ErL T μ h its l/\h.IsTupleIter I t n
section
variable {T:Tab} {c:Cx} {σ:St} {μ₀ μ:List Addr} {h₀:Hp} {fp:List Addr} {s:Shared} {it:Value} {n:Nat} {A:Around} {E:Value->Shared->Prop}
variable {a:Addr} {h h':Heap}
theorem yE (hs:Heap.SameBut a h h'):∀b o,b∉[a]->h.get? b=some o->h'.get? b=some o:=fun b o n e=>(hs.2 b (fun q=>n (by simp [q]))).trans e
theorem yr (hs:Heap.ExtBut a h h'):∀b o,b∉[a]->h.get? b=some o->h'.get? b=some o:=fun b o n e=>hs b o (fun q=>n (by simp [q])) e
variable {o:Obj}
theorem y73 {I:Addr} (l:jG T [I] h₀.heap μ h) {vs:Array Value} (e:h'.get? I=some o) (d:o.data=.fields vs) (q:∀x t,vs[1]? ≠some (.str x t)):jG T [I] h₀.heap μ h':=fun a m=>by
 refine kJ (l a m) fun h1 h2 h3 o_=>?_;rw [qB] at m;subst m;exact ⟨h1,h2,h3,o,vs,e,d,q⟩
variable {i:Nat} {a:AV} {Q':Option Value->Shared->Prop}
theorem yd7 {l:List AV} (r:At T c μ₀ h₀ σ μ (hpp s)) (lo:jG T fp h₀.heap μ s.heap) (ii:IsIt T μ s.heap it n fp (.list i)) (hi:σ.H[i]? =some (.list l)) (ha:l[n]? =some a)
 (k:∀v s',At T c μ₀ h₀ σ μ (hpp s')->jG T fp h₀.heap μ s'.heap->IsIt T μ s'.heap it (n+1) fp (.list i)->Er T μ s'.heap v a->Q' (some v) s'):wpAny T.M A (pyNext it) Q' E s:=by
 refine jS (ii) fun I la hz1 hz2 hm hit=>?_;subst hz1;subst hz2;refine kK (r.rel.rh.at hi) fun la' hm' its m hl el=>?_;rw [hm] at hm';obtain rfl:=qq hm';refine x_EA (el.get ha) fun v hv ev=>wpAny_pyNext_list_item hit (kP hl) (by simpa using hv) fun h' hit' hs=>jR (id hit') fun o e1 e2 e3=>?_;have kk:=yE hs;exact k v _ (r.loose lo kk) (y73 lo e1 e3 (by simp)) ⟨I,la,rfl,rfl,hm,hit'⟩ (ev.keep (.refl _) (lo.tk kk))
theorem y67 {l:List AV} (hh:A.handled=none) (r:At T c μ₀ h₀ σ μ (hpp s)) (lo:jG T fp h₀.heap μ s.heap) (ii:IsIt T μ s.heap it n fp (.list i)) (hi:σ.H[i]? =some (.list l)) (ha:l[n]? =none)
 (k:∀s',At T c μ₀ h₀ σ μ (hpp s')->Q' none s'):wpAny T.M A (pyNext it) Q' E s:=by
 refine jS (ii) fun I la hz3 hz4 hm hit=>?_;subst hz3;subst hz4;refine kK (r.rel.rh.at hi) fun la' hm' its m hl el=>?_;rw [hm] at hm';obtain rfl:=qq hm';have hz:its.toArray[n]? =none:=by
  have h1:=el.length;rw [qs] at ha;simp;exact qb (qk h1) ha
 exact wpAny_pyNext_list_end hh hit (kP hl) hz fun h' hs=>k _ (r.loose lo (yr hs))
variable {a0 m:Nat}
theorem yS5 (hn:n<m) (r:At T c μ₀ h₀ σ μ (hpp s)) (lo:jG T fp h₀.heap μ s.heap) (ii:IsIt T μ s.heap it n fp (.range a0 m))
 (k:∀v s',At T c μ₀ h₀ σ μ (hpp s')->jG T fp h₀.heap μ s'.heap->IsIt T μ s'.heap it (n+1) fp (.range a0 m)->Er T μ s'.heap v (.int (a0+n))->Q' (some v) s'):wpAny T.M A (pyNext it) Q' E s:=by
 refine jR (ii) fun I hz5 hz6 hit=>?_;subst hz5;subst hz6;refine wpAny_pyNext_range_item hit (by lia) fun h' hit' hs=>?_;have kk:=yE hs;refine k _ _ (r.loose lo kk) (y73 lo hit' rfl (by simp [rawInt])) ⟨I,rfl,rfl,?_⟩ (by have:=Er.int (T:=T) (μ:=μ) (h:=h') ((a0+n:Nat):Int) s.toks;rw [Int.natCast_add] at this;exact this);have e1:((a0+(n+1):Nat):Int)=((a0+n:Nat):Int)+1:=by lia
 have e2:((m:Int)-(n+1:Nat))=(m:Int)-n-1:=by lia
 exact rz e1 (rz e2 hit')
theorem y36 (hh:A.handled=none) (hn:¬n<m) (r:At T c μ₀ h₀ σ μ (hpp s)) (lo:jG T fp h₀.heap μ s.heap) (ii:IsIt T μ s.heap it n fp (.range a0 m))
 (k:∀s',At T c μ₀ h₀ σ μ (hpp s')->Q' none s'):wpAny T.M A (pyNext it) Q' E s:=by
 refine jR (ii) fun I hz7 hz8 hit=>?_;subst hz7;subst hz8;exact wpAny_pyNext_range_end hh hit (by lia) fun h' hs=>k _ (r.loose lo (yr hs))
theorem yT8 {l:List AV} (r:At T c μ₀ h₀ σ μ (hpp s)) (lo:jG T fp h₀.heap μ s.heap) (ii:IsIt T μ s.heap it n fp (.tup l)) (ha:l[n]? =some a)
 (k:∀v s',At T c μ₀ h₀ σ μ (hpp s')->jG T fp h₀.heap μ s'.heap->IsIt T μ s'.heap it (n+1) fp (.tup l)->Er T μ s'.heap v a->Q' (some v) s'):wpAny T.M A (pyNext it) Q' E s:=by
 refine jF (ii) fun I t its hz=>jK hz fun hz9 hz10 ht el hit=>?_;subst hz9;subst hz10;refine x_EA (el.get ha) fun v hv ev=>wpAny_pyNext_tuple_item hit (jY ht) (by simpa using hv) fun h' hit' hs=>jR (id hit') fun o e1 e2 e3=>?_;have kk:=yE hs;have tk:=lo.tk kk;exact k v _ (r.loose lo kk) (y73 lo e1 e3 (by simp)) ⟨I,t,its,rfl,rfl,tk _ _ ht (y21 _),el.keep (.refl _) tk,hit'⟩ (ev.keep (.refl _) tk)
theorem yY9 {l:List AV} (hh:A.handled=none) (r:At T c μ₀ h₀ σ μ (hpp s)) (lo:jG T fp h₀.heap μ s.heap) (ii:IsIt T μ s.heap it n fp (.tup l)) (ha:l[n]? =none)
 (k:∀s',At T c μ₀ h₀ σ μ (hpp s')->Q' none s'):wpAny T.M A (pyNext it) Q' E s:=by
 refine jF (ii) fun I t its hz=>jK hz fun hz11 hz12 ht el hit=>?_;subst hz11;subst hz12;have hz:its.toArray[n]? =none:=by
  have h1:=el.length;rw [qs] at ha;simp;exact qb (qk h1) ha
 exact wpAny_pyNext_tuple_end hh hit (jY ht) hz fun h' hs=>k _ (r.loose lo (yr hs))
variable {elts:List Expr} {tpos:Pos}
theorem yb7 {l:List AV} {x1:Nat} (r:At T c μ₀ h₀ σ μ (hpp s)) (lo:jG T fp h₀.heap μ s.heap) (ii:IsIt T μ s.heap it n fp (.enum i)) (hi:σ.H[i]? =some (.list l)) (ha:l[n]? =some a) {Q':Value->Shared->Prop} {Qn:Shared->Prop}
 (k:∀v s',At T c μ₀ h₀ σ μ (hpp s')->jG T fp h₀.heap μ s'.heap->IsIt T μ s'.heap it (n+1) fp (.enum i)->Er T μ s'.heap v (.tup [.int n,a])->Q' v s'):
 wpAny T.M A (pyNext it) (fun r s1=>match r with|none=>Qn s1|some v=>wpAny T.M A (letOwnedTupleGo (.Tuple elts x1 tpos) it v) (fun o_ s2=>Q' v s2) E s1) E s:=by
 refine ze (ii) fun e I la old hz13 hz=>jK hz fun hz14 hne hm hit he=>?_;subst hz13;subst hz14;refine kK (r.rel.rh.at hi) fun la' hm' its m hl el=>?_;rw [hm] at hm';obtain rfl:=qq hm';refine x_EA (el.get ha) fun v hv ev=>wpAny_pyNext_enum_item he hit (kP hl) (by simpa using hv) hne fun h1 he1 hit1 ht1 hz1 k1=>wpAny_letOwnedTupleGo_enum he1 fun h2 he2 hs2=>?_;have kk:∀b o,b∉[e,I]->s.heap.get? b=some o->h2.get? b=some o:=fun b o nb q=>by
  have n1:b≠e:=fun z=>nb (by simp [z]);have n2:b≠I:=fun z=>nb (by simp [z]);exact (hs2.2 b n1).trans (k1 b o n1 n2 q)
 have tk:=lo.tk kk;have hit2:h2.IsListIter I la (n+1):=hit1.extBut hs2.extBut (Ne.symm hne);refine jR (id hit2) fun o e1 e2 e3=>?_;have es:s.heap.objs.size≠e:=fun q=>by have:=qM he;rw [q] at this;exact qo _ this
 have ht2:h2.get? s.heap.objs.size=some (j9 [.int n s.toks,v]):=(hs2.2 _ es).trans ht1;refine k _ _ (r.loose lo kk) (fun a m=>?_) ⟨e,I,la,v,rfl,rfl,hne,hm,hit2,by exact rz (show ((n+1:Nat):Int)=(n:Int)+1 from by lia) he2⟩ (.tup ht2 (.cons (.int _ _) (.cons (ev.keep (.refl _) tk) .nil)));refine kJ (lo a m) fun g1 g2 g3 o_=>?_;simp only [qC,List.not_mem_nil,or_false] at m;rcases m with rfl|rfl
 ·exact ⟨g1,g2,g3,_,_,he2,rfl,by simp⟩
 ·exact ⟨g1,g2,g3,_,_,e1,e3,by simp⟩
theorem y57 {l:List AV} (hh:A.handled=none) (r:At T c μ₀ h₀ σ μ (hpp s)) (lo:jG T fp h₀.heap μ s.heap) (ii:IsIt T μ s.heap it n fp (.enum i)) (hi:σ.H[i]? =some (.list l)) (ha:l[n]? =none)
 (k:∀s',At T c μ₀ h₀ σ μ (hpp s')->Q' none s'):wpAny T.M A (pyNext it) Q' E s:=by
 refine ze (ii) fun e I la old hz15 hz=>jK hz fun hz16 hne hm hit he=>?_;subst hz15;subst hz16;refine kK (r.rel.rh.at hi) fun la' hm' its m hl el=>?_;rw [hm] at hm';obtain rfl:=qq hm';have hz:its.toArray[n]? =none:=by
  have h1:=el.length;rw [qs] at ha;simp;exact qb (qk h1) ha
 exact wpAny_pyNext_enum_end hh he hit (kP hl) hz fun h' hs=>k _ (r.loose lo fun b o nb q=>yr hs b o (fun z=>nb (by simp at z;simp [z])) q)
inductive Tgt where
 |one (x:Nat)|two (x y:Nat)
noncomputable def asg:Tgt->AV->Loc->Option Loc
 |.one x,a,m=>some (put m x a)
 |.two x y,.tup [a,b],m=>some (put (put m x a) y b)
 |_,_,_=>none
noncomputable def yH1 (T:Tab) (c:Cx):Tgt->Expr->Prop
 |.one x,e=>∃nm p,e=.Name nm p/\T.names[x]? =some nm/\c.env.kindOf nm=some .local
 |.two x y,e=>∃nx px ny py k p,e=.Tuple [.Name nx px,.Name ny py] k p/\T.names[x]? =some nx/\c.env.kindOf nx=some .local/\T.names[y]? =some ny/\c.env.kindOf ny=some .local
noncomputable def good:Src->Tgt->Bool
 |.enum _,.two _ _=>true
 |.enum _,.one _=>false
 |_,.one _=>true
 |_,_=>false
variable {μ':List Addr} {Qf:AF->St->Prop} {X:St->Prop}
variable {src:Src}
theorem IsIt.keep (i:IsIt T μ h it n fp src) (p:Pre μ μ') (tk:TK h h') (k:∀a∈fp,∀o,h.get? a=some o->h'.get? a=some o):IsIt T μ' h' it n fp src:=by
 rcases src with i|i|⟨a,m⟩|l
 ·refine jk (i) fun I l hz1 hz=>yv9 hz fun hz2 hm o e r=>?_;subst hz1;subst hz2;exact ⟨I,l,rfl,rfl,p.get hm,o,k I (by simp) o e,r⟩
 ·refine ze (i) fun e I l old hz3 hz=>jK hz fun hz4 ne hm hy5 he=>?_;subst hz3;subst hz4;obtain ⟨o,e',r⟩:=hy5;exact ⟨e,I,l,old,rfl,rfl,ne,p.get hm,⟨o,k I (by simp) o e',r⟩,k e (by simp) _ he⟩
 ·refine jR (i) fun I hz6 hz7 hit=>?_;subst hz6;subst hz7;exact ⟨I,rfl,rfl,k I (by simp) _ hit⟩
 ·refine ks1 (i) fun I t its hz8 hz=>yc11 hz fun hz9 ht el o e r=>?_;subst hz8;subst hz9;exact ⟨I,t,its,rfl,rfl,tk _ _ ht (y21 _),el.keep p tk,o,k I (by simp) o e,r⟩
theorem kx1 (O:CxOk c) (r:Rel T c σ μ h) (l:jG T fp h₀.heap μ h):∀a∈fp,a∉c.own:=fun a m q=>by
 refine kJ (l a m) fun o_ o_ o_ hz=>jp hz fun o vs e d o_=>y3 (r.ownO a q) fun o' e' es k d'=>?_;rw [e] at e';obtain rfl:=qq e';rw [d] at d';injection d'
theorem ye (l:jG T fp h₀.heap μ h) (k:∀a∈fp,∀o,h.get? a=some o->h'.get? a=some o):jG T fp h₀.heap μ h':=fun a m=>by
 exact kJ (l a m) fun h1 h2 h3 hz=>jp hz fun o vs e d q=>⟨h1,h2,h3,o,vs,k a m o e,d,q⟩
variable {x:Nat} {name:Str} {p:Pos}
theorem yl2 (O:CxOk c) {rv:Value} {av:AV} (r:At T c μ₀ h₀ σ μ (hpp s)) (lo:jG T fp h₀.heap μ s.heap) (ii:IsIt T μ s.heap it n fp src) (ev:Er T μ s.heap rv av) (hn:T.names[x]? =some name) (hl:c.env.kindOf name=some .local) {Q':Unit->Shared->Prop}
 (k:∀s',At T c μ₀ h₀ ⟨σ.H,put σ.m x av⟩ μ (hpp s')->jG T fp h₀.heap μ s'.heap->IsIt T μ s'.heap it n fp src->TK s.heap s'.heap->Q' () s'):wpAny T.M A (assign (.Name name p) c.env rv) Q' E s:=
 wpAny_assign_Name (ko1 O r ev hn hl fun s' a' tk kp=>by
  have kf:∀a∈fp,∀o,s.heap.get? a=some o->s'.heap.get? a=some o:=fun a m o e=>kp a o (fun q=>kx1 O r.rel lo a m (q▸O.loc)) e;exact k s' a' (ye lo kf) (ii.keep (.refl _) tk kf) tk)
theorem yc7 (hA:A.handled=none) (hg:good src (.one x)=true) (r:At T c μ₀ h₀ σ μ (hpp s)) (lo:jG T fp h₀.heap μ s.heap) (ii:IsIt T μ s.heap it n fp src) {ki:Option AV} (hi:src.item σ.H n=some ki)
 (hend:ki=none->∀s',At T c μ₀ h₀ σ μ (hpp s')->Q' none s') (k:∀a,ki=some a->∀v s',At T c μ₀ h₀ σ μ (hpp s')->jG T fp h₀.heap μ s'.heap->IsIt T μ s'.heap it (n+1) fp src->Er T μ s'.heap v a->Q' (some v) s'):wpAny T.M A (pyNext it) Q' E s:=by
 rcases src with i|i|⟨a,m⟩|l
 ·refine om_e hi fun l hl e=>?_;rcases q:l[n]? with _|a
  ·exact y67 hA r lo ii (j6 hl) q (hend (e.symm.trans q))
  ·exact yd7 r lo ii (j6 hl) q (k a (e.symm.trans q))
 ·exact Bool.noConfusion hg
 ·have e:=qq hi;by_cases q:n<m
  ·exact yS5 q r lo ii (k _ (e.symm.trans (if_pos q)))
  ·exact y36 hA q r lo ii (hend (e.symm.trans (if_neg q)))
 ·have e:=qq hi;rcases q:l[n]? with _|a
  ·exact yY9 hA r lo ii q (hend (e.symm.trans q))
  ·exact yT8 r lo ii q (k a (e.symm.trans q))
variable {tgt:Tgt} {target:Expr}
theorem yV11 (O:CxOk c) (hA:A.handled=none) (tok:yH1 T c tgt target) (hg:good src tgt=true) (r:At T c μ₀ h₀ σ μ (hpp s)) (lo:jG T fp h₀.heap μ s.heap) (ii:IsIt T μ s.heap it n fp src)
 {kEnd:Shared->Prop} {kNext:Unit->Shared->Prop} {ki:Option AV} (hi:src.item σ.H n=some ki)
 (hend:ki=none->∀s',At T c μ₀ h₀ σ μ (hpp s')->kEnd s')
 (hnext:∀a,ki=some a->∃m',asg tgt a σ.m=some m'/\∀s',At T c μ₀ h₀ ⟨σ.H,m'⟩ μ (hpp s')->jG T fp h₀.heap μ s'.heap->IsIt T μ s'.heap it (n+1) fp src->kNext () s'):
 wpAny T.M A (pyNext it) (fun r s1=>match r with|none=>kEnd s1|some v=>wpAny T.M A (letOwnedTupleGo target it v) (fun o_ s2=>wpAny T.M A (assign target c.env v) kNext E s2) E s1) E s:=by
 rcases tgt with x|⟨x,y⟩
 ·refine jp tok fun nm p hz hn hl=>?_;subst hz;exact yc7 (Q':=fun r s1=>match r with|none=>kEnd s1|some v=>wpAny T.M A (letOwnedTupleGo (.Name nm p) it v) (fun o_ s2=>wpAny T.M A (assign (.Name nm p) c.env v) kNext E s2) E s1) hA hg r lo ii hi hend fun a e v s1 a1 l1 i1 e1=>
   x_EA (hnext a e) fun m' hm kn=>qT (a:=()) rfl (yl2 O a1 l1 i1 e1 hn hl fun s' a' l' i' o_=>kn s' (qq hm▸a') l' i')
 ·
  rcases src with _|i|⟨_,_⟩|_
  ·exact Bool.noConfusion hg
  ·refine jF tok fun nx px ny hz=>jF hz fun py k p hz=>jK hz fun hz hx lx hy ly=>?_;subst hz;refine om_e hi fun l hl e=>?_;rcases q:l[n]? with _|a
   ·exact qV (y57 (E:=E) hA r lo ii (j6 hl) q (Q':=fun r s1=>r=none/\kEnd s1) fun s' a'=>⟨rfl,hend (e.symm.trans (congrArg (Option.map fun v=>AV.tup [.int n,v]) q)) s' a'⟩) (fun r s1 z=>z.1▸z.2) fun o_ o_ e=>e
   ·refine x_EA (hnext (.tup [.int n,a]) (e.symm.trans (congrArg (Option.map fun v=>AV.tup [.int n,v]) q))) fun m' hm kn=>yb7 r lo ii (j6 hl) q fun v s1 a1 l1 i1 e1=>e1.xtup (p:=fun v=>wpAny T.M A (assign (.Tuple [.Name nx px,.Name ny py] k p) c.env v) kNext E s1) fun {o_ o_} ht el=>el.x2 (p:=fun vs=>_=vs->_) (fun ev1 ev2 hz=>?_) rfl;subst hz;refine wpAny_assign_Tuple hA (jY ht) rfl rfl fun h3 hx3=>?_;have kk:∀b o,s1.heap.get? b=some o->h3.get? b=some o:=fun b o e=>hx3 b o (jc1 e) e;refine (?_:wpAny T.M A (do holding [_] (assign (.Name nx px) c.env _);do holding [] (assign (.Name ny py) c.env _);pure ()) _ _ _);refine qP (qW (yl2 (s:={s1 with heap:=h3}) O (a1.keeps kk) (ye l1 fun a o_ o e=>kk a o e) (i1.keep (.refl _) (.of_keeps kk) fun a o_ o e=>kk a o e) (ev1.keep (.refl _) (.of_keeps kk)) hx lx fun s4 a4 l4 i4 tk4=>?_));exact qP (qW (yl2 O a4 l4 i4 (ev2.keep (.refl _) ((TK.of_keeps kk).trans tk4)) hy ly fun s5 a5 l5 i5 o_=>qQ (kn s5 (qq hm▸a5) l5 i5)))
  ·exact Bool.noConfusion hg
  ·exact Bool.noConfusion hg
variable {outer:List Env} {L:Addr}
noncomputable def jN (Qf:AF->St->Prop) (J:St->Prop) (f:AF) (σ:St):Prop:=match f with
 |.next=>J σ
 |.cont=>J σ
 |.brk=>Qf .next σ
 |.ret v=>Qf (.ret v) σ
noncomputable abbrev Anch (T:Tab) (c:Cx) (μ₀:List Addr) (h₀:Hp) (Qf:AF->St->Prop) (f:Flow) (s':Shared):Prop:=WQ T c (FlR T) Qf μ₀ h₀ f s'
noncomputable def yt4 (T:Tab) (c:Cx) (Qf:AF->St->Prop) (X:St->Prop) (μ₀:List Addr) (h₀:Hp) (r:Result) (s':Shared):Prop:=match r with
 |.ok f=>Anch T c μ₀ h₀ Qf f s'
 |.error e=>cameBackBy T.M c.A c.env (EX T c X μ₀ h₀) e s'
end
section
variable {T:Tab}
variable {c:Cx}
variable {σ:St}
variable {μ₀:List Addr}
variable {μ:List Addr}
variable {h₀:Hp}
variable {fp:List Addr}
variable {s:Shared}
variable {n:Nat}
inductive FI (T:Tab) (c:Cx) (μ₀:List Addr) (h₀:Hp) (fp:List Addr) (J:Nat->Nat->St->Prop) (I:List Addr->Heap->Nat->Prop) (k:Nat) (s:Shared):Prop
 |mk {n:Nat} {σ:St} {μ:List Addr} (hJ:J k n σ) (a:At T c μ₀ h₀ σ μ (hpp s)) (lo:jG T fp h₀.heap μ s.heap) (ii:I μ s.heap n)
variable {Qf:AF->St->Prop}
variable {X:St->Prop}
variable {outer:List Env}
variable {L:Addr}
variable {J:Nat->Nat->St->Prop}
theorem yi3 (O:CxOk c) (hfr:c.fr=c.env::outer) (hf:c.env.frame=some L) {I:List Addr->Heap->Nat->Prop} {t:Sem Flow} {k:Nat} (a1:At T c μ₀ h₀ σ μ (hpp s)) (l1:jG T fp h₀.heap μ s.heap)
 (i1:∀μ' h',Pre μ μ'->TK s.heap h'->(∀a∈fp,∀o,s.heap.get? a=some o->h'.get? a=some o)->I μ' h' (n+1)) (w:W T c (FlR T) t (jN Qf fun σ2=>∃k',k'<k/\J k' (n+1) σ2) X σ):
 wpAny T.M c.A t (fun f s₃=>match f with
  |.next=>∃m,m<k/\FI T c μ₀ h₀ fp J I m s₃
  |.cont=>∃m,m<k/\FI T c μ₀ h₀ fp J I m s₃
  |.brk=>yt4 T c Qf X μ₀ h₀ (.ok .next) s₃
  |.ret v=>yt4 T c Qf X μ₀ h₀ (.ok (.ret v)) s₃) (notedBy T.M c.A c.env fun e s'=>yt4 T c Qf X μ₀ h₀ (.error e) s') s:=by
 refine qV (w μ s a1.rel) (fun f s2 z=>?_) fun e s2 z=>EX.noted O hfr hf (z.trans a1) rfl fun s3 x=>x.back hfr fun s4 y=>y;obtain ⟨μ',b,σ',av,fl,q⟩:=z
 have nx:(∃k',k'<k/\J k' (n+1) σ')->∃m,m<k/\FI T c μ₀ h₀ fp J I m s2:=fun z=>x_EA z fun k' hk hJ'=>x_A (l1.evo (c:=c) av.evo (kx1 O a1.rel l1)) fun kf l2=>⟨k',hk,.mk hJ' (a1.trans av) l2 (i1 _ _ av.evo.pre (av.evo.tk a1.rel.rh) kf)⟩;cases fl with
 |next=>exact nx q
 |cont=>exact nx q
 |brk=>exact ⟨μ',.next,σ',a1.trans av,.next,q⟩
 |ret ev=>exact ⟨μ',.ret _,σ',a1.trans av,.ret ev,q⟩
noncomputable def yi11 (T:Tab) (c:Cx) (Qf:AF->St->Prop) (X:St->Prop) (tgt:Tgt) (body:List Stmt) (src:Src) (J:Nat->Nat->St->Prop):Prop:=
 ∀k n σ,J k n σ->∃ki,src.item σ.H n=some ki/\(ki=none->Qf .next σ)/\∀a,ki=some a->∃m',asg tgt a σ.m=some m'/\W T c (FlR T) (execs body c.env) (jN Qf fun σ2=>∃k',k'<k/\J k' (n+1) σ2) X ⟨σ.H,m'⟩
variable {it:Value}
variable {src:Src} {tgt:Tgt} {target:Expr} {body:List Stmt}
theorem yb8 (O:CxOk c) (hfr:c.fr=c.env::outer) (hf:c.env.frame=some L) (tok:yH1 T c tgt target) (hg:good src tgt=true) (J:Nat->Nat->St->Prop) (step:yi11 T c Qf X tgt body src J)
 {k:Nat} (a:At T c μ₀ h₀ σ μ (hpp s)) (lo:jG T fp h₀.heap μ s.heap) (ii:IsIt T μ s.heap it n fp src) (hJ:J k n σ):codeAny T.M c.A (.forLoop target it body [] c.env) (yt4 T c Qf X μ₀ h₀) s:=
 codeAny_forLoop_any (FI T c μ₀ h₀ fp J fun μ h n=>IsIt T μ h it n fp src) (fun k s z=>by
  rcases z with ⟨hJ,a,lo,ii⟩
  ·refine jR (step _ _ _ hJ) fun ki hi q1 q2=>?_;exact yV11 O O.hnd tok hg a lo ii hi (fun q s' a'=>wpAny_execs_nil ⟨_,.next,_,a',.next,q1 q⟩) fun x q=>x_EA (q2 x q) fun m' hm w=>⟨m',hm,fun s1 a1 l1 i1=>yi3 O hfr hf a1 l1 (fun o_ o_ p t kf=>i1.keep p t kf) w⟩) k (.mk hJ a lo ii)
noncomputable def kt1 (T:Tab) (c:Cx) (x:Value) (μ₀:List Addr) (h₀:Hp) (src:Src) (σ:St) (s:Shared):Prop:=
 ∀(A:Around) (E:Value->Shared->Prop) (Q':Value->Shared->Prop),(∀it s' μ' fp,At T c μ₀ h₀ σ μ' (hpp s')->jG T fp h₀.heap μ' s'.heap->IsIt T μ' s'.heap it 0 fp src->Q' it s')->wpAny T.M A (pyIter x) Q' E s
theorem jb1 (r:At T c μ₀ h₀ σ μ (hpp s)):h₀.heap.get? s.heap.objs.size=none/\s.heap.objs.size∉μ/\T.K.lookup s.heap.objs.size=none:=by
 refine ⟨?_,fun m=>?_,?_⟩
 ·rcases q:h₀.heap.get? s.heap.objs.size with _|o
  ·rfl
  ·exact x_E (r.evo.th _ _ q) fun o' e=>absurd (qM e) (qo _)
 ·exact x_EA (r.rel.rh.mem m) fun o e o_=>absurd (qM e) (qo _)
 ·rcases q:T.K.lookup s.heap.objs.size with _|o
  ·rfl
  ·exact absurd (qM (r.rel.rh.top _ _ q)) (qo _)
variable {i:Nat} {x:Value}
theorem yf3 {l:List AV} (r:At T c μ₀ h₀ σ μ (hpp s)) (hi:σ.H[i]? =some (.list l)) (ex:Er T μ s.heap x (.ref i)):kt1 T c x μ₀ h₀ (.list i) σ s:=fun A E Q' k=>by
 apply r.rel.rh.xlist hi ex;intro la its m hm hl el;refine x_AA (jb1 r) fun f1 f2 f3=>wpAny_pyIter_list (kP hl) (k _ _ μ [s.heap.objs.size] (r.keeps (jm _ _)) (fun a m=>?_) ⟨_,la,rfl,rfl,hm,⟨_,qK _ rfl,rfl,rfl⟩⟩);rw [qB] at m;subst m;exact ⟨f1,f2,f3,_,_,qK _ rfl,rfl,by simp⟩
theorem yc5 {l:List AV} (r:At T c μ₀ h₀ σ μ (hpp s)) (ex:Er T μ s.heap x (.tup l)):kt1 T c x μ₀ h₀ (.tup l) σ s:=fun A E Q' k=>by
 apply ex.xtup;intro _ _ ht el;refine x_AA (jb1 r) fun f1 f2 f3=>wpAny_pyIter_tuple (jY ht) (k _ _ μ [s.heap.objs.size] (r.keeps (jm _ _)) (fun a m=>?_) ⟨_,_,_,rfl,rfl,qL _ ht,el.keep (.refl _) (.of_keeps (jm _ _)),⟨_,qK _ rfl,rfl,rfl⟩⟩);rw [qB] at m;subst m;exact ⟨f1,f2,f3,_,_,qK _ rfl,rfl,by simp⟩
end
section
variable {T:Tab}
variable {c:Cx}
variable {μ:List Addr}
variable {Qf:AF->St->Prop}
variable {X:St->Prop}
inductive ForH (T:Tab) (c:Cx) (Qf:AF->St->Prop) (X:St->Prop) (tgt:Tgt) (body:List Stmt) (μ:List Addr) (h:Hp) (x:Value) (s1:Shared):Prop
 |mk (src:Src) (σ1:St) (J:Nat->Nat->St->Prop) (k:Nat) (hg:good src tgt=true) (iq:kt1 T c x μ h src σ1 s1) (hJ:J k 0 σ1) (step:yi11 T c Qf X tgt body src J)
variable {σ:St}
variable {s:Shared}
variable {outer:List Env}
variable {L:Addr}
variable {tgt:Tgt} {target iter:Expr} {pos:Pos} {body:List Stmt}
theorem yU15 (O:CxOk c) (hfr:c.fr=c.env::outer) (hf:c.env.frame=some L) (tok:yH1 T c tgt target) (hs:∀x,foldedSetIterable iter c.env x=pure x)
 (h:∀μ s,Rel T c σ μ s.heap->wpAny T.M c.A (eval iter c.env) (ForH T c Qf X tgt body μ (hpp s)) (EX T c X μ (hpp s)) s):
 W T c (FlR T) (exec (.For target iter body [] pos) c.env) Qf X σ:=fun μ s rl=>
 wpAny_For (qV (h μ s rl) (fun x s1 z=>by
  rcases z with ⟨src,σ1,J,k,hg,iq,hJ,step⟩
  ·exact iq _ _ _ fun it s2 μ2 fp a2 l2 i2=>yb8 O hfr hf tok hg J step a2 l2 i2 hJ) fun o_ o_ e=>e) hs
variable {fv:Value} {es:List Expr} {A:Around} {Q':Value->Shared->Prop} {env:Env}
theorem za1 {first:List Value} {M:Model} {E} (hf:fv=.type n/\first=[]\/∃id,fv=.builtin id) (hs:ju es=true)
 (h:wpAny M A (spliced (backTo pos (qX es env))) (fun vs s₁=>wpAny M A (call fv (first++vs)) Q' E s₁) E s):wpAny M A (callWith pos fv first (backTo pos (qX es env)) []) Q' E s:=by
 have args:wpAny M A (evalArgs fv true (backTo pos (qX es env)) []) (fun a s₁=>wpAny M A (call fv (first++a.pos) a.kw) Q' E s₁) E s:=by
  rcases es with _|⟨e,r⟩
  ·refine (?_:wpAny M A (evalArgs fv true [] []) _ E s);unfold evalArgs;refine (?_:wpAny M A (spliced []>>=_) _ E s);refine qP (qV h (fun vs s₁ h₁=>?_) fun o_ o_ x=>x);exact qW (qP (qQ (qP (qQ (qQ h₁)))))
  ·refine x_A (qI.mp hs) fun a b=>?_;rw [kc a] at h⊢;exact evalArgs_plain h
 rcases hf with ⟨rfl,rfl⟩|⟨id,rfl⟩
 ·exact PyProof.Rows.callWith_type (kn1 hs) args
 ·exact Calls.callWith_builtin (kn1 hs) args
variable {Q:AV->St->Prop} {Z:List AV->St->Prop} {μ₀:List Addr} {h₀:Hp}
variable {x:Str} {p:Pos}
theorem yN7 (TO:TabOk T) (O:CxOk c) (hk:c.env.kindOf x=some .globalImplicit) (hx:nsIn T.K qR x=some none) (hb:nsIn T.K qd1 x=some (some fv)) (hd:(x==("__debug__":Str))=false) (hf:(∃n,fv=.type n)\/∃id,fv=.builtin id) (hs:ju es=true)
 (h:W T c (ErL T) (spliced (backTo pos (qX es c.env))) Z X σ) {s:Shared} (rl:Rel T c σ μ s.heap) {Q':Value->Shared->Prop}
 (k:∀vs s1 μ1 l σ1,At T c μ (hpp s) σ1 μ1 (hpp s1)->ErL T μ1 s1.heap vs l->Z l σ1->wpAny T.M c.A (call fv vs) Q' (EX T c X μ (hpp s)) s1):wpAny T.M c.A (eval (.Call (.Name x p) es [] pos) c.env) Q' (EX T c X μ (hpp s)) s:=
 Call_Name rfl (yz5 TO O hk hx hb hd rl.rh.top (by
  have hf':(fv=.type (match fv with|.type n=>n|_=>"")/\([]:List Value)=[])\/∃id,fv=.builtin id:=by
   rcases hf with ⟨n,rfl⟩|h
   ·exact .inl ⟨rfl,rfl⟩
   ·exact .inr h
  exact za1 hf' hs (h.go rl.at fun vs s1 μ1 l σ1 a1 e1 h1 p1 k1=>k vs s1 μ1 l σ1 a1 e1 h1)))
noncomputable def jL (T:Tab) (c:Cx) (fv:Value) (l:List AV) (Q:AV->St->Prop) (X:St->Prop) (σ:St):Prop:=∀vs,Wat T c (fun μ h=>ErL T μ h vs l) (Er T) (call fv vs) Q X σ
theorem y010 (TO:TabOk T) (O:CxOk c) (hk:c.env.kindOf x=some .globalImplicit) (hx:nsIn T.K qR x=some none) (hb:nsIn T.K qd1 x=some (some fv)) (hd:(x==("__debug__":Str))=false) (hf:(∃n,fv=.type n)\/∃id,fv=.builtin id) (hs:ju es=true)
 (h:W T c (ErL T) (spliced (backTo pos (qX es c.env))) (fun l σ1=>jL T c fv l Q X σ1) X σ):W T c (Er T) (eval (.Call (.Name x p) es [] pos) c.env) Q X σ:=fun μ s rl=>
 yN7 TO O hk hx hb hd hf hs h rl fun vs s1 μ1 l σ1 a1 e1 z=>(z vs).go a1 e1 fun v s2 μ2 b σ2 a2 e2 q o_ o_=>⟨μ2,b,σ2,a2,e2,q⟩
variable {n:Nat} {u:Tok}
theorem y81 {a:Nat} (r:At T c μ₀ h₀ σ μ (hpp s)) {x:Addr} {t v:Tok} (hr:IsRange s.heap x a (a+n:Nat) 1 t u v) (hn:a+n<2^40):kt1 T c (.ref x) μ₀ h₀ (.range a n) σ s:=fun A E Q' k=>by
 refine x_AA (jb1 r) fun f1 f2 f3=>?_;have hsz:Builtin.Range.rangeSize a (a+n:Nat) 1=n:=by
  unfold Builtin.Range.rangeSize;refine rz (if_pos (by decide)) ?_;split
  ·rw [Int.ediv_one];lia
  ·lia
 have fits:∀z:Int,-9223372036854775808<=z->z<9223372036854775808->Builtin.Range.rangeFitsLong z=true:=fun z h1 h2=>by
  unfold Builtin.Range.rangeFitsLong;rw [Bool.and_eq_true,decide_eq_true_eq];refine rz decide_eq_true_eq ?_;exact ⟨h1,h2⟩
 have hn':a+n<1099511627776:=hn;have hsm:Builtin.Range.small a (a+n:Nat) 1=true:=by
  unfold Builtin.Range.small;refine rz hsz ?_;rw [fits a (by lia) (by lia),fits (a+n:Nat) (by lia) (by lia),fits 1 (by lia) (by lia),fits n (by lia) (by lia),if_pos (show (1:Int)>0 by decide),fits _ (by lia) (by lia)];simp
 refine wpAny_pyIter_range hr hsm (k _ _ μ [s.heap.objs.size] (r.keeps (jm _ _)) (fun b m=>?_) ⟨_,rfl,rfl,?_⟩)
 ·rw [qB] at m;subst m;exact ⟨f1,f2,f3,_,_,qK _ rfl,rfl,by simp [rawInt]⟩
 ·exact rz hsz (qK _ rfl)
variable {i:Nat} {I la:Addr}
theorem y86 (r:At T c μ₀ h₀ σ μ (hpp s)) {e:Addr} (fe:h₀.heap.get? e=none/\e∉μ/\T.K.lookup e=none) (fI:h₀.heap.get? I=none/\I∉μ/\T.K.lookup I=none) (hne:e≠I) (hm:μ[i]? =some la) (he:IsEnum s.heap e I 0 .none) (hi:s.heap.IsListIter I la 0):
 kt1 T c (.ref e) μ₀ h₀ (.enum i) σ s:=fun A E Q' k=>by
 refine wpAny_pyIter_enum he (k _ _ μ [e,I] r (fun b m=>?_) ⟨e,I,la,.none,rfl,rfl,hne,hm,hi,he⟩);refine jR (hi) fun o e1 e2 e3=>?_;simp only [qC,List.not_mem_nil,or_false] at m;rcases m with rfl|rfl
 ·exact ⟨fe.1,fe.2.1,fe.2.2,_,_,he,rfl,by simp⟩
 ·exact ⟨fI.1,fI.2.1,fI.2.2,_,_,e1,e3,by simp⟩
theorem yZ5 (hn:n<2^40) {vs:List Value} (r:At T c μ₀ h₀ σ μ (hpp s)) (ev:ErL T μ s.heap vs [.int n]) {E} (k:∀x s',At T c μ₀ h₀ σ μ (hpp s')->kt1 T c x μ₀ h₀ (.range 0 n) σ s'->Q' x s'):wpAny T.M A (call (.type "range") vs) Q' E s:=by
 refine jp (ev.ofCons) fun o_ o_ hz1 e1 el=>?_;subst hz1;obtain rfl:=el.ofNil
 apply e1.xint;intro t;refine call_range_1 ?_;have a2:=r.keeps (jm s.heap {cls:=.type "range",data:=.fields #[.int 0 s.toks,.int n t,.int 1 (s.toks+1)]});refine k _ _ a2 (y81 a2 (x:=s.heap.objs.size) (a:=0) (n:=n) (t:=s.toks) (u:=t) (v:=s.toks+1) ?_ (by lia));rw [Nat.zero_add];exact IsRange.new s.heap 0 n 1 s.toks t (s.toks+1)
theorem y68 {l:List AV} {vs:List Value} (r:At T c μ₀ h₀ σ μ (hpp s)) (hi:σ.H[i]? =some (.list l)) (ev:ErL T μ s.heap vs [.ref i]) {E} (k:∀x s',At T c μ₀ h₀ σ μ (hpp s')->kt1 T c x μ₀ h₀ (.enum i) σ s'->Q' x s'):wpAny T.M A (call (.type "enumerate") vs) Q' E s:=by
 refine jp (ev.ofCons) fun o_ o_ hz2 e1 el=>?_;subst hz2;obtain rfl:=el.ofNil
 apply r.rel.rh.xlist hi e1;intro la its m hm hl el;refine call_enumerate_list (kP hl) fun h' he hit hz kk=>?_;have hz2:({s with heap:=s.heap.push (jz [] 0)}:Shared).heap.objs.size=s.heap.objs.size+1:=Heap.size_push ..;have g:=jb1 (s:={s with heap:=s.heap.push (jz [] 0)}) (r.keeps (jm s.heap (jz [] 0)));rw [hz2] at g;exact k _ _ (r.keeps kk) (y86 (s:={s with heap:=h'}) (r.keeps kk) g (jb1 r) (Nat.succ_ne_self _) hm he hit)
variable {h h':Heap} {H:List AO}
variable {a:Addr} {o':AO}
theorem RH.turn (R:RH T μ H h) (hi:μ[i]? =some a) (ne:∀b,b≠a->∀r,h.get? b=some r->h'.get? b=some r) (tk:TK h h') (ho:HasO T μ h' a o'):RH T μ (H.set i o') h':=by
 have hm:=qD hi;refine ⟨fun b x q=>ne b (fun z=>?_) _ (R.top b x q),by simp [R.len],fun j b ao e1 e2=>?_,R.nd,R.kn,R.t0⟩
 ·have:=R.kn a hm;rw [<-z,q] at this;injection this
 ·by_cases z:j=i
  ·subst z;rw [hi] at e1;obtain rfl:=qq e1;rw [List.getElem?_set_self (by exact rz (Eq.symm R.len) ((qA.mp hi).1))] at e2;obtain rfl:=qq e2;exact ho
  ·rw [List.getElem?_set_ne (Ne.symm z)] at e2;exact (R.o j b ao e1 e2).keep (.refl _) tk (ne b fun w=>z (yA R.nd e1 (w▸hi)))
theorem yJ (R:RH T μ H h) (hm:a∈μ) (ne:∀b,b≠a->∀r,h.get? b=some r->h'.get? b=some r):TK h h':=fun b o e f=>ne b (fun q=>by
 subst q;refine x_EA (R.mem hm) fun r e' nf=>?_;rw [e] at e';obtain rfl:=qq e';exact nf f) o e
theorem At.turn (O:CxOk c) {g:Hp} (r:At T c μ₀ h₀ σ μ g) (hi:μ[i]? =some a) (ne:∀b,b≠a->∀r,g.heap.get? b=some r->h'.get? b=some r) (ho:HasO T μ h' a o'):At T c μ₀ h₀ ⟨σ.H.set i o',σ.m⟩ μ {g with heap:=h'}:=by
 obtain ⟨h,os,gens⟩:=g
 have hm:=qD hi;refine x_EA (ho.there) fun x' hx' o_=>?_;have tk:=yJ r.rel.rh hm ne;have ne':∀b,b∉μ->∀o,h.get? b=some o->h'.get? b=some o:=fun b n o e=>ne b (fun q=>n (q▸hm)) o e;exact ⟨⟨r.rel.rh.turn hi ne tk ho,r.rel.fr.keep (.refl _) tk (ne' _ (r.rel.ownN _ O.loc)),fun b m=>let ⟨o,e,d⟩:=r.rel.ownO b m;⟨o,ne' b (r.rel.ownN b m) o e,d⟩,r.rel.ownN,r.rel.ownK,
  r.rel.frs.keep (fun b m o e d=>⟨o,ne' b (r.rel.frs.n b m) o e,d⟩) r.rel.frs.n⟩,r.evo.trans ⟨.refl _,fun o_ q=>.inl q,fun b o e hb o_=>ne' b hb o e,fun b o e=>by
   by_cases q:b=a
   ·subst q;exact ⟨_,hx'⟩
   ·exact ⟨o,ne b q o e⟩⟩,r.os,r.gens⟩
theorem ff {G:Prop} (h:false=true):G:=Bool.noConfusion h
noncomputable def keq (a b:AV):Bool:=match a with
 |.str x=>nS x b
 |.bytes x=>nY x b
 |_=>false
variable {a b:AV}
theorem y712:keq a b=true->a=b:=by
 rcases a with _|_|_|x|x|_|_|⟨_,_⟩|_
 ·exact ff
 ·exact ff
 ·exact ff
 ·
  rcases b with _|_|_|y|_|_|_|⟨_,_⟩|_
  ·exact ff
  ·exact ff
  ·exact ff
  ·exact fun h=>congrArg AV.str (eq_of_beq h)
  ·exact ff
  ·exact ff
  ·exact ff
  ·exact ff
  ·exact ff
 ·
  rcases b with _|_|_|_|y|_|_|⟨_,_⟩|_
  ·exact ff
  ·exact ff
  ·exact ff
  ·exact ff
  ·exact fun h=>congrArg AV.bytes (eq_of_beq h)
  ·exact ff
  ·exact ff
  ·exact ff
  ·exact ff
 ·exact ff
 ·exact ff
 ·exact ff
 ·exact ff
noncomputable def aget (l:List (AV×AV)) (k:AV):Option AV:=(l.find? fun p=>keq p.1 k).map (·.2)
noncomputable def aset (l:List (AV×AV)) (k v:AV):List (AV×AV):=if (l.any fun p=>keq p.1 k)=true then l.map fun p=>if keq p.1 k=true then (p.1,v) else p else l++[(k,v)]
structure KRel (T:Tab) {K:Type} [DecidableEq K] (knd:KeyKind T.prog T.w K) (kr:K->AV->Prop):Prop where
 is:∀{k a μ h v},kr k a->Er T μ h v a->knd.is k v=true
 er:∀{k a μ h v},kr k a->knd.is k v=true->Er T μ h v a
 hash:∀{k a hv},kr k a->kT T a hv->hv=knd.hash k
 mkh:∀{k a},kr k a->kT T a (knd.hash k)
 f1:∀{k k' a},kr k a->kr k' a->k=k'
 f2:∀{k a a'},kr k a->kr k a'->a=a'
 q:∀{k a},kr k a->keq a a=true
noncomputable def stO:AV->Option Nat
 |.str n=>some n
 |_=>none
theorem yS11:stO a=some n->a=.str n:=by
 rcases a with _|_|_|n|_|_|_|⟨_,_⟩|_
 ·exact ja
 ·exact ja
 ·exact ja
 ·exact fun h=>congrArg AV.str (qq h)
 ·exact ja
 ·exact ja
 ·exact ja
 ·exact ja
 ·exact ja
noncomputable def krS (T:Tab) (k:Str) (a:AV):Prop:=(stO a).bind (fun n=>T.names[n]?)=some k
variable {k:Str}
theorem y91 {p:AV->Prop} (h:krS T k a) (f:∀n,T.names[n]? =some k->p (.str n)):p a:=ob_e h fun n e hn=>yS11 e▸f n hn
noncomputable def krB (k:List UInt8) (a:AV):Prop:=a=.bytes k
variable {hv:Int}
theorem yQ12 (hn:T.names[n]? =some k) (h:kT T (.str n) hv):hv=qO T.P k:=by cases h with
 |str e=>exact qq (hn.symm.trans e)▸rfl
theorem yP12 {k:List UInt8} (h:kT T (.bytes k) hv):hv=PySem.W.hashW T.P (.bytes k):=by cases h with
 |bytes l=>rfl
theorem ya2 (T:Tab):KRel T (PySem.strKind T.prog T.w) (krS T) where
 is:=fun {k a μ h v} c=>y91 (p:=fun a=>Er T μ h v a->(PySem.strKind T.prog T.w).is k v=true) c fun n hn er=>er.xstr (p:=fun v=>(PySem.strKind T.prog T.w).is k v=true) fun {s} t e=>(qq (e.symm.trans hn):s=k)▸PySem.strKind_is _ _ _ _
 er:=fun {k a μ h v} c is=>y91 (p:=fun a=>Er T μ h v a) c fun n hn=>x_E (Value.isStrOf_shape is) fun t e=>e▸ .str t hn
 hash:=fun {k a hv} c=>y91 (p:=fun a=>kT T a hv->hv=qO T.P k) c fun n hn=>yQ12 hn
 mkh:=fun {k a} c=>y91 (p:=fun a=>kT T a (qO T.P k)) c fun n hn=>.str hn
 f1:=fun c c'=>qq (c.symm.trans c')
 f2:=fun {k a a'} c c'=>y91 (p:=fun a=>a=a') c fun n hn=>y91 (p:=fun a'=>AV.str n=a') c' fun n' hn'=>congrArg AV.str (zH hn hn')
 q:=fun {k a} c=>y91 (p:=fun a=>keq a a=true) c fun n hn=>beq_self_eq_true n
theorem ke1 (T:Tab):KRel T (PySem.W.bytesKind T.prog T.w) krB where
 is:=fun {k a μ h v} e er=>(e▸er:Er T μ h v (.bytes k)).xbytes (p:=fun v=>(PySem.W.bytesKind T.prog T.w).is k v=true) fun t=>by simp [PySem.W.bytesKind,PySem.W.isBytes]
 er:=fun {k a μ h v} e is=>x_E (PySem.W.isBytes_shape is) fun t q=>q▸e▸ .bytes _ _
 hash:=fun {k a hv} e hh=>yP12 (e▸hh)
 mkh:=fun {k a} e=>e▸ .bytes _
 f1:=fun e e'=>AV.bytes.inj (e.symm.trans e')
 f2:=fun e e'=>e.trans e'.symm
 q:=fun {k a} e=>e▸beq_self_eq_true k
end
inductive PL (T:Tab) {K:Type} (kr:K->AV->Prop) (μ:List Addr) (h:Heap):List (K×Value)->List (AV×AV)->Prop
 |nil:PL T kr μ h [] []
 |cons {k v a b r l} (hk:kr k a) (hv:Er T μ h v b) (hr:PL T kr μ h r l):PL T kr μ h ((k,v)::r) ((a,b)::l)
section
variable {T:Tab} {K:Type} [DecidableEq K] {knd:KeyKind T.prog T.w K} {kr:K->AV->Prop} {μ:List Addr} {h:Heap} {r:List (K×Value)} {l:List (AV×AV)}
theorem PL.ind {m:List (K×Value)->List (AV×AV)->Prop} (n:m [] []) (c:∀{k v a b r l},kr k a->Er T μ h v b->m r l->m ((k,v)::r) ((a,b)::l)) (x:PL T kr μ h r l):m r l:=by induction x with
 |nil=>exact n
 |cons hk hv _ ih=>exact c hk hv ih
theorem PL.len (x:PL T kr μ h r l):r.length=l.length:=x.ind (m:=fun r l=>r.length=l.length) rfl fun o_ o_ ih=>congrArg (·+1) ih
theorem PL.mem (x:PL T kr μ h r l) {k:K}:k∈r.map (·.1)->∃a,kr k a/\a∈l.map (·.1):=
 x.ind (m:=fun r l=>k∈r.map (·.1)->∃a,kr k a/\a∈l.map (·.1)) (fun m=>nomatch m) fun {k' v a b r l} hk o_ ih m=>(qC.mp m).elim (fun q=>⟨a,q▸hk,qC.mpr (.inl rfl)⟩) fun m=>x_EA (ih m) fun a h1 h2=>⟨a,h1,qC.mpr (.inr h2)⟩
variable {a:AV}
theorem PL.mem' (x:PL T kr μ h r l):a∈l.map (·.1)->∃k,kr k a/\k∈r.map (·.1):=
 x.ind (m:=fun r l=>a∈l.map (·.1)->∃k,kr k a/\k∈r.map (·.1)) (fun m=>nomatch m) fun {k v a' b r l} hk o_ ih m=>(qC.mp m).elim (fun q=>⟨k,q▸hk,qC.mpr (.inl rfl)⟩) fun m=>x_EA (ih m) fun k h1 h2=>⟨k,h1,qC.mpr (.inr h2)⟩
theorem PL.nodup (R:KRel T knd kr) (x:PL T kr μ h r l):(l.map (·.1)).Nodup->(r.map (·.1)).Nodup:=by induction x with
 |nil=>exact fun o_=>.nil
 |cons hk _ hr ih=>exact fun n=>qx.mpr ⟨fun m=>x_EA (hr.mem m) fun a h1 h2=>(qx.mp n).1 (R.f2 h1 hk▸h2),ih (qx.mp n).2⟩
theorem PL.nodup' (R:KRel T knd kr) (x:PL T kr μ h r l):(r.map (·.1)).Nodup->(l.map (·.1)).Nodup:=by induction x with
 |nil=>exact fun o_=>.nil
 |cons hk _ hr ih=>exact fun n=>qx.mpr ⟨fun m=>x_EA (hr.mem' m) fun a h1 h2=>(qx.mp n).1 (R.f1 h1 hk▸h2),ih (qx.mp n).2⟩
theorem yw15 (R:KRel T knd kr) {es} (er:ErD T μ h es l):(∀p∈l,∃k,kr k p.1)->∃r,PL T kr μ h r l/\Pairs knd es r/\∀e∈es,∃k,knd.is k e.key=true/\e.hash=knd.hash k:=
 er.ind (m:=fun es l=>(∀p∈l,∃k,kr k p.1)->∃r,PL T kr μ h r l/\Pairs knd es r/\∀e∈es,∃k,knd.is k e.key=true/\e.hash=knd.hash k) (fun o_=>⟨[],.nil,.nil,fun o_ m=>nomatch m⟩)
  fun {e es k v l} hh hk hv o_ ih a=>jR (ih fun p m=>a p (.tail _ m)) fun r h1 h2 h3=>x_E (a _ (.head _)) fun kk hkr=>⟨(kk,e.val)::r,.cons hkr hv h1,.cons (R.is hkr hk) rfl h2,fun e' m=>(qC.mp m).elim (fun q=>q▸⟨kk,R.is hkr hk,R.hash hkr hh⟩) (h3 e')⟩
variable {d:Addr} {n:Nat}
theorem yV3 (R:KRel T knd kr) {es:List DictEntry} (hd:h.get? d=some (j3 es n)) (er:ErD T μ h es l) (kl:∀p∈l,∃k,kr k p.1) (nd:(l.map (·.1)).Nodup):∃r,PL T kr μ h r l/\h.DictAt knd d r n:=
 jR (yw15 R er kl) fun r h1 h2 h3=>⟨r,h1,_,⟨es⟩,hd,⟨rfl,rfl,rfl⟩,rfl,fun e m=>h3 e (by simpa using m),h2,h1.nodup R nd⟩
theorem y33 (R:KRel T knd kr) {k k':K} {a':AV} (h1:kr k a) (h2:kr k' a'):decide (k=k')=keq a a':=by
 rcases z:keq a a' with _|_
 ·exact decide_eq_false fun q=>Bool.noConfusion ((R.q h1).symm.trans ((congrArg (keq a) (R.f2 (q▸h1) h2)).trans z))
 ·exact decide_eq_true (R.f1 (y712 z▸h1) h2)
theorem yv1 (R:KRel T knd kr) {k:K} (hk:kr k a) {p:Option Value->Option AV->Prop} (n:p none none) (s:∀v b,Er T μ h v b->p (some v) (some b)) (x:PL T kr μ h r l):p (valueAt r k) (aget l a):=
 x.ind (m:=fun r l=>p (valueAt r k) (aget l a)) n fun {k' v a' b r l} hk' hv ih=>by
  refine (?_:p (Option.map (·.2) (match decide (k'=k) with|true=>some (k',v)|false=>r.find? fun kv=>decide (kv.1=k))) (Option.map (·.2) (match keq a' a with|true=>some (a',b)|false=>l.find? fun p=>keq p.1 a)));refine rz (y33 R hk' hk) ?_;rcases keq a' a with _|_
  ·exact ih
  ·exact s v b hv
variable {prog:Program} {w:World} [DecidableEq K] {knd:KeyKind prog w K} {A:Around} {E:Value->Shared->Prop} {s:Shared}
variable {v:Value}
theorem yn2 {kvs:List (K×Value)} {k:K} (h:(kvs.any fun kv=>decide (kv.1=k))=true):(stored kvs k v).length=kvs.length:=by
 rw [stored,if_pos h,qF]
theorem ym2 {kvs:List (K×Value)} {k:K} (h:¬(kvs.any fun kv=>decide (kv.1=k))=true):(stored kvs k v).length=kvs.length+1:=by
 rw [stored];refine rz (if_neg h) ?_;simp
variable {ep:Nat} {key:Value} {Q:Unit->Shared->Prop}
theorem yX1 {kvs:List (K×Value)} {k:K} (hkey:knd.is k key=true) (hm:s.heap.DictAt knd d kvs ep) (hsz:kvs.length<=1000000)
 (hQ:∀h' ep',h'.DictAt knd d (stored kvs k v) ep'->ep'+kvs.length=ep+(stored kvs k v).length->Heap.SameBut d s.heap h'->Q () {s with heap:=h',toks:=s.toks+1}):
 wpAny (model prog w) A (dictSet d key v) Q E s:=by
 refine jk (hm) fun o es ho hz=>jK hz fun hc hd hk hp hn=>?_;have e1:=hp.length;have e2:es.toList.length=es.size:=by simp
 unfold dictSet
 try with_reducible refine qW ?_
 refine qP (knd.pyHash hkey ?_);unfold dictSetHashed
 try with_reducible refine qW ?_
 refine qP (wpAny_dictFind_of (s:={s with toks:=s.toks+1}) hkey ho hd hk ?_);have hidx:(es.findIdx? fun e=>knd.is k e.key)=kvs.findIdx? fun kv=>decide (kv.1=k):=by
  refine rz (Eq.symm (hp.findIdx k)) ?_;obtain ⟨l⟩:=es;simp
 cases hi:es.findIdx? fun e=>knd.is k e.key with
 |some i=>
  have hany:=any_of_findIdx_some (hidx▸hi);refine qP (wpAny_rule (qP (wpAny_updateDict (s:={s with toks:=s.toks+1}) ho hd (wpAny_point (hQ _ ep ⟨_,_,qN _ ho (Obj.isFreed_of_dict (Obj.data_mapDict hd _)),
   hc.mapDict _,Obj.data_mapDict hd _,hk.modify _ _,?_,?_⟩ (by exact rz (yn2 hany) rfl) (Heap.SameBut.update ..))))))
  ·rw [stored];refine rz (if_pos hany) ?_;have hl:(es.toList.findIdx? fun e=>knd.is k e.key)=some i:=by refine rz (Eq.symm hi) ?_;obtain ⟨l⟩:=es;simp
   have:=hp.modify hn hl v;obtain ⟨l⟩:=es
   simpa using this
  ·rw [stored,if_pos hany,keys_map_store];exact hn
 |none=>
  have hnot:k∉kvs.map (·.1):=not_mem_of_findIdx_none (hidx▸hi);have hany:¬(kvs.any fun kv=>decide (kv.1=k))=true:=by
   rw [List.any_eq_true];rintro ⟨kv,hkv,he⟩;exact hnot (List.mem_map.mpr ⟨kv,hkv,of_decide_eq_true he⟩)
  refine qP (wpAny_rule (wpAny_updateDictKeys (hz:=by refine rz qY ?_;lia) (s:={s with toks:=s.toks+1}) ho hd (hQ _ (ep+1) ⟨_,_,qN _ ho (Obj.isFreed_of_dict (Obj.data_mapDictKeys hd _)),
   hc.mapDictKeys _,Obj.data_mapDictKeys hd _,hk.push hkey _,?_,?_⟩ (by refine rz (ym2 hany) ?_;lia) (Heap.SameBut.update ..))))
  ·rw [stored];refine rz (if_neg hany) ?_;have:=hp.append hkey (knd.hash k) v;obtain ⟨l⟩:=es
   simpa using this
  ·rw [stored,if_neg hany,List.map_append,List.nodup_append];refine ⟨hn,by simp,fun a ha b hb=>?_⟩;simp only [List.map_cons,List.map_nil,qB] at hb;subst hb;exact fun e=>hnot (e▸ha)
theorem yY5 {kvs:List (K×Value)} {k:K} (hkey:knd.is k key=true) (hm:s.heap.DictAt knd d kvs ep) (hsz:kvs.length<=1000000)
 (hQ:∀h' ep',h'.DictAt knd d (stored kvs k v) ep'->ep'+kvs.length=ep+(stored kvs k v).length->Heap.SameBut d s.heap h'->Q () {s with heap:=h',toks:=s.toks+1}):
 wpAny (model prog w) A (setItem (.ref d) key v) Q E s:=by
 have hT:=hm.dictOf.typeIs;unfold setItem
 try with_reducible refine qW ?_
 refine qP (wpAny_sequenceKey hT (by decide) ?_);refine qP (wpAny_callSpecial?_slot (name:=qH "__setitem__") hT slot_dict_setitem
  (wpAny_call_entry slot_dict_setitem hT entry_dict_setitem ?_ (args_dict_setitem _ _ _)))
 refine (?_:wpAny _ _ (Builtin.Dict.notOrdered "__setitem__" ⟨[.ref d,key,v],[]⟩>>=_) _ _ s);refine qP (wpAny_notOrdered_dict hT ?_);refine (?_:wpAny _ _ (dictSet d key v>>=_) _ _ s);exact qP (yX1 hkey hm hsz fun h' ep' hm' he hs'=>qQ ⟨.none,rfl,qQ (hQ h' ep' hm' he hs')⟩)
noncomputable def bytK:AV->Bool
 |.bytes _=>true
 |_=>false
noncomputable def zl (l:List (AV×AV)):Bool:=l.all fun p=>bytK p.1
noncomputable def dkOk (l:List (AV×AV)) (k:AV):Bool:=match k with
 |.str _=>kA l
 |.bytes _=>zl l
 |_=>false
variable {k:AV}
theorem ya12 {P:AV->Prop} (f:∀b,P (.bytes b)):bytK k=true->P k:=by
 rcases k with _|_|_|_|b|_|_|⟨_,_⟩|_
 ·exact ff
 ·exact ff
 ·exact ff
 ·exact ff
 ·exact fun o_=>f b
 ·exact ff
 ·exact ff
 ·exact ff
 ·exact ff
theorem Er.xS {P:AV->Prop} (f:∀{n s},T.names[n]? =some s->P (.str n)) (e:Er T μ h v k):strK k=true->P k:=
 e.xall (p:=fun o_ k=>strK k=true->P k) ff (fun o_=>ff) (fun o_ o_=>ff) (fun o_ w o_=>f w) (fun o_ o_=>ff) (fun o_=>ff) (fun o_ o_=>ff) (fun o_ o_=>ff) ff
theorem y812 {es l:_} (x:ErD T μ h es l):kA l=true->∀p∈l,∃k,krS T k p.1:=
 x.ind (m:=fun o_ l=>kA l=true->∀p∈l,∃k,krS T k p.1) (fun o_ o_ m=>nomatch m) fun {e es k v l} o_ hk o_ o_ ih a p m=>x_A (qI.mp a) fun a1 a2=>(qC.mp m).elim (fun q=>q▸hk.xS (P:=fun k=>∃s,krS T s k) (fun w=>⟨_,w⟩) a1) (ih a2 p)
theorem yz8 (a:zl l=true) (p) (m:p∈l):∃k,krB k p.1:=ya12 (P:=fun k=>∃b,krB b k) (fun b=>⟨b,rfl⟩) (List.all_eq_true.mp a p m)
theorem za {P:Prop} {es l k v:_} (hd:h.get? d=some (j3 es n)) (er:ErD T μ h es l) (nd:(l.map (·.1)).Nodup) (ok:dkOk l k=true) (ek:Er T μ h v k)
 (f:∀{K:Type} [DecidableEq K] (knd:KeyKind T.prog T.w K) (kr:K->AV->Prop) (R:KRel T knd kr) (kk:K) (r:List (K×Value)),kr kk k->knd.is kk v=true->PL T kr μ h r l->h.DictAt knd d r n->P):P:=by
 rcases k with _|_|_|m|b|_|_|⟨_,_⟩|_
 ·exact ff ok
 ·exact ff ok
 ·exact ff ok
 ·exact x_EA (yV3 (ya2 T) hd er (y812 er ok) nd) fun r pl D=>ek.xstr (p:=fun o_=>P) fun {s} t e=>f _ _ (ya2 T) s r e ((ya2 T).is (k:=s) (a:=.str m) e ek) pl D
 ·exact x_EA (yV3 (ke1 T) hd er (yz8 ok) nd) fun r pl D=>f _ _ (ke1 T) b r rfl ((ke1 T).is (k:=b) (a:=.bytes b) rfl ek) pl D
 ·exact ff ok
 ·exact ff ok
 ·exact ff ok
 ·exact ff ok
structure zV (T:Tab):Prop extends TabOk T where
 sys:∃o,T.K.lookup sysModules=some o
variable {H:List AO}
theorem yb4 (TO:zV T) (R:RH T μ H h) {a:Addr} (m:a∈μ):(a==sysModules)=false:=by
 refine x_E (TO.sys) fun o e=>?_;have:=R.kn a m;refine beq_eq_false_iff_ne.mpr fun q=>?_;rw [q,e] at this;injection this
variable {i:Nat} {av:AV}
theorem yX2 [DecidableEq K] {knd:KeyKind T.prog T.w K} {kr:K->AV->Prop} {r:List (K×Value)} (R:KRel T knd kr) {kk:K} (hk:kr kk k) (x:PL T kr μ h r l):aget l k=some av->∃rv,valueAt r kk=some rv/\Er T μ h rv av:=
 yv1 R hk (p:=fun o a=>a=some av->∃rv,o=some rv/\Er T μ h rv av) ja (fun v b e q=>⟨v,rfl,qq q▸e⟩) x
theorem yH12 (hi:H[i]? =some (.dict l)) (ok:dkOk l k=true) (hg:aget l k=some av) (v1 v2:Value):Gv T H (Er2 T v1 v2 (.ref i) k) (getItem v1 v2) av:=fun A E Q' μ s u R p kk=>
 R.xdict (p:=fun v1=>wpAny T.M A (getItem v1 v2) Q' E s) hi p.1 fun o_ hd er nd=>za hd er nd.1 ok p.2 fun knd kr RR kx r hkr his pl D=>x_EA (yX2 RR hkr pl hg) fun rv h1 h2=>wpAny_getItem_of his D.dictOf.mapOf h1 (kk _ _ ⟨fun o_ o_ e=>e,rfl,rfl⟩ h2)
theorem yV14 (TO:zV T) (hi:H[i]? =some (.dict l)) (ok:dkOk l k=true):GCmp T H .In k (.ref i) (aget l k).isSome:=fun v1 v2 A E Q' μ s u R p kk=>
 R.xdict (p:=fun v2=>wpAny T.M A (compareOp .In v1 v2) Q' E s) hi p.2 fun hm hd er nd=>za hd er nd.1 ok p.1 fun knd kr RR kx r hkr his pl D=>wpAny_in_of his (yb4 TO R (qD hm)) D.dictOf.mapOf
  (kk _ _ ⟨fun o_ o_ e=>e,rfl,rfl⟩ (yv1 RR hkr (p:=fun o a=>o.isSome=a.isSome) rfl (fun o_ o_ o_=>rfl) pl▸ .bool _))
variable [DecidableEq K] {knd:KeyKind T.prog T.w K} {kr:K->AV->Prop} {r:List (K×Value)} {k:K} {b:AV}
theorem yB13 (R:KRel T knd kr) (hk:kr k a) (x:PL T kr μ h r l):(r.any fun kv=>decide (kv.1=k))=l.any fun p=>keq p.1 a:=
 x.ind (m:=fun r l=>(r.any fun kv=>decide (kv.1=k))=l.any fun p=>keq p.1 a) rfl fun hk' o_ ih=>congr (congrArg or (y33 R hk' hk)) ih
theorem yD13 (R:KRel T knd kr) (hk:kr k a) (hv:Er T μ h v b) (x:PL T kr μ h r l):PL T kr μ h (r.map fun kv=>if kv.1=k then (kv.1,v) else kv) (l.map fun p=>if keq p.1 a=true then (p.1,b) else p):=
 x.ind (m:=fun r l=>PL T kr μ h (r.map fun kv=>if kv.1=k then (kv.1,v) else kv) (l.map fun p=>if keq p.1 a=true then (p.1,b) else p)) .nil fun {k' v' a' b' r l} hk' hv' ih=>by
  have q:=y33 R hk' hk;refine rz List.map_cons (rz List.map_cons ?_);rcases z:keq a' a with _|_
  ·exact rz (if_neg (of_decide_eq_false (q.trans z))) (rz (if_neg Bool.false_ne_true) (.cons hk' hv' ih))
  ·exact rz (if_pos (of_decide_eq_true (q.trans z))) (rz (if_pos rfl) (.cons hk' hv ih))
theorem yC13 (hk:kr k a) (hv:Er T μ h v b) (x:PL T kr μ h r l):PL T kr μ h (r++[(k,v)]) (l++[(a,b)]):=x.ind (m:=fun r l=>PL T kr μ h (r++[(k,v)]) (l++[(a,b)])) (.cons hk hv .nil) fun a b ih=>.cons a b ih
theorem yE13 (R:KRel T knd kr) (hk:kr k a) (hv:Er T μ h v b) (x:PL T kr μ h r l):PL T kr μ h (stored r k v) (aset l a b):=by
 delta stored aset;refine rz (yB13 R hk x) ?_;rcases l.any fun p=>keq p.1 a with _|_
 ·exact yC13 hk hv x
 ·exact yD13 R hk hv x
theorem yt12 (R:KRel T knd kr) (x:PL T kr μ h r l):∀es,Pairs knd es r->(∀e∈es,∃k,knd.is k e.key=true/\e.hash=knd.hash k)->ErD T μ h es l:=
 x.ind (m:=fun r l=>∀es,Pairs knd es r->(∀e∈es,∃k,knd.is k e.key=true/\e.hash=knd.hash k)->ErD T μ h es l) (fun es hp o_=>by cases hp;exact .nil) fun {k v a b r l} hk hv ih es hp hm=>by cases hp with
  |cons h1 h2 r=>exact x_EA (hm _ (.head _)) fun k' i1 i2=>.cons (i2▸R.mkh (knd.inj _ _ _ i1 h1▸hk)) (R.er hk h1) (h2▸hv) (ih _ r fun e m=>hm e (.tail _ m))
variable {μ':List Addr} {h':Heap}
theorem PL.keep (p:Pre μ μ') (q:TK h h') (x:PL T kr μ h r l):PL T kr μ' h' r l:=x.ind (m:=PL T kr μ' h') .nil fun hk hv ih=>.cons hk (hv.keep p q) ih
theorem y46 {o:Obj} {es:Array DictEntry} (x:o.ExactDict):o.data=.dict es n->o=j3 es.toList n:=by
 obtain ⟨c1,c2,c3,c4⟩:=o
 obtain ⟨x1,x2,x3⟩:=x
 dsimp only at x1 x2 x3⊢;subst x1 x2 x3;exact fun e=>e▸rfl
variable {c:Cx} {σ:St} {μ₀:List Addr} {h₀:Hp}
theorem y42 (O:CxOk c) (rl:At T c μ₀ h₀ σ μ (hpp s)) (hm:μ[i]? =some d) (R:KRel T knd kr) (hk:kr k a) (pl:PL T kr μ s.heap r l) (hn:n=l.length) (hv:Er T μ s.heap v b) (D:h'.DictAt knd d (stored r k v) ep) (hep:ep+r.length=n+(stored r k v).length) (sb:Heap.SameBut d s.heap h'):
 At T c μ₀ h₀ ⟨σ.H.set i (.dict (aset l a b)),σ.m⟩ μ {hpp s with heap:=h'}/\TK s.heap h':=
 have ne:∀b,b≠d->∀r,s.heap.get? b=some r->h'.get? b=some r:=fun b q r e=>(sb.2 b q).trans e;have tk:=yJ rl.rel.rh (qD hm) ne;have x:=yE13 R hk (hv.keep (.refl _) tk) (pl.keep (.refl _) tk)
 jk D fun o es ho hz=>jK hz fun hx hd hko hp hn'=>⟨rl.turn O hm ne ⟨_,_,(y46 hx hd▸ho:h'.get? d=some (j3 es.toList ep)),yt12 R x _ hp fun e m=>hko e (by simpa using m),x.nodup' R hn',by have h1:=x.len;have h2:=pl.len;lia⟩,tk⟩
variable {k:AV}
variable {v1 v2 v3:Value}
theorem ym4 (O:CxOk c) (rl:At T c μ₀ h₀ σ μ (hpp s)) (hi:σ.H[i]? =some (.dict l)) (ok:dkOk l k=true) (hz:l.length<=1000) (e1:Er T μ s.heap v1 (.ref i)) (e2:Er T μ s.heap v2 k) (e3:Er T μ s.heap v3 av) {E:_} {Q':Unit->Shared->Prop}
 (kk:∀s',At T c μ₀ h₀ ⟨σ.H.set i (.dict (aset l k av)),σ.m⟩ μ (hpp s')->TK s.heap s'.heap->Q' () s'):wpAny T.M A (setItem v1 v2 v3) Q' E s:=
 rl.rel.rh.xdict (p:=fun v1=>wpAny T.M A (setItem v1 v2 v3) Q' E s) hi e1 fun hm hd er nd=>za hd er nd.1 ok e2 fun knd kr RR kx r hkr his pl D=>
  yY5 his D (qb (qk pl.len) (qb hz (qa rfl))) fun h' ep D' hep sb=>x_A (y42 O rl hm RR hkr pl nd.2 e3 D' hep sb) fun a t=>kk _ a t
noncomputable def yC:Expr->Bool
 |.Slice _ _ _ _=>false
 |_=>true
variable {slice:Expr}
theorem yH (h:yC slice=true) (o i:Value):subscripted slice false o i=operate [o,i] (getItem o i):=by
 rcases slice with _|_|_|_|_|_|_|_|_|_|_|_|_|_|_|_|_|_|_|_|_|_|_|_|_|_|_<;>first|rfl|injection h
variable {value:Expr} {o:Value} {id:String}
theorem yQ10 {i:Value} {Tn:String} {Q:Value->Shared->Prop} (hT:s.TypeIs o Tn) (hl:qe1 (.type Tn) "__getitem__"=pure (some (.builtin id))) (hs:subscripted slice false o i=operate [o,i] (getItem o i))
 (h:wpAny T.M A (getItem o i) Q E s):wpAny T.M A (subscriptTail value slice o i) Q E s:=by
 unfold subscriptTail;refine qP (rz (getitemInPython_of_ne hT.not_modules) (qP (qa1 hT hl ?_)));have fin:wpAny T.M A (subscripted slice false o i) (fun r s₃=>wpAny T.M A (letTemporaryGo value o r>>=fun o_=>pure r) Q E s₃) E s:=by
  exact rz hs (wpAny_operating (qV h (fun r s₃ h₃=>qP (wpAny_letTemporaryGo (qQ h₃))) fun o_ o_ x=>x))
 first
  |exact qQ (qP fin)
  |exact qP (qQ (qP fin))
  |exact qP fin
noncomputable def yv7 (T:Tab) (H:List AO) (a:AV):Prop:=∀(μ:List Addr) (s:Shared) (v:Value),RH T μ H s.heap->Er T μ s.heap v a->∃Tn id,s.TypeIs v Tn/\qe1 (.type Tn) "__getitem__"=pure (some (.builtin id))
variable {Q:AV->St->Prop} {X:St->Prop}
variable {pos:Pos}
theorem yY15 (O:CxOk c) {v i:Expr} (hs:yC i=true) (h:W T c (Er T) (eval v c.env) (fun a σ1=>W T c (Er T) (eval i c.env) (fun b σ2=>∃r,yv7 T σ2.H a/\(∀v1 v2,Gv T σ2.H (Er2 T v1 v2 a b) (getItem v1 v2) r)/\Q r σ2) X σ1) X σ):
 W T c (Er T) (eval (.Subscript v i pos) c.env) Q X σ:=fun μ s rl=>
 Subscript_ (h.go rl.at fun v1 s1 μ1 a σ1 a1 e1 h1 p1 k1=>h1.go a1 fun v2 s2 μ2 b σ2 a2 e2 h2 p2 k2=>by
  refine jR (h2) fun r ok g q=>jk (ok _ _ _ a2.rel.rh (e1.keep p2 k2)) fun Tn id hT hl=>yQ10 hT hl (yH hs _ _) (g v1 v2 c.A _ _ μ2 s2 O.units a2.rel.rh ⟨e1.keep p2 k2,e2⟩ fun v s3 k3 e3=>?_);have a3:=a2.kp k3;exact ⟨μ2,r,σ2,a3,e3,q⟩)
variable {k:Nat}
theorem yJ12 {l:List AV} (hi:H[i]? =some (.list l)) (hk:k<2^62) (hg:l[k]? =some av) (v1 v2:Value):Gv T H (Er2 T v1 v2 (.ref i) (.int k)) (getItem v1 v2) av:=fun A E Q' μ s u R p kk=>by
 refine x_A (p) fun e1 e2=>kK (R.at hi) fun a hm its n hd el=>?_;apply e1.xref;intro _ e;rw [hm] at e;obtain rfl:=qq e;cases e2;refine x_EA (el.get hg) fun v hv ev=>?_;have:k<4611686018427387904:=hk;exact wpAny_getItem_list (kP hd) (by lia) (by refine (?_:(k:Int)<9223372036854775808);lia) (by simpa using hv) (kk _ _ ⟨fun o_ o_ e=>e,rfl,rfl⟩ ev)
theorem yK12 {l:List AV} (hi:H[i]? =some (.list l)) (hk:0<k/\k<=l.length) (hz:l.length<2^62) (hg:l[l.length-k]? =some av) (v1 v2:Value):Gv T H (Er2 T v1 v2 (.ref i) (.int (-k))) (getItem v1 v2) av:=fun A E Q' μ s u R p kk=>by
 refine x_A (p) fun e1 e2=>kK (R.at hi) fun a hm its n hd el=>?_;apply e1.xref;intro _ e;rw [hm] at e;obtain rfl:=qq e;cases e2;refine x_EA (el.get hg) fun v hv ev=>?_;have hl:=el.length;have:l.length<4611686018427387904:=hz;refine wpAny_getItem_list_neg (kP hd) (by lia) (by refine rz qG (rz hl ?_);lia) (by refine (?_:(-9223372036854775808:Int)<=_);lia) ?_ (kk _ _ ⟨fun o_ o_ e=>e,rfl,rfl⟩ ev);refine rz qG ?_;rw [hl,show (-(k:Int)+(l.length:Int)).toNat=l.length-k from by lia];simpa using hv
theorem yl4 (h:k<n):seqIndex? (k:Int) n=some k:=by
 have hn:¬(k:Int)<0:=by lia
 simp [seqIndex?,hn,h]
theorem yL12 {l:List AV} (hk:k<2^62) (hg:l[k]? =some av) (v1 v2:Value):Gv T H (Er2 T v1 v2 (.tup l) (.int k)) (getItem v1 v2) av:=fun A E Q' μ s u R p kk=>by
 refine x_A (p) fun e1 e2=>?_;apply e1.xtup;intro _ _ ho el;cases e2;refine x_EA (el.get hg) fun v hv ev=>?_;have:k<4611686018427387904:=hk;refine PyProof.Rows.getItem_tuple (items:=_) (jY ho) (by refine (?_:(-9223372036854775808:Int)<=_);lia) (by refine (?_:(k:Int)<9223372036854775808);lia) (j:=k) (yl4 ?_) (by simpa using hv) (kk _ _ ⟨fun o_ o_ e=>e,rfl,rfl⟩ ev);have:=(qA.mp hv).1;simpa using this
theorem yG12 {l:List UInt8} (hk:k<l.length) (hz:l.length<=1000000) (v1 v2:Value):Gv T H (Er2 T v1 v2 (.bytes l) (.int k)) (getItem v1 v2) (.int ((l.getD k 0).toNat)):=fun A E Q' μ s u R p kk=>by
 refine x_A (p) fun e1 e2=>?_;cases e1;cases e2;refine PySem.W.getItem_bytes (l:=l) (by lia) (by lia) (by lia) (kk _ _ ⟨fun o_ o_ e=>e,rfl,rfl⟩ ?_);rw [Int.toNat_natCast];exact .int _ _
noncomputable def cut {α:Type} (l:List α) (lo hi:Option Int):List α:=(l.drop (lo.elim 0 (clipAt l.length))).take (hi.elim l.length (clipAt l.length)-lo.elim 0 (clipAt l.length))
noncomputable def kG:AV->Option (Option Int)
 |.nil=>some none
 |.int i=>some (some i)
 |_=>none
theorem yA1 {x:Option Int} (e:Er T μ h v a) (p:kG a=some x):IsPart v x:=
 e.xall (p:=fun v a=>kG a=some x->IsPart v x) (fun q=>qq q▸ .none) (fun o_=>ja) (fun o_ o_ q=>qq q▸ .int _ _) (fun o_ o_=>ja) (fun o_ o_=>ja) (fun o_=>ja) (fun o_ o_=>ja) (fun o_ o_=>ja) ja p
variable {hi:Option Expr} {p:Pos}
theorem yG {lo:Option Expr} {i:Value} {Tn:String} {Q:Value->Shared->Prop} (hT:s.TypeIs o Tn) (hl:qe1 (.type Tn) "__getitem__"=pure (some (.builtin id)))
 (h:wpAny T.M A (getItem o i) Q E s):wpAny T.M A (subscriptTail value (.Slice lo hi none p) o i) Q E s:=by
 unfold subscriptTail;refine qP (rz (getitemInPython_of_ne hT.not_modules) (qP (qa1 hT hl ?_)));have fin:wpAny T.M A (subscripted (.Slice lo hi none p) false o i) (fun r s₃=>wpAny T.M A (letTemporaryGo value o r>>=fun o_=>pure r) Q E s₃) E s:=by
  refine (?_:wpAny T.M A (operate [i,o] (getItem o i)) _ _ _);exact wpAny_operating (qV h (fun r s₃ h₃=>qP (wpAny_letTemporaryGo (qQ h₃))) fun o_ o_ x=>x)
 first
  |exact qQ (qP fin)
  |exact qP (qQ (qP fin))
  |exact qP fin
noncomputable def yI1 (T:Tab) (c:Cx) (x:Option Expr) (Q:AV->St->Prop) (X:St->Prop) (σ:St):Prop:=match x with
 |some e=>W T c (Er T) (eval e c.env) Q X σ
 |none=>Q .nil σ
variable {Q':Value->Shared->Prop}
theorem yI1.go {x:Option Expr} {Q1:AV->St->Prop} (w:yI1 T c x Q1 X σ) (a:At T c μ₀ h₀ σ μ (hpp s))
 (k:∀v s' μ' b σ',At T c μ₀ h₀ σ' μ' (hpp s')->Er T μ' s'.heap v b->Q1 b σ'->Pre μ μ'->TK s.heap s'.heap->Q' v s'):wpAny T.M c.A (evalPart x c.env) Q' (EX T c X μ₀ h₀) s:=by
 rcases x with _|e
 ·exact qQ (k _ s μ .nil σ a .nil w (.refl _) (.refl _))
 ·exact W.go w a k
theorem yY8 (its:Array Value) (lo hi:Option Int):slicePick its lo hi none=((its.toList.drop (lo.elim 0 (clipAt its.size))).take (hi.elim its.size (clipAt its.size)-lo.elim 0 (clipAt its.size))).toArray:=by
 unfold slicePick;rw [sliceBounds_plain];simp only [sliceRange_one,pick_run]
theorem yh5 (f:Array Value->Array Value) (its:List Value) (n:Nat):∃n',Obj.mapSeq f (jz its n)=jz (f ⟨its⟩).toList n':=⟨_,rfl⟩
variable {a:Addr} {its:List Value}
theorem yk9 (e:h.get? a=some (jz its n)) (f:Array Value->Array Value):∃n',(h.update a (Obj.mapSeq f)).get? a=some (jz (f ⟨its⟩).toList n'):=by
 exact x_E (yh5 f its n) fun n' q=>⟨n',by rw [qN _ e (by rw [q];rfl),q]⟩
variable {l:List AV}
variable {l':List AV}
theorem zG (O:CxOk c) (rl:At T c μ₀ h₀ σ μ (hpp s)) (hm:μ[i]? =some a) (ho:s.heap.get? a=some (jz its n)) (f:Array Value->Array Value)
 (hl:∀h',TK s.heap h'->ErL T μ h' (f ⟨its⟩).toList l'):At T c μ₀ h₀ ⟨σ.H.set i (.list l'),σ.m⟩ μ {hpp s with heap:=s.heap.update a (Obj.mapSeq f)}/\TK s.heap (s.heap.update a (Obj.mapSeq f)):=by
 refine x_E (yk9 ho f) fun n' e=>?_;have tk:=zK (f:=Obj.mapSeq f) ho (yd2 _ _);exact ⟨rl.turn O hm (fun b q r e=>yr3 b r q e) ⟨_,n',e,hl _ tk⟩,tk⟩
theorem ya1 (O:CxOk c) (rl:At T c μ₀ h₀ σ μ (hpp s)) (hi:σ.H[i]? =some (.list l)) (hz:l.length<=1000000) {w:Value} (e1:Er T μ s.heap v (.ref i)) (e2:Er T μ s.heap w b)
 (k:∀s',At T c μ₀ h₀ ⟨σ.H.set i (.list (l++[b])),σ.m⟩ μ (hpp s')->TK s.heap s'.heap->Q' .none s'):wpAny T.M A (call (.builtin "list.append") [v,w]) Q' E s:=by
 apply rl.rel.rh.xlist hi e1;intro a its n hm ho el;refine wpAny_list_append_plain ⟨n,ho⟩ (fun h' ⟨n',e'⟩ sb=>?_) (by rw [qG,el.length,qY];lia);have ne:∀x,x≠a->∀r,s.heap.get? x=some r->h'.get? x=some r:=fun x q r e=>(sb.2 x q).trans e;have tk:=yJ rl.rel.rh (qD hm) ne;refine k _ (rl.turn O hm ne ⟨its++[w],n',?_,(el.keep (.refl _) tk).append (.cons (e2.keep (.refl _) tk) .nil)⟩) tk;rw [e'];simp
variable {j:Nat} {m:List AV}
theorem yW4 (O:CxOk c) (rl:At T c μ₀ h₀ σ μ (hpp s)) (hi:σ.H[i]? =some (.list l)) (hj:σ.H[j]? =some (.list m)) (hz:l.length+m.length<=1000000) {w:Value} (e1:Er T μ s.heap v (.ref i)) (e2:Er T μ s.heap w (.ref j))
 (k:∀s',At T c μ₀ h₀ ⟨σ.H.set i (.list (l++m)),σ.m⟩ μ (hpp s')->TK s.heap s'.heap->Q' .none s'):wpAny T.M A (call (.builtin "list.extend") [v,w]) Q' E s:=by
 apply rl.rel.rh.xlist hi e1;intro a its n hm ho el;apply rl.rel.rh.xlist hj e2;intro b its2 n2 hm2 ho2 el2;have hsz:its.toArray.size+its2.toArray.size<=sizeLine:=by rw [qG,qG,el.length,el2.length,qY];lia
 refine call_meets PySem.F.slot_list_extend ⟨_,ho,rfl⟩ PySem.F.entry_list_extend (PySem.F.args_list_extend_2 _ _) (AutoSeq1.list_extend_list_list_0 a its.toArray n b its2.toArray n2 (extend_door hsz) (qb (qi _ _) hsz)) ⟨ho,ho2,?_⟩;obtain ⟨a2,tk⟩:=zG O rl hm ho (fun x=>x++its2.toArray) (l':=l++m) fun h' tk=>by simpa using (el.keep (.refl _) tk).append (el2.keep (.refl _) tk)
 exact k _ a2 tk
theorem yP3 (O:CxOk c) (rl:At T c μ₀ h₀ σ μ (hpp s)) (hi:σ.H[i]? =some (.list l)) (hz:l.length<=1000000) (e1:Er T μ s.heap v (.ref i))
 (k:∀s',At T c μ₀ h₀ ⟨σ.H.set i (.list l.reverse),σ.m⟩ μ (hpp s')->TK s.heap s'.heap->Q' .none s'):wpAny T.M A (call (.builtin "list.reverse") [v]) Q' E s:=by
 apply rl.rel.rh.xlist hi e1;intro a its n hm ho el;refine call_meets PySem.F.slot_list_reverse ⟨_,ho,rfl⟩ PySem.F.entry_list_reverse (PySem.F.args_list_reverse_1 _) (AutoSeq1.list_reverse_list_0 a its.toArray n (by rw [qG,el.length,qY];lia)) ⟨ho,?_⟩;obtain ⟨a2,tk⟩:=zG O rl hm ho (fun x=>x.reverse) (l':=l.reverse) fun h' tk=>by simpa using (el.keep (.refl _) tk).reverse
 exact k _ a2 tk
theorem ErL.eraseIdx {vs l:_} (x:ErL T μ h vs l):∀(n:Nat),ErL T μ h (vs.eraseIdx n) (l.eraseIdx n):=
 x.ind (m:=fun vs l=>∀n,ErL T μ h (vs.eraseIdx n) (l.eraseIdx n)) (fun n=>.nil) fun hv hl ih n=>Nat.casesOn n hl fun n=>.cons hv (ih n)
theorem y54 (its:List Value) (n:Nat):((⟨its⟩:Array Value).eraseIdxIfInBounds n).toList=its.eraseIdx n:=by
 unfold Array.eraseIdxIfInBounds;split
 ·simp
 ·rename_i h;rw [List.eraseIdx_of_length_le];simpa using h
variable {y:AV}
theorem yR7 (O:CxOk c) (rl:At T c μ₀ h₀ σ μ (hpp s)) (hi:σ.H[i]? =some (.list l)) (hz:l.length<=1000000) (hy:l[l.length-1]? =some y) (e1:Er T μ s.heap v (.ref i))
 (k:∀w s',At T c μ₀ h₀ ⟨σ.H.set i (.list (l.eraseIdx (l.length-1))),σ.m⟩ μ (hpp s')->TK s.heap s'.heap->Er T μ s'.heap w y->Q' w s'):wpAny T.M A (call (.builtin "list.pop") [v]) Q' E s:=by
 apply rl.rel.rh.xlist hi e1;intro a its n hm ho el;refine x_EA (el.get hy) fun w hw ew=>?_;have hlen:=el.length;refine call_meets PySem.F.slot_list_pop ⟨_,ho,rfl⟩ PySem.F.entry_list_pop (PySem.F.args_list_pop_1 _) (PySem.MeetsSeq.list_pop_last a its.toArray n w (by rw [qG,hlen];simpa using hw) (by rw [qG,hlen,qY];lia)) ⟨ho,?_⟩;obtain ⟨a2,tk⟩:=zG O rl hm ho (fun xs=>xs.eraseIdxIfInBounds (its.toArray.size-1)) (l':=l.eraseIdx (l.length-1)) fun h' tk=>by
  rw [y54,qG,hlen];exact ErL.eraseIdx (el.keep (.refl _) tk) _
 exact k w _ a2 tk (ew.keep (.refl _) tk)
theorem yY6 (O:CxOk c) (rl:At T c μ₀ h₀ σ μ (hpp s)) (hi:σ.H[i]? =some (.list (y::l))) (hz:l.length<1000000) {w0:Value} (e1:Er T μ s.heap v (.ref i)) (e2:Er T μ s.heap w0 (.int 0))
 (k:∀w s',At T c μ₀ h₀ ⟨σ.H.set i (.list l),σ.m⟩ μ (hpp s')->TK s.heap s'.heap->Er T μ s'.heap w y->Q' w s'):wpAny T.M A (call (.builtin "list.pop") [v,w0]) Q' E s:=by
 apply rl.rel.rh.xlist hi e1;intro a its n hm ho el;apply e2.xint;intro t0;refine jp el.ofCons fun x ws hz ew el2=>?_;subst hz;have hlen:=el2.length;refine call_meets PySem.F.slot_list_pop ⟨_,ho,rfl⟩ PySem.F.entry_list_pop (PySem.F.args_list_pop_2 _ _) (PySem.MeetsSeq.list_pop_at a _ n 0 _ 0 _ (by decide) (yl4 (k:=0) (by simp)) (by rfl) (by rw [qG,List.length_cons,hlen,qY];lia)) ⟨ho,?_⟩;obtain ⟨a2,tk⟩:=zG O rl hm ho (fun xs=>xs.eraseIdxIfInBounds 0) (l':=l) fun h' tk=>by
  rw [y54];simpa using el2.keep (.refl _) tk
 exact k _ _ a2 tk (ew.keep (.refl _) tk)
theorem yR6 (rl:At T c μ₀ h₀ σ μ (hpp s)) (hi:σ.H[i]? =some (.list l)) (hj:σ.H[j]? =some (.list m)) (hz:l.length+m.length<=1000000) {w:Value} (e1:Er T μ s.heap v (.ref i)) (e2:Er T μ s.heap w (.ref j))
 (k:∀r s' μ',At T c μ₀ h₀ ⟨σ.H++[.list (l++m)],σ.m⟩ μ' (hpp s')->Pre μ μ'->TK s.heap s'.heap->Er T μ' s'.heap r (.ref σ.H.length)->Q' r s'):wpAny T.M A (binaryOp .Add v w) Q' E s:=by
 apply rl.rel.rh.xlist hi e1;intro a its n hm ho el;apply rl.rel.rh.xlist hj e2;intro b its2 n2 hm2 ho2 el2;refine PySem.P.add_list (items:=its.toArray) (items2:=its2.toArray) ho ho2 ?_ (by rw [qG,qG,el.length,el2.length,qY];lia);have e:({cls:=.type "list",data:=.seq (its.toArray++its2.toArray)}:Obj)=jz (its++its2) 0:=by simp
 rw [e];have kp:=jm s.heap (jz (its++its2) 0);have a2:=rl.push (o:=jz (its++its2) 0) (ao:=.list (l++m)) ⟨_,0,qK _ rfl,(el.append el2).keep (.snoc _ _) (.of_keeps kp)⟩;exact k _ _ _ a2 (.snoc _ _) (.of_keeps kp) (.ref (by rw [<-rl.rel.rh.len];simp))
structure BM (Tn:String) (name:Str) (id:String):Prop where
 pa:PlainAttrs Tn
 slot:Slot Tn name id
 ty:typeOf (.builtin id)=pure (.type "method_descriptor")
theorem yU6:BM "list" "append" "list.append":=⟨PySem.F.plainAttrs_list,PySem.F.slot_list_append,PySem.F.type_list_append⟩
theorem yV6:BM "list" "extend" "list.extend":=⟨PySem.F.plainAttrs_list,PySem.F.slot_list_extend,PySem.F.type_list_extend⟩
theorem y911:BM "list" "pop" "list.pop":=⟨PySem.F.plainAttrs_list,PySem.F.slot_list_pop,PySem.F.type_list_pop⟩
theorem yy5:BM "list" "reverse" "list.reverse":=⟨PySem.F.plainAttrs_list,PySem.F.slot_list_reverse,PySem.F.type_list_reverse⟩
theorem y811:BM "dict" "get" "dict.get":=⟨PySem.F.plainAttrs_dict,PySem.F.slot_dict_get,PySem.F.type_dict_get⟩
noncomputable def AO.tn:AO->Option String
 |.list _=>some "list"
 |.dict _=>some "dict"
 |_=>none
noncomputable def tnOf (H:List AO):AV->Option String
 |.ref i=>H[i]?.bind AO.tn
 |.bytes _=>some "bytes"
 |.str _=>some "str"
 |.tup _=>some "tuple"
 |_=>none
structure TnAt (s:Shared) (v:Value) (Tn:String):Prop where
 ty:s.TypeIs v Tn
 nd:yG6 (fun x=>∃o,s.heap.get? x=some o/\o.dict=none) v
variable {a:AV}
theorem yU11 (R:RH T μ H s.heap) {Tn:String} (e:Er T μ s.heap v a) (ok:tnOf H a=some Tn):TnAt s v Tn:=
 e.xall (p:=fun v a=>tnOf H a=some Tn->TnAt s v Tn) ja (fun o_=>ja) (fun o_ o_=>ja) (fun o_ o_ ok=>qq ok▸⟨rfl,trivial⟩) (fun o_ o_ ok=>qq ok▸⟨rfl,trivial⟩)
  (fun {a i} em ok=>ob_e ok fun o ho=>by
   rcases o with l|l|⟨_,_⟩|_|_
   ·exact fun ok=>jk (R.o i a _ em ho) fun its n hg o_=>qq ok▸⟨⟨_,hg,rfl⟩,⟨_,hg,rfl⟩⟩
   ·exact fun ok=>jk (R.o i a _ em ho) fun es n hg o_=>qq ok▸⟨⟨_,hg,rfl⟩,⟨_,hg,rfl⟩⟩
   ·exact ja
   ·exact ja
   ·exact ja) (fun ho o_ ok=>qq ok▸⟨⟨_,ho,rfl⟩,⟨_,ho,rfl⟩⟩) (fun o_ o_=>ja) ja ok
theorem y35 (h:H[i]? =some (.list l)):tnOf H (.ref i)=some "list":=congrArg (fun o=>Option.bind o AO.tn) h
theorem yd9 {l:List (AV×AV)} (h:H[i]? =some (.dict l)):tnOf H (.ref i)=some "dict":=congrArg (fun o=>Option.bind o AO.tn) h
theorem kz1 {Tn:String} (t:tnOf H a=some Tn) (g:qe1 (.type Tn) "__getitem__"=pure (some (.builtin id))):yv7 T H a:=fun o_ o_ o_ R e=>⟨Tn,id,(yU11 R e t).ty,g⟩
theorem yZ6 (O:CxOk c) (hi:σ.H[i]? =some (.list l)) (hz:l.length<=1000000) (q:Q .nil ⟨σ.H.set i (.list (l++[b])),σ.m⟩):jL T c (.builtin "list.append") [.ref i,b] Q X σ:=fun vs μ s rl ev=>by
 apply ev.x2;intro _ _ e1 e2;exact ya1 O rl.at hi hz e1 e2 fun s' a o_=>⟨μ,.nil,_,a,.nil,q⟩
theorem y06 (O:CxOk c) (hi:σ.H[i]? =some (.list l)) (hj:σ.H[j]? =some (.list m)) (hz:l.length+m.length<=1000000) (q:Q .nil ⟨σ.H.set i (.list (l++m)),σ.m⟩):jL T c (.builtin "list.extend") [.ref i,.ref j] Q X σ:=fun vs μ s rl ev=>by
 apply ev.x2;intro _ _ e1 e2;exact yW4 O rl.at hi hj hz e1 e2 fun s' a o_=>⟨μ,.nil,_,a,.nil,q⟩
theorem yI5 (O:CxOk c) (hi:σ.H[i]? =some (.list l)) (hz:l.length<=1000000) (q:Q .nil ⟨σ.H.set i (.list l.reverse),σ.m⟩):jL T c (.builtin "list.reverse") [.ref i] Q X σ:=fun vs μ s rl ev=>by
 apply ev.x1;intro _ e1;exact yP3 O rl.at hi hz e1 fun s' a o_=>⟨μ,.nil,_,a,.nil,q⟩
theorem yi12 (O:CxOk c) (hi:σ.H[i]? =some (.list l)) (hz:l.length<=1000000) (hy:l[l.length-1]? =some y) (q:Q y ⟨σ.H.set i (.list (l.eraseIdx (l.length-1))),σ.m⟩):jL T c (.builtin "list.pop") [.ref i] Q X σ:=fun vs μ s rl ev=>by
 apply ev.x1;intro _ e1;exact yR7 O rl.at hi hz hy e1 fun w s' a o_ ew=>⟨μ,y,_,a,ew,q⟩
theorem yT9 (O:CxOk c) (hi:σ.H[i]? =some (.list (y::l))) (hz:l.length<1000000) (q:Q y ⟨σ.H.set i (.list l),σ.m⟩):jL T c (.builtin "list.pop") [.ref i,.int 0] Q X σ:=fun vs μ s rl ev=>by
 apply ev.x2;intro _ _ e1 e2;exact yY6 O rl.at hi hz e1 e2 fun w s' a o_ ew=>⟨μ,y,_,a,ew,q⟩
variable {fv:Value}
theorem yX4 (O:CxOk c) {r:AV} (g:∀vs,Gv T σ.H (fun μ h=>ErL T μ h vs l) (call fv vs) r) (q:Q r σ):jL T c fv l Q X σ:=fun vs=>(g vs).wat O q
theorem y99 (TO:zV T) {l:List (AV×AV)} {k:AV} (hi:H[i]? =some (.dict l)) (ok:dkOk l k=true) (vs:List Value):Gv T H (fun μ h=>ErL T μ h vs [.ref i,k]) (call (.builtin "dict.get") vs) ((aget l k).getD .nil):=fun A E Q' μ s u R ev kk=>by
 apply ev.x2;intro _ _ e1 e2;apply R.xdict hi e1;intro a es n hm hd er nd;refine za hd er nd.1 ok e2 fun knd kr RR kx r hkr his pl D=>call_meetsIn PySem.F.slot_dict_get ⟨_,hd,rfl⟩ PySem.F.entry_dict_get (PySem.F.args_dict_get_2 _ _) (meets_dict_get knd a his (yb4 TO R (qD hm))) ⟨_,D.dictOf.mapOf,?_⟩;exact yv1 RR hkr (p:=fun o b=>(∀v,Er T μ s.heap v (b.getD .nil)->Q' v {s with toks:=s.toks+1})->Q' (o.getD .none) {s with toks:=s.toks+1}) (fun q=>q _ .nil) (fun o_ o_ e q=>q _ e) pl fun v e=>kk _ _ ⟨fun o_ o_ e=>e,rfl,rfl⟩ e
noncomputable def AO.di:AO->Option (List (AV×AV))
 |.dict l=>some l
 |_=>none
noncomputable def diAt (H:List AO) (i:Nat):Option (List (AV×AV)):=H[i]?.bind AO.di
theorem yU {l:List (AV×AV)} (h:diAt H i=some l):H[i]? =some (.dict l):=ob_e h fun o e=>by
 rcases o with _|_|⟨_,_⟩|_|_
 ·exact ja
 ·exact fun q=>e.trans (congrArg (fun l=>some (AO.dict l)) (qq q))
 ·exact ja
 ·exact ja
 ·exact ja
theorem zb1 {l:List (AV×AV)} (h:H[i]? =some (.dict l)):diAt H i=some l:=congrArg (fun o=>Option.bind o AO.di) h
noncomputable def AO.ty (H:List AO):AO->Option Value
 |.list _=>some (.type "list")
 |.dict _=>some (.type "dict")
 |.inst C j=>(diAt H j).map fun o_=>.ref C
 |_=>none
noncomputable def typV (H:List AO):AV->Option Value
 |.nil=>some (.type "NoneType")
 |.bool _=>some (.type "bool")
 |.int _=>some (.type "int")
 |.str _=>some (.type "str")
 |.bytes _=>some (.type "bytes")
 |.tup _=>some (.type "tuple")
 |.ref i=>H[i]?.bind (AO.ty H)
 |_=>none
noncomputable def zs (K:Frag) (D:Addr):Bool:=plainGet K D "__class__"&&hasDictIn K D&&findIn K (.ref D) "__class__"==some (some (.builtin "object.__class__"))&&
 specialIn K (.builtin "object.__class__") "__get__"==some (some (.builtin "getset_descriptor.__get__"))&&takesIn K (.builtin "object.__class__")==some true&&mroIn K D (.type "object")==some true
variable {D:Addr}
theorem y312 {K:Frag} {G:Prop} (h:zs K D=true) (k:plainGet K D "__class__"=true->hasDictIn K D=true->findIn K (.ref D) "__class__"=some (some (.builtin "object.__class__"))->specialIn K (.builtin "object.__class__") "__get__"=some (some (.builtin "getset_descriptor.__get__"))->takesIn K (.builtin "object.__class__")=some true->mroIn K D (.type "object")=some true->G):G:=
 have h:=qI.mp h;have g:=qI.mp h.1;have e:=qI.mp g.1;have d:=qI.mp e.1;have b:=qI.mp d.1
 k b.1 b.2 (eq_of_beq d.2) (eq_of_beq e.2) (eq_of_beq g.2) (eq_of_beq h.2)
noncomputable def yz11 (K:Frag):Value->Bool
 |.ref C=>zs K C
 |_=>true
theorem y82 {cls t:Value} {b:Bool} (ht:typV H a=some t) (hi:yz11 T.K t=true) (hk:kitOne T.K t cls=some b) (hc:∀μ h v,Er T μ h v a->v≠.builtin "__main__.__loader__#opaque") (v:Value):Gv T H (Er1 T v a) (call (.builtin "isinstance") [v,cls]) (.bool b):=fun A E Q' μ s u R e kk=>
 have fin:∀{v t':Value} {H':Heap->Prop},some t'=some t->KitX T.K v t' H'->H' s.heap->v≠.builtin "__main__.__loader__#opaque"->wpAny T.M A (call (.builtin "isinstance") [v,cls]) Q' E s:=fun ht Z p hn=>kia_one (qq ht▸Z) R.top p hk hn fun tk=>kk _ _ kp1 (.bool _)
 e.xall (p:=fun v a=>typV H a=some t->v≠.builtin "__main__.__loader__#opaque"->wpAny T.M A (call (.builtin "isinstance") [v,cls]) Q' E s) (fun ht=>fin ht kitx_none trivial) (fun o_ ht=>fin ht kitx_bool trivial) (fun o_ o_ ht=>fin ht kitx_int trivial) (fun o_ o_ ht=>fin ht kitx_str trivial) (fun o_ o_ ht=>fin ht kitx_bytes trivial)
  (fun {a i} em ht hn=>ob_e ht fun o ho=>by
   rcases o with l|l|⟨C,j⟩|_|_
   ·exact fun ht=>jk (R.o i a _ em ho) fun its n hg o_=>fin ht kitx_list ⟨_,hg,rfl⟩ hn
   ·exact fun ht=>jk (R.o i a _ em ho) fun its n hg o_=>fin ht kitx_dict ⟨_,hg,rfl⟩ hn
   ·exact fun ht=>om_e ht fun l hl q=>zF R ho (yU hl) fun x dx es n hx hdx I hd er o_=>y312 ((congrArg (yz11 T.K) q).trans hi) fun b1 b2 d e g h=>fin (congrArg some q) (kitx_own (ox:=y13 C dx) (od:=dictOf es n) b1 b2 d e g h) ((qq (hx.symm.trans em))▸I) hn
   ·exact ja
   ·exact ja) (fun ho o_ ht=>fin ht kitx_tuple ⟨_,ho,rfl⟩) (fun o_ o_ ht=>ja ht) ja ht (hc _ _ _ e)
theorem y64 (hi:H[i]? =some (.list l)) (hz:l.length<2^62) (vs:List Value):Gv T H (fun μ h=>ErL T μ h vs [.ref i]) (call (.builtin "len") vs) (.int l.length):=fun A E Q' μ s u R ev kk=>by
 apply ev.x1;intro _ e1;apply R.xlist hi e1;intro a its n hm hd el;have hl:=el.length;have hz':l.length<4611686018427387904:=hz;have hs:its.toArray.size=l.length:=by exact rz qG (rz hl rfl)
 refine call_len_list (kP hd) (by refine rz hs (?_:(l.length:Int)<9223372036854775808);lia) (kk _ _ ⟨fun o_ o_ e=>e,rfl,rfl⟩ ?_);exact rz hs (.int _ _)
theorem yX3 {l:List UInt8} (hz:l.length<=1000000) (vs:List Value):Gv T H (fun μ h=>ErL T μ h vs [.bytes l]) (call (.builtin "len") vs) (.int l.length):=fun A E Q' μ s u R ev kk=>by
 apply ev.x1;intro _ e1;apply e1.xbytes;intro t;exact PySem.W.len_bytes (b:=⟨l⟩) (qb hz (qa rfl)) (kk _ _ kp1 (.int _ _))
theorem yL5 {x:Str} (hx:T.names[n]? =some x) (hz:x.length<=1000000) (vs:List Value):Gv T H (fun μ h=>ErL T μ h vs [.str n]) (call (.builtin "len") vs) (.int x.length):=fun A E Q' μ s u R ev kk=>by
 apply ev.x1;intro _ e1;apply e1.xstr;intro _ t e;rw [hx] at e;obtain rfl:=qq e;exact PySem.P.len_str (by refine (?_:¬(x.length:Int)>=9223372036854775808);lia) (kk _ _ ⟨fun o_ o_ e=>e,rfl,rfl⟩ (.int _ _))
theorem yM12 {i:Int} (vs:List Value):Gv T H (fun μ h=>ErL T μ h vs [.int i]) (call (.builtin "abs") vs) (.int (if i<0 then-i else i)):=fun A E Q' μ s u R ev kk=>by
 apply ev.x1;intro _ e1;apply e1.xint;intro t;exact PyProof.Rows.call_abs_int fun u tk=>kk _ _ ⟨fun o_ o_ e=>e,rfl,rfl⟩ (.int _ _)
variable {Qf:AF->St->Prop} {outer:List Env} {L:Addr}
variable {body:List Stmt}
theorem y910 (O:CxOk c) (hfr:c.fr=c.env::outer) (hf:c.env.frame=some L) {test:Expr} (J:Nat->St->Prop)
 (step:∀k σ,J k σ->W T c BoR (isTrue test c.env (eval test c.env)) (fun b σ1=>match b with|true=>W T c (FlR T) (execs body c.env) (jN Qf fun σ2=>∃k',k'<k/\J k' σ2) X σ1|false=>Qf .next σ1) X σ)
 {k:Nat} (hJ:J k σ):W T c (FlR T) (exec (.While test body [] pos) c.env) Qf X σ:=fun μ s rl=>by
 refine wpAny_While (codeAny_whileLoop (fun k s1=>∃σ1 μ1,J k σ1/\At T c μ (hpp s) σ1 μ1 (hpp s1)) (fun k s1 ⟨σ1,μ1,hJ,a⟩=>?_) k ⟨σ,μ,hJ,rl.at⟩);have back:∀{μ₁ h₁ e s2},At T c μ (hpp s) σ1 μ₁ h₁->EX T c X μ₁ h₁ e s2->notedBy T.M c.A c.env (fun e s'=>cameBackBy T.M c.A c.env (EX T c X μ (hpp s)) e s') e s2:=fun a z=>
  EX.noted O hfr hf (z.trans a) rfl fun s3 x=>x.back hfr fun s4 y=>y
 refine qV (step k σ1 hJ μ1 s1 a.rel) (fun b s2 z=>?_) fun e s2 z=>back a z;obtain ⟨μ2,b',σ2,av,hb,q⟩:=z
 subst (hb:b=b');have a2:At T c μ (hpp s) σ2 μ2 (hpp s2):=a.trans av;rcases b with _|_
 ·exact wpAny_execs_nil ⟨μ2,.next,σ2,a2,.next,q⟩
 ·have q':W T c (FlR T) (execs body c.env) (jN Qf fun σ2=>∃k',k'<k/\J k' σ2) X σ2:=q;refine qV (q' μ2 s2 a2.rel) (fun f s3 z=>?_) fun e s3 z=>?_
  ·obtain ⟨μ3,b,σ3,av3,fl,q3⟩:=z
   have a3:At T c μ (hpp s) σ3 μ3 (hpp s3):=a2.trans av3;have nx:(∃k',k'<k/\J k' σ3)->∃m,m<k/\∃σ1 μ1,J m σ1/\At T c μ (hpp s) σ1 μ1 (hpp s3):=fun ⟨k',hk,hJ'⟩=>⟨k',hk,σ3,μ3,hJ',a3⟩;cases fl with
   |next=>exact nx q3
   |cont=>exact nx q3
   |brk=>exact ⟨μ3,.next,σ3,a3,.next,q3⟩
   |ret ev=>exact ⟨μ3,.ret _,σ3,a3,.ret ev,q3⟩
  ·exact EX.noted O hfr hf (z.trans a2) rfl fun s3 x=>x.back hfr fun s4 y=>y
end
section
variable {T:Tab}
variable {c:Cx}
inductive yE1 (T:Tab) (c:Cx):List Nat->List Expr->Prop
 |nil:yE1 T c [] []
 |cons {n nm p ns es} (hn:T.names[n]? =some nm) (hl:c.env.kindOf nm=some .local) (r:yE1 T c ns es):yE1 T c (n::ns) (.Name nm p::es)
noncomputable def putAll:List Nat->List AV->Loc->Loc
 |n::ns,v::vs,m=>putAll ns vs (put m n v)
 |_,_,m=>m
theorem ya7 {ns es} (N:yE1 T c ns es):(assignEach es c.env).length=ns.length/\(assignEach es c.env).findIdx? (·.1)=none:=by
 induction N with
 |nil=>exact ⟨rfl,rfl⟩
 |cons hn hl r ih=>
  refine ⟨by refine (?_:_+1=_+1);exact rz ih.1 rfl,?_⟩;refine (?_:List.findIdx? _ ((false,_)::assignEach _ c.env)=none);refine rz List.findIdx?_cons ?_;simp [ih.2]
variable {σ:St}
variable {μ₀:List Addr}
variable {μ:List Addr}
variable {h₀:Hp}
variable {s:Shared}
variable {A:Around}
theorem yq8 (O:CxOk c) {E:Value->Shared->Prop} {ns es} (N:yE1 T c ns es):∀{vs as} {σ:St} {s:Shared},At T c μ₀ h₀ σ μ (hpp s)->ErL T μ s.heap vs as->vs.length=ns.length->∀{Q':Unit->Shared->Prop},
 (∀s',At T c μ₀ h₀ ⟨σ.H,putAll ns as σ.m⟩ μ (hpp s')->Q' () s')->wpAny T.M A (assignInOrder ((assignEach es c.env).map (·.2)) vs) Q' E s:=by
 induction N with
 |nil=>
  intro vs as σ s a el h Q' k;cases el with
  |nil=>exact qQ (k s a)
  |cons=>cases h
 | @cons n nm p ns es hn hl r ih=>
  intro vs as σ s a el h Q' k;cases el with
  |nil=>cases h
  | @cons v _ vs _ hv el=>
   refine (?_:wpAny T.M A (do holding vs (assign (.Name nm p) c.env v);assignInOrder ((assignEach es c.env).map (·.2)) vs) Q' E s);exact qP (qW (wpAny_assign_Name (ko1 O a hv hn hl fun s1 a1 tk o_=>ih a1 (el.keep (.refl _) tk) (Nat.succ.inj h) k)))
variable {prog:Program} {w:World} {E:Value->Shared->Prop}
variable {t:Addr} {items:Array Value}
theorem y52 {it:Addr} (hne:t≠it):∀(n i:Nat) (s:Shared) (Q:List Value->Shared->Prop),s.heap.IsListIter it t i->s.heap.IsList t items->i+n<=items.size->
 (∀h',h'.IsListIter it t (i+n)->Heap.SameBut it s.heap h'->Q ((items.toList.drop i).take n) {s with heap:=h'})->wpAny (model prog w) A (draw (.ref it) n) Q E s
 |0,i,s,Q,hit,_,_,hQ=>by
  refine (?_:wpAny _ _ (pure []) Q E s);exact qQ (by simpa using hQ s.heap hit (Heap.SameBut.refl ..))
 |n+1,i,s,Q,hit,ht,hle,hQ=>by
  have hlt:i<items.size:=by lia
  refine (?_:wpAny _ _ (pyNext (.ref it)>>=_) Q E s);refine qP (wpAny_pyNext_list_item hit ht (x:=items[i]) (by simp [hlt]) fun h₁ hit₁ hs₁=>?_);refine qP (qW (y52 hne n (i+1) _ _ hit₁ (ht.extBut hs₁.extBut hne) (by lia) fun h₂ hit₂ hs₂=>qQ ?_));have hd:items.toList.drop i=items[i]::items.toList.drop (i+1):=by simp [List.drop_eq_getElem_cons,hlt]
  have:=hQ h₂ (by exact rz (show i+(n+1)=i+1+n by lia) hit₂) (hs₁.trans hs₂);rw [hd,List.take_succ_cons] at this;exact this
theorem y2 {Q:List Value->Shared->Prop} (hh:A.handled=none) (ht:s.heap.IsList t items)
 (hQ:∀h',Heap.ExtBut s.heap.objs.size s.heap h'->Q items.toList {s with heap:=h'}):wpAny (model prog w) A (unpackItems (.ref t) items.size none) Q E s:=by
 have hlt:t≠s.heap.objs.size:=by exact x_EA (ht) fun o ho o_=>qf (qM ho)
 unfold unpackItems;refine qP ?_
 ·unfold notIterableAtAll;refine qP (qa1 ht.typeIs slot_list_iter.lookup ?_);refine qQ ?_;simp only [Bool.false_eq_true,if_false];refine qP (qW (wpAny_pyIter_list ht ?_));have ht0:(s.heap.push {cls:=.type "list_iterator",data:=.fields #[.ref t,.int 0 0]}).IsList t items:=let ⟨o,ho,r⟩:=ht;⟨o,qL _ ho,r⟩;refine qP (qW (y52 hlt items.size 0 _ _ ⟨_,qK _ rfl,rfl,rfl⟩ ht0 (by lia) fun h₁ hit₁ hs₁=>?_));have hall:List.take items.size (List.drop 0 items.toList)=items.toList:=by
   exact rz List.drop_zero (List.take_of_length_le (by simp))
  refine rz hall (rz (if_neg (by simp)) ?_);have ht₁:h₁.IsList t items:=ht0.extBut hs₁.extBut hlt;refine qP (qW (wpAny_pyNext_list_end hh hit₁ ht₁ (by simp) fun h₂ he₂=>?_));simp only [Option.isSome_none,Bool.false_eq_true,if_false];refine qQ (hQ h₂ fun b o hb e=>he₂ b o hb (hs₁.extBut b o hb (qL _ e)))
variable {Qf:AF->St->Prop} {X:St->Prop}
end
section
variable {T:Tab}
variable {c:Cx}
inductive ky (T:Tab) (c:Cx):List Nat->List Str->Prop
 |nil:ky T c [] []
 |cons {n nm ns es} (hn:T.names[n]? =some nm) (hl:c.env.kindOf nm=some .local) (r:ky T c ns es):ky T c (n::ns) (nm::es)
variable {σ:St}
variable {μ₀:List Addr}
variable {μ:List Addr}
variable {h₀:Hp}
variable {s:Shared}
variable {A:Around}
theorem y76 (O:CxOk c) {E:Value->Shared->Prop} {ns es} (N:ky T c ns es):∀{vs as} {σ:St} {s:Shared},At T c μ₀ h₀ σ μ (hpp s)->ErL T μ s.heap vs as->vs.length=ns.length->∀{Q':Unit->Shared->Prop},
 (∀s',At T c μ₀ h₀ ⟨σ.H,putAll ns as σ.m⟩ μ (hpp s')->Q' () s')->wpAny T.M A (assignInOrder (es.map fun n=>bindName c.env n) vs) Q' E s:=by
 induction N with
 |nil=>
  intro vs as σ s a el h Q' k;cases el with
  |nil=>exact qQ (k s a)
  |cons=>cases h
 | @cons n nm ns es hn hl r ih=>
  intro vs as σ s a el h Q' k;cases el with
  |nil=>cases h
  | @cons v _ vs _ hv el=>
   refine (?_:wpAny T.M A (do holding vs (bindName c.env nm v);assignInOrder (es.map fun n=>bindName c.env n) vs) Q' E s);exact qP (qW (wpAny_bindName (ko1 O a hv hn hl fun s1 a1 tk o_=>ih a1 (el.keep (.refl _) tk) (Nat.succ.inj h) k)))
theorem ky.append {ns es ms fs} (x:ky T c ns es) (y:ky T c ms fs):ky T c (ns++ms) (es++fs):=by
 induction x with
 |nil=>exact y
 |cons hn hl r ih=>exact .cons hn hl ih
theorem ky.reverse {ns es} (x:ky T c ns es):ky T c ns.reverse es.reverse:=by
 induction x with
 |nil=>exact .nil
 |cons hn hl r ih=>exact rz List.reverse_cons (rz List.reverse_cons (ih.append (.cons hn hl .nil)))
theorem ky.length {ns es} (x:ky T c ns es):ns.length=es.length:=by
 induction x with
 |nil=>rfl
 |cons hn hl r ih=>simp [ih]
variable {Qf:AF->St->Prop}
variable {X:St->Prop}
variable {names:List Str} {elts:List Expr} {k:Nat} {tpos pos:Pos}
theorem ys7 (O:CxOk c) {ns:List Nat} {e:Expr} (N:ky T c ns names) (hs:swapsWithSole [.Tuple elts k tpos] e pos.line c.env=pure false) (hw:swappedStores [.Tuple elts k tpos] e c.env=pure (some names))
 (h:W T c (Er T) (eval e c.env) (fun a σ1=>∃l,a=.tup l/\l.length=ns.length/\Qf .next ⟨σ1.H,putAll ns.reverse l.reverse σ1.m⟩) X σ):W T c (FlR T) (exec (.Assign [.Tuple elts k tpos] e pos) c.env) Qf X σ:=fun μ s rl=>
 Assign_Tuple_swapped (names:=names) (h.go rl.at fun v1 s1 μ1 a σ1 a1 e1 h1 p1 k1=>by
  refine jR (h1) fun l hz1 hl q=>?_;subst hz1;cases e1 with
  | @tup aa its _ ho el=>
   have hsz:names.length=its.toArray.size:=by exact rz qG (rz el.length (rz hl (rz N.length rfl)))
   refine rz hsz (wpAny_unpackItems_tuple O.hnd (jY ho) fun h' hx=>?_);have kk:∀b o,s1.heap.get? b=some o->h'.get? b=some o:=fun b o e=>hx b o (jc1 e) e;exact y76 (s:={s1 with heap:=h'}) O N.reverse (a1.keeps kk) (el.keep (.refl _) (.of_keeps kk)).reverse (by simp [el.length,hl]) fun s2 a2=>⟨μ1,.next,_,a2,.next,q⟩) hs hw
open Builtin.ObjectAttr
noncomputable abbrev bmE:List Value:=[.type "Exception",.type "BaseException",.type "object"]
noncomputable abbrev excO (C t:Addr) (dd:Option Addr):Obj:={cls:=.ref C,dict:=dd,data:=.fields #[.ref t,.none,.none,.none,.bool false,.none]}
variable {prog:Program} {w:World} {E:Value->Shared->Prop} {h:Heap} {g:Array GenState} {d:Drawn} {t:Nat} {os:OsState}
variable {nm q:Str} {C N x tp:Addr} {bs:List Value} {sn:List Str} {sub:List Value} {ab:Bool} {col:Option Bool} {dd:Option Addr} {k0 k1 k2 k3 k5:Option Value} {newId sa owner:String}
 {mN mA:Str->Option Value} {name:Str} {v:Value}
noncomputable def yL (h':Heap) (x C tp:Addr) (dx:Addr) (m:Str->Option Value):Prop:=h'.get? x=some (excO C tp (some dx))/\h'.Ns1 dx m
variable {Q:Fin->Shared->Prop}
theorem yl7 (SF:StoreFacts "Exception" bmE sa owner) {tk:Tok} (hC:h.get? C=some (excClassObj nm q C N bs bmE true sn sub ab col dd k0 k1 k2 k3 k5 newId)) (hn:h.Ns N mN) (hna:mN name=none)
 (hB:qe1 (.type "Exception") name=pure none) (hx:h.get? x=some (excO C tp none))
 (hq:∀h' tk',yL h' x C tp h.objs.size (fun y=>if y=name then some v else none)->(∀b o,b≠x->h.get? b=some o->h'.get? b=some o)->Q (.done (.ret .none)) ⟨h',g,d,tk',os⟩):
 wpAny (model prog w) A (Builtin.«object.__setattr__» ⟨[.ref x,.str name tk,v],[]⟩) Q E ⟨h,g,d,t,os⟩:=by
 have hpass:=SF.passes (.ref x);have hfr:=(Heap.get?_some_iff.mp hx).2;generalize ho:excO C tp none=o at hx hfr;have hc:o.cls=.ref C:=by exact rz (Eq.symm ho) rfl
 have hnc:∀c,o.data≠.cls c:=fun c e=>by rw [<-ho] at e;injection e
 have hdn:o.dict=none:=by exact rz (Eq.symm ho) rfl
 unfold Builtin.«object.__setattr__»
 repeat (first|rw [refuse_eq]|(rw [refuseLoop_ref,hpass])|(with_reducible refine wpAny_loadPart_at hx ?_;rw [hc])|with_reducible refine wpAny_mroOf_exc hC ?_|(with_reducible refine wpAny_typeLookup_exc hC hn SF.mro hB ?_;rw [hna])|wp_step)
 rw [hdn,if_neg (by simp [typeHasDict])];split
 ·rename_i hcd;injection hcd
 split
 ·rename_i c hcd;exact absurd hcd (hnc c)
 have hx₁:(h.push {cls:=.type "dict",data:=.dict #[]}).get? x=some o:=qL _ hx;have hxs:x≠h.objs.size:=qf (qM hx);refine qP (wpAny_alloc' ?_);refine qP (wpAny_update' hx₁ ?_);refine qQ ?_;have hgd:((h.push {cls:=.type "dict",data:=.dict #[]}).update x fun o=>{cls:=o.cls,dict:=some h.objs.size,data:=o.data,slots:=o.slots}).get? h.objs.size
  =some {cls:=.type "dict",data:=.dict #[]}:=
  (Heap.get?_update_ne _ _ _ _ hxs.symm).trans (Heap.get?_push_at rfl rfl)
 have hnd:((h.push {cls:=.type "dict",data:=.dict #[]}).update x fun o=>{cls:=o.cls,dict:=some h.objs.size,data:=o.data,slots:=o.slots}).Ns h.objs.size (fun o_=>none):=
  ⟨_, #[],_,hgd,rfl,fun e he=>absurd he (by simp),fun o_=>rfl⟩
 show wpAny _ _ (storeInDict h.objs.size (.str name tk) name v) _ _ _;unfold storeInDict newKeyGuard;refine qP (qQ (qP (wpAny_nsSet1 (Heap.Ns1.of_empty hnd) fun h' hn' hs=>?_)));refine ku (hn'.count (Within.cons name v Within.nil)) fun oD esD epD hoD hdD hcD=>qP (wpAny_lookBehind hoD (by rw [hdD];exact pastItsLine_dict (qb hcD (by rw [List.length_cons,List.length_nil,qY];exact Nat.add_le_add_right (qa rfl) _))) ?_)
 wp_walk
 have hx':h'.get? x=some {cls:=o.cls,dict:=some h.objs.size,data:=o.data,slots:=o.slots}:=by
  refine (hs.2 x hxs).trans (qN _ hx₁ ?_);rw [<-ho];rfl
 refine hq h' _ ⟨hx'.trans (by rw [<-ho]),hn'⟩ (fun b ob hbx hb=>?_);exact (hs.2 b (qf (qM hb))).trans ((Heap.get?_update_ne _ _ _ _ hbx).trans (qL _ hb))
variable {dx:Addr} {m:Str->Option Value} {ns:List Str}
theorem ym7 (SF:StoreFacts "Exception" bmE sa owner) {tk:Tok} (hC:h.get? C=some (excClassObj nm q C N bs bmE true sn sub ab col dd k0 k1 k2 k3 k5 newId)) (hn:h.Ns N mN) (hna:mN name=none)
 (hB:qe1 (.type "Exception") name=pure none) (hA:yL h x C tp dx m) (hne:x≠dx)
 (hq:∀h' tk',yL h' x C tp dx (fun y=>if y=name then some v else m y)->(∀b o,b≠dx->h.get? b=some o->h'.get? b=some o)->Q (.done (.ret .none)) ⟨h',g,d,tk',os⟩) (hw:Within m ns) (hsz:ns.length<sizeLine):
 wpAny (model prog w) A (Builtin.«object.__setattr__» ⟨[.ref x,.str name tk,v],[]⟩) Q E ⟨h,g,d,t,os⟩:=by
 have hpass:=SF.passes (.ref x);refine x_A (hA) fun hx hns=>?_;have hxO:=hx;generalize ho:excO C tp (some dx)=o at hx;have hc:o.cls=.ref C:=by exact rz (Eq.symm ho) rfl
 have hnc:∀c,o.data≠.cls c:=fun c e=>by rw [<-ho] at e;injection e
 have hdn:o.dict=some dx:=by exact rz (Eq.symm ho) rfl
 unfold Builtin.«object.__setattr__»
 repeat (first|rw [refuse_eq]|(rw [refuseLoop_ref,hpass])|(with_reducible refine wpAny_loadPart_at hx ?_;rw [hc])|with_reducible refine wpAny_mroOf_exc hC ?_|(with_reducible refine wpAny_typeLookup_exc hC hn SF.mro hB ?_;rw [hna])|wp_step)
 rw [hdn];refine qQ ?_;show wpAny _ _ (storeInDict dx (.str name tk) name v) _ _ _;unfold storeInDict newKeyGuard;refine qP (qQ (qP (wpAny_nsSet1 hns fun h' hn' hs=>?_)));refine ku (hn'.count (Within.cons name v hw)) fun oD esD epD hoD hdD hcD=>qP (wpAny_lookBehind hoD (by rw [hdD];exact pastItsLine_dict (qb hcD (by rw [List.length_cons];exact Nat.add_le_add_right (ql hsz) _))) ?_)
 wp_walk
 exact hq h' _ ⟨(hs.2 x hne).trans hxO,hn'⟩ (fun b ob hb he=>(hs.2 b hb).trans he)
variable {Q:Unit->Shared->Prop}
theorem y98 (SF:StoreFacts "Exception" bmE sa owner) (hC:h.get? C=some (excClassObj nm q C N bs bmE true sn sub ab col dd k0 k1 k2 k3 k5 newId)) (hn:h.Ns N mN) (hns:mN "__setattr__"=none) (hna:mN name=none)
 (hB:qe1 (.type "Exception") name=pure none) (hx:h.get? x=some (excO C tp none))
 (hq:∀h' tk',yL h' x C tp h.objs.size (fun y=>if y=name then some v else none)->(∀b o,b≠x->h.get? b=some o->h'.get? b=some o)->Q () ⟨h',g,d,tk',os⟩):
 wpAny (model prog w) A (setAttr (.ref x) name v) Q E ⟨h,g,d,t,os⟩:=by
 have f3:=SF.slot.bind (.ref x);unfold setAttr callSpecial? specialOf
 repeat (any_goals (first|assumption|(with_reducible refine wpAny_loadPart_at hx ?_)|(with_reducible refine wpAny_typeLookup_exc hC hn SF.mro SF.slot.lookup ?_;rw [hns])|wp_step))
 refine codeAny_call_builtin SF.slot.plain SF.entry (wpAny_check_sa SF hC hx rfl (yl7 SF hC hn hna hB hx fun h' tk' I' hk=>?_))
 repeat (any_goals (first|assumption|wp_step))
 exact hq h' tk' I' hk
theorem ya9 (SF:StoreFacts "Exception" bmE sa owner) (hC:h.get? C=some (excClassObj nm q C N bs bmE true sn sub ab col dd k0 k1 k2 k3 k5 newId)) (hn:h.Ns N mN) (hns:mN "__setattr__"=none) (hna:mN name=none)
 (hB:qe1 (.type "Exception") name=pure none) (hA:yL h x C tp dx m) (hne:x≠dx)
 (hq:∀h' tk',yL h' x C tp dx (fun y=>if y=name then some v else m y)->(∀b o,b≠dx->h.get? b=some o->h'.get? b=some o)->Q () ⟨h',g,d,tk',os⟩) (hw:Within m ns) (hsz:ns.length<sizeLine):
 wpAny (model prog w) A (setAttr (.ref x) name v) Q E ⟨h,g,d,t,os⟩:=by
 have f3:=SF.slot.bind (.ref x);have hx:=hA.1;unfold setAttr callSpecial? specialOf
 repeat (any_goals (first|assumption|(with_reducible refine wpAny_loadPart_at hx ?_)|(with_reducible refine wpAny_typeLookup_exc hC hn SF.mro SF.slot.lookup ?_;rw [hns])|wp_step))
 refine codeAny_call_builtin SF.slot.plain SF.entry (wpAny_check_sa SF hC hx rfl (ym7 SF hC hn hna hB hA hne (fun h' tk' I' hk=>?_) hw hsz))
 repeat (any_goals (first|assumption|wp_step))
 exact hq h' tk' I' hk
end
open Builtin.ObjectAttr
structure yu4 (T:Tab) (fI:Addr) (fd:FuncData) (body:List Stmt):Prop where
 C:∀h,T.K.In h->∃nm q N bs sn sub ab col dd k0 k1 k2 k3 k5 mN,h.get? T.exc=some (excClassObj nm q T.exc N bs bmE true sn sub ab col dd k0 k1 k2 k3 k5 "Exception.__new__")/\h.Ns N mN/\
  mN "__init__"=some (.ref fI)/\mN "__setattr__"=none/\mN "value"=none/\mN "trace"=none
 F:FnAt T fI fd body
 o:∃od osl,T.K.lookup fI=some ⟨.type "function",od,.func fd,osl⟩
 bind:∀a b:Value,bindArgs fd ⟨[a,b],[]⟩=pure [(qH "self",a),(qH "value",b)]
 kS:fd.scope.names.lookup (qH "self")=some .local
 kV:fd.scope.names.lookup (qH "value")=some .local
theorem yU5:qe1 (.type "Exception") (qH "value")=pure none:=by rw [qb1];refine rz qU ?_;kernel_rfl
theorem yT5:qe1 (.type "Exception") (qH "trace")=pure none:=by rw [qb1];refine rz qU ?_;kernel_rfl
section
variable {T:Tab} {fI:Addr} {fd:FuncData} {body:List Stmt} {A:Around} {h:Heap} {v:Value} {R:Result->Shared->Prop}
theorem yM8 (TO:TabOk T) (L:yu4 T fI fd body) {g:Array GenState} {d:Drawn} {t:Nat} {os:OsState} {e tp:Addr}
 {n1 n2 n3:Pos} {a1 a2:Pos} {l1:Pos} {s1 s2:Pos} (hb:body=[.Assign [.Attribute (.Name (qH "self") n1) (qH "value") a1] (.Name (qH "value") n2) s1,.Assign [.Attribute (.Name (qH "self") n3) (qH "trace") a2] (.List [] l1) s2])
 (hA:A.depth<1000) (top:T.K.In h) (he:h.get? e=some (excO T.exc tp none))
 (hq:∀h' tk',(∀b o,b≠e->h.get? b=some o->h'.get? b=some o)->(∃dx,h'.get? e=some (excO T.exc tp (some dx)))->R (.ok (.ret .none)) ⟨h',g,d,tk',os⟩):
 codeAny T.M A (.call (.ref fI) ⟨[.ref e,v],[]⟩) R ⟨h,g,d,t,os⟩:=by
 refine jF (L.F.o) fun oc od osl ho=>?_;refine codeAny_call_cells (body:=body) (by unfold recursionLimit;exact hA) (top _ _ ho) rfl (TO.lim _ top) (codeRec_of top L.F.code) L.F.body (L.bind _ _) L.F.clo
  (fun x hx=>?_) (fun s₁ ic=>?_) L.F.co L.F.gen L.F.kind
 ·simp only [qC,List.not_mem_nil,or_false] at hx;rcases hx with rfl|rfl
  ·exact .inl L.kS
  ·exact .inl L.kV
 refine jk (ic.done) fun h1 tk1 hz1 kp=>?_;subst hz1;generalize hE:callEnvC fd h.objs.size fI=env at ic;have hk:env.scope.kind=.function:=by subst hE;exact L.F.kind
 have kS:env.kindOf (qH "self")=some .local:=by subst hE;exact L.kS
 have kV:env.kindOf (qH "value")=some .local:=by subst hE;exact L.kV
 have ns:=ic.toInCall.ns;have vS:bindL env.kindOf [(qH "self",.ref e),(qH "value",v)] (fun o_=>none) (qH "self")=some (.ref e):=yn kS (by simp;decide) (.head _);have vV:bindL env.kindOf [(qH "self",.ref e),(qH "value",v)] (fun o_=>none) (qH "value")=some v:=yn kV (by simp;decide) (.tail _ (.head _));have he1:=kp _ _ he;have top1:T.K.In h1:=fun a o q=>kp _ _ (top a o q);refine jF (L.C h1 top1) fun nm q N hz=>jF hz fun bs sn sub hz=>jF hz fun ab col dd hz=>jF hz fun k0 k1 k2 hz=>ks1 hz fun k3 k5 mN hC hz=>jK hz fun hN hi hsa hv htr=>?_;have hLe:env.locals≠e:=fun q=>by
  have:h.objs.size≠e:=(jc1 he).symm;subst hE;exact this q
 subst hb;refine wpAny_execs_cons (plainObj_wpAny_Assign_Attribute (wpAny_Name (wpAny_loadName_local hk kV ns vV (wpAny_Name (wpAny_loadName_local hk kS ns vS ?_) (by decide))) (by decide)) rfl);refine y98 PySem.F.store_Exception hC hN hsa hv yU5 he1 fun h2 tk2 A2 keep2=>?_;have ns2:=zJ ns (keep2 _ · hLe);have hC2:=keep2 _ _ (fun q=>by rw [<-q,hC] at he1;cases he1) hC;have hN2:h2.Ns N mN:=zJ hN (keep2 _ · (fun q=>by
  subst q;refine ku (hN) fun o es ep z z2 o_=>?_;rw [he1] at z;obtain rfl:=qq z;injection z2))
 refine wpAny_execs_cons (plainObj_wpAny_Assign_Attribute (wpAny_List (wpAny_items_nil ⟨by simp,wpAny_Name (wpAny_loadName_local hk kS (zJ ns2 fun o z=>jm _ _ _ _ z) vS ?_) (by decide)⟩)) rfl);have kp3:=jm h2 {cls:=.type "list",data:=.seq ([]:List Value).toArray};have ned:e≠h1.objs.size:=jc1 he1;refine ya9 (h:=h2.push _) PySem.F.store_Exception (kp3 _ _ hC2) (zJ hN2 (kp3 _)) hsa htr yT5 ⟨kp3 _ _ A2.1,(let ⟨o,es,ep,z,r⟩:=A2.2;⟨o,es,ep,kp3 _ _ z,r⟩)⟩ ned (fun h4 tk4 A4 keep4=>?_) (ns:=[qH "value"]) ?_ ?_
 ·refine wpAny_execs_nil (hq h4 _ (fun b o n z=>?_) ⟨_,A4.1⟩);refine keep4 b o (fun q=>?_) (kp3 _ _ (keep2 b o n (kp _ _ z)));exact qf (qM (kp _ _ z)) q
 ·exact Within.cons _ _ Within.nil
 ·refine rz qY ?_;simp
variable {M:Model} {E:Value->Shared->Prop} {env:Env}
variable {C:Addr} {s:Shared}
theorem yW5 {x:Sem Value} {Q:Flow->Shared->Prop} (hh:A.handled=none)
 (h:wpAny M A x (fun v s₁=>∃e tp dx nm q N bs sn sub ab col dd k0 k1 k2 k3 k5 newId,v=.ref e/\s₁.heap.get? C=some (excClassObj nm q C N bs bmE true sn sub ab col dd k0 k1 k2 k3 k5 newId)/\
  s₁.heap.get? e=some (excO C tp (some dx))/\E (.ref e) s₁) E s):wpAny M A (raiseStmt env (some x) none) Q E s:=by
 have hcB:(Value.ref C::bmE).contains (.type "BaseException")=true:=by refine rz List.contains_cons ?_;simp
 unfold raiseStmt;refine qP (qV h (fun v s₁ h₁=>?_) fun o_ o_ x=>x);refine jF (h₁) fun e tp dx hz=>jF hz fun nm q N hz=>jF hz fun bs sn sub hz=>jF hz fun ab col dd hz=>jF hz fun k0 k1 k2 hz=>jD hz fun k3 k5 newId hz1 hC he hE=>?_;subst hz1;obtain ⟨hp,g,d,tk,os⟩:=s₁
 repeat (first|with_reducible refine wpAny_loadPart_at he ?_|with_reducible refine wpAny_loadPart_at hC ?_|(with_reducible refine wpAny_isSubtype_exc hC (rz hcB ?_))|wp_step)
 exact wpAny_raiseNew_none hh hE
variable {c:Cx} {Qf:AF->St->Prop} {X:St->Prop} {σ:St}
theorem y610 (TO:TabOk T) (O:CxOk c) (L:yu4 T fI fd body) {n1 n2 n3 a1 a2 l1 s1 s2:Pos}
 (hb:body=[.Assign [.Attribute (.Name (qH "self") n1) (qH "value") a1] (.Name (qH "value") n2) s1,.Assign [.Attribute (.Name (qH "self") n3) (qH "trace") a2] (.List [] l1) s2])
 {x:Str} {np cpos pos:Pos} {arg:Expr} (rm:c.A.depth<998) (hk:c.env.kindOf x=some .globalImplicit) (hx:nsIn T.K qR x=some (some (.ref T.exc))) (hd:(x==("__debug__":Str))=false) (hf:keepIn T.K (.ref T.exc)=true) (hs:ju [arg]=true)
 (h:W T c (ErL T) (spliced (backTo cpos (qX [arg] c.env))) (fun l σ1=>l.length=1/\X σ1) X σ):W T c (FlR T) (exec (.Raise (some (.Call (.Name x np) [arg] [] cpos)) none pos) c.env) Qf X σ:=fun μ s rl=>by
 rw [arm_exec_Raise];refine qP (wpAny_standAt (yW5 (C:=T.exc) O.hnd ?_));refine qP (qV ?_ (fun v s₃ h₃=>qP (wpAny_standAt (qQ h₃))) fun o_ o_ x=>x);refine Call_Name rfl (y74 TO O hk hx hd rl.rh.top (ku1 (P:=T.K.In) hs (keeps_K hf) (h.go rl.at fun vs s1 μ1 l σ1 a1 e1 h1 o_ o_=>⟨a1.rel.rh.top,?_⟩)));refine x_A (h1) fun hl hX=>?_;have top:=a1.rel.rh.top;obtain ⟨v,rfl⟩:∃v,vs=[v]:=by
  have:=e1.length;rw [hl] at this
  match vs,this with
  |[v],_=>exact ⟨v,rfl⟩
 refine jF (L.C _ top) fun nm q N hz=>jF hz fun bs sn sub hz=>jF hz fun ab col dd hz=>jF hz fun k0 k1 k2 hz=>ks1 hz fun k3 k5 mN hC hz=>jK hz fun hN hi hsa hv htr=>x_EE (L.o) fun od osl ho=>?_;obtain ⟨hp,g,d,tk,os⟩:=s1
 refine wpAny_call_exc_init (B:="Exception") PySem.F.excBase_Exception hC hN hi (top _ _ ho) rfl (fun h' e hm=>?_);have topm:T.K.In h':=fun a o q=>hm.keeps _ _ (top a o q);refine jR (hm.there) fun tp he o_ o_=>?_;have kp0:=hm.keeps;refine wpAny_call (yM8 TO L hb (by refine (?_:c.A.depth+1<1000);lia) topm he fun h2 tk2 kp2 hex=>?_);refine x_E (hex) fun dx he2=>?_;have kp:∀b o,hp.get? b=some o->h2.get? b=some o:=fun b o q=>kp2 b o (fun z=>by subst z;rw [hm.new] at q;injection q) (hm.keeps _ _ q);refine ⟨rfl,e,tp,dx,nm,q,N,bs,sn,sub,ab,col,dd,k0,k1,k2,k3,k5,_,rfl,kp _ _ hC,he2,?_⟩;exact ⟨μ1,σ1,hp,e,rfl,hX,a1,⟨hm.new,fun b o q o_=>kp b o q,fun b o q o_=>⟨o.slots,kp b o q⟩,.ref tp,.inr (.inr ⟨_,_,he2,rfl,rfl,rfl,rfl⟩)⟩⟩
noncomputable def Fl0 (h:Heap) (ea C T':Addr):Prop:=∃oe vs oT ts,h.get? ea=some oe/\oe.cls=.ref C/\oe.data=.fields vs/\vs[1]? =some (.ref T')/\T'≠ea/\h.get? T'=some oT/\oT.data=.fields ts/\3<ts.size
variable {T':Addr}
theorem ym6 {Q:Unit->Shared->Prop} {ea:Addr} (F:Fl0 s.heap ea C T')
 (k:∀h',Fl0 h' ea C T'->(∀b,b≠T'->h'.get? b=s.heap.get? b)->Q () {s with heap:=h'}):wpAny M A (setFlight (.ref ea) none) Q E s:=by
 refine ze (F) fun oe vs oT ts he hz=>zB hz fun hc hd h1 hne hT hdT hsz=>?_;unfold setFlight;refine qP (wpAny_field he hd h1 ?_);refine rz (if_pos (show (Value.ref T' != Value.none)=true from by simp)) ?_;have other:∀b,b≠T'->(s.heap.update T' (Obj.mapFields (·.setIfInBounds 3 .none))).get? b=s.heap.get? b:=fun b hb=>Heap.get?_update_other _ _ (Ne.symm hb);exact wpAny_setField hT hdT hsz (k _ ⟨oe,vs,_,_,(other ea (Ne.symm hne)).trans he,hc,hd,h1,hne,qN _ hT (Obj.isFreed_of_fields (Obj.data_mapFields hdT _)),Obj.data_mapFields hdT _,by simpa using hsz⟩ other)
variable {Bh h':Heap}
theorem ye5 {l:List Env} {oT:Obj} {ts:Array Value} (K:Kept T l Bh h) (fo:∀a∈frs l,∃o,Bh.get? a=some o/\kZ o) (hn:(hideAll Bh (frs l)).get? T'=none) (hT:h.get? T'=some oT) (hd:oT.data=.fields ts)
 (o:∀b,b≠T'->h'.get? b=h.get? b):Kept T l Bh h':=by
 have nT:∀b o,Bh.get? b=some o->b≠T':=fun b o e q=>by
  subst q;by_cases m:b∈frs l
  ·refine y3 (fo b m) fun o' eo es n d=>x_E (K.slots b _ eo m) fun sl e'=>?_;rw [hT] at e';obtain rfl:=qq e';change o'.data=_ at hd;rw [d] at hd;injection hd
  ·rw [hideAll_get _ e m] at hn;injection hn
 exact ⟨fun b x e n=>(o b (nT b x e)).trans (K.keep b x e n),fun b x e m=>let ⟨sl,e'⟩:=K.slots b x e m;⟨sl,(o b (nT b x e)).trans e'⟩⟩
variable {μ:List Addr}
theorem yd5 (rl:Rel T c σ μ Bh) (K:Kept T c.fr Bh h') (ho:∀a∈frs c.fr,a∈c.own):Rel T c σ μ h'/\Evo c.own μ Bh μ h':=by
 have nf:∀b o,Bh.get? b=some o->Froz o->b∉frs c.fr:=fun b o e z m=>by
  refine y3 (rl.frs.o b m) fun o' e' es n d=>?_;rw [e] at e';obtain rfl:=qq e';exact ky1 d z
 have tk:TK Bh h':=fun b o e z=>K.keep b o e (nf b o e z);have thr:∀b o,Bh.get? b=some o->kZ o->∃o',h'.get? b=some o'/\kZ o':=fun b o e d=>by
  by_cases m:b∈frs c.fr
  ·exact x_E (K.slots b o e m) fun sl e'=>⟨_,e',d⟩
  ·exact ⟨o,K.keep b o e m,d⟩
 have top:T.K.In h':=fun a o e=>K.keep a o (rl.rh.top a o e) fun m=>by rw [rl.frs.k a m] at e;injection e
 refine ⟨⟨⟨top,rl.rh.len,fun i a ao e f=>(rl.rh.o i a ao e f).keep (.refl _) tk fun r q=>K.keep a r q fun m=>rl.frs.n a m (qD e),rl.rh.nd,rl.rh.kn,rl.rh.t0⟩,?_,fun a m=>let ⟨o,e,d⟩:=rl.ownO a m;thr a o e d,rl.ownN,rl.ownK,rl.frs.keep (fun a o_ o e d=>thr a o e d) rl.frs.n⟩,
  ⟨.refl _,fun o_ q=>.inl q,fun b o e o_ hf=>K.keep b o e fun m=>hf.elim (fun q=>q (ho b m)) fun z=>nf b o e z m,fun b o e=>?_⟩⟩
 ·refine x_EA (rl.fr) fun mm hy1 q=>?_;obtain ⟨o,es,ep,e,r⟩:=hy1;refine ⟨mm,?_,fun x v z=>let ⟨n,a,b⟩:=q x v z;⟨n,a,b.keep (.refl _) tk⟩⟩;by_cases m:c.env.locals∈frs c.fr
  ·exact x_E (K.slots _ o e m) fun sl e'=>⟨_,es,ep,e',r⟩
  ·exact ⟨o,es,ep,K.keep _ o e m,r⟩
 ·by_cases m:b∈frs c.fr
  ·exact x_E (K.slots b o e m) fun sl e'=>⟨_,e'⟩
  ·exact ⟨o,K.keep b o e m⟩
variable {outer:List Env}
theorem y015 (TO:TabOk T) (O:CxOk c) {bodyI:List Stmt} (L:yu4 T fI fd bodyI) {Lf:Addr} (hfr:c.fr=c.env::outer) (hf:c.env.frame=some Lf) (ho:∀a∈frs c.fr,a∈c.own)
 {body:List Stmt} {x name:Str} {np p p1 p2 p3 pos:Pos} {n k:Nat} {b:Bool} (hk:c.env.kindOf x=some .globalImplicit) (hx:nsIn T.K qR x=some (some (.ref T.exc))) (hd:(x==("__debug__":Str))=false) (hn:T.names[n]? =some name) (hl:c.env.kindOf name=some .local)
 (h:W T c (FlR T) (execs body c.env) Qf (fun σ'=>Qf .next ⟨σ'.H,put σ'.m n (.bool b)⟩) σ):
 W T c (FlR T) (exec (.Try body [.ExceptHandler (some (.Name x np)) none [.Assign [.Name name p] (.Constant (.bool b) k p1) p2] p3] [] [] pos) c.env) Qf X σ:=fun μ s rl=>by
 refine wpAny_Try_except (qV (h μ s rl) (fun f s1 ⟨μ',bb,σ',av,fr,q⟩=>?_) fun e s1 z=>?_)
 ·cases fr with
  |next=>exact wpAny_execs_nil ⟨μ',.next,σ',av,.next,q⟩
  |ret er=>exact ⟨μ',.ret _,σ',av,.ret er,q⟩
  |brk=>exact ⟨μ',.brk,σ',av,.brk,q⟩
  |cont=>exact ⟨μ',.cont,σ',av,.cont,q⟩
 obtain ⟨μ',σ',Bh,ea,rfl,hX,av,fl⟩:=z
 have ev:=av.evo;have r:=av.rel;have fo:=r.frs.o;have fe:=r.frs.e;rw [hfr] at fl fo fe;refine yN11 (by exact rz O.frames (rz hfr rfl)) hf fl fo fe fun h2 a0 fl2 t2=>?_;refine jF (t2) fun oe vs T' hz=>jS hz fun oT ts he hcls hdd hz=>yC1 hz fun h1 hnT hTe hT hdT h3=>?_;have F2:Fl0 h2 ea T.exc T':=⟨oe,vs,oT,ts,he,hcls.1,hdd,h1,hTe,hT,hdT,(Array.getElem?_eq_some_iff.mp h3).1⟩;have K2:Kept T (c.env::outer) Bh h2:=⟨fl2.keep,fl2.slots⟩;refine ym6 (s:={s1 with heap:=h2}) F2 fun h3' F3 o3=>?_;have K3:=ye5 K2 fo hnT hT hdT o3;rw [<-hfr] at K3;refine x_A (yd5 r K3 ho) fun r3 e3=>jF (L.C _ r3.rh.top) fun nm q N hz=>jF hz fun bs sn sub hz=>jF hz fun ab col dd hz=>jF hz fun k0 k1 k2 hz=>ks1 hz fun k3 k5 mN hC o_=>ze (id F3) fun oe3 vs3 oT3 ts3 he3 hz=>zB hz fun hc3 hd3 hv3 hne3 hT3 hdT3 hsz3=>x_E (TO.glob _ r3.rh.top) fun mg gl=>wpAny_handleBy_cons (codeAny_handlers_test (Calls.Name_function_global O.kind hk (Calls.loadGlobal_global (by exact rz O.glob gl) (mg_of r3.rh.top gl hx) ?_) hd)) (by intro q;injection q);refine wpAny_excMatches_sub_self hC he3 hc3 (by simp) (codeAny_handlers_suite (ym6 (s:={s1 with heap:=h3'}) F3 fun h4 F4 o4=>?_));rw [hfr] at K3;have K4:=ye5 K3 fo hnT hT3 hdT3 o4;rw [<-hfr] at K4;refine x_A (yd5 r K4 ho) fun r4 e4=>wpAny_execs_cons (wpAny_Assign_Name (Constant_bool (ko1 (s:={s1 with heap:=h4}) (μ₀:=μ) (h₀:=hpp s) O ⟨r4,ev.trans e4,av.os,av.gens⟩ (.bool b) hn hl fun s5 a5 o_ o_=>?_)) rfl);exact wpAny_execs_nil ⟨μ',.next,_,a5,.next,hX⟩
variable {σ1:St} {μ₀ μ':List Addr} {h₀:Hp} {fp:List Addr} {it:Value} {n:Nat} {Q:AV->St->Prop}
theorem At.gone {g:Hp} (O:CxOk c) (a:At T c μ₀ h₀ σ μ g) (h0:h₀.heap.get? C=none) (hm:C∉μ) (hk:T.K.lookup C=none) (ho:C∉c.own) (hf:C∉frs c.fr) (nf:∀o,g.heap.get? C=some o->¬Froz o) (k:∀b o,b≠C->g.heap.get? b=some o->h'.get? b=some o):At T c μ₀ h₀ σ μ {g with heap:=h'}:=by
 obtain ⟨h,os,gens⟩:=g
 have tk:TK h h':=fun b o e z=>k b o (fun q=>by subst q;exact nf o e z) e;have ne:∀{b},b∈c.own->b≠C:=fun m q=>ho (q▸m);refine ⟨⟨a.rel.rh.but k hk hm tk,a.rel.fr.keep (.refl _) tk fun o e=>k _ o (ne O.loc) e,fun b m=>let ⟨o,e,d⟩:=a.rel.ownO b m;⟨o,k b o (ne m) e,d⟩,a.rel.ownN,a.rel.ownK,a.rel.frs.keep (fun b m o e d=>⟨o,k b o (fun q=>hf (q▸m)) e,d⟩) a.rel.frs.n⟩,
  ⟨a.evo.pre,a.evo.fresh,fun b o e n q=>k b o (fun z=>by subst z;rw [h0] at e;injection e) (a.evo.keep b o e n q),fun b o e=>let ⟨o',e'⟩:=a.evo.th b o e;⟨o',k b o' (fun z=>by subst z;rw [h0] at e;injection e) e'⟩⟩,a.os,a.gens⟩
variable {src:Src} {Q':Value->Shared->Prop}
theorem IsIt.self (ii:IsIt T μ s.heap it n fp src) (k:Q' it s):wpAny T.M A (pyIter it) Q' E s:=by
 rcases src with i|i|⟨a,m⟩|l
 ·refine jS (ii) fun I l hz1 o_ o_ hit=>?_;subst hz1;exact wpAny_pyIter_listiter hit k
 ·refine ze (ii) fun e I l old hz2 hz=>jK hz fun o_ o_ o_ o_ he=>?_;subst hz2;exact wpAny_pyIter_enum he k
 ·refine jR (ii) fun I hz3 o_ hit=>?_;subst hz3;exact wpAny_pyIter_rangeiter hit k
 ·refine jF (ii) fun I t its hz=>jK hz fun hz4 o_ o_ o_ hit=>?_;subst hz4;exact wpAny_pyIter_tupleiter hit k
noncomputable abbrev kh (c:Cx) (scope:Scope) (cl:List (Str×Addr)) (C:Addr):Cx:=⟨c.A,compEnvC scope cl C c.env,c.fr,[C]⟩
variable {scope:Scope} {cl:List (Str×Addr)}
theorem y32 (O:CxOk c) (hk:scope.kind=.function):CxOk (kh c scope cl C):=
 ⟨O.frames,hk,O.glob,O.blt,qB.mpr rfl,O.hnd,O.units⟩
noncomputable abbrev noOwn (c:Cx):Cx:={c with own:=[]}
theorem Rel.noOwn (r:Rel T c σ μ h):Rel T (noOwn c) σ μ h:=⟨r.rh,r.fr,fun o_ m=>(nomatch m),fun o_ m=>(nomatch m),fun o_ m=>(nomatch m),r.frs⟩
theorem yT3 {elt target iter:Expr} {scope:Scope} {pos:Pos} {acc:Value} {env:Env} (I:Nat->Shared->Prop)
 (turn:∀n s,I n s->wpAny T.M A (pyNext it) (fun r s₁=>match r with
  |none=>R (.ok .next) s₁
  |some v=>wpAny T.M A (letOwnedTupleGo target it v) (fun o_ s₁=>wpAny T.M A (assign target env v) (fun o_ s₂=>wpAny T.M A (eval elt env) (fun x s₃=>
   wpAny T.M A (call (.builtin "list.append") [acc,x]) (fun o_ s₄=>∃m,m<n/\I m s₄) (notedBy T.M A env fun e s'=>R (.error e) s') s₃)
   (notedBy T.M A env fun e s'=>R (.error e) s') s₂) (notedBy T.M A env fun e s'=>R (.error e) s') s₁) (notedBy T.M A env fun e s'=>R (.error e) s') s₁) (notedBy T.M A env fun e s'=>R (.error e) s') s)
 (n:Nat) (h:I n s):
 codeAny T.M A (.compLoop (.ListComp elt [⟨target,iter,[],0⟩] scope pos) 0 it acc env) R s:=by
 refine codeAny_loop rfl I (fun n s hI=>?_) n h;refine (?_:wpAny _ _ ((compTurn (.ListComp elt [⟨target,iter,[],0⟩] scope pos) 0 it acc env).onRaise (fun x=>do noteFrame x env;theTreesLotGoes x)) _ _ s);refine wpAny_noted ?_;rw [compTurn_list1];refine qP (wpAny_standAt (qP (qV (turn n s hI) (fun r s₁ h₁=>?_) fun o_ o_ h'=>h')));rcases r with _|v
 ·exact qQ h₁
 ·refine qP (qV h₁ (fun o_ s₁ h₁=>?_) fun o_ o_ h'=>h');exact qP (qV h₁ (fun o_ s₂ h₂=>qP (qP (qV h₂ (fun x s₃ h₃=>qP (qV h₃
   (fun o_ s₄ h₄=>qQ (qQ ⟨rfl,h₄⟩)) fun o_ o_ h'=>h')) fun o_ o_ h'=>h'))) fun o_ o_ h'=>h')
variable {tgt:Tgt} {target elt iter:Expr} {pos:Pos}
theorem yW1 (O:CxOk c) (hcell:∀y∈scope.names,y.2≠.cell) (hkind:scope.kind=.function)
 (tok:∀C,yH1 T (kh c scope cl C) tgt target) (hg:good src tgt=true) {s1:Shared} {μ1:List Addr} (r1:Rel T c σ1 μ1 s1.heap)
 (a2:At T (noOwn c) μ1 (hpp s1) σ1 μ (hpp s)) (lo:jG T fp s1.heap μ s.heap) (ii:IsIt T μ s.heap it 0 fp src) (J:Nat->Nat->St->Prop) {Z:List AO->Prop} {k:Nat} (hJ:J k 0 ⟨σ1.H++[.list []],[]⟩)
 (step:∀C k n σ',J k n σ'->∃ki,src.item σ'.H n=some ki/\(ki=none->Z σ'.H)/\∀a,ki=some a->∃m',asg tgt a σ'.m=some m'/\
  W T (kh c scope cl C) (Er T) (eval elt (kh c scope cl C).env) (fun v σ2=>∃l,σ2.H[σ1.H.length]? =some (.list l)/\l.length<=1000000/\∃k',k'<k/\J k' (n+1) ⟨σ2.H.set σ1.H.length (.list (l++[v])),σ2.m⟩) (fun o_=>False) ⟨σ'.H,m'⟩)
 {RR:Value->Addr->Result->Shared->Prop}
 (hRR:∀D C s' H' μ',(Evo [] μ1 s1.heap μ' s'.heap/\s'.os=s1.os/\s'.gens=s1.gens)->RH T μ' H' s'.heap->Z H'->μ'[σ1.H.length]? =some D->s1.heap.get? C=none->C∉μ'->T.K.lookup C=none->(∃m',s'.heap.Ns C m')->RR (.ref D) C (.ok .next) s'):
 wpAny T.M A (newList []) (fun acc s₃=>wpAny T.M A (newFunctionEnv scope c.env.globals cl [] c.env.qual none .none (some c.env)) (fun cenv s₄=>
  codeAny T.M c.A (.compStart (.ListComp elt [⟨target,iter,[],0⟩] scope pos) 0 it acc {cenv with scope:=relabel scope c.env}) (RR acc cenv.locals) s₄) E s₃) E s:=by
 refine wpAny_newObj_type (wpAny_newFunctionEnv hcell (by intro y hy;simp at hy) (fun h₁ hns₁ hsb₁=>?_) hkind);have a3:=a2.push (o:=jz [] 0) (ao:=.list []) ⟨[],0,qK _ rfl,.nil⟩;dsimp only at hns₁ hsb₁⊢;generalize hH2:s.heap.push {cls:=.type "list",dict:=none,data:=.seq ([]:List Value).toArray}=H2 at hns₁ hsb₁⊢;have eH2:s.heap.push (jz [] 0)=H2:=hH2;rw [eH2] at a3;have kp:∀b o,H2.get? b=some o->h₁.get? b=some o:=fun b o e=>hsb₁.extBut b o (jc1 e) (qL _ e);have kp0:∀b o,s.heap.get? b=some o->h₁.get? b=some o:=fun b o e=>kp b o (by exact rz (Eq.symm hH2) (qL _ e));have a4:=a3.keeps kp;refine x_AA (jb1 (s:={s with heap:=H2}) a3) fun f1 f2 f3=>?_;have a2f:=jb1 a2;have fs:H2.get? H2.objs.size=none:=by
  rcases q:H2.get? H2.objs.size with _|o
  ·rfl
  ·exact absurd (qM q) (qo _)
 generalize hCC:H2.objs.size=C at*;have hDm:(μ++[s.heap.objs.size])[σ1.H.length]? =some s.heap.objs.size:=by
  refine rz (Eq.symm a2.rel.rh.len) ?_;simp
 refine ku (id hns₁) fun oC esC epC eC dC rC=>?_;have r4:Rel T (kh c scope cl C) ⟨σ1.H++[.list []],[]⟩ (μ++[s.heap.objs.size]) h₁:=
  ⟨a4.rel.rh,⟨_,hns₁,fun x v e=>by simp [lk] at e⟩,fun a m=>by exact rz (qB.mp m) ⟨oC,eC,_,_,dC⟩,fun a m=>by exact rz (qB.mp m) f2,fun a m=>by exact rz (qB.mp m) f3,a4.rel.frs⟩
 have ac:At T (kh c scope cl C) μ1 (hpp s1) ⟨σ1.H++[.list []],[]⟩ (μ++[s.heap.objs.size]) {hpp s with heap:=h₁}:=⟨r4,a4.evo.less,a4.os,a4.gens⟩;have loc:jG T fp s1.heap (μ++[s.heap.objs.size]) h₁:=fun a m=>by
  exact kJ (lo a m) fun g1 g2 g3 hz=>jp hz fun o vs e d q=>⟨g1,fun z=>(qz.mp z).elim g2 fun z=>jc1 e (qB.mp z),g3,o,vs,kp0 a o e,d,q⟩
 have iic:=ii.keep (.snoc μ s.heap.objs.size) (.of_keeps kp0) fun a o_ o e=>kp0 a o e;have O':CxOk (kh c scope cl C):=y32 O hkind;have loop:∀s₃:Shared,s₃={s with heap:=h₁,toks:=s.toks+([]:List (Str×Value)).length}->
  codeAny T.M c.A (.compLoop (.ListComp elt [⟨target,iter,[],0⟩] scope pos) 0 it (.ref s.heap.objs.size) (compEnvC scope cl C c.env)) (RR (.ref s.heap.objs.size) C) s₃:=by
  rintro s₃ rfl
  refine yT3 (fun k s5=>∃n σ' μ5,J k n σ'/\At T (kh c scope cl C) μ1 (hpp s1) σ' μ5 (hpp s5)/\jG T fp s1.heap μ5 s5.heap/\IsIt T μ5 s5.heap it n fp src/\μ5[σ1.H.length]? =some s.heap.objs.size) (fun k s5 ⟨n,σ',μ5,hJ,a5,l5,i5,hD5⟩=>?_) k ⟨0,_,_,hJ,ac,loc,iic,hDm⟩;refine jR (step C k n σ' hJ) fun ki hi q1 q2=>yV11 O' O.hnd (tok C) hg a5 l5 i5 hi (fun q s6 a6=>?_) fun x q=>?_
  ·have cl6:Evo [] μ1 s1.heap μ5 s6.heap/\s6.os=s1.os/\s6.gens=s1.gens:=⟨a6.evo.close (fun o_ o_ e=>e) fun a m=>by exact rz (qB.mp m) f1,a6.os,a6.gens⟩;exact x_EA (a6.rel.fr) fun mm ns6 o_=>hRR _ C s6 σ'.H μ5 cl6 a6.rel.rh (q1 q) hD5 f1 (a6.rel.ownN C (qB.mpr rfl)) f3 ⟨mm,ns6⟩
  ·refine x_EA (q2 x q) fun m' hm w=>⟨m',hm,fun s6 a6 l6 i6=>?_⟩;refine qV (w μ5 s6 a6.rel) (fun v s7 z=>?_) fun e s7 z=>?_
   ·obtain ⟨μ7,b,σ7,av7,er7,l,hl,hlen,k',hk',hJ'⟩:=z
    have e7:=av7.evo;have r7:=av7.rel;refine x_A (l6.evo (c:=kh c scope cl C) e7 (kx1 O' a6.rel l6)) fun kf7 l7=>?_;have i7:=i6.keep e7.pre (e7.tk a6.rel.rh) kf7;have hD7:=e7.pre.get hD5;have a7:At T (kh c scope cl C) μ1 (hpp s1) σ7 μ7 (hpp s7):=a6.trans av7;exact ya1 O' (r7.at (g:=hpp s7)) hl hlen (.ref hD7) er7 fun s8 a8 tk8=>x_A (l7.evo (c:=kh c scope cl C) a8.evo (kx1 O' r7 l7)) fun kf8 l8=>⟨k',hk',n+1,_,μ7,hJ',a7.trans a8,l8,i7.keep (.refl _) tk8 kf8,hD7⟩
   ·obtain ⟨_,_,_,_,_,f,_⟩:=z;exact f.elim
 exact codeAny_compStart_list (loop _ rfl) (iic.self (loop _ rfl))
noncomputable def yt7 (T:Tab) (c:Cx) (scope:Scope) (cl:List (Str×Addr)) (tgt:Tgt) (elt:Expr) (Z:Nat->St->Prop) (μ:List Addr) (h:Hp) (x:Value) (s1:Shared):Prop:=
 ∃(μ1:List Addr) (src:Src) (σ1:St) (J:Nat->Nat->St->Prop) (k:Nat),At T c μ h σ1 μ1 (hpp s1)/\good src tgt=true/\kt1 T (noOwn c) x μ1 (hpp s1) src σ1 s1/\J k 0 ⟨σ1.H++[.list []],[]⟩/\
  ∀(C:Addr) (k n:Nat) (σ':St),J k n σ'->∃ki,src.item σ'.H n=some ki/\(ki=none->Z σ1.H.length ⟨σ'.H,σ1.m⟩)/\∀a,ki=some a->∃m',asg tgt a σ'.m=some m'/\
   W T (kh c scope cl C) (Er T) (eval elt (kh c scope cl C).env) (fun v σ2=>∃l,σ2.H[σ1.H.length]? =some (.list l)/\l.length<=1000000/\∃k':Nat,k'<k/\J k' (n+1) ⟨σ2.H.set σ1.H.length (.list (l++[v])),σ2.m⟩) (fun o_=>False) ⟨σ'.H,m'⟩
variable {μ1:List Addr}
theorem y04 (O:CxOk c) {h1:Hp} (a1:At T c μ₀ h₀ σ1 μ1 h1) (hC:h1.heap.get? C=none):h₀.heap.get? C=none/\C∉c.own/\C∉frs c.fr:=by
 refine ⟨?_,fun m=>?_,fun m=>?_⟩
 ·rcases q:h₀.heap.get? C with _|o
  ·rfl
  ·refine x_E (a1.evo.th _ _ q) fun o' e=>?_;rw [hC] at e;injection e
 ·refine x_EA (a1.rel.ownO C m) fun o e o_=>?_;rw [hC] at e;injection e
 ·refine x_EA (a1.rel.frs.o C m) fun o e o_=>?_;rw [hC] at e;injection e
theorem yX13 (O:CxOk c) (hs:∀x,foldedSetIterable iter c.env x=pure x) (hclos:closureFor scope c.env=pure cl) (hcell:∀y∈scope.names,y.2≠.cell) (hkind:scope.kind=.function)
 (hnames:∀y∈scope.names,y.2=.local->scope.names.lookup y.1=some .local) (tok:∀C,yH1 T (kh c scope cl C) tgt target)
 (h:∀μ s,Rel T c σ μ s.heap->wpAny T.M c.A (eval iter c.env) (yt7 T c scope cl tgt elt (fun i σ'=>Q (.ref i) σ') μ (hpp s)) (EX T c X μ (hpp s)) s):
 W T c (Er T) (eval (.ListComp elt [⟨target,iter,[],0⟩] scope pos) c.env) Q X σ:=fun μ s rl=>by
 rw [eval_ListComp];refine wpAny_comprehension_free (use:=none) rfl hs hclos hkind hnames (qV (h μ s rl) (fun x s1 h₁=>?_) fun o_ o_ e=>e);refine jF (h₁) fun μ1 src σ1 hz=>yu2 hz fun J k a1 hg iq hJ step=>iq _ _ _ fun it s2 μ2 fp a2 l2 i2=>yW1 O hcell hkind tok hg a1.rel a2 l2 i2 J (Z:=fun H'=>Q (.ref σ1.H.length) ⟨H',σ1.m⟩) hJ step fun D C s' H' μ' ev r z hD hC hCm hCk hns=>x_E (hns) fun mm ns=>x_AA (y04 O a1 hC) fun c0 co cf=>?_;have a3:=a1.back O (g':=hpp s') ev r;refine ⟨mm,ns,fun h' sb=>?_⟩;have a4:At T c μ (hpp s) ⟨H',σ1.m⟩ μ' {hpp s' with heap:=h'}:=a3.gone O c0 hCm hCk co cf (fun o e=>by refine ku (ns) fun o' es n e' d o_=>?_;rw [e'] at e;obtain rfl:=qq e;exact ky1 d) fun b o q e=>(sb.2 b q).trans e;exact ⟨μ',.ref σ1.H.length,_,a4,.ref hD,z⟩
variable {py:Pos}
theorem yT2 (O:CxOk c) {spos:Pos} {y:Str} {ny:Nat} (hsw:swapsWith (.ListComp elt [⟨target,iter,[],0⟩] scope pos) (some (.Name y py)) spos.line c.env=pure true)
 (hny:T.names[ny]? =some y) (hy:c.env.kindOf y=some .local) (hs:∀x,foldedSetIterable iter c.env x=pure x) (hclos:closureFor scope c.env=pure cl) (hcell:∀y∈scope.names,y.2≠.cell) (hkind:scope.kind=.function)
 (hnames:∀y∈scope.names,y.2=.local->scope.names.lookup y.1=some .local) (tok:∀C,yH1 T (kh c scope cl C) tgt target)
 (h:∀μ s,Rel T c σ μ s.heap->wpAny T.M c.A (eval iter c.env) (yt7 T c scope cl tgt elt (fun i σ'=>Qf .next ⟨σ'.H,put σ'.m ny (.ref i)⟩) μ (hpp s)) (EX T c X μ (hpp s)) s):
 W T c (FlR T) (exec (.Assign [.Name y py] (.ListComp elt [⟨target,iter,[],0⟩] scope pos) spos) c.env) Qf X σ:=fun μ s rl=>by
 refine rz (exec_Assign_Name_used _ _ _ _ hsw) (qP (wpAny_standAt (qP ?_)));refine (?_:wpAny _ c.A (do let _ <-comprehension (.ListComp elt [⟨target,iter,[],0⟩] scope pos) scope c.env _ (newList []) false (eval iter c.env) (some (assign (.Name y py) c.env))) _ _ s);refine qP (qV (wpAny_comprehension_free (use:=some (assign (.Name y py) c.env)) (Q:=fun o_ s'=>WQ T c (FlR T) Qf μ (hpp s) .next s') rfl hs hclos hkind hnames
  (qV (h μ s rl) (fun x s1 h₁=>?_) fun o_ o_ e=>e)) (fun o_ s' hq=>qQ (qQ hq)) fun o_ o_ e=>e)
 refine jF (h₁) fun μ1 src σ1 hz=>yu2 hz fun J k a1 hg iq hJ step=>iq _ _ _ fun it s2 μ2 fp a2 l2 i2=>yW1 O hcell hkind tok hg a1.rel a2 l2 i2 J (Z:=fun H'=>Qf .next ⟨H',put σ1.m ny (.ref σ1.H.length)⟩) hJ step fun D C s' H' μ' ev r z hD hC hCm hCk hns=>x_E (hns) fun mm ns=>x_AA (y04 O a1 hC) fun c0 co cf=>?_;have a3:=a1.back O (g':=hpp s') ev r;have hLC:C≠c.env.locals:=fun q=>co (q▸O.loc);refine (?_:wpAny _ c.A (assign (.Name y py) c.env (.ref D)) _ _ _);refine wpAny_assign_Name (ko1 O a3 (.ref hD) hny hy fun s4 a4 tk4 kp4=>?_);have ns4:=zJ ns (kp4 C · hLC);refine ⟨mm,ns4,fun h' sb=>?_⟩;have a5:At T c μ (hpp s) ⟨H',put σ1.m ny (.ref σ1.H.length)⟩ μ' {hpp s4 with heap:=h'}:=a4.gone O c0 hCm hCk co cf (fun o e=>by refine ku (ns4) fun o' es n e' d o_=>?_;rw [e'] at e;obtain rfl:=qq e;exact ky1 d) fun b o q e=>(sb.2 b q).trans e;exact ⟨μ',.next,_,a5,.next,z⟩
variable {x:Str}
theorem yy:∀{l:List (Str×Value)},(l.map (·.1)).Nodup->(x,v)∈l->l.lookup x=some v
 |[],_,h=>nomatch h
 |(n,w)::r,nd,h=>by
  rw [List.map_cons,qx] at nd;rcases qC.mp h with e|h
  ·obtain ⟨rfl,rfl⟩:=Prod.mk.inj e;simp [List.lookup_cons]
  ·have:x≠n:=fun q=>nd.1 (by have:=List.mem_map_of_mem (f:=(·.1)) h;exact rz (Eq.symm q) this);refine rz List.lookup_cons (rz (beq_eq_false_iff_ne.mpr this) ?_);exact yy nd.2 h
variable {Q:AV->List AO->Prop} {X:List AO->Prop}
noncomputable def yU2 (T:Tab) (k:Nat) (fa:AV) (args:List AV) (H:List AO) (Q:AV->List AO->Prop) (X:List AO->Prop):Prop:=
 ∀(A:Around) (fr:List Env) (μ:List Addr) (s:Shared) (fv:Value) (vs:List Value),Room A k->A.frames=some fr->A.handled=none->kh1 T μ fr s.heap->RH T μ H s.heap->Er T μ s.heap fv fa->ErL T μ s.heap vs args->
  codeAny T.M A (.call fv ⟨vs,[]⟩) (y5 T fr μ (hpp s) Q X) s
structure LamF (T:Tab) (cn:Nat) (ps:List Str) (lam:Lam):Prop where
 cap:T.names[cn]? =some lam.cap
 bind:∀(pm c ct:Value) (ca:Addr) (vs:List Value),vs.length=ps.length->bindArgs (kla_fn "<lambda>" lam.qual lam.params lam.body lam.scope [(lam.cap,ca)] pm c ct) ⟨vs,[]⟩=pure (ps.zip vs)
 loc:∀x∈ps,lam.scope.names.lookup x=some .local
 free:lam.scope.names.lookup lam.cap=some .free
 cell:∀x∈lam.scope.names,x.2≠.cell
 kind:lam.scope.kind=.function
 co:lam.scope.isCoroutine=false
 gen:lam.scope.isGenerator=false
variable {kk k cn:Nat} {v:AV} {args:List AV} {H:List AO}
theorem yQ7 (TO:TabOk T) {ns:List Nat} {ps:List Str} (hL:∀lam,T.lamOk kk lam=true->LamF T cn ps lam)
 (hps:ParL T ns ps) (hnd:ps.Nodup) (hlen:args.length=ns.length)
 (hb:∀lam L f c' ca c,T.lamOk kk lam=true->CxOk c->Room c.A k->c.env=envX lam.qual lam.scope L f (.ref c') [(lam.cap,ca)]->W T c (Er T) (eval lam.body c.env) (fun v σ=>Q v σ.H) (fun σ=>X σ.H) ⟨H,(cn,v)::ns.zip args⟩):
 yU2 T (k+1) (.clo kk v) args H Q X:=by
 intro A fr μ s fv vs rm hfr hhd FO R ef ev;cases ef with
 | @clo a ca c pm ct rv _ _ lam oc ocell fvs t hl ho hc hcd hq hca hcl hv=>
 have LF:=hL lam hl;have hvl:=ev.length.trans (hlen.trans hps.length);refine kla_callFunE (qd (qb (qi _ _) rm.1) (qa rfl)) ho rfl LF.co LF.gen rfl ⟨c,oc,fvs,t,rfl,hc,hcd,hq⟩ (rz (LF.bind pm (.ref c) ct ca vs hvl) (qQ (wpAny_newFunctionEnv LF.cell (fun x hx=>LF.loc x.1 (zc x hx)) (fun h₁ hns hsb=>⟨(TO.lim _ R.top).fresh _ hsb,?_⟩) LF.kind)));have kp:∀b o,s.heap.get? b=some o->h₁.get? b=some o:=fun b o e=>hsb.extBut b o (qf (qM e)) (qL _ e);have tk:=TK.of_keeps kp;refine ku (id hns) fun oL esL epL hoL hdL rL=>kla_codeExpr (qV (hb lam s.heap.objs.size a c ca (cx1 A (envX lam.qual lam.scope s.heap.objs.size a (.ref c) [(lam.cap,ca)]) fr s.heap.objs.size) hl (yR8 hfr hhd rm LF.kind rfl rfl rfl) (ye1 rm) rfl μ {s with heap:=h₁,toks:=s.toks+(ps.zip vs).length}
  (yD6 R FO kp rfl LF.kind ⟨oL,hoL,_,_,hdL⟩ ⟨_,hns,fun x av e=>?_⟩)) (fun rv' s' z=>?_) fun e s' z=>yg3 (g:=hpp s) (g1:=⟨h₁,s.os,s.gens⟩) hfr rfl (zb _) R.fresh_k kp rfl rfl z)
 ·refine (Classical.em (x=cn)).elim (fun q=>?_) fun q=>jp (hps.at (ev.keep (.refl μ) tk) ((if_neg q).symm.trans e)) fun n rv' hn hm er=>⟨n,hn,.inl ⟨LF.loc n (zc _ hm),rv',yy (by exact rz List.map_reverse ((List.reverse_perm _).nodup_iff.mpr (by exact rz (yQ6 hvl.symm) hnd))) (List.mem_reverse.mpr hm),er⟩⟩;exact ⟨lam.cap,q▸LF.cap,.inr ⟨.inr LF.free,ca,rv,by simp [envX],⟨ocell,kp _ _ hca,hcl⟩,qq ((if_pos q).symm.trans e)▸hv.keep (.refl _) tk⟩⟩
 ·rcases z with ⟨μ',b,σ',av',er',q⟩
  ·exact ⟨μ',b,σ'.H,⟨av'.evo.close kp fun a m=>(qB.mp m:a=s.heap.objs.size)▸zb s.heap,av'.os,av'.gens⟩,av'.rel.rh,er',q⟩
variable {Q:AV->St->Prop} {X:St->Prop}
structure yD1 (T:Tab) (c:Cx) (cc:Addr):Prop where
 code:c.env.code=.ref cc
 hd:∀h,T.K.In h->CodeHd h cc T.tab
 ne:qR≠T.tab
 bm:∀h mg,T.K.In h->h.Ns qR mg->h.BuiltinsAt mg T.tab
variable {lam:Lam}
theorem yo9 (TO:TabOk T) (O:CxOk c) {cc:Addr} (L:yD1 T c cc) {l:List (Int×Int)} (hl:T.lamOk kk lam=true) (hcap:T.names[cn]? =some lam.cap) (hkind:c.env.kindOf lam.cap=some .cell)
 (hcl:∀ca,c.env.cells.lookup lam.cap=some ca->closureFor lam.scope c.env=pure [(lam.cap,ca)]) (hq:c.env.qual++"<lambda>"=lam.qual) (hdef:defaultsOf lam.params c.env=([],[]))
 (hv:lk σ.m cn=some v) (ht:σ.H[0]? =some (.tab l)) (hn:((pos.line:Int),(pos.col:Int))∉l)
 (h:Q (.clo kk v) ⟨σ.H.set 0 (.tab (l++[((pos.line:Int),(pos.col:Int))])),σ.m⟩):W T c (Er T) (eval (.Lambda lam.params lam.body lam.scope pos) c.env) Q X σ:=fun μ s rl=>by
 refine x_EA (rl.fr) fun mm ns q=>x_EA (q cn v hv) fun x' hx' q=>?_;rw [hcap] at hx';obtain rfl:=qq hx';rcases q with ⟨hk,_⟩|⟨_,ca,rv,e,ic,er⟩
 ·rw [hkind] at hk;cases hk
 refine x_EA (ic) fun ocell eca dca=>x_E (TO.glob _ rl.rh.top) fun mg gl=>yd11 (rl.rh.at ht) fun P hP0 ps hP htr hpo=>?_;have hPT:P=T.tab:=by have:=rl.rh.t0;rw [hP0] at this;exact qq this
 subst hPT;refine kla_eval hdef (rz hq (kla_makeFunction (mg:=mg) (hcl ca e) O.glob gl L.code (L.hd _ rl.rh.top) hP htr (yU1 htr (by exact rz hpo hn)) L.ne (L.bm _ _ rl.rh.top gl) fun c' ctv h' tk hx hge hlt hrec htb=>?_));have ne:∀b,b≠T.tab->∀r,s.heap.get? b=some r->h'.get? b=some r:=fun b q r e=>hx b r q e;have tk1:=yJ rl.rh (qD hP0) ne;refine x_A (yV5 (pos:=pos) (c:=.ref c') htr) fun ps1 ps2=>?_;have a1:At T c μ (hpp s) ⟨σ.H.set 0 (.tab (l++[((pos.line:Int),(pos.col:Int))])),σ.m⟩ μ {hpp s with heap:=h'}:=(rl.at (g:=hpp s)).turn O hP0 ne ⟨_,htb,by simpa using ps2,by refine rz (Eq.symm hpo) (rz (Eq.symm ps1) ?_);simp⟩;have kp:=jm h' (kla_obj "<lambda>" lam.qual lam.params lam.body lam.scope [(lam.cap,ca)] ((mg "__name__").getD .none) c' ctv);have a2:=a1.keeps kp;refine jF (hrec) fun c2 oc vs hz=>zC hz fun t e2 hoc hdc hq2=>?_;injection e2 with hz;subst hz;exact ⟨μ,.clo kk v,_,a2,.clo hl (qK _ rfl) (kp _ _ hoc) hdc hq2 (kp _ _ (tk1 _ _ eca (.inr (.inr (.inr ⟨_,dca⟩))))) dca (er.keep (.refl _) (tk1.trans (.of_keeps kp))),h⟩
variable {fa:AV} {fv:Value}
theorem yU2.go {Q:AV->List AO->Prop} {X:List AO->Prop} (C:yU2 T k fa args σ.H Q X) (O:CxOk c) (rm:Room A k) (hA:A.frames=c.A.frames) (hh:A.handled=c.A.handled) {vs:List Value} (a:At T c μ₀ h₀ σ μ (hpp s))
 (ef:Er T μ s.heap fv fa) (ev:ErL T μ s.heap vs args):
 wpAny T.M A (call fv vs) (CQ T c Q μ₀ h₀ μ s.heap σ.m) (EX T c (fun σ'=>σ'.m=σ.m/\X σ'.H) μ₀ h₀) s:=by
 refine wpAny_call (codeAny_mono (C A c.fr μ s fv vs rm (hA.trans O.frames) (hh.trans O.hnd) a.rel.frs a.rel.rh ef ev) fun r s' z=>?_);rcases r with e|(v|_|_|_)<;>first|exact z.elim|skip
 rotate_left
 ·obtain ⟨μ',av,H',e,r,er,q⟩:=z
  exact ⟨μ',av,H',a.back O (g':=hpp s') e r,er,q,e.1.pre,e.1.tk a.rel.rh⟩
 obtain ⟨μ',H',Bh,ea,e1,x,ev',r,fl⟩:=z
 have b:=a.back O (g':=⟨Bh,s'.os,s'.gens⟩) ev' r;exact ⟨μ',⟨H',σ.m⟩,Bh,ea,e1,⟨rfl,x⟩,b,fl⟩
noncomputable def ys3 (T:Tab) (c:Cx) (fa:AV) (args:List AV) (Q:AV->St->Prop) (X:St->Prop) (σ:St):Prop:=
 ∃k,Room c.A k/\yU2 T k fa args σ.H (fun a H'=>Q a ⟨H',σ.m⟩) (fun H'=>X ⟨H',σ.m⟩)
theorem ys3.wat (O:CxOk c) (C:ys3 T c fa args Q X σ) {vs:List Value} (a:At T c μ₀ h₀ σ μ (hpp s)) (ef:Er T μ s.heap fv fa) (ev:ErL T μ s.heap vs args)
 (k:∀v s' μ' av σ',At T c μ₀ h₀ σ' μ' (hpp s')->Er T μ' s'.heap v av->Q av σ'->Q' v s'):wpAny T.M c.A (call fv vs) Q' (EX T c X μ₀ h₀) s:=by
 exact x_EA (C) fun n rm C=>qV (C.go O rm rfl rfl a ef ev) (fun v s' ⟨μ',av,H',a',er,q,_,_⟩=>k v s' μ' av _ a' er q) fun e s' ⟨μ',σ',Bh,ea,e1,⟨hm,x⟩,y,z⟩=>⟨μ',σ',Bh,ea,e1,by obtain ⟨H,m⟩:=σ';subst hm;exact x,y,z⟩
variable {name:Str} {p apos:Pos}
theorem y410 (TO:TabOk T) (O:CxOk c) {f:Addr} {mc:Value} {es:List Expr} (hl:(apos.endLine==pos.line)=true) (hs:ju es=true) (hn:(decide (es.length<30))=true)
 (hk:c.env.kindOf x=some .globalImplicit) (hx:nsIn T.K qR x=some (some (.ref C))) (hd:(x==("__debug__":Str))=false)
 (hg:specialIn T.K (.ref C) "__getattribute__"=some (some (.builtin "type.__getattribute__"))) (hr:readsIn T.K C mc=true) (e:findCls T.K (.ref C) mc name=some (.val (.ref f))) (hh:handedIn (.ref f)=true) (hkp:keepIn T.K (.ref f)=true)
 (h:W T c (ErL T) (spliced (backTo pos (qX es c.env))) (fun as σ2=>yV2 T c (.ref f) as Q X σ2) X σ):
 W T c (Er T) (eval (.Call (.Attribute (.Name x p) name apos) es [] pos) c.env) Q X σ:=fun μ s rl=>by
 refine x_E (y9 (o:=.Name x p) (env:=c.env) (name:=name) rfl hl hs hn) fun pl he=>methodCall_KW (pl:=pl) (y74 TO O hk hx hd rl.rh.top ?_) he;refine method_cls rl.rh.top hg (cls_value rl.rh.top hr e hh ?_);refine ku1 (s:={s with toks:=s.toks+1}) (P:=T.K.In) hs (keeps_K hkp) (W.go (s:={s with toks:=s.toks+1}) h rl.at fun vs s2 μ2 l σ2 a2 e2 h2 p2 k2=>⟨a2.rel.rh.top,h2.wat O a2 e2 fun v s' μ' av σ' a' er q=>⟨μ',av,σ',a',er,q⟩⟩)
variable {L:Addr}
theorem PL.at {K:Type} [DecidableEq K] {kr:K->AV->Prop} {r:List (K×Value)} {l:List (AV×AV)} (x:PL T kr μ h r l):∀(n:Nat) (q:AV×AV),l[n]? =some q->∃k v,r[n]? =some (k,v)/\kr k q.1:=
 x.ind (m:=fun r l=>∀(n:Nat) (q:AV×AV),l[n]? =some q->∃k v,r[n]? =some (k,v)/\kr k q.1) (fun o_ o_ e=>ja e) fun {k v a b r l} hk o_ ih n=>by
  rcases n with _|n
  ·exact fun q e=>⟨k,v,rfl,qq e▸hk⟩
  ·exact ih n
noncomputable def yf11 (μ:List Addr) (h:Heap) (it:Value) (i n m:Nat) (I:Addr):Prop:=∃d,it=.ref I/\μ[i]? =some d/\h.IsKeyIter I d n m m
variable {i:Nat}
theorem yY1 (R:RH T μ σ.H h) {l:List (AV×AV)} (hi:σ.H[i]? =some (.dict l)) (hb:zl l=true):∃d r,μ[i]? =some d/\PL T krB μ h r l/\h.DictAt (PySem.W.bytesKind T.prog T.w) d r l.length:=
 yt2 (R.at hi) fun d hm es n hd er nd=>x_EA (yV3 (ke1 T) hd er (yz8 hb) nd.1) fun r pl D=>⟨d,r,hm,pl,nd.2▸D⟩
noncomputable def yh11 (T:Tab) (c:Cx) (Qf:AF->St->Prop) (X:St->Prop) (x:Nat) (body:List Stmt) (i:Nat) (l:List (AV×AV)) (J:Nat->Nat->St->Prop):Prop:=
 ∀k n σ,J k n σ->σ.H[i]? =some (.dict l)/\(l[n]? =none->Qf .next σ)/\∀q,l[n]? =some q->W T c (FlR T) (execs body c.env) (jN Qf fun σ2=>∃k',k'<k/\J k' (n+1) σ2) X ⟨σ.H,put σ.m x q.1⟩
variable {x:Nat} {nm:Str}
theorem y56 (TO:zV T) (O:CxOk c) (hfr:c.fr=c.env::outer) (hf:c.env.frame=some L) (hn:T.names[x]? =some nm) (hl:c.env.kindOf nm=some .local) {l:List (AV×AV)} (hb:zl l=true) (J:Nat->Nat->St->Prop) (step:yh11 T c Qf X x body i l J)
 {k n:Nat} {it:Value} {I:Addr} (a:At T c μ₀ h₀ σ μ (hpp s)) (lo:jG T [I] h₀.heap μ s.heap) (ii:yf11 μ s.heap it i n l.length I) (hJ:J k n σ):
 codeAny T.M c.A (.forLoop (.Name nm p) it body [] c.env) (yt4 T c Qf X μ₀ h₀) s:=by
 refine codeAny_forLoop_any (FI T c μ₀ h₀ [I] J fun μ h n=>yf11 μ h it i n l.length I) (fun k s z=>?_) k (.mk hJ a lo ii);cases z with
 | @mk n σ μ hJ a lo ii=>
 refine x_AA (step k n σ hJ) fun hi q1 q2=>jp (yY1 a.rel.rh hi hb) fun d r hm pl D=>jR ii fun d' hz26 hm' hit=>?_;subst hz26;obtain rfl:=qq (hm.symm.trans hm')
 have hzl:=pl.len;rw [<-hzl] at hit D;rcases hq:l[n]? with _|q
 ·have hz:r[n]? =none:=by rw [qs] at hq⊢;exact hzl▸hq
  exact wpAny_pyNext_dict_end O.hnd hit D hz fun h' hs=>wpAny_execs_nil ⟨μ,.next,σ,a.loose lo (yr hs),.next,q1 hq⟩
 ·refine jk (pl.at n q hq) fun kk vv hz hk2=>wpAny_pyNext_dict_item hit D hz fun key h' hkey hit' hs=>?_;rw [hzl] at hit';have kf:=yE hs;have a2:=a.loose lo kf;refine jR (id hit') fun oI e1 e2 e3=>?_;have l2:jG T [I] h₀.heap μ h':=y73 lo e1 e3 (by simp);refine qT (a:=()) rfl (wpAny_assign_Name (ko1 (s:={s with heap:=h'}) O a2 ((ke1 T).er hk2 hkey) hn hl fun s3 a3 tk3 kp3=>?_));have kI:∀a∈[I],∀o,h'.get? a=some o->s3.heap.get? a=some o:=fun b m o e=>kp3 b o (fun q=>kx1 O a2.rel l2 b m (q▸O.loc)) e;exact yi3 O hfr hf a3 (ye l2 kI) (fun μ' h4 p o_ kf=>⟨d,rfl,p.get hm,oI,kf I (.head _) _ (kI I (.head _) _ e1),e2,e3⟩) (q2 q hq)
end
section
variable {T:Tab}
variable {c:Cx}
variable {Qf:AF->St->Prop}
variable {X:St->Prop}
inductive ye11 (T:Tab) (c:Cx) (Qf:AF->St->Prop) (X:St->Prop) (x:Nat) (body:List Stmt) (σ1:St):AV->Prop
 |mk (i:Nat) (l:List (AV×AV)) (J:Nat->Nat->St->Prop) (k:Nat) (hi:σ1.H[i]? =some (.dict l)) (hb:zl l=true) (hJ:J k 0 σ1) (step:yh11 T c Qf X x body i l J):ye11 T c Qf X x body σ1 (.ref i)
variable {σ:St}
variable {h:Heap}
variable {outer:List Env}
variable {L:Addr}
variable {nm:Str} {p pos:Pos} {iter:Expr}
theorem y113 (TO:zV T) (O:CxOk c) (hfr:c.fr=c.env::outer) (hf:c.env.frame=some L) {x:Nat} {body:List Stmt} (hn:T.names[x]? =some nm) (hl:c.env.kindOf nm=some .local) (hs:∀x,foldedSetIterable iter c.env x=pure x)
 (h:W T c (Er T) (eval iter c.env) (fun a σ1=>ye11 T c Qf X x body σ1 a) X σ):
 W T c (FlR T) (exec (.For (.Name nm p) iter body [] pos) c.env) Qf X σ:=fun μ s rl=>
 wpAny_For (h.go rl.at fun v s1 μ1 av σ1 a1 e1 h1 o_ o_=>by
  cases h1 with
  |mk i l J k hi hb hJ step=>
  refine jp (yY1 a1.rel.rh hi hb) fun d r hm pl D=>?_;apply e1.xref;intro _ e';rw [hm] at e';obtain rfl:=qq e';refine x_AA (jb1 a1) fun f1 f2 f3=>?_;have hzl:=pl.len;refine wpAny_pyIter_dict (yb4 TO a1.rel.rh (qD hm)) D (y56 TO O hfr hf hn hl hb J step (I:=s1.heap.objs.size) (a1.keeps (jm _ _)) (fun a m=>?_) ⟨d,rfl,hm,⟨_,qK _ rfl,rfl,?_⟩⟩ hJ)
  ·rw [qB] at m;subst m;exact ⟨f1,f2,f3,_,_,qK _ rfl,rfl,by simp⟩
  ·refine rz hzl ?_;rfl) hs
end
inductive ErP (T:Tab) (μ:List Addr) (h:Heap):List (Value×Value)->List (AV×AV)->Prop
 |nil:ErP T μ h [] []
 |cons {k v a b vs l} (hk:Er T μ h k a) (hv:Er T μ h v b) (hl:ErP T μ h vs l):ErP T μ h ((k,v)::vs) ((a,b)::l)
theorem ErP.keep {T μ μ' h h'} (p:Pre μ μ') (k:TK h h'):∀{vs l},ErP T μ h vs l->ErP T μ' h' vs l
 |_,_,.nil=>.nil
 |_,_,.cons a b r=>.cons (a.keep p k) (b.keep p k) (r.keep p k)
noncomputable def fill:List (AV×AV)->List (AV×AV)->Option (List (AV×AV))
 |acc,[]=>some acc
 |acc,(k,v)::r=>if dkOk acc k&&decide (acc.length<=1000) then fill (aset acc k v) r else none
section
variable {T:Tab} {c:Cx} {σ:St} {μ₀ μ:List Addr} {h₀:Hp} {s:Shared} {i:Nat} {l:List (AV×AV)} {k av:AV} {Q:AV->St->Prop} {Qp:List (AV×AV)->St->Prop} {X:St->Prop}
variable {a:Addr} {v2 v3:Value} {A:Around}
theorem yU3 (O:CxOk c) (rl:At T c μ₀ h₀ σ μ (hpp s)) (hi:σ.H[i]? =some (.dict l)) (ok:dkOk l k=true) (hz:l.length<=1000) (hm:μ[i]? =some a) (e2:Er T μ s.heap v2 k) (e3:Er T μ s.heap v3 av) {E} {Q':Unit->Shared->Prop}
 (kk:∀s',At T c μ₀ h₀ ⟨σ.H.set i (.dict (aset l k av)),σ.m⟩ μ (hpp s')->TK s.heap s'.heap->Q' () s'):wpAny T.M A (dictSet a v2 v3) Q' E s:=by
 refine yt2 (rl.rel.rh.at hi) fun a' hm' es n hd er nd=>?_;rw [hm] at hm';obtain rfl:=qq hm';exact za hd er nd.1 ok e2 fun knd kr RR kx r hkr his pl D=>yX1 his D (qb (qk pl.len) (qb hz (qa rfl))) fun h' ep D' hep sb=>x_A (y42 O rl hm RR hkr pl nd.2 e3 D' hep sb) fun a t=>kk _ a t
theorem yo11 (O:CxOk c) {E} {Q':PUnit->Shared->Prop}:∀{ps:List (AV×AV)} {vs:List (Value×Value)} {acc r:List (AV×AV)} {s:Shared} {H:List AO},At T c μ₀ h₀ ⟨H,σ.m⟩ μ (hpp s)->H[i]? =some (.dict acc)->μ[i]? =some a->ErP T μ s.heap vs ps->fill acc ps=some r->
 (∀s',At T c μ₀ h₀ ⟨H.set i (.dict r),σ.m⟩ μ (hpp s')->Q' PUnit.unit s')->wpAny T.M A (storeAll a vs) Q' E s
 |[],_,acc,r,s,H,rl,hi,hm,.nil,hf,k=>by
  obtain rfl:=qq hf
  unfold storeAll;refine rz List.forIn_nil (qQ (k s ?_));have:H.set i (.dict acc)=H:=by
   refine x_E (qA.mp hi) fun hlt e=>?_;exact rz (Eq.symm e) (List.set_getElem_self hlt)
  exact rz this rl
 |(ka,va)::ps,_,acc,r,s,H,rl,hi,hm,.cons hk hv hl,hf,k=>by
  unfold fill at hf;split at hf
  ·rename_i ok;rw [Bool.and_eq_true,decide_eq_true_eq] at ok;unfold storeAll;rw [List.forIn_cons];refine qP (qP (yU3 O rl hi ok.1 ok.2 hm hk hv fun s1 a1 tk1=>qQ ?_));refine yo11 O (H:=H.set i (.dict (aset acc ka va))) (ps:=ps) a1 (List.getElem?_set_self (qA.mp hi).1) hm (hl.keep (.refl _) tk1) hf fun s2 a2=>k s2 ?_;rw [List.set_set] at a2;exact a2
  ·injection hf
variable {pos:Pos}
theorem y813 (h:Qp [] σ):W T c (ErP T) (evalPairs (pairTrees [] [] c.env pos)) Qp X σ:=fun μ s r=>pairTrees_nil_walk ⟨μ,[],σ,r.at,.nil,h⟩
theorem y510 {ke ve:Expr} {ks:List (Option Expr)} {vs:List Expr} (h:W T c (Er T) (eval ke c.env) (fun a σ1=>W T c (Er T) (eval ve c.env) (fun b σ2=>W T c (ErP T) (evalPairs (pairTrees ks vs c.env pos)) (fun l σ3=>Qp ((a,b)::l) σ3) X σ2) X σ1) X σ):
 W T c (ErP T) (evalPairs (pairTrees (some ke::ks) (ve::vs) c.env pos)) Qp X σ:=fun μ s rl=>
 pairTrees_cons_walk (h.go rl.at fun v1 s1 μ1 a σ1 a1 e1 h1 p1 k1=>h1.go a1 fun v2 s2 μ2 b σ2 a2 e2 h2 p2 k2=>h2.go a2 fun vs s3 μ3 l σ3 a3 e3 h3 p3 k3=>
  ⟨μ3,(a,b)::l,σ3,a3,.cons (e1.keep (p2.trans p3) (k2.trans k3)) (e2.keep p3 k3) e3,h3⟩)
theorem yY13 (O:CxOk c) {keys:List (Option Expr)} {values:List Expr} (hall:keys.all (·.isSome)=true) (hl:keys.length=values.length) (h0:keys≠[]) (hlen:keys.length<=15)
 (h:W T c (ErP T) (evalPairs (pairTrees keys values c.env pos)) (fun l σ1=>σ1.H[σ.H.length]? =some (.dict [])/\∃r,fill [] l=some r/\Q (.ref σ.H.length) ⟨σ1.H.set σ.H.length (.dict r),σ1.m⟩) X ⟨σ.H++[.dict []],σ.m⟩):
 W T c (Er T) (eval (.Dict keys values pos) c.env) Q X σ:=fun μ s rl=>by
 have a1:=(rl.at (g:=hpp s)).push (o:=j3 [] 0) (ao:=.dict []) ⟨[],0,qK _ rfl,.nil,by simp,rfl⟩;have hx:(μ++[s.heap.objs.size])[σ.H.length]? =some s.heap.objs.size:=by refine rz (Eq.symm rl.rh.len) ?_;simp
 refine wpAny_Dict_any hall hl h0 hlen (W.go (s:={s with heap:=s.heap.push (j3 [] 0)}) h a1 fun vs s2 μ2 l σ2 a2 e2 h2 p2 k2=>?_);refine yO6 h2 fun hd r hf hq=>?_;have hm2:=p2.get hx;exact yo11 O a2 hd hm2 e2 hf fun s3 a3=>⟨μ2,.ref σ.H.length,_,a3,.ref hm2,hq⟩
theorem y210 (h:Q (.ref σ.H.length) ⟨σ.H++[.dict []],σ.m⟩):W T c (Er T) (eval (.Dict [] [] pos) c.env) Q X σ:=fun μ s rl=>by
 have a1:=(rl.at (g:=hpp s)).push (o:=j3 [] 0) (ao:=.dict []) ⟨[],0,qK _ rfl,.nil,by simp,rfl⟩;have hx:(μ++[s.heap.objs.size])[σ.H.length]? =some s.heap.objs.size:=by refine rz (Eq.symm rl.rh.len) ?_;simp
 exact wpAny_Dict_empty ⟨_,.ref σ.H.length,_,a1,.ref hx,h⟩
variable {items:Array Value} {v:Value}
theorem yP2 {prog:Program} {w:World} {A:Around} {E:Value->Shared->Prop} {l:Addr} {o:Obj} {ne:Nat} {k:Int} {t:Tok} {Q:Unit->Shared->Prop} (ho:s.heap.get? l=some o) (hc:o.cls=.type "list") (hd:o.data=.seq items ne)
 (h0:0<=k) (hfit:k<2^63) (hn:k<items.size)
 (hQ:(s.heap.update l (Obj.mapSeq (·.setIfInBounds k.toNat v))).get? l=some (o.mapSeq (·.setIfInBounds k.toNat v))->Heap.SameBut l s.heap (s.heap.update l (Obj.mapSeq (·.setIfInBounds k.toNat v)))->Q () {s with heap:=s.heap.update l (Obj.mapSeq (·.setIfInBounds k.toNat v))}):
 wpAny (model prog w) A (setItem (.ref l) (.int k t) v) Q E s:=by
 have hl:s.heap.IsList l items:=⟨o,ho,hc,ne,hd⟩;unfold setItem
 try with_reducible refine qW ?_
 first|refine qP (qQ ?_)|skip
 refine qP (wpAny_sequenceKey hl.typeIs (by decide) ?_);refine qP (wpAny_callSpecial?_slot (name:=qH "__setitem__") hl.typeIs slot_list_setitem
  (wpAny_call_entry slot_list_setitem hl.typeIs entry_list_setitem ?_ (args_list_setitem _ _ _)))
 refine (?_:wpAny _ _ (Builtin.List.listSubscript? (.int k t)>>=_) _ _ s);refine qP (wpAny_listSubscript_int (fitsIndex_of h0 hfit) ?_);clear hfit;obtain ⟨j,rfl⟩:=Int.eq_ofNat_of_zero_le h0
 have hj:j<items.size:=by lia
 have hx':items[j]? =some items[j]:=Array.getElem?_eq_getElem hj;refine (?_:wpAny _ _ ((seqItemAt l j>>=fun r=>pure (r.map (j,·)))>>=_) _ _ s);refine qP (qP (wpAny_seqItemAt ho hd (qQ ?_)));refine rz hx' ((?_:wpAny _ _ (setSeqItemAt l j v>>=_) _ _ s));obtain ⟨n',hd'⟩:=Obj.data_mapSeq hd (·.setIfInBounds j v)
 have hfin:=qN (Obj.mapSeq (·.setIfInBounds j v)) ho (Obj.isFreed_of_seq hd');refine qP (wpAny_setSeqItemAt ho hd ?_)
 first
  |exact qP (qQ (qQ ⟨.none,rfl,qQ (hQ hfin (Heap.SameBut.update ..))⟩))
  |exact qQ ⟨.none,rfl,qQ (hQ hfin (Heap.SameBut.update ..))⟩
variable {Qf:AF->St->Prop}
variable {k:Nat} {v1:Value}
theorem yn4 (O:CxOk c) (rl:At T c μ₀ h₀ σ μ (hpp s)) {l:List AV} (hi:σ.H[i]? =some (.list l)) (hk:k<l.length) (hz:l.length<=1000000) (e1:Er T μ s.heap v1 (.ref i)) (e2:Er T μ s.heap v2 (.int k)) (e3:Er T μ s.heap v3 av) {E} {Q':Unit->Shared->Prop}
 (kk:∀s',At T c μ₀ h₀ ⟨σ.H.set i (.list (l.set k av)),σ.m⟩ μ (hpp s')->TK s.heap s'.heap->Q' () s'):wpAny T.M A (setItem v1 v2 v3) Q' E s:=by
 apply rl.rel.rh.xlist hi e1;intro a its n hm ho el;cases e2;have hlen:=el.length;refine yP2 ho rfl rfl (by lia) (by refine (?_:(k:Int)<9223372036854775808);lia) (by refine (?_:(k:Int)<(its.length:Int));lia) fun hf sb=>?_;have ne:∀x,x≠a->∀r,s.heap.get? x=some r->(s.heap.update a (Obj.mapSeq (·.setIfInBounds (k:Int).toNat v3))).get? x=some r:=fun x q r e=>(sb.2 x q).trans e;have tk:=yJ rl.rel.rh (qD hm) ne;obtain ⟨n',hd'⟩:=Obj.data_mapSeq (o:=jz its n) (xs:=⟨its⟩) (n:=n) rfl (·.setIfInBounds (k:Int).toNat v3)
 have he:(jz its n).mapSeq (·.setIfInBounds (k:Int).toNat v3)=jz (its.set k v3) n':=by
  have hm':Obj.mapSeq (·.setIfInBounds (k:Int).toNat v3) (jz its n)=⟨.type "list",none,(Obj.mapSeq (·.setIfInBounds (k:Int).toNat v3) (jz its n)).data, #[]⟩:=rfl;refine rz hm' (rz hd' ?_);simp
 rw [he] at hf;exact kk _ (rl.turn O hm ne ⟨its.set k v3,n',hf,(el.keep (.refl _) tk).set k (e3.keep (.refl _) tk)⟩) tk
noncomputable def SetI (a k v:AV) (Qu:St->Prop) (σ:St):Prop:=
 ∃i,a=.ref i/\((∃l,σ.H[i]? =some (.dict l)/\dkOk l k=true/\l.length<=1000/\Qu ⟨σ.H.set i (.dict (aset l k v)),σ.m⟩)\/∃l n,σ.H[i]? =some (.list l)/\k=.int (n:Nat)/\n<l.length/\l.length<=1000000/\Qu ⟨σ.H.set i (.list (l.set n v)),σ.m⟩)
theorem yr9 (O:CxOk c) {o ie e:Expr} {p:Pos} (hs:swapsWith e (some (.Subscript o ie p)) pos.line c.env=pure false)
 (h:W T c (Er T) (eval e c.env) (fun v σ1=>W T c (Er T) (eval o c.env) (fun a σ2=>W T c (Er T) (eval ie c.env) (fun k σ3=>SetI a k v (Qf .next) σ3) X σ2) X σ1) X σ):W T c (FlR T) (exec (.Assign [.Subscript o ie p] e pos) c.env) Qf X σ:=fun μ s rl=>
 wpAny_Assign_Subscript (h.go rl.at fun v1 s1 μ1 a σ1 a1 e1 h1 p1 k1=>h1.go a1 fun v2 s2 μ2 b σ2 a2 e2 h2 p2 k2=>h2.go a2 fun v3 s3 μ3 d σ3 a3 e3 h3 p3 k3=>by
  obtain ⟨i,rfl,h3⟩:=h3
  have e1':=e1.keep (p2.trans p3) (k2.trans k3);have e2':=e2.keep p3 k3;rcases h3 with ⟨l,hi,ok,hz,q⟩|⟨l,n,hi,rfl,hn,hz,q⟩
  ·exact ym4 O a3 hi ok hz e2' e3 e1' fun s' a' o_=>⟨μ3,.next,_,a',.next,q⟩
  ·exact yn4 O a3 hi hn hz e2' e3 e1' fun s' a' o_=>⟨μ3,.next,_,a',.next,q⟩) hs
inductive IK where
 |int|bool|bytes|tuple|cls (C:Addr)
inductive Bid where
 |len|abs|list|bytes|sum
inductive SK where
 |val|range|enum
inductive BM1 where
 |append|extend|pop|reverse|get|join
end
inductive E where
 |bad|none|bool (b:Bool)|int (i:Int)|str (n:Nat)|bytes (l:List UInt8)
 |nm (x:Nat)|gv (g:Nat)
 |attr (e:E) (n:Nat)
 |bin (op:Operator) (a b:E)|un (op:UnaryOp) (a:E)
 |cmp (op:CmpOp) (a b:E)|cmp2 (op op':CmpOp) (a b c:E)
 |and (a b:E)|or (a b:E)|ite (t b o:E)
 |nil|cons (a r:E)|pcons (k v r:E)
 |tup (l:E)|list (l:E)|dict (l:E)
 |call (f:Nat) (l:E)|bi (f:Bid) (l:E)|isi (e:E) (k:IK)
 |meth (o:E) (n:Nat) (l:E)|methC (f:Nat) (l:E)
 |sub (v i:E)|slice (v lo hi:E)
 |lam (k:Nat)
 |comp (elt:E) (tgt:Tgt) (sk:SK) (it:E)
inductive S where
 |bad|done|seq (s r:S)
 |pass|brk|cont|expr (e:E)|ret (e:E)
 |asg (x:Nat) (e:E)|asgC (x:Nat) (e:E)|asgT (rev:Bool) (xs:List Nat) (e:E)
 |setattr (o:E) (n:Nat) (e:E)|setsub (o i e:E)
 |augN (x:Nat) (op:Operator) (e:E)|augA (o:E) (n:Nat) (op:Operator) (e:E)
 |ite (t:E) (b o:S)|while (t:E) (b:S)
 |for (tgt:Tgt) (sk:SK) (it:E) (b:S)|forD (x:Nat) (it:E) (b:S)
 |raise (e:E)|try (b:S) (x:Nat) (v:Bool)
inductive CT where
 |f (n:Nat)|l (a:AV)
inductive Cal where
 |fn (ps:List Nat) (body:S)|fnD (ps:List Nat) (dfl:List AV) (body:S)|cls (C:Addr) (init:Nat)|no
structure Prg where
 cal:Nat->Cal
 mth:Addr->Nat->Option Nat
 atr:Addr->Nat->Bool
 gv:Nat->Option AV
 lam:Nat->Option (Nat×List Nat×E)
 lpos:Nat->Int×Int
 bm:Nat->Option BM1
 hd:Nat->Option Nat
 slen:Nat->Nat
 sin:Nat->Nat->Option Bool
 isC:Addr->Bool
 tl:Addr->Option (List AV)
 td:Addr->Option (List (AV×AV))
noncomputable abbrev Ora:=CT->List AV->List AO->(AV->List AO->Prop)->(List AO->Prop)->Prop
section
variable (P:Prg)
noncomputable def tv:AV->Option Bool
 |.bool b=>some b
 |.nil=>some false
 |_=>none
noncomputable def optQ {α:Type} (Q:α->Prop):Option α->Prop
 |some a=>Q a
 |none=>False
noncomputable def trQ (Q:Bool->St->Prop) (a:AV) (σ:St):Prop:=optQ (fun b=>Q b σ) (tv a)
theorem jg {α:Type} {Q:α->Prop} {G:Prop} {o:Option α}:optQ Q o->(∀a,o=some a->Q a->G)->G:=by
 rcases o with _|a
 ·exact fun h=>qJ h
 ·exact fun h k=>k a rfl h
theorem jj {α:Type} {Q:α->Prop} {o:Option α} {a:α} (e:o=some a) (h:Q a):optQ Q o:=e▸h
noncomputable def itO:AV->Option Int
 |.int i=>some i
 |_=>none
variable {a:AV}
theorem kF {i:Int}:itO a=some i->a=.int i:=by
 rcases a with _|_|j|_|_|_|_|⟨_,_⟩|_
 ·exact ja
 ·exact ja
 ·exact fun h=>congrArg AV.int (qq h)
 ·exact ja
 ·exact ja
 ·exact ja
 ·exact ja
 ·exact ja
 ·exact ja
noncomputable def byO:AV->Option (List UInt8)
 |.bytes i=>some i
 |_=>none
theorem yf6 {i:List UInt8}:byO a=some i->a=.bytes i:=by
 rcases a with _|_|_|_|j|_|_|⟨_,_⟩|_
 ·exact ja
 ·exact ja
 ·exact ja
 ·exact ja
 ·exact fun h=>congrArg AV.bytes (qq h)
 ·exact ja
 ·exact ja
 ·exact ja
 ·exact ja
noncomputable def cloO:AV->Option (Nat×AV)
 |.clo k v=>some (k,v)
 |_=>none
theorem yW7 {p:Nat×AV}:cloO a=some p->a=.clo p.1 p.2:=by
 rcases a with _|_|_|_|_|_|_|⟨k,v⟩|_
 ·exact ja
 ·exact ja
 ·exact ja
 ·exact ja
 ·exact ja
 ·exact ja
 ·exact ja
 ·exact fun h=>congrArg (fun p:Nat×AV=>AV.clo p.1 p.2) (qq h)
 ·exact ja
noncomputable def lsO (H:List AO) (a:AV):Option (List AV):=(zy a).bind (lsAt H)
variable {H:List AO}
theorem yg5 {l:List AV} {p:AV->Prop} (h:lsO H a=some l) (k:∀i,H[i]? =some (.list l)->p (.ref i)):p a:=ob_e h fun i e h=>ja1 e▸k i (j6 h)
noncomputable def AO.ins (H:List AO):AO->Option (Addr×Nat×List (AV×AV))
 |.inst C j=>(diAt H j).map fun l=>(C,j,l)
 |_=>none
noncomputable def inAt (H:List AO) (i:Nat):Option (Addr×Nat×List (AV×AV)):=H[i]?.bind (AO.ins H)
variable {i:Nat}
theorem yo8 {p:Addr×Nat×List (AV×AV)} {G:Prop} (h:inAt H i=some p) (k:H[i]? =some (.inst p.1 p.2.1)->H[p.2.1]? =some (.dict p.2.2)->G):G:=ob_e h fun o e=>by
 rcases o with _|_|⟨C,j⟩|_|_
 ·exact ja
 ·exact ja
 ·exact fun q=>om_e q fun l hl q=>by subst q;exact k e (yU hl)
 ·exact ja
 ·exact ja
variable {j:Nat}
theorem yp8 {C:Addr} {l:List (AV×AV)} (h1:H[i]? =some (.inst C j)) (h2:H[j]? =some (.dict l)):inAt H i=some (C,j,l):=
 (congrArg (fun o=>Option.bind o (AO.ins H)) h1).trans (congrArg (Option.map fun l=>(C,j,l)) (zb1 h2))
noncomputable def ldQ (H:List AO) (i:Nat) (F:List AV->Prop) (G:List (AV×AV)->Prop):Prop:=match H[i]? with
 |some (.list l)=>F l
 |some (.dict l)=>G l
 |_=>False
variable {F:List AV->Prop}
theorem yD11 {G:List (AV×AV)->Prop} {p:Prop} (h:ldQ H i F G) (k1:∀l,H[i]? =some (.list l)->F l->p) (k2:∀l,H[i]? =some (.dict l)->G l->p):p:=by
 delta ldQ at h;rcases q:H[i]? with _|o
 ·rw [q] at h;exact h.elim
 ·rw [q] at h;rcases o with l|l|⟨_,_⟩|_|_
  ·exact k1 l q h
  ·exact k2 l q h
  ·exact qJ h
  ·exact qJ h
  ·exact qJ h
theorem yE11 {G:List (AV×AV)->Prop} {l:List AV} (e:H[i]? =some (.list l)) (h:F l):ldQ H i F G:=by delta ldQ;exact rz e h
theorem yC11 {G:List (AV×AV)->Prop} {l:List (AV×AV)} (e:H[i]? =some (.dict l)) (h:G l):ldQ H i F G:=by delta ldQ;exact rz e h
@[irreducible] noncomputable def getQ (a:AV) (n:Nat) (Q:AV->St->Prop) (σ:St):Prop:=optQ (fun i=>optQ (fun p=>optQ (fun v=>P.atr p.1 n=true/\Q v σ) (dget p.2.2 n)) (inAt σ.H i)) (zy a)
@[irreducible] noncomputable def setQ (a:AV) (n:Nat) (v:AV) (Q:St->Prop) (σ:St):Prop:=
 optQ (fun i=>optQ (fun p=>P.atr p.1 n=true/\kA p.2.2=true/\(dput p.2.2 n v).length<=1000/\Q ⟨σ.H.set p.2.1 (.dict (dput p.2.2 n v)),σ.m⟩) (inAt σ.H i)) (zy a)
@[irreducible] noncomputable def yv4 (i j:Nat) (Q:AV->St->Prop) (σ:St):Prop:=
 optQ (fun l=>optQ (fun m=>l.length+m.length<=1000000/\Q (.ref σ.H.length) ⟨σ.H++[.list (l++m)],σ.m⟩) (lsAt σ.H j)) (lsAt σ.H i)
noncomputable def intQ (a b:AV) (F:Int->Int->Prop):Prop:=optQ (fun i=>optQ (F i) (itO b)) (itO a)
noncomputable def addQ (a b:AV) (Q:AV->St->Prop) (σ:St):Prop:=match a with
 |.int i=>optQ (fun j=>Q (.int (i+j)) σ) (itO b)
 |.bytes l=>optQ (fun m=>l.length+m.length<=16777216/\Q (.bytes (l++m)) σ) (byO b)
 |.ref i=>optQ (fun j=>yv4 i j Q σ) (zy b)
 |_=>False
noncomputable def binQ (op:Operator) (a b:AV) (Q:AV->St->Prop) (σ:St):Prop:=match op with
 |.Add=>addQ a b Q σ
 |.Sub=>intQ a b fun i j=>Q (.int (i-j)) σ
 |.Mult=>intQ a b fun i j=>i.natAbs<2^64/\Q (.int (i*j)) σ
 |.FloorDiv=>intQ a b fun i j=>j≠0/\j.natAbs<1073741824/\Q (.int (i.fdiv j)) σ
 |.Mod=>intQ a b fun i j=>j≠0/\Q (.int (i.fmod j)) σ
 |.BitAnd=>intQ a b fun i j=>Q (.int (Builtin.bitAnd i j)) σ
 |.LShift=>intQ a b fun i j=>(0<=j/\j<=1000000/\i.natAbs<2^64)/\Q (.int (i*2^j.toNat)) σ
 |_=>False
noncomputable def notQ (a:AV) (Q:AV->St->Prop) (σ:St):Prop:=match a with
 |.bool b=>Q (.bool (!b)) σ
 |_=>False
noncomputable def unQ (op:UnaryOp) (a:AV) (Q:AV->St->Prop) (σ:St):Prop:=match op with
 |.USub=>optQ (fun i=>Q (.int (-i)) σ) (itO a)
 |.Not=>notQ a Q σ
 |_=>False
noncomputable def jd1:List UInt8->List UInt8->Bool
 |[],[]=>false
 |[],_::_=>true
 |_::_,[]=>false
 |a::l,b::m=>if a=b then jd1 l m else decide (a<b)
noncomputable def yJ1 (H:List AO) (a:AV) (l:List AV):Option Bool:=List.rec (motive:=fun o_=>Option Bool) (some false) (fun b o_ r=>(eqV H 8 b a).bind fun x=>r.map (x||·)) l
noncomputable def ltV (a b:AV):Option Bool:=match a with
 |.int i=>(itO b).map fun j=>decide (i<j)
 |.bytes l=>(byO b).map fun m=>jd1 l m
 |_=>none
noncomputable def leV (a b:AV):Option Bool:=match a with
 |.int i=>(itO b).map fun j=>decide (i<=j)
 |.bytes l=>(byO b).map fun m=> !jd1 m l
 |_=>none
noncomputable def inV (H:List AO) (a b:AV):Option Bool:=match b with
 |.ref i=>(diAt H i).bind fun l=>gd (dkOk l a) (aget l a).isSome
 |.tup l=>yJ1 H a l
 |.bytes l=>(itO a).bind fun i=>if 0<=i/\i<256/\l.length<=1000 then some (l.any fun u=>((u.toNat:Int))==i) else none
 |.str n=>(stO a).bind fun k=>P.sin k n
 |.top d=>(P.td d).bind fun l=>gd (dkOk l a) (aget l a).isSome
 |_=>none
noncomputable def cmpV (H:List AO) (op:CmpOp) (a b:AV):Option Bool:=match op with
 |.Eq=>eqV H 8 a b
 |.NotEq=>(eqV H 8 a b).map (!·)
 |.Is=>gd (jr b) (jr a)
 |.IsNot=>gd (jr b) (!jr a)
 |.Lt=>ltV a b
 |.LtE=>leV a b
 |.Gt=>(itO a).bind fun i=>(itO b).map fun j=>decide (j<i)
 |.GtE=>(itO a).bind fun i=>(itO b).map fun j=>decide (j<=i)
 |.In=>inV P H a b
 |.NotIn=>none
noncomputable def cmpQ (op:CmpOp) (a b:AV) (Q:AV->St->Prop) (σ:St):Prop:=optQ (fun r=>Q (.bool r) σ) (cmpV P σ.H op a b)
noncomputable def ikN (k:IK) (n:Nat):Bool:=match k with
 |.int=>Nat.beq n 2||Nat.beq n 1
 |.bool=>Nat.beq n 1
 |.bytes=>Nat.beq n 4
 |.tuple=>Nat.beq n 5
 |.cls _=>false
noncomputable def isK (C:Addr):IK->Bool
 |.cls D=>C==D
 |_=>false
noncomputable def AO.isi (H:List AO) (k:IK):AO->Option Bool
 |.list _=>some (ikN k 6)
 |.dict _=>some (ikN k 7)
 |.inst C j=>(diAt H j).bind fun o_=>gd (P.isC C) (isK C k)
 |_=>none
noncomputable def isiV (H:List AO) (a:AV) (k:IK):Option Bool:=match a with
 |.nil=>some (ikN k 0)
 |.bool _=>some (ikN k 1)
 |.int _=>some (ikN k 2)
 |.str _=>some (ikN k 3)
 |.bytes _=>some (ikN k 4)
 |.tup _=>some (ikN k 5)
 |.ref i=>H[i]?.bind (AO.isi P H k)
 |_=>none
noncomputable def one (l:List AV) (F:AV->Prop):Prop:=match l with
 |[a]=>F a
 |_=>False
theorem yi5 {l:List AV} {F:AV->Prop} {p:List AV->Prop}:one l F->(∀a,F a->p [a])->p l:=by
 rcases l with _|⟨a,l⟩
 ·exact fun h=>qJ h
 ·
  rcases l with _|⟨b,l⟩
  ·exact fun h k=>k a h
  ·exact fun h=>qJ h
noncomputable def lenQ (a:AV) (Q:AV->St->Prop) (σ:St):Prop:=match a with
 |.ref i=>optQ (fun l=>l.length<2^62/\Q (.int l.length) σ) (lsAt σ.H i)
 |.bytes l=>l.length<=1000000/\Q (.int l.length) σ
 |.str n=>Q (.int (P.slen n)) σ
 |_=>False
noncomputable def bi1 (f:Bid) (a:AV) (Q:AV->St->Prop) (σ:St):Prop:=match f with
 |.len=>lenQ P a Q σ
 |.abs=>optQ (fun i=>Q (.int (if i<0 then-i else i)) σ) (itO a)
 |.list=>optQ (fun l=>l.length<=1000000/\Q (.ref σ.H.length) ⟨σ.H++[.list l],σ.m⟩) (lsO σ.H a)
 |.sum=>optQ (fun l=>∃ns:List Int,l=ns.map .int/\Q (.int ns.sum) σ) (lsO σ.H a)
 |.bytes=>optQ (fun l=>∃bs:List UInt8,l=bs.map (fun b=>.int b.toNat)/\l.length<=1000000/\Q (.bytes bs) σ) (lsO σ.H a)
@[irreducible] noncomputable def biQ (f:Bid) (l:List AV) (Q:AV->St->Prop) (σ:St):Prop:=one l fun a=>bi1 P f a Q σ
noncomputable def popQ (l:List AV) (i:Nat) (as:List AV) (Q:AV->St->Prop) (σ:St):Prop:=match as with
 |[]=>l.length<=1000000/\optQ (fun y=>Q y ⟨σ.H.set i (.list (l.eraseIdx (l.length-1))),σ.m⟩) l[l.length-1]?
 |w::as=>as=[]/\itO w=some 0/\match l with
  |y::r=>r.length<1000000/\Q y ⟨σ.H.set i (.list r),σ.m⟩
  |[]=>False
noncomputable def lmQ (b:BM1) (l:List AV) (i:Nat) (as:List AV) (Q:AV->St->Prop) (σ:St):Prop:=match b with
 |.append=>one as fun v=>l.length<=1000000/\Q .nil ⟨σ.H.set i (.list (l++[v])),σ.m⟩
 |.extend=>one as fun w=>optQ (fun m=>l.length+m.length<=1000000/\Q .nil ⟨σ.H.set i (.list (l++m)),σ.m⟩) (lsO σ.H w)
 |.reverse=>as=[]/\l.length<=1000000/\Q .nil ⟨σ.H.set i (.list l.reverse),σ.m⟩
 |.pop=>popQ l i as Q σ
 |_=>False
noncomputable def dgQ (l:List (AV×AV)) (as:List AV) (Q:AV->St->Prop) (σ:St):Prop:=one as fun k=>dkOk l k=true/\Q ((aget l k).getD .nil) σ
noncomputable def yu8 (a:AV) (as:List AV) (Q:AV->St->Prop) (σ:St):Prop:=byO a=some []/\one as fun w=>optQ (fun m=>∃x y:List UInt8,m=[.bytes x,.bytes y]/\x.length+y.length<=1000000/\Q (.bytes (x++y)) σ) (lsO σ.H w)
@[irreducible] noncomputable def bmQ (b:BM1) (o:AV) (as:List AV) (Q:AV->St->Prop) (σ:St):Prop:=match b with
 |.get=>optQ (fun i=>optQ (fun l=>dgQ l as Q σ) (diAt σ.H i)) (zy o)
 |.join=>yu8 o as Q σ
 |b=>optQ (fun i=>optQ (fun l=>lmQ b l i as Q σ) (lsAt σ.H i)) (zy o)
noncomputable def yt6 (n:Nat) (z:Int):Nat:=if 0<=z then z.toNat else n-z.natAbs
@[irreducible] noncomputable def subQ (a b:AV) (Q:AV->St->Prop) (σ:St):Prop:=match a with
 |.ref i=>ldQ σ.H i (fun l=>optQ (fun z=>(if 0<=z then z<2^62 else z.natAbs<=l.length/\l.length<2^62)/\optQ (fun v=>Q v σ) l[yt6 l.length z]?) (itO b)) fun l=>dkOk l b=true/\optQ (fun v=>Q v σ) (aget l b)
 |.tup l=>optQ (fun z=>(0<=z/\z<2^62)/\optQ (fun v=>Q v σ) l[z.toNat]?) (itO b)
 |.bytes l=>optQ (fun z=>(0<=z/\z.toNat<l.length/\l.length<=1000000)/\Q (.int (l.getD z.toNat 0).toNat) σ) (itO b)
 |.str n=>itO b=some 0/\optQ (fun v=>Q (.str v) σ) (P.hd n)
 |.top d=>optQ (fun l=>dkOk l b=true/\optQ (fun v=>Q v σ) (aget l b)) (P.td d)
 |_=>False
noncomputable def cutT (l:List AV) (x y:Option Int) (Q:AV->St->Prop) (σ:St):Prop:=match x with
 |none=>optQ (fun z=>(0<=z/\l.length<=1000)/\Q (.tup (l.take z.toNat)) σ) y
 |some z=>y=none/\(1<=z/\z<=l.length/\l.length<=1000)/\Q (.tup (l.drop z.toNat)) σ
noncomputable def cutL (x y:Option Int) (Q:AV->St->Prop) (σ:St) (l:List AV):Prop:=l.length<=1000000/\Q (.ref σ.H.length) ⟨σ.H++[.list (cut l x y)],σ.m⟩
noncomputable def cutX (a:AV) (x y:Option Int) (Q:AV->St->Prop) (σ:St):Prop:=match a with
 |.bytes l=>l.length<=1000000/\Q (.bytes (cut l x y)) σ
 |.tup l=>cutT l x y Q σ
 |.ref i=>optQ (cutL x y Q σ) (lsAt σ.H i)
 |.top b=>optQ (cutL x y Q σ) (P.tl b)
 |_=>False
@[irreducible] noncomputable def cutQ (a lo hi:AV) (Q:AV->St->Prop) (σ:St):Prop:=optQ (fun x=>optQ (fun y=>cutX P a x y Q σ) (kG hi)) (kG lo)
@[irreducible] noncomputable def yk2 (a k v:AV) (Q:St->Prop) (σ:St):Prop:=
 optQ (fun i=>ldQ σ.H i (fun l=>optQ (fun z=>(0<=z/\z.toNat<l.length/\l.length<=1000000)/\Q ⟨σ.H.set i (.list (l.set z.toNat v)),σ.m⟩) (itO k)) fun l=>dkOk l k=true/\l.length<=1000/\Q ⟨σ.H.set i (.dict (aset l k v)),σ.m⟩) (zy a)
noncomputable def yd4:List AV->Option (List (AV×AV))
 |[]=>some []
 |.tup [k,v]::r=>match yd4 r with
  |some l=>some ((k,v)::l)
  |none=>none
 |_=>none
noncomputable def srcL (H:List AO) (a:AV):Option Src:=match a with
 |.ref i=>(lsAt H i).map fun o_=>.list i
 |.tup l=>some (.tup l)
 |_=>none
noncomputable def srcV (H:List AO) (sk:SK) (a:AV):Option Src:=match sk with
 |.val=>srcL H a
 |.enum=>(zy a).bind fun i=>(lsAt H i).map fun o_=>.enum i
 |.range=>(itO a).bind fun z=>if 0<=z/\z<2^40 then some (.range 0 z.toNat) else none
noncomputable def tupQ (Q:List AV->St->Prop) (a:AV) (σ:St):Prop:=match a with
 |.tup l=>Q l σ
 |_=>False
noncomputable def unpQ (rev:Bool) (Q:List AV->St->Prop) (a:AV) (σ:St):Prop:=match a with
 |.tup l=>Q l σ
 |.ref i=>rev=false/\optQ (fun l=>Q l σ) (lsAt σ.H i)
 |_=>False
noncomputable def rtQ (Q:AV->St->Prop) (m:Loc) (r:AV) (H:List AO):Prop:=Q r ⟨H,m⟩
noncomputable def rtX (X:St->Prop) (m:Loc) (H:List AO):Prop:=X ⟨H,m⟩
noncomputable def yV4 (Γ:Ora) (t:CT) (as:List AV) (Q:AV->St->Prop) (X:St->Prop) (σ:St):Prop:=match σ with
 |⟨H,m⟩=>Γ t as H (rtQ Q m) (rtX X m)
noncomputable def exH (X:List AO->Prop) (σ:St):Prop:=X σ.H
noncomputable def lamR (Q:AV->List AO->Prop) (v:AV) (σ:St):Prop:=Q v σ.H
noncomputable def gd2 {α:Type} (c:Bool) (r:α):Option α:=match c with
 |true=>some r
 |false=>none
theorem yq11 {α:Type} {c:Bool} {r q:α} {p:α->Prop}:gd2 c r=some q->(c=true->p r)->p q:=by
 rcases c with _|_
 ·exact ja
 ·exact fun h k=>qq h▸k rfl
inductive MK where
 |fn (f:Nat)|clo (k:Nat) (v:AV)|bm (b:BM1)
noncomputable def BM1.ty:BM1->Nat
 |.get=>1
 |.join=>2
 |_=>0
noncomputable def mkB (n t:Nat):Option MK:=(P.bm n).bind fun b=>gd2 (Nat.beq b.ty t) (.bm b)
noncomputable def mkI (C:Addr) (n:Nat) (d:List (AV×AV)):Option MK:=match P.mth C n with
 |some f=>if kA d=true/\dget d n=none then some (.fn f) else none
 |none=>(dget d n).bind fun v=>(cloO v).bind fun p=>gd2 (P.atr C n) (.clo p.1 p.2)
noncomputable def AO.mk (H:List AO) (n:Nat):AO->Option MK
 |.inst C j=>(diAt H j).bind (mkI P C n)
 |.list _=>mkB P n 0
 |.dict _=>mkB P n 1
 |_=>none
noncomputable def yb1 (H:List AO) (a:AV) (n:Nat):Option MK:=match a with
 |.ref i=>H[i]?.bind (AO.mk P H n)
 |.bytes _=>mkB P n 2
 |_=>none
noncomputable def yj3 (Γ:Ora) (mk:MK) (a:AV) (as:List AV) (Q:AV->St->Prop) (X:St->Prop) (σ:St):Prop:=match mk with
 |.fn f=>yV4 Γ (.f f) (a::as) Q X σ
 |.clo k v=>yV4 Γ (.l (.clo k v)) as Q X σ
 |.bm b=>bmQ b a as Q σ
noncomputable def k2 (R:(AV->St->Prop)->St->Prop) (F:AV->AV->St->Prop) (x:AV) (σ:St):Prop:=R (F x) σ
noncomputable def yk14 (n:Nat) (Q:AV->St->Prop) (a:AV) (σ:St):Prop:=getQ P a n Q σ
noncomputable def binF (op:Operator) (Q:AV->St->Prop) (x y:AV) (σ:St):Prop:=binQ op x y Q σ
noncomputable def unK (op:UnaryOp) (Q:AV->St->Prop) (x:AV) (σ:St):Prop:=unQ op x Q σ
noncomputable def cmpF (op:CmpOp) (Q:AV->St->Prop) (x y:AV) (σ:St):Prop:=cmpQ P op x y Q σ
noncomputable def ifK (A B:St->Prop) (t:Bool) (σ:St):Prop:=match t with
 |true=>A σ
 |false=>B σ
noncomputable def yD14 (op op':CmpOp) (R:(AV->St->Prop)->St->Prop) (Q:AV->St->Prop) (x y:AV) (σ:St):Prop:=cmpQ P op x y (trQ (ifK (R (cmpF P op' Q y)) (Q (.bool false)))) σ
noncomputable def andK (A:St->Prop) (Q:AV->St->Prop) (x:AV) (σ:St):Prop:=trQ (ifK A (Q x)) x σ
noncomputable def orK (A:St->Prop) (Q:AV->St->Prop) (x:AV) (σ:St):Prop:=trQ (ifK (Q x) A) x σ
noncomputable def yb9 (x:AV) (Q:AV->St->Prop) (l:List AV) (σ:St):Prop:=Q (.tup (x::l)) σ
noncomputable def yY7 (Q:AV->St->Prop) (x y:AV) (σ:St):Prop:=tupQ (yb9 x Q) y σ
noncomputable def yV10 (x y:AV) (Q:AV->St->Prop) (l:List AV) (σ:St):Prop:=Q (.tup (.tup [x,y]::l)) σ
noncomputable def yA13 (R:(AV->St->Prop)->St->Prop) (Q:AV->St->Prop) (x y:AV) (σ:St):Prop:=R (tupQ (yV10 x y Q)) σ
noncomputable def tupK (Q:AV->St->Prop) (l:List AV) (σ:St):Prop:=l.length<=1000/\Q (.tup l) σ
noncomputable def yG11 (Q:AV->St->Prop) (l:List AV) (σ:St):Prop:=l.length<=1000/\match σ with
 |⟨H,m⟩=>Q (.ref H.length) ⟨H++[.list l],m⟩
noncomputable def yG14 (i:Nat) (Q:AV->St->Prop) (ps:List AV) (σ:St):Prop:=match σ with
 |⟨H,m⟩=>H[i]? =some (.dict [])/\optQ (fun r=>Q (.ref i) ⟨H.set i (.dict r),m⟩) ((yd4 ps).bind (fill []))
noncomputable def yO7 (Γ:Ora) (t:CT) (Q:AV->St->Prop) (X:St->Prop) (as:List AV) (σ:St):Prop:=yV4 Γ t as Q X σ
noncomputable def biK (f:Bid) (Q:AV->St->Prop) (as:List AV) (σ:St):Prop:=biQ P f as Q σ
noncomputable def bK (Q:AV->St->Prop) (σ:St) (b:Bool):Prop:=Q (.bool b) σ
noncomputable def vK (Q:AV->St->Prop) (σ:St) (v:AV):Prop:=Q v σ
noncomputable def isiK (k:IK) (Q:AV->St->Prop) (a:AV) (σ:St):Prop:=match σ with
 |⟨H,m⟩=>optQ (bK Q ⟨H,m⟩) (isiV P H a k)
noncomputable def ys13 (Γ:Ora) (mk:MK) (a:AV) (Q:AV->St->Prop) (X:St->Prop) (as:List AV) (σ:St):Prop:=yj3 Γ mk a as Q X σ
noncomputable def yr13 (Γ:Ora) (n:Nat) (R:(AV->St->Prop)->St->Prop) (Q:AV->St->Prop) (X:St->Prop) (a:AV) (σ:St):Prop:=match σ with
 |⟨H,m⟩=>optQ (fun mk=>R (tupQ (ys13 Γ mk a Q X)) ⟨H,m⟩) (yb1 P H a n)
noncomputable def subF (Q:AV->St->Prop) (x y:AV) (σ:St):Prop:=subQ P x y Q σ
noncomputable def cutF (a:AV) (Q:AV->St->Prop) (x y:AV) (σ:St):Prop:=cutQ P a x y Q σ
noncomputable def yN13 (R:(AV->St->Prop)->St->Prop) (Q:AV->St->Prop) (a x:AV) (σ:St):Prop:=R (cutF P a Q x) σ
noncomputable def seqK (R:St->Prop) (Q:AF->St->Prop) (f:AF) (σ:St):Prop:=match f with
 |.next=>R σ
 |.brk=>Q .brk σ
 |.cont=>Q .cont σ
 |.ret v=>Q (.ret v) σ
noncomputable def yH14 (R:St->Prop) (_:AV) (σ:St):Prop:=R σ
noncomputable def retK (Q:AF->St->Prop) (v:AV) (σ:St):Prop:=Q (.ret v) σ
noncomputable def asgK (x:Nat) (R:St->Prop) (v:AV) (σ:St):Prop:=match σ with
 |⟨H,m⟩=>R ⟨H,put m x v⟩
noncomputable def yl11 (rev:Bool) (xs:List Nat) (R:St->Prop) (l:List AV) (σ:St):Prop:=l.length=xs.length/\match σ with
 |⟨H,m⟩=>R ⟨H,if rev then putAll xs.reverse l.reverse m else putAll xs l m⟩
noncomputable def setF (n:Nat) (R:St->Prop) (v a:AV) (σ:St):Prop:=setQ P a n v R σ
noncomputable def yF15 (v a:AV) (R:St->Prop) (k:AV) (σ:St):Prop:=yk2 a k v R σ
noncomputable def yH15 (R':(AV->St->Prop)->St->Prop) (R:St->Prop) (v a:AV) (σ:St):Prop:=R' (yF15 v a R) σ
noncomputable def yl14 (x:Nat) (op:Operator) (old:AV) (R:St->Prop) (v:AV) (σ:St):Prop:=match op with
 |.Add=>intQ old v fun i j=>asgK x R (.int (i+j)) σ
 |_=>False
noncomputable def y211 (a:AV) (n:Nat) (op:Operator) (old:AV) (R:St->Prop) (v:AV) (σ:St):Prop:=match op with
 |.Add=>intQ old v fun i j=>setQ P a n (.int (i+j)) R σ
 |_=>False
noncomputable def y111 (n:Nat) (op:Operator) (R':(AV->St->Prop)->St->Prop) (R:St->Prop) (a:AV) (σ:St):Prop:=getQ P a n (fun old σ2=>R' (y211 P a n op old R) σ2) σ
noncomputable def yG13 (X:St->Prop) (_:AV) (σ:St):Prop:=X σ
noncomputable def tryX (x:Nat) (v:Bool) (R:St->Prop) (σ:St):Prop:=match σ with
 |⟨H,m⟩=>R ⟨H,put m x (.bool v)⟩
noncomputable def yX7 (weval:(AV->St->Prop)->(St->Prop)->St->Prop) (i:Nat) (src:Src) (tgt:Tgt) (Z:St->Prop) (J:Nat->Nat->St->Prop):Prop:=
 ∀k n σ',J k n σ'->match src.item σ'.H n with
  |none=>False
  |some none=>Z σ'
  |some (some a)=>optQ (fun m'=>weval (fun v σ2=>optQ (fun l=>l.length<=1000000/\∃k',k'<k/\J k' (n+1) ⟨σ2.H.set i (.list (l++[v])),σ2.m⟩) (lsAt σ2.H i)) (fun o_=>False) ⟨σ'.H,m'⟩) (asg tgt a σ'.m)
noncomputable def AO.tb:AO->Option (List (Int×Int))
 |.tab l=>some l
 |_=>none
noncomputable def tabO (H:List AO):Option (List (Int×Int)):=H[(0:Nat)]?.bind AO.tb
theorem yP13 {l:List (Int×Int)} (h:tabO H=some l):H[(0:Nat)]? =some (.tab l):=ob_e h fun o e=>by
 rcases o with _|_|⟨_,_⟩|_|_
 ·exact ja
 ·exact ja
 ·exact ja
 ·exact ja
 ·exact fun q=>e.trans (congrArg (fun l=>some (AO.tab l)) (qq q))
theorem yQ13 {l:List (Int×Int)} (h:H[(0:Nat)]? =some (.tab l)):tabO H=some l:=congrArg (fun o=>Option.bind o AO.tb) h
noncomputable def lamQ (k:Nat) (Q:AV->St->Prop) (σ:St):Prop:=
 optQ (fun q=>optQ (fun l=>optQ (fun v=>P.lpos k∉l/\Q (.clo k v) ⟨σ.H.set 0 (.tab (l++[P.lpos k])),σ.m⟩) (lk σ.m q.1)) (tabO σ.H)) (P.lam k)
noncomputable def wp (Γ:Ora):E->(AV->St->Prop)->(St->Prop)->St->Prop
 |.bad,_,_,_=>False
 |.none,Q,_,σ=>Q .nil σ
 |.bool b,Q,_,σ=>Q (.bool b) σ
 |.int i,Q,_,σ=>Q (.int i) σ
 |.str n,Q,_,σ=>Q (.str n) σ
 |.bytes l,Q,_,σ=>Q (.bytes l) σ
 |.nm x,Q,_,σ=>match σ with
  |⟨H,m⟩=>optQ (vK Q ⟨H,m⟩) (lk m x)
 |.gv g,Q,_,σ=>optQ (vK Q σ) (P.gv g)
 |.attr e n,Q,X,σ=>wp Γ e (yk14 P n Q) X σ
 |.bin op a b,Q,X,σ=>wp Γ a (k2 (fun F=>wp Γ b F X) (binF op Q)) X σ
 |.un op a,Q,X,σ=>wp Γ a (unK op Q) X σ
 |.cmp op a b,Q,X,σ=>wp Γ a (k2 (fun F=>wp Γ b F X) (cmpF P op Q)) X σ
 |.cmp2 op op' a b c,Q,X,σ=>wp Γ a (k2 (fun F=>wp Γ b F X) (yD14 P op op' (fun F=>wp Γ c F X) Q)) X σ
 |.and a b,Q,X,σ=>wp Γ a (andK (wp Γ b Q X) Q) X σ
 |.or a b,Q,X,σ=>wp Γ a (orK (wp Γ b Q X) Q) X σ
 |.ite t b o,Q,X,σ=>wp Γ t (trQ (ifK (wp Γ b Q X) (wp Γ o Q X))) X σ
 |.nil,Q,_,σ=>Q (.tup []) σ
 |.cons a r,Q,X,σ=>wp Γ a (k2 (fun F=>wp Γ r F X) (yY7 Q)) X σ
 |.pcons k v r,Q,X,σ=>wp Γ k (k2 (fun F=>wp Γ v F X) (yA13 (fun F=>wp Γ r F X) Q)) X σ
 |.tup l,Q,X,σ=>wp Γ l (tupQ (tupK Q)) X σ
 |.list l,Q,X,σ=>wp Γ l (tupQ (yG11 Q)) X σ
 |.dict l,Q,X,σ=>match σ with
  |⟨H,m⟩=>wp Γ l (tupQ (yG14 H.length Q)) X ⟨H++[.dict []],m⟩
 |.call f l,Q,X,σ=>wp Γ l (tupQ (yO7 Γ (.f f) Q X)) X σ
 |.bi f l,Q,X,σ=>wp Γ l (tupQ (biK P f Q)) X σ
 |.isi e k,Q,X,σ=>wp Γ e (isiK P k Q) X σ
 |.meth o n l,Q,X,σ=>wp Γ o (yr13 P Γ n (fun F=>wp Γ l F X) Q X) X σ
 |.methC f l,Q,X,σ=>wp Γ l (tupQ (yO7 Γ (.f f) Q X)) X σ
 |.sub v i,Q,X,σ=>wp Γ v (k2 (fun F=>wp Γ i F X) (subF P Q)) X σ
 |.slice v lo hi,Q,X,σ=>wp Γ v (k2 (fun F=>wp Γ lo F X) (yN13 P (fun F=>wp Γ hi F X) Q)) X σ
 |.lam k,Q,_,σ=>lamQ P k Q σ
 |.comp elt tgt sk it,Q,X,σ=>wp Γ it (fun a σ1=>optQ (fun src=>good src tgt=true/\∃(J:Nat->Nat->St->Prop) (k:Nat),J k 0 ⟨σ1.H++[.list []],[]⟩/\
  yX7 (wp Γ elt) σ1.H.length src tgt (fun σ'=>Q (.ref σ1.H.length) ⟨σ'.H,σ1.m⟩) J) (srcV σ1.H sk a)) X σ
noncomputable def wpS (Γ:Ora):S->(AF->St->Prop)->(St->Prop)->St->Prop
 |.bad,_,_,_=>False
 |.done,Q,_,σ=>Q .next σ
 |.seq s r,Q,X,σ=>wpS Γ s (seqK (wpS Γ r Q X) Q) X σ
 |.pass,Q,_,σ=>Q .next σ
 |.brk,Q,_,σ=>Q .brk σ
 |.cont,Q,_,σ=>Q .cont σ
 |.expr e,Q,X,σ=>wp P Γ e (yH14 (Q .next)) X σ
 |.ret e,Q,X,σ=>wp P Γ e (retK Q) X σ
 |.asg x e,Q,X,σ=>wp P Γ e (asgK x (Q .next)) X σ
 |.asgC x e,Q,X,σ=>wp P Γ e (asgK x (Q .next)) X σ
 |.asgT rev xs e,Q,X,σ=>wp P Γ e (unpQ rev (yl11 rev xs (Q .next))) X σ
 |.setattr o n e,Q,X,σ=>wp P Γ e (k2 (fun F=>wp P Γ o F X) (setF P n (Q .next))) X σ
 |.setsub o i e,Q,X,σ=>wp P Γ e (k2 (fun F=>wp P Γ o F X) (yH15 (fun F=>wp P Γ i F X) (Q .next))) X σ
 |.augN x op e,Q,X,σ=>match σ with
  |⟨H,m⟩=>optQ (fun old=>wp P Γ e (yl14 x op old (Q .next)) X ⟨H,m⟩) (lk m x)
 |.augA o n op e,Q,X,σ=>wp P Γ o (y111 P n op (fun F=>wp P Γ e F X) (Q .next)) X σ
 |.ite t b o,Q,X,σ=>wp P Γ t (trQ (ifK (wpS Γ b Q X) (wpS Γ o Q X))) X σ
 |.while t b,Q,X,σ=>∃(J:Nat->St->Prop) (k:Nat),J k σ/\∀k σ,J k σ->wp P Γ t (trQ (ifK (wpS Γ b (jN Q fun σ2=>∃k',k'<k/\J k' σ2) X) (Q .next))) X σ
 |.for tgt sk it b,Q,X,σ=>wp P Γ it (fun a σ1=>optQ (fun src=>good src tgt=true/\∃(J:Nat->Nat->St->Prop) (k:Nat),J k 0 σ1/\∀k n σ,J k n σ->match src.item σ.H n with
  |none=>False
  |some none=>Q .next σ
  |some (some a)=>optQ (fun m'=>wpS Γ b (jN Q fun σ2=>∃k',k'<k/\J k' (n+1) σ2) X ⟨σ.H,m'⟩) (asg tgt a σ.m)) (srcV σ1.H sk a)) X σ
 |.forD x it b,Q,X,σ=>wp P Γ it (fun a σ1=>optQ (fun i=>optQ (fun l=>zl l=true/\∃(J:Nat->Nat->St->Prop) (k:Nat),J k 0 σ1/\∀k n σ,J k n σ->σ.H[i]? =some (.dict l)/\match l[n]? with
  |none=>Q .next σ
  |some q=>wpS Γ b (jN Q fun σ2=>∃k',k'<k/\J k' (n+1) σ2) X ⟨σ.H,put σ.m x q.1⟩) (diAt σ1.H i)) (zy a)) X σ
 |.raise e,_,X,σ=>wp P Γ e (yG13 X) X σ
 |.try b x v,Q,X,σ=>wpS Γ b Q (tryX x v (Q .next)) σ
noncomputable def calQ (Γ:Ora) (as:List AV) (H:List AO) (Q:AV->List AO->Prop) (X:List AO->Prop):Cal->Prop
 |.fn ps b=>ps.length=as.length/\wpS P Γ b (jw Q) (exH X) ⟨H,ps.zip as⟩
 |.fnD ps d b=>ps.length=(as++d).length/\wpS P Γ b (jw Q) (exH X) ⟨H,ps.zip (as++d)⟩
 |.cls C i=>Γ (.f i) (.ref (H.length+1)::as) (H++[.dict [],.inst C H.length]) (fun a H'=>a=.nil/\Q (.ref (H.length+1)) H') X
 |.no=>False
noncomputable def yL6 (Γ:Ora) (t:CT) (as:List AV) (H:List AO) (Q:AV->List AO->Prop) (X:List AO->Prop):Prop:=match t with
 |.f n=>calQ P Γ as H Q X (P.cal n)
 |.l a=>optQ (fun c=>optQ (fun p=>p.2.1.length=as.length/\wp P Γ p.2.2 (lamR Q) (exH X) ⟨H,(p.1,c.2)::p.2.1.zip as⟩) (P.lam c.1)) (cloO a)
noncomputable def Call (k:Nat):Ora:=Nat.rec (motive:=fun o_=>Ora) (fun o_ o_ o_ o_ o_=>False) (fun o_ Γ=>yL6 P Γ) k
@[irreducible] noncomputable def Cl (k:Nat):Ora:=Call P k
structure FT where
 names:List Str
 gn:Nat->Option Str
 gvn:Nat->Option Str
 cn:Addr->Option Str
 mc:Nat->Option (Str×Str)
 lm:Nat->Arguments->Expr->Scope->Str->Bool
 lpos:Nat->Int×Int
inductive Arg1 where
 |e (x:Expr)|l (xs:List Expr)|d (ks:List (Option Expr)) (vs:List Expr)|o (x:Option Expr)|s (sk:SK) (x:Expr)
noncomputable def km1:Bid->Str
 |.len=>qH "len"
 |.abs=>qH "abs"
 |.list=>qH "list"
 |.bytes=>qH "bytes"
 |.sum=>qH "sum"
noncomputable abbrev gi (sc:Scope) (x:Str):Bool:=sc.names.lookup x==some .globalImplicit&& !(x==qH "__debug__")
noncomputable abbrev lo (sc:Scope) (x:Str):Bool:=sc.names.lookup x==some .local
noncomputable def jE (N:FT) (n:Nat) (x:Str):Bool:=N.names[n]? ==some x
noncomputable def y0 (x:Str):Bool:= !(x==qH "__debug__")&& !(x==qH "__classdict__")
noncomputable def ikB (N:FT) (k:IK) (x:Str):Bool:=match k with
 |.int=>x==qH "int"
 |.bool=>x==qH "bool"
 |.bytes=>x==qH "bytes"
 |.tuple=>x==qH "tuple"
 |.cls C=>N.cn C==some x
noncomputable def zd (x:Expr):Bool:= !Nat.beq x.ctorIdx 7
noncomputable def yB (x:Expr):Bool:= !(Nat.beq x.ctorIdx 8||Nat.beq x.ctorIdx 9||Nat.beq x.ctorIdx 10)
noncomputable def kc1 (scope:Scope):Bool:=scope.kind== .function&&scope.names.all fun y=>(y.2== .local&&scope.names.lookup y.1==some .local)||y.2== .globalImplicit
noncomputable def yb2 (sc scope:Scope):Option Str:=match scope.names.filter (·.2== .free) with
 |[(cap,_)]=>if sc.names.lookup cap==some .cell then some cap else none
 |_=>none
noncomputable def yM11:Arguments->Bool
 |⟨_,_,_,_,[],_,[]⟩=>true
 |_=>false
noncomputable abbrev y34 (sc:Scope):Env:={scope:=sc,locals:=0,globals:=0,cells:=[]}
noncomputable def y83 (N:FT) (sc:Scope):List Nat->List Str->Bool
 |[],[]=>true
 |n::ns,x::es=>jE N n x&&lo sc x&&y83 N sc ns es
 |_,_=>false
inductive kU (N:FT) (sc:Scope):Tgt->Expr->Prop
 |one {x nm p} (h:(jE N x nm&&lo sc nm)=true):kU N sc (.one x) (.Name nm p)
 |two {x y nx ny p1 p2 k p3} (h:(jE N x nx&&lo sc nx&&jE N y ny&&lo sc ny)=true):kU N sc (.two x y) (.Tuple [.Name nx p1,.Name ny p2] k p3)
inductive NFit (N:FT) (sc:Scope):List Nat->List Expr->Prop
 |nil:NFit N sc [] []
 |cons {n ns x p es} (h:(jE N n x&&lo sc x)=true) (r:NFit N sc ns es):NFit N sc (n::ns) (.Name x p::es)
variable {p:Prop}
noncomputable def cB (b:Bool) (k:b=true->Option (PLift p)):Option (PLift p):=match b,k with
 |true,k=>k rfl
 |false,_=>none
noncomputable def cO {q:Prop} (o:Option (PLift p)) (k:p->Option (PLift q)):Option (PLift q):=match o with
 |some ⟨h⟩=>k h
 |none=>none
theorem c_ok {o:Option (PLift p)} (h:o.isSome=true):p:=match o,h with
 |some ⟨h⟩,_=>h
noncomputable def cI (n m:Nat) (k:n=m->Option (PLift p)):Option (PLift p):=cB (Nat.beq n m) fun h=>k (Nat.eq_of_beq_eq_true h)
noncomputable def lsC {α:Type} {p:List α->Prop} (l:List α) (n:Option (PLift (p []))) (c:∀x r,Option (PLift (p (x::r)))):Option (PLift (p l)):=List.rec (motive:=fun l=>Option (PLift (p l))) n (fun x r o_=>c x r) l
noncomputable def opC {α:Type} {p:Option α->Prop} (o:Option α) (n:Option (PLift (p none))) (c:∀x,Option (PLift (p (some x)))):Option (PLift (p o)):=Option.rec (motive:=fun o=>Option (PLift (p o))) n c o
noncomputable def one1 {α:Type} {p:List α->Prop} (l:List α) (k:∀x,Option (PLift (p [x]))):Option (PLift (p l)):=lsC (p:=p) l none fun x r=>lsC (p:=fun r=>p (x::r)) r (k x) fun o_ o_=>none
noncomputable def two2 {α:Type} {p:List α->Prop} (l:List α) (k:∀x y,Option (PLift (p [x,y]))):Option (PLift (p l)):=lsC (p:=p) l none fun x r=>one1 (p:=fun r=>p (x::r)) r (k x)
noncomputable def nil0 {α:Type} {p:List α->Prop} (l:List α) (k:Option (PLift (p []))):Option (PLift (p l)):=lsC l k fun o_ o_=>none
noncomputable def purN (t:Sem (Option (List Str))):Option (PLift (t=pure none)):=cI t.ctorIdx 0 fun h=>Sem.pure.elim (motive:=fun t=>Option (PLift (t=pure none))) t h fun a=>opC (p:=fun a=>Sem.pure a=pure none) a (some ⟨rfl⟩) fun o_=>none
noncomputable def purS {q:Prop} (t:Sem (Option (List Str))) (k:∀names,t=pure (some names)->Option (PLift q)):Option (PLift q):=cI t.ctorIdx 0 fun h=>Sem.pure.elim (motive:=fun t=>(∀names,t=pure (some names)->Option (PLift q))->Option (PLift q)) t h (fun a=>Option.rec (motive:=fun a=>(∀names,Sem.pure a=pure (some names)->Option (PLift q))->Option (PLift q)) (fun o_=>none) (fun names k=>k names rfl) a) k
variable {p:Expr->Prop}
noncomputable def kC (x:Expr) (k:∀nm ps,Option (PLift (p (.Name nm ps)))):Option (PLift (p x)):=cI x.ctorIdx 23 fun h=>Expr.Name.elim (motive_1:=fun x=>Option (PLift (p x))) x h k
noncomputable def yV8 (x:Expr) (k:∀f es ps,Option (PLift (p (.Call f es [] ps)))):Option (PLift (p x)):=cI x.ctorIdx 16 fun h=>Expr.Call.elim (motive_1:=fun x=>Option (PLift (p x))) x h fun f es ks ps=>nil0 (p:=fun ks=>p (.Call f es ks ps)) ks (k f es ps)
noncomputable def yF6 (x:Expr) (k:∀c n ps,Option (PLift (p (.Constant c n ps)))):Option (PLift (p x)):=cI x.ctorIdx 19 fun h=>Expr.Constant.elim (motive_1:=fun x=>Option (PLift (p x))) x h k
noncomputable def yc4 (x:Expr) (k:∀y nm ps,Option (PLift (p (.Attribute y nm ps)))):Option (PLift (p x)):=cI x.ctorIdx 20 fun h=>Expr.Attribute.elim (motive_1:=fun x=>Option (PLift (p x))) x h k
noncomputable def yX8 (x:Expr) (k:∀es n ps,Option (PLift (p (.Tuple es n ps)))):Option (PLift (p x)):=cI x.ctorIdx 25 fun h=>Expr.Tuple.elim (motive_1:=fun x=>Option (PLift (p x))) x h k
noncomputable def chkT (N:FT) (sc:Scope):(t:Tgt)->(x:Expr)->Option (PLift (kU N sc t x))
 |.one x,e=>kC (p:=kU N sc (.one x)) e fun nm o_=>cB (jE N x nm&&lo sc nm) fun h=>some ⟨.one h⟩
 |.two x y,e=>yX8 (p:=kU N sc (.two x y)) e fun es n p=>two2 (p:=fun es=>kU N sc (.two x y) (.Tuple es n p)) es fun a b=>kC (p:=fun a=>kU N sc (.two x y) (.Tuple [a,b] n p)) a fun nx px=>kC (p:=fun b=>kU N sc (.two x y) (.Tuple [.Name nx px,b] n p)) b fun ny o_=>cB (jE N x nx&&lo sc nx&&jE N y ny&&lo sc ny) fun h=>some ⟨.two h⟩
noncomputable def chkN (N:FT) (sc:Scope):(ns:List Nat)->(es:List Expr)->Option (PLift (NFit N sc ns es))
 |[],es=>nil0 (p:=NFit N sc []) es (some ⟨.nil⟩)
 |n::ns,es=>lsC (p:=NFit N sc (n::ns)) es none fun e es=>kC (p:=fun e=>NFit N sc (n::ns) (e::es)) e fun x o_=>cB (jE N n x&&lo sc x) fun h=>cO (chkN N sc ns es) fun r=>some ⟨.cons h r⟩
noncomputable def isNone (e:E):Option (PLift (e=.none)):=cI e.ctorIdx 1 fun h=>E.none.elim (motive:=fun e=>Option (PLift (e=.none))) e h (some ⟨rfl⟩)
noncomputable def y612 (e:E):Option (PLift (e=.nil)):=cI e.ctorIdx 16 fun h=>E.nil.elim (motive:=fun e=>Option (PLift (e=.nil))) e h (some ⟨rfl⟩)
noncomputable def yE6:(sk:SK)->Option (PLift (sk≠.enum))
 |.val=>some ⟨fun h=>SK.noConfusion h⟩
 |.range=>some ⟨fun h=>SK.noConfusion h⟩
 |.enum=>none
variable {T:Tab} {c:Cx} {Q:AV->St->Prop} {Qb:Bool->St->Prop} {X:St->Prop} {σ:St}
variable {op1 op2:CmpOp} {r r2:Expr}
theorem lm2 (h1:qc1 op1 r=false) (h2:qc1 op2 r2=false):lastMarks [op1,op2] [r,r2]=false:=by
 refine (?_:lastMarks [op2] [r2]=false);exact h2
theorem yW13 {l:Expr} {pos:Pos} (h1:qc1 op1 r=false) (h2:qc1 op2 r2=false)
 (h:W T c (Er T) (eval l c.env) (fun a σ1=>W T c (Er T) (eval r c.env) (fun b σ2=>WCmp T c op1 a b (fun v σ3=>WTr T c v (fun t σ4=>match t with
  |true=>W T c (Er T) (eval r2 c.env) (fun d σ5=>WCmp T c op2 b d Q X σ5) X σ4
  |false=>v=.bool false/\Q (.bool false) σ4) X σ3) X σ2) X σ1) X σ):W T c (Er T) (eval (.Compare l [op1,op2] [r,r2] pos) c.env) Q X σ:=fun μ s rl=>
 Compare_chain (h.go rl.at fun v1 s1 μ1 a σ1 a1 e1 q1 p1 k1=>chain_link (q1.go a1 fun v2 s2 μ2 b σ2 a2 e2 q2 p2 k2=>(q2 v1 v2).go a2 ⟨e1.keep p2 k2,e2⟩ fun v s3 μ3 d σ3 a3 e3 q3 p3 k3=>
  (q3 v).go a3 e3 fun t s4 μ4 t' σ4 a4 e4 q4 p4 k4=>by
   subst (e4:t=t');rcases t with _|_
   ·obtain ⟨rfl,q⟩:=q4
    exact ⟨μ4,.bool false,σ4,a4,e3.keep p4 k4,q⟩
   ·exact chain_last (W.go q4 a4 fun v5 s5 μ5 d5 σ5 a5 e5 q5 p5 k5=>(q5 v2 v5).go a5 ⟨((e2.keep p3 k3).keep p4 k4).keep p5 k5,e5⟩ fun v s6 μ6 d σ6 a6 e6 q6 o_ o_=>⟨μ6,d,σ6,a6,e6,q6⟩))) (lm2 h1 h2)
theorem y710 {l:Expr} {pos:Pos} {whole:Sem Value} (h1:qc1 op1 r=false) (h2:qc1 op2 r2=false)
 (h:W T c (Er T) (eval l c.env) (fun a σ1=>W T c (Er T) (eval r c.env) (fun b σ2=>WCmp T c op1 a b (fun v σ3=>WTr T c v (fun t σ4=>match t with
  |true=>W T c (Er T) (eval r2 c.env) (fun d σ5=>WCmp T c op2 b d (fun v σ6=>WTr T c v Qb X σ6) X σ5) X σ4
  |false=>Qb false σ4) X σ3) X σ2) X σ1) X σ):W T c BoR (isTrue (.Compare l [op1,op2] [r,r2] pos) c.env whole) Qb X σ:=fun μ s rl=>
 isTrue_chain (h.go rl.at fun v1 s1 μ1 a σ1 a1 e1 q1 p1 k1=>test_link (q1.go a1 fun v2 s2 μ2 b σ2 a2 e2 q2 p2 k2=>(q2 v1 v2).go a2 ⟨e1.keep p2 k2,e2⟩ fun v s3 μ3 d σ3 a3 e3 q3 p3 k3=>
  (q3 v).go a3 e3 fun t s4 μ4 t' σ4 a4 e4 q4 p4 k4=>by
   subst (e4:t=t');rcases t with _|_
   ·exact ⟨μ4,false,σ4,a4,rfl,q4⟩
   ·exact test_last (W.go q4 a4 fun v5 s5 μ5 d5 σ5 a5 e5 q5 p5 k5=>(q5 v2 v5).go a5 ⟨((e2.keep p3 k3).keep p4 k4).keep p5 k5,e5⟩ fun v s6 μ6 d σ6 a6 e6 q6 o_ o_=>
     (q6 v).go a6 e6 fun v s7 μ7 d σ7 a7 e7 q7 o_ o_=>⟨μ7,d,σ7,a7,e7,q7⟩))) (lm2 h1 h2)
end
section
variable {T:Tab}
variable {H:List AO}
inductive Tc (T:Tab) (μ:List Addr) (H:List AO) (s:Shared) (a:AV) (Pf:Fin->Shared->Prop) (vs:List Value):Prop
 |mk {l:List AV} {r:Bool} (e:yJ1 H a l=some r) (el:ErL T μ s.heap vs l) (h:Pf (.done (.ret (.bool r))) s)
variable {μ:List Addr} {s:Shared} {a:AV} {Pf:Fin->Shared->Prop}
theorem Tc.nil (x:Tc T μ H s a Pf []):Pf (.done (.ret (.bool false))) s:=by
 rcases x with ⟨e,el,h⟩
 ·cases el;exact qq e▸h
theorem Tc.cons {y:Value} {vs:List Value} {G:Prop} (x:Tc T μ H s a Pf (y::vs))(k:∀{b} x1,eqV H 8 b a=some x1->Er T μ s.heap y b->(match x1 with
 |true=>Pf (.done (.ret (.bool true))) s
 |false=>Tc T μ H s a Pf vs)->G):G:=by
 rcases x with ⟨e,el,h⟩
 ·refine el.xv (p:=fun l=>yJ1 H a l=some _->G) (fun {b m} ey el e=>ob_e e fun x1 q1 e=>om_e e fun x2 q2 e=>k x1 q1 ey ?_) e;rcases x1 with _|_
  ·exact .mk q2 el (by subst e;exact h:Pf (.done (.ret (.bool x2))) s)
  ·exact (by subst e;exact h:Pf (.done (.ret (.bool true))) s)
variable {prog:Program} {r:Bool} {t:Addr} {A:Around}
theorem yq4 {w:World} {l:List AV} (e:yJ1 H a l=some r) {its:List Value} {E:Value->Shared->Prop} {v:Value}
 (R:RH T μ H s.heap) (ho:s.heap.get? t=some (j9 its)) (el:ErL T μ s.heap its l) (ev:Er T μ s.heap v a) (hu:A.units<=9200) (h:Pf (.done (.ret (.bool r))) s):wpAny (model prog w) A (Builtin.«tuple.__contains__» ⟨[.ref t,v],[]⟩) Pf E s:=by
 refine (?_:wpAny _ _ (Builtin.Tuple.tupleItemsOf (.ref t)>>=_) _ _ s);refine qP (tupleItemsOf_ (items:=its.toArray) ⟨_,ho,rfl,0,rfl⟩ ?_);refine qP (forIn_array_ _ (fun rest b s'=>b.1=none/\s'=s/\Tc T μ H s a Pf rest) _ ?_ ?_ its.toArray _ ⟨rfl,rfl,.mk e el h⟩)
 ·intro y rest b s' z;refine x_AA z fun hb hs tc=>?_;subst hs;exact tc.cons fun x1 q1 ey tc=>qP (rcEq (ym12 (T:=T) 8 q1 (A:=A) R ey ev (qd (Nat.add_le_add_right hu 8) (qa rfl))) (fun q=>y44 R 8 q1 ey (q▸ev)) (y11 ey) prog w _ _ (by
   rcases x1 with _|_
   ·exact qQ ⟨rfl,rfl,tc⟩
   ·exact qP (qQ (qQ (qQ tc)))))
 ·intro b s' z;refine x_AA z fun hb hs tc=>?_;obtain ⟨b1,b2⟩:=b
  subst hb;subst hs;exact qQ tc.nil
theorem yZ14 {l:List AV} (e:yJ1 H a l=some r):GCmp T H .In a (.tup l) r:=fun v1 v2 A E Q' μ s u R p kk=>by
 refine x_A p fun e1 e2=>?_;apply e2.xtup;intro _ _ ho el;rename_i t its;have ht:s.TypeIs (.ref t) "tuple":=⟨_,ho,rfl⟩;refine (?_:wpAny _ _ (do return Value.bool (<-contains (.ref t) v1)) _ E s);exact qP (wpAny_contains_slot ht slot_tuple_contains (wpAny_call_entry slot_tuple_contains ht entry_tuple_contains (yq4 e R ho el e1 (by refine (?_:A.units+1<=_);lia) ⟨_,rfl,wpAny_truthy_bool (qQ (kk _ _ ⟨fun o_ o_ e=>e,rfl,rfl⟩ (.bool _)))⟩) (args_tuple_contains _ _)))
variable {w:World} {E:Value->Shared->Prop}
theorem yw4 (b n:Nat):Builtin.Slice.sliceAdjust none (some (b:Int)) 1 (n:Int)=((0:Int),((min b n:Nat):Int)):=by
 unfold Builtin.Slice.sliceAdjust;have h1:¬((1:Int)<0):=by lia
 have h2:¬((b:Int)<0):=by lia
 simp only [h1,h2,if_false]
 congr 1
 lia
variable {sl:Addr} {b n:Nat} {u:Tok}
theorem yF {Q:Int×Int×Nat->Shared->Prop} (hs:s.heap.IsSliceOf sl .none (.int b u) .none) (h:Q ((0:Int),1,min b n) s):
 wpAny (model prog w) A (Builtin.Slice.sliceApplied (.ref sl) (pure (n:Int))) Q E s:=by
 refine jR (id hs) fun os hos hcs hds=>?_;unfold Builtin.Slice.sliceApplied Builtin.Slice.sliceFields;refine qP (qP (wpAny_field hos hds (x:=.none) rfl (qP (wpAny_field hos hds (x:=.int b u) rfl (qP (wpAny_field hos hds (x:=.none) rfl (qQ ?_)))))));refine qP (slicePart_none ?_);refine (?_:wpAny _ _ (if ((1:Int)==0)=true then _ else _) _ _ s);refine rz (if_neg (by decide)) (qP (slicePart_none (qP (slicePart_int (qP (qQ ?_))))));refine (?_:wpAny _ _ (match Builtin.Slice.sliceAdjust none (some (b:Int)) 1 (n:Int) with|(lo,hi)=>pure (lo,(1:Int),Builtin.Slice.slicePlaces lo hi 1)) _ _ s);refine rz (yw4 b n) ((?_:wpAny _ _ (pure ((0:Int),(1:Int),Builtin.Slice.slicePlaces 0 ((min b n:Nat):Int) 1)) _ _ s));have:Builtin.Slice.slicePlaces 0 ((min b n:Nat):Int) 1=min b n:=by
  unfold Builtin.Slice.slicePlaces;have h1:(1:Int)>0:=by lia
  simp only [h1,if_true,Int.ediv_one];split<;>lia
 exact rz this (qQ h)
theorem yg7 (xs:Array Value) (b:Nat):((List.range (min b xs.size)).filterMap fun (k:Nat)=>xs[((0:Int)+(k:Int)*1).toNat]?).toArray=(xs.toList.take b).toArray:=by
 have e:(fun (k:Nat)=>xs[((0:Int)+(k:Int)*1).toNat]?)=fun k=>xs[0+k]? :=by
  funext k
  have:((0:Int)+(k:Int)*1).toNat=0+k:=by lia
  exact rz this rfl
 refine rz e ?_;have:=pick_run xs 0 (min b xs.size);rw [List.filterMap_map] at this;have e2:((fun x=>xs[x]?)∘fun x=>0+x)=fun k=>xs[0+k]? :=rfl;rw [e2] at this;refine rz this (rz List.drop_zero ?_)
 congr 1
 rw [List.take_eq_take_iff];simp
theorem ya {items:Array Value} {Q:Value->Shared->Prop} (ht:IsTup s.heap t items) (hs:s.heap.IsSliceOf sl .none (.int b u) .none)
 (h0:items.size<=b->Q (.ref t) s)
 (h:Q (.ref s.heap.objs.size) {s with heap:=s.heap.push {cls:=.type "tuple",data:=.seq (items.toList.take b).toArray}})
 (hsz:items.size<=sizeLine):wpAny (model prog w) A (getItem (.ref t) (.ref sl)) Q E s:=by
 have htake:sizeOk (.seq (items.toList.take b).toArray):=by
  refine (?_:(items.toList.take b).toArray.size<=sizeLine);refine rz qG (rz List.length_take (rz Array.length_toList ?_));lia
 refine jR (id hs) fun os hos hcs hds=>?_;have hTs:s.TypeIs (.ref sl) "slice":=⟨os,hos,hcs⟩;unfold getItem
 try with_reducible refine qW ?_
 first|refine qP (qQ ?_)|skip
 refine qP (wpAny_sequenceKey ht.typeIs (by decide) ?_);refine qP (wpAny_callSpecial?_slot (name:=qH "__getitem__") ht.typeIs slot_tuple_getitem
  (wpAny_call_entry slot_tuple_getitem ht.typeIs entry_tuple_getitem ?_ (args_tuple_getitem _ _)))
 refine (?_:wpAny _ _ (Builtin.Tuple.tupleItemsOf (.ref t)>>=_) _ _ s);refine qP (tupleItemsOf_ ht ?_);refine qP (wpAny_typeOf hTs ?_);refine rz (if_pos (by decide)) (qP (yF hs ?_));refine (?_:wpAny _ _ (if ((0:Int)==0&&(1:Int)==1&&(min b items.size==items.size))=true then _ else _) _ _ s);by_cases hb:items.size<=b
 ·refine rz (if_pos (by simp;lia)) (qP (m:=Builtin.Tuple.tupleIsExact _) (qP (wpAny_typeOf ht.typeIs (qQ ?_))));refine (?_:wpAny _ _ (if ((Value.type "tuple"==Value.type "tuple")=true) then _ else _) _ _ s);refine rz (if_pos (by decide)) (qP (wpAny_rule ?_));exact qP (qQ (qQ ⟨_,rfl,qQ (h0 hb)⟩))
 ·refine rz (if_neg (by simp;lia)) (rz (yg7 items b) ?_)
  first
   |exact qP (m:=Builtin.Tuple.tupleExact _) (wpAny_newObj_type (qQ ⟨_,rfl,qQ h⟩) htake)
   |exact qP (m:=Builtin.Tuple.tupleExact _) (wpAny_newObj_type (qP (qQ (qQ ⟨_,rfl,qQ h⟩))) htake)
   |exact qP (qP (m:=Builtin.Tuple.tupleExact _) (wpAny_newObj_type (qQ (qQ ⟨_,rfl,qQ h⟩)) htake))
   |exact qP (qP (m:=Builtin.Tuple.tupleExact _) (wpAny_newObj_type (qQ ⟨_,rfl,qQ h⟩) htake))
theorem yR2:Slot "bytes" (cmpInfo .Lt).2.1 "bytes.__lt__":=
 .of (owner:="bytes") (n:="__lt__") (by rw [qb1];refine rz qU ?_;kernel_rfl) (by decide+kernel) (by decide+kernel) (by decide+kernel)
  (by first|exact .inl (by decide+kernel)|exact .inr (by decide+kernel)) (by rw [isSubtype_type];kernel_rfl)
theorem y01:entryFor table "bytes.__lt__"=some Builtin.«bytes.__lt__»:=entryFor_of_tree (by kernel_rfl)
theorem yi1 (a b:Value):argsOk "bytes.__lt__" ⟨[a,b],[]⟩:=by
 unfold argsOk;refine rz (signature?_of (id:="bytes.__lt__") (n:=['_','_','t','l','_','_']) (o:=['s','e','t','y','b']) (by kernel_rfl) FB.owner_bytes) ?_;kernel_rfl
theorem yQ2:Slot "bytes" (cmpInfo .LtE).2.1 "bytes.__le__":=
 .of (owner:="bytes") (n:="__le__") (by rw [qb1];refine rz qU ?_;kernel_rfl) (by decide+kernel) (by decide+kernel) (by decide+kernel)
  (by first|exact .inl (by decide+kernel)|exact .inr (by decide+kernel)) (by rw [isSubtype_type];kernel_rfl)
theorem yZ1:entryFor table "bytes.__le__"=some Builtin.«bytes.__le__»:=entryFor_of_tree (by kernel_rfl)
theorem yh1 (a b:Value):argsOk "bytes.__le__" ⟨[a,b],[]⟩:=by
 unfold argsOk;refine rz (signature?_of (id:="bytes.__le__") (n:=['_','_','e','l','_','_']) (o:=['s','e','t','y','b']) (by kernel_rfl) FB.owner_bytes) ?_;kernel_rfl
theorem yk5:∀a b:List UInt8,(Bytes.order a b== .lt)=jd1 a b
 |[],[]|[],_::_|_::_,[]=>rfl
 |x::a,y::b=>by
  simp only [Bytes.order,jd1];by_cases h1:x<y
  ·have:x≠y:=fun e=>by subst e;exact absurd h1 (UInt8.lt_irrefl _)
   simp [h1,this]
  ·by_cases h2:x>y
   ·have:x≠y:=fun e=>by subst e;exact absurd h2 (UInt8.lt_irrefl _)
    simp [h1,h2,this]
   ·have:x=y:=UInt8.le_antisymm (UInt8.not_lt.mp h2) (UInt8.not_lt.mp h1);subst this;simp only [UInt8.lt_irrefl,gt_iff_lt,if_false,if_true];exact yk5 a b
theorem yj5:∀a b:List UInt8,(Bytes.order a b== .gt)=jd1 b a
 |[],[]|[],_::_|_::_,[]=>rfl
 |x::a,y::b=>by
  simp only [Bytes.order,jd1];by_cases h1:x<y
  ·have:y≠x:=fun e=>by subst e;exact absurd h1 (UInt8.lt_irrefl _)
   have h3:¬y<x:=fun e=>absurd (UInt8.lt_trans h1 e) (UInt8.lt_irrefl _);simp [h1,this,h3]
  ·by_cases h2:x>y
   ·have:y≠x:=fun e=>by subst e;exact absurd h2 (UInt8.lt_irrefl _)
    have h3:y<x:=h2;simp [h1,h3,this]
   ·have:x=y:=UInt8.le_antisymm (UInt8.not_lt.mp h2) (UInt8.not_lt.mp h1);subst this;simp only [UInt8.lt_irrefl,gt_iff_lt,if_false,if_true];exact yj5 a b
theorem y51 (b c:Array UInt8) (t u:Tok):Gives («bytes.__lt__» ⟨[.bytes b t,.bytes c u],[]⟩) (.val (.bool (jd1 b.toList c.toList))):=by
 refine .of_wp fun M A E s Q hq=>(?_:wpAny M A (isInstance (.bytes c u) (.type "bytes")>>=fun r=>_) _ E s);refine qP (wpAny_isInstance (qf1 s c u) F.sub_bytes_bytes ?_);exact qQ ⟨_,rfl,by rw [<-yk5] at hq;exact hq⟩
theorem y41 (b c:Array UInt8) (t u:Tok):Gives («bytes.__le__» ⟨[.bytes b t,.bytes c u],[]⟩) (.val (.bool (!jd1 c.toList b.toList))):=by
 refine .of_wp fun M A E s Q hq=>(?_:wpAny M A (isInstance (.bytes c u) (.type "bytes")>>=fun r=>_) _ E s);refine qP (wpAny_isInstance (qf1 s c u) F.sub_bytes_bytes ?_);exact qQ ⟨_,rfl,by rw [<-yj5] at hq;exact hq⟩
variable {m:List UInt8}
theorem y114 {l:List UInt8}:GCmp T H .Lt (.bytes l) (.bytes m) (jd1 l m):=fun v1 v2 A E Q' μ s u R p k=>by
 obtain ⟨e1,e2⟩:=p;cases e1;cases e2
 exact compareOp_gives (op:=.Lt) (qf1 s _ _) (qf1 s _ _) yR2 y01 (yi1 _ _) (y51 _ _ _ _) (fun e=>nomatch e) (k _ _ ⟨fun o_ o_ e=>e,rfl,rfl⟩ (.bool _))
theorem y014 {l:List UInt8}:GCmp T H .LtE (.bytes l) (.bytes m) (!jd1 m l):=fun v1 v2 A E Q' μ s u R p k=>by
 obtain ⟨e1,e2⟩:=p;cases e1;cases e2
 exact compareOp_gives (op:=.LtE) (qf1 s _ _) (qf1 s _ _) yQ2 yZ1 (yh1 _ _) (y41 _ _ _ _) (fun e=>nomatch e) (k _ _ ⟨fun o_ o_ e=>e,rfl,rfl⟩ (.bool _))
variable {x:Str}
theorem yY14 {k:Nat} {y:Str} (hx:T.names[n]? =some x) (hy:T.names[k]? =some y) (h:(!(Builtin.Str.occurrences x y 0 x.length 1).isEmpty)=r):GCmp T H .In (.str k) (.str n) r:=fun v1 v2 A E Q' μ s u R p kk=>by
 refine x_A p fun e1 e2=>?_;apply e1.xstr;intro _ t1 q1;apply e2.xstr;intro _ t2 q2;rw [hy] at q1;obtain rfl:=qq q1;rw [hx] at q2;obtain rfl:=qq q2;exact P.in_str (by exact rz h (kk _ _ ⟨fun o_ o_ e=>e,rfl,rfl⟩ (.bool _)))
theorem yX14 {l:List UInt8} {i:Int} (h0:0<=i) (h1:i<256) (hz:l.length<=1000):GCmp T H .In (.int i) (.bytes l) (l.any fun u=>((u.toNat:Int))==i):=fun v1 v2 A E Q' μ s u R p kk=>by
 obtain ⟨e1,e2⟩:=p
 apply e1.xint;intro t1;apply e2.xbytes;intro t2;refine in_gives (qf1 s _ _) FB.slot_bytes_contains FB.entry_bytes_contains (FB.args_bytes_contains_2 _ _) (r:=(l.any fun u=>((u.toNat:Int))==i)) (.of_wp fun M A E s Q hq=>?_) (kk _ _ ⟨fun o_ o_ e=>e,rfl,rfl⟩ (.bool _));refine (?_:wpAny M A (Bytes.containsIn "bytes.__contains__" (.bytes ⟨l⟩ t2) (.int i t1)>>=fun r=>_) _ E s);refine qP ?_;unfold Bytes.containsIn;refine qP (wpAny_attempt (qT (a:=i) rfl ?_));refine qP (qT KBy.buffer_eq ?_);dsimp only;refine rz (if_neg (by simp;exact ⟨h0,h1⟩)) (qQ (qQ ⟨_,rfl,?_⟩));have:(Array.mk l).contains i.toNat.toUInt8=(l.any fun u=>((u.toNat:Int))==i):=by
  refine rz Array.contains_eq_any_beq (rz (Eq.symm Array.any_toList) ?_)
  congr 1;funext u
  have e:(i.toNat.toUInt8==u)=(((u.toNat:Int))==i):=by
   rw [Bool.eq_iff_iff,beq_iff_eq,beq_iff_eq];constructor
   ·rintro rfl
    have:i.toNat.toUInt8.toNat=i.toNat:=by
     refine (?_:i.toNat%256=i.toNat);lia
    refine rz this ?_;lia
   ·rintro rfl
    simp
  exact e
 exact rz this hq
theorem g_hd {m cp:Nat} (hx:T.names[n]? =some x) (hc:x.cps[0]? =some cp) (hm:T.names[m]? =some ⟨#[cp]⟩) (hz:x.length<=1000) (v1 v2:Value):Gv T H (Er2 T v1 v2 (.str n) (.int 0)) (getItem v1 v2) (.str m):=fun A E Q' μ s u R p kk=>by
 refine x_A p fun e1 e2=>?_;apply e1.xstr;intro _ t1 q1;apply e2.xint;intro t2;rw [hx] at q1;obtain rfl:=qq q1;have h0:0<x.length:=(Array.getElem?_eq_some_iff.mp hc).1;have hq:seqIndex? (0:Int) x.length=some 0:=yl4 (k:=0) h0;exact P.getItem_str (c:=cp) (by decide) (by exact rz hq hc) (kk _ _ ⟨fun o_ o_ e=>e,rfl,rfl⟩ (.str _ hm))
variable {h h':Heap} {D:Addr} {c:Cx} {σ:St} {μ₀:List Addr} {h₀:Hp}
variable {ao:AO}
theorem RH.grow (R:RH T μ H h) (k:∀b r,h.get? b=some r->h'.get? b=some r) (hD:h.get? D=none) (ho:HasO T (μ++[D]) h' D ao):RH T (μ++[D]) (H++[ao]) h':=by
 have R':=R.keeps k;have fr:D∉μ:=fun m=>by
  refine x_EA (R.mem m) fun r e o_=>?_;rw [hD] at e;injection e
 refine ⟨R'.top,by simp [R.len],fun i a ao' e f=>?_,?_,fun a ha=>?_,(Pre.snoc _ _).get R.t0⟩
 ·by_cases hi:i<μ.length
  ·rw [qw hi] at e;rw [qw (by exact rz (Eq.symm R.len) hi)] at f;exact (R'.o i a ao' e f).keep (.snoc _ _) (.refl _) fun o_ q=>q
  ·have h1:i=μ.length:=by
    have:=(qA.mp e).1;simp at this;lia
   subst h1;rw [qv (qm _)] at e;rw [R.len,qv (qm _)] at f;simp at e f;subst e;subst f;exact ho
 ·exact List.nodup_append.mpr ⟨R.nd,by simp,fun a ha b hb q=>fr (by simp at hb;exact rz (Eq.symm hb) (rz (Eq.symm q) ha))⟩
 ·rcases qz.mp ha with ha|ha
  ·exact R.kn a ha
  ·simp at ha;subst ha;rcases q:T.K.lookup a with _|x
   ·rfl
   ·have:=R.top _ _ q;rw [hD] at this;injection this
theorem At.grow {g:Hp} (r:At T c μ₀ h₀ σ μ g) (k:∀b r,g.heap.get? b=some r->h'.get? b=some r) (hD:g.heap.get? D=none) (ho:HasO T (μ++[D]) h' D ao):At T c μ₀ h₀ ⟨σ.H++[ao],σ.m⟩ (μ++[D]) {g with heap:=h'}:=by
 obtain ⟨h,os,gens⟩:=g
 have r':=r.rel.keeps k;have nw:∀a,(∃o,h.get? a=some o)->a∉μ->a∉μ++[D]:=fun a ⟨o,e⟩ n m=>by
  rcases qz.mp m with m|m
  ·exact n m
  ·simp at m;subst m;rw [hD] at e;injection e
 refine ⟨⟨r.rel.rh.grow k hD ho,r.rel.fr.keep (.snoc _ _) (.of_keeps k) (k _),r'.ownO,fun a m=>?_,r'.ownK,r.rel.frs.keep (fun a o_ o e d=>⟨o,k a o e,d⟩) fun a m=>?_⟩,r.evo.trans ?_,r.os,r.gens⟩
 ·obtain ⟨o,e,_⟩:=r.rel.ownO a m;exact nw a ⟨o,e⟩ (r.rel.ownN a m)
 ·obtain ⟨o,e,_⟩:=r.rel.frs.o a m;exact nw a ⟨o,e⟩ (r.rel.frs.n a m)
 ·exact ⟨.snoc _ _,fun a m=>(qz.mp m).imp id fun q=>by simp at q;subst q;exact hD,fun b o e o_ o_=>k b o e,fun a o e=>⟨o,k a o e⟩⟩
theorem yS8 (h:Heap):h.get? h.objs.size=none:=by
 rcases z:h.get? h.objs.size with _|o
 ·rfl
 ·exact absurd (qM z) (qo _)
variable {Q:AV->St->Prop} {X:St->Prop}
variable {i:Nat}
theorem yS9 (O:CxOk c) {l:List AV} (hi:σ.H[i]? =some (.list l)) (hz:l.length<=1000000) (q:Q (.ref σ.H.length) ⟨σ.H++[.list l],σ.m⟩):jL T c (.type "list") [.ref i] Q X σ:=fun vs μ s rl p=>by
 refine jp p.ofCons fun o_ o_ hz41 e1 er=>?_;subst hz41;obtain rfl:=er.ofNil
 refine kK (rl.rh.at hi) fun la hm its n hd el=>?_;apply e1.xref;intro _ em;rw [hm] at em;obtain rfl:=qq em;refine call_list_seq la (.inl rfl) hd rfl rfl (fun h' c' hk hD=>?_) (by refine rz qG (rz el.length (rz qY ?_));lia);have a2:=(rl.at (g:=hpp s)).grow hk (yS8 s.heap) (ao:=.list l) ⟨its,c',hD,el.keep (.snoc _ _) (.of_keeps hk)⟩;exact ⟨_,_,_,a2,.ref (by rw [<-rl.rh.len];simp),q⟩
theorem y23:∀{its:List Value} {ns:List Int},ErL T μ h its (ns.map .int)->∃xs:List (Int×Tok),its=xs.map (fun p=>Value.int p.1 p.2)/\xs.map (·.1)=ns
 |_,[],e=>by cases e;exact ⟨[],rfl,rfl⟩
 |_,n::ns,e=>by
  refine jp e.ofCons fun o_ o_ hz42 hv hl=>?_;subst hz42;refine x_EA (y23 hl) fun xs hz43 hz44=>?_;subst hz43;subst hz44;apply hv.xint;intro t;exact ⟨(n,t)::xs,rfl,rfl⟩
theorem yj12 (O:CxOk c) {ns:List Int} (hi:σ.H[i]? =some (.list (ns.map .int))) (q:Q (.int ns.sum) σ):jL T c (.builtin "sum") [.ref i] Q X σ:=fun vs μ s rl p=>by
 refine jp p.ofCons fun o_ o_ hz45 e1 er=>?_;subst hz45;obtain rfl:=er.ofNil
 refine kK (rl.rh.at hi) fun la hm its n hd el=>?_;apply e1.xref;intro _ em;rw [hm] at em;obtain rfl:=qq em;refine x_EA (y23 el) fun xs hz46 hz47=>?_;subst hz46;subst hz47;refine sum_intListG (xs:=xs.toArray) O.hnd ⟨_,hd,rfl,n,by simp [intItems]⟩ fun h' tk t' hk=>?_;have a2:=(rl.at (g:=hpp s)).keeps hk;refine ⟨μ,_,σ,a2,.int _ _,?_⟩;have:preSum (numAt xs.toArray) xs.toArray.size=(xs.map (·.1)).sum:=by
  rw [preSum_eq];exact rz (List.take_of_length_le (by simp)) rfl
 exact rz this q
noncomputable def kB:Bid->Value
 |.len=>.builtin "len"
 |.abs=>.builtin "abs"
 |.list=>.type "list"
 |.bytes=>.type "bytes"
 |.sum=>.builtin "sum"
noncomputable def zr:IK->Value
 |.int=>.type "int"
 |.bool=>.type "bool"
 |.bytes=>.type "bytes"
 |.tuple=>.type "tuple"
 |.cls C=>.ref C
noncomputable def ikOk (N:FT):IK->Bool
 |.cls C=>(N.cn C).isSome
 |_=>true
noncomputable def yF3:BM1->Str
 |.append=>qH "append"
 |.extend=>qH "extend"
 |.pop=>qH "pop"
 |.reverse=>qH "reverse"
 |.get=>qH "get"
 |.join=>qH "join"
variable {a:Addr} {es:List DictEntry} {k:AV}
theorem yI12 {l:List (AV×AV)} {av:AV} (hl:T.K.lookup a=some (j3 es n)) (er:∀μ h,ErD T μ h es l) (kn:DKey l n) (ok:dkOk l k=true) (hg:aget l k=some av) (v1 v2:Value):Gv T H (Er2 T v1 v2 (.top a) k) (getItem v1 v2) av:=fun A E Q' μ s u R p kk=>
 p.1.xtop (p:=fun v1=>wpAny T.M A (getItem v1 v2) Q' E s) fun o_=>za (R.top a _ hl) (er μ s.heap) kn.1 ok p.2 fun knd kr RR kx r hkr his pl D=>x_EA (yX2 RR hkr pl hg) fun rv h1 h2=>wpAny_getItem_of his D.dictOf.mapOf h1 (kk _ _ ⟨fun o_ o_ e=>e,rfl,rfl⟩ h2)
theorem y79 {l:List (AV×AV)} (hl:T.K.lookup a=some (j3 es n)) (er:∀μ h,ErD T μ h es l) (kn:DKey l n) (hs:(a==sysModules)=false) (ok:dkOk l k=true):GCmp T H .In k (.top a) (aget l k).isSome:=fun v1 v2 A E Q' μ s u R p kk=>
 p.2.xtop (p:=fun v2=>wpAny T.M A (compareOp .In v1 v2) Q' E s) fun o_=>za (R.top a _ hl) (er μ s.heap) kn.1 ok p.1 fun knd kr RR kx r hkr his pl D=>wpAny_in_of his hs D.dictOf.mapOf
   (kk _ _ ⟨fun o_ o_ e=>e,rfl,rfl⟩ (yv1 RR hkr (p:=fun o a=>o.isSome=a.isSome) rfl (fun o_ o_ o_=>rfl) pl▸ .bool _))
noncomputable def tyNm (n:Nat):String:=["NoneType","bool","int","str","bytes","tuple","list","dict"].getD n ""
structure Ok (T:Tab) (P:Prg) (N:FT) (ad:Nat->Addr):Prop where
 TO:zV T
 nm:N.names=T.names
 gn:∀f x,N.gn f=some x->nsIn T.K qR x=some (some (.ref (ad f)))/\keepIn T.K (.ref (ad f))=true
 gv:∀g x,N.gvn g=some x->∀a,P.gv g=some a->∃v,nsIn T.K qR x=some (some v)/\∀μ H h,RH T μ H h->Er T μ h v a
 bi:∀f,nsIn T.K qR (km1 f)=some none/\nsIn T.K qd1 (km1 f)=some (some (kB f))
 tl:∀a l,P.tl a=some l->∃o its n,T.K.lookup a=some o/\o.cls=.type "list"/\o.data=.seq ⟨its⟩ n/\∀μ h,ErL T μ h its l
 td:∀a l,P.td a=some l->∃es n,T.K.lookup a=some (j3 es n)/\(∀μ h,ErD T μ h es l)/\DKey l n/\(a==sysModules)=false
 isi:nsIn T.K qR (qH "isinstance")=some none/\nsIn T.K qd1 (qH "isinstance")=some (some (.builtin "isinstance"))
 ik:∀t∈["int","bool","bytes","tuple"],nsIn T.K qR (qH t)=some none/\nsIn T.K qd1 (qH t)=some (some (.type t))
 rg:∀t∈["range","enumerate"],nsIn T.K qR (qH t)=some none/\nsIn T.K qd1 (qH t)=some (some (.type t))
 cn:∀C x,N.cn C=some x->nsIn T.K qR x=some (some (.ref C))
 kit1:∀k,ikOk N k=true->∀n,n<8->kitOne T.K (.type (tyNm n)) (zr k)=some (ikN k n)
 kit2:∀C,P.isC C=true->zs T.K C=true/\∀k,ikOk N k=true->kitOne T.K (.ref C) (zr k)=some (isK C k)
 atr:∀C n s,P.atr C n=true->T.names[n]? =some s->kD T.K C s=true
 mth:∀C n s f,P.mth C n=some f->T.names[n]? =some s->plainGet T.K C s=true/\findIn T.K (.ref C) s=some (some (.ref (ad f)))/\isFn T.K (.ref (ad f))=true/\keepIn T.K (.ref (ad f))=true
 bm:∀n s b,P.bm n=some b->T.names[n]? =some s->s=yF3 b
 mc:∀f x name,N.mc f=some (x,name)->∃C mc,nsIn T.K qR x=some (some (.ref C))/\specialIn T.K (.ref C) "__getattribute__"=some (some (.builtin "type.__getattribute__"))/\readsIn T.K C mc=true/\
  findCls T.K (.ref C) mc name=some (.val (.ref (ad f)))/\keepIn T.K (.ref (ad f))=true
 hd:∀n m,P.hd n=some m->∃x cp,T.names[n]? =some x/\x.cps[0]? =some cp/\T.names[m]? =some ⟨#[cp]⟩/\x.length<=1000
 slen:∀n x,T.names[n]? =some x->x.length=P.slen n/\x.length<=1000000
 sin:∀k n r,P.sin k n=some r->∃x y,T.names[n]? =some x/\T.names[k]? =some y/\(!(Builtin.Str.occurrences x y 0 x.length 1).isEmpty)=r
 lm:∀k lam,N.lm k lam.params lam.body lam.scope lam.cap=true->T.lamOk k lam=true
 lmc:∀k ps body scope cap,N.lm k ps body scope cap=true->∀q,P.lam k=some q->T.names[q.1]? =some cap
 lpos:∀k,P.lpos k=N.lpos k
 exc:nsIn T.K qR (qH "LuaError")=some (some (.ref T.exc))/\keepIn T.K (.ref T.exc)=true
 lua:∃fI fd body n1 n2 n3 a1 a2 l1 s1 s2,yu4 T fI fd body/\body=[.Assign [.Attribute (.Name (qH "self") n1) (qH "value") a1] (.Name (qH "value") n2) s1,.Assign [.Attribute (.Name (qH "self") n3) (qH "trace") a2] (.List [] l1) s2]
variable {P:Prg} {N:FT} {ad:Nat->Addr} {Qb:Bool->St->Prop}
theorem yZ {α:Type} {Q:α->Prop} {o:Option α} (h:optQ Q o):∃a,o=some a/\Q a:=jg h fun a e q=>⟨a,e,q⟩
variable {a:AV}
theorem zA:trQ Qb a σ->WTr T c a Qb X σ:=by
 rcases a with _|b|_|_|_|_|_|⟨_,_⟩|_
 ·exact yd14
 ·exact yr4
 ·exact fun h=>qJ h
 ·exact fun h=>qJ h
 ·exact fun h=>qJ h
 ·exact fun h=>qJ h
 ·exact fun h=>qJ h
 ·exact fun h=>qJ h
 ·exact fun h=>qJ h
variable {s:Str}
theorem yq6 (K:Ok T P N ad) (hn:T.names[n]? =some s) (h:getQ P a n Q σ):GetA T n Q σ a:=by
 delta getQ at h;exact jg h fun i e h=>ja1 e▸jg h fun p e h=>yo8 e fun h1 h2=>jg h fun v e h=>.mk h1 h2 hn (K.atr _ _ _ h.1 hn) e h.2
variable {v:AV}
theorem yJ6 (K:Ok T P N ad) {Q:St->Prop} (hn:T.names[n]? =some s) (h:setQ P a n v Q σ):SetA T n v Q σ a:=by
 delta setQ at h;exact jg h fun i e h=>ja1 e▸jg h fun p e h=>yo8 e fun h1 h2=>.mk h1 h2 hn (K.atr _ _ _ h.1 hn) h.2.1 h.2.2.1 h.2.2.2
variable {b:AV}
theorem zt {F:Int->Int->Prop} {p:AV->AV->Prop} (h:intQ a b F) (k:∀i j,F i j->p (.int i) (.int j)):p a b:=jg h fun i e h=>jg h fun j e' h=>kF e▸kF e'▸k i j h
variable {j:Nat}
theorem yA9 (h:yv4 i j Q σ):WBin T c .Add (.ref i) (.ref j) Q X σ:=by
 delta yv4 at h;exact jg h fun l hi h=>jg h fun m hj h=>fun v1 v2 μ s rl p=>yR6 rl.at (j6 hi) (j6 hj) h.1 p.1 p.2 fun r s' μ' a o_ o_ er=>⟨μ',_,_,a,er,h.2⟩
theorem yB9 (O:CxOk c):addQ a b Q σ->WBin T c .Add a b Q X σ:=by
 rcases a with _|_|i|_|l|_|i|⟨_,_⟩|_
 ·exact fun h=>qJ h
 ·exact fun h=>qJ h
 ·exact fun h=>jg h fun j e h=>kF e▸yT14.w O h
 ·exact fun h=>qJ h
 ·exact fun h=>jg h fun m e h=>yf6 e▸(yF12 h.1).w O h.2
 ·exact fun h=>qJ h
 ·exact fun h=>jg h fun j e h=>ja1 e▸yA9 h
 ·exact fun h=>qJ h
 ·exact fun h=>qJ h
theorem yG9 (O:CxOk c) {op:Operator}:binQ op a b Q σ->WBin T c op a b Q X σ:=by
 rcases op with _|_|_|_|_|_|_|_|_|_|_|_|_
 ·exact yB9 O
 ·exact fun h=>zt (p:=fun a b=>WBin T c .Sub a b Q X σ) h fun i j h=>y714.w O h
 ·exact fun h=>zt (p:=fun a b=>WBin T c .Mult a b Q X σ) h fun i j h=>(y314 h.1).w O h.2
 ·exact fun h=>qJ h
 ·exact fun h=>qJ h
 ·exact fun h=>zt (p:=fun a b=>WBin T c .Mod a b Q X σ) h fun i j h=>(y214 h.1).w O h.2
 ·exact fun h=>qJ h
 ·exact fun h=>zt (p:=fun a b=>WBin T c .LShift a b Q X σ) h fun i j h=>(y614 h.1.1 h.1.2.1 h.1.2.2).w O h.2
 ·exact fun h=>qJ h
 ·exact fun h=>qJ h
 ·exact fun h=>qJ h
 ·exact fun h=>zt (p:=fun a b=>WBin T c .BitAnd a b Q X σ) h fun i j h=>yU14.w O h
 ·exact fun h=>zt (p:=fun a b=>WBin T c .FloorDiv a b Q X σ) h fun i j h=>(yW14 h.1 h.2.1).w O h.2.2
theorem yE10 (O:CxOk c):notQ a Q σ->WUn T c .Not a Q X σ:=by
 rcases a with _|b|_|_|_|_|_|⟨_,_⟩|_
 ·exact fun h=>qJ h
 ·exact fun h=>y514.w O h
 ·exact fun h=>qJ h
 ·exact fun h=>qJ h
 ·exact fun h=>qJ h
 ·exact fun h=>qJ h
 ·exact fun h=>qJ h
 ·exact fun h=>qJ h
 ·exact fun h=>qJ h
theorem yS13 (O:CxOk c) {op:UnaryOp}:unQ op a Q σ->WUn T c op a Q X σ:=by
 rcases op with _|_|_|_
 ·exact fun h=>qJ h
 ·exact yE10 O
 ·exact fun h=>qJ h
 ·exact fun h=>jg h fun i e h=>kF e▸y414.w O h
theorem yu6:jr b=true->b=.nil:=by
 rcases b with _|_|_|_|_|_|_|⟨_,_⟩|_
 ·exact fun o_=>rfl
 ·exact ff
 ·exact ff
 ·exact ff
 ·exact ff
 ·exact ff
 ·exact ff
 ·exact ff
 ·exact ff
theorem yl13:ltV a b=some r->GCmp T H .Lt a b r:=by
 rcases a with _|_|i|_|l|_|_|⟨_,_⟩|_
 ·exact ja
 ·exact ja
 ·exact fun h=>om_e h fun j e h=>h▸kF e▸g_lt
 ·exact ja
 ·exact fun h=>om_e h fun j e h=>h▸yf6 e▸y114
 ·exact ja
 ·exact ja
 ·exact ja
 ·exact ja
theorem yh13:leV a b=some r->GCmp T H .LtE a b r:=by
 rcases a with _|_|i|_|l|_|_|⟨_,_⟩|_
 ·exact ja
 ·exact ja
 ·exact fun h=>om_e h fun j e h=>h▸kF e▸g_le
 ·exact ja
 ·exact fun h=>om_e h fun j e h=>h▸yf6 e▸y014
 ·exact ja
 ·exact ja
 ·exact ja
 ·exact ja
theorem if_e {α:Type} {c:Prop} [Decidable c] {o:Option α} {q:α} (h:(if c then o else none)=some q):c/\o=some q:=by
 by_cases z:c
 ·exact ⟨z,(if_pos z).symm.trans h⟩
 ·exact ja ((if_neg z).symm.trans h)
theorem y212 (K:Ok T P N ad):inV P H a b=some r->GCmp T H .In a b r:=by
 rcases b with _|_|_|n|l|l|i|⟨_,_⟩|d
 ·exact ja
 ·exact ja
 ·exact ja
 ·exact fun h=>ob_e h fun k e h=>jp (K.sin _ _ _ h) fun x y hx hy q=>yS11 e▸yY14 hx hy q
 ·exact fun h=>ob_e h fun i e h=>x_A (if_e h) fun z q=>qq q▸kF e▸yX14 z.1 z.2.1 z.2.2
 ·exact yZ14
 ·exact fun h=>ob_e h fun l e h=>gd_e h fun ok=>yV14 K.TO (yU e) ok
 ·exact ja
 ·exact fun h=>ob_e h fun l e h=>jS (K.td _ _ e) fun es n k1 k2 k3 k4=>gd_e h fun ok=>y79 k1 k2 k3 k4 ok
theorem yR3 (K:Ok T P N ad) {op:CmpOp}:cmpV P H op a b=some r->GCmp T H op a b r:=by
 rcases op with _|_|_|_|_|_|_|_|_|_
 ·exact g_eq (n:=8) (qa rfl)
 ·exact fun h=>om_e h fun x e h=>h▸g_ne (n:=8) (qa rfl) e
 ·exact yl13
 ·exact yh13
 ·exact fun h=>ob_e h fun i e h=>om_e h fun j e' h=>h▸kF e▸kF e'▸g_gt
 ·exact fun h=>ob_e h fun i e h=>om_e h fun j e' h=>h▸kF e▸kF e'▸g_ge
 ·exact fun h=>gd_e h fun e=>yu6 e▸g_is
 ·exact fun h=>gd_e h fun e=>yu6 e▸y89
 ·exact y212 K
 ·exact ja
noncomputable def SubA (T:Tab) (b:AV) (Q:AV->St->Prop) (σ:St) (a:AV):Prop:=∃r,yv7 T σ.H a/\(∀v1 v2,Gv T σ.H (Er2 T v1 v2 a b) (getItem v1 v2) r)/\Q r σ
variable {z:Int}
theorem yB6 {p:Int->Prop} (h:0<=z) (k:p (z.toNat:Int)):p z:=Int.toNat_of_nonneg h▸k
theorem y78 {l:List AV} (hi:σ.H[i]? =some (.list l)) (h1:if 0<=z then z<2^62 else z.natAbs<=l.length/\l.length<2^62) (h:optQ (fun v=>Q v σ) l[yt6 l.length z]?):SubA T (.int z) Q σ (.ref i):=by
 delta yt6 at h;by_cases z0:0<=z
 ·rw [if_pos z0] at h h1;exact jg h fun r e q=>⟨r,kz1 (y35 hi) F.slot_list_getitem.lookup,yB6 (p:=fun z=>∀v1 v2,Gv T σ.H (Er2 T v1 v2 (.ref i) (.int z)) (getItem v1 v2) r) z0 (yJ12 hi (by lia) e),q⟩
 ·rw [if_neg z0] at h h1;have hz:(-(z.natAbs:Int))=z:=by lia
  exact jg h fun r e q=>⟨r,kz1 (y35 hi) F.slot_list_getitem.lookup,by exact rz (Eq.symm hz) (yK12 hi ⟨by lia,h1.1⟩ h1.2 e),q⟩
theorem yP10 (K:Ok T P N ad) (h:subQ P a b Q σ):SubA T b Q σ a:=by
 delta subQ at h
 revert h
 rcases a with _|_|_|n|l|l|i|⟨_,_⟩|d
 ·exact fun h=>qJ h
 ·exact fun h=>qJ h
 ·exact fun h=>qJ h
 ·exact fun h=>kF h.1▸jg h.2 fun r e q=>jS (K.hd _ _ e) fun x cp h1 h2 h3 h4=>⟨_,kz1 rfl F.slot_str_getitem.lookup,g_hd h1 h2 h3 h4,q⟩
 ·exact fun h=>jg h fun z e h=>kF e▸⟨_,kz1 rfl FB.slot_bytes_getitem.lookup,yB6 (p:=fun y=>∀v1 v2,Gv T σ.H (Er2 T v1 v2 (.bytes l) (.int y)) (getItem v1 v2) (.int (l.getD z.toNat 0).toNat)) h.1.1 (yG12 h.1.2.1 h.1.2.2),h.2⟩
 ·exact fun h=>jg h fun z e h=>kF e▸jg h.2 fun r e q=>⟨r,kz1 rfl PyProof.Rows.slot_tuple_getitem.lookup,yB6 (p:=fun z=>∀v1 v2,Gv T σ.H (Er2 T v1 v2 (.tup l) (.int z)) (getItem v1 v2) r) h.1.1 (yL12 (by have:=h.1;lia) e),q⟩
 ·exact fun h=>yD11 h (fun l hi h=>jg h fun z e h=>kF e▸y78 hi h.1 h.2) fun l hi h=>jg h.2 fun r e q=>⟨r,kz1 (yd9 hi) slot_dict_getitem.lookup,yH12 hi h.1 e,q⟩
 ·exact fun h=>qJ h
 ·exact fun h=>jg h fun l hd h=>jS (K.td _ _ hd) fun es n k1 k2 k3 o_=>jg h.2 fun r e q=>⟨r,fun μ s v R e=>e.xtop (p:=fun v=>∃Tn id,s.TypeIs v Tn/\qe1 (.type Tn) "__getitem__"=pure (some (.builtin id))) fun {o} o_=>⟨"dict",_,⟨_,R.top _ _ k1,rfl⟩,slot_dict_getitem.lookup⟩,yI12 k1 k2 k3 h.1 e,q⟩
theorem y58 {Q:St->Prop} (h:yk2 a k v Q σ):SetI a k v Q σ:=by
 delta yk2 at h;exact jg h fun i e h=>yD11 h (fun l hi h=>jg h fun z e' h=>⟨i,ja1 e,.inr ⟨l,z.toNat,hi,(kF e').trans (congrArg AV.int (Int.toNat_of_nonneg h.1.1).symm),h.1.2.1,h.1.2.2,h.2⟩⟩) fun l hi h=>⟨i,ja1 e,.inl ⟨l,hi,h⟩⟩
theorem yu10 (K:Ok T P N ad) (O:CxOk c):lenQ P a Q σ->jL T c (kB .len) [a] Q X σ:=by
 rcases a with _|_|_|n|l|_|i|⟨_,_⟩|_
 ·exact fun h=>qJ h
 ·exact fun h=>qJ h
 ·exact fun h=>qJ h
 ·exact fun h vs μ s rl p=>p.x1 (p:=fun vs=>ErL T μ s.heap vs [.str n]->wpAny T.M c.A (call (kB .len) vs) (WQ T c (Er T) Q μ (hpp s)) (EX T c X μ (hpp s)) s) (fun e1=>e1.xstr (p:=fun v=>ErL T μ s.heap [v] [.str n]->wpAny T.M c.A (call (kB .len) [v]) (WQ T c (Er T) Q μ (hpp s)) (EX T c X μ (hpp s)) s) fun t e p=>
   x_A (K.slen _ _ e) fun q1 q2=>yX4 O (yL5 e q2) (by exact rz q1 h) _ μ s rl p) p
 ·exact fun h=>yX4 O (yX3 h.1) h.2
 ·exact fun h=>qJ h
 ·exact fun h=>jg h fun l hi h=>yX4 O (y64 (j6 hi) h.1) h.2
 ·exact fun h=>qJ h
 ·exact fun h=>qJ h
theorem y511 (K:Ok T P N ad) (O:CxOk c) {f:Bid} (hb:∀{a},bi1 P .bytes a Q σ->jL T c (kB .bytes) [a] Q X σ):bi1 P f a Q σ->jL T c (kB f) [a] Q X σ:=by
 rcases f with _|_|_|_|_
 ·exact yu10 K O
 ·exact fun h=>jg h fun i e h=>kF e▸yX4 O yM12 h
 ·exact fun h=>jg h fun l e h=>yg5 (p:=fun a=>jL T c (kB .list) [a] Q X σ) e fun i hi=>yS9 O hi h.1 h.2
 ·exact hb
 ·exact fun h=>jg h fun l e h=>yg5 (p:=fun a=>jL T c (kB .sum) [a] Q X σ) e fun i hi=>x_EA h fun ns q h=>yj12 O (q▸hi) h
noncomputable def bmId:BM1->String
 |.append=>"list.append"
 |.extend=>"list.extend"
 |.pop=>"list.pop"
 |.reverse=>"list.reverse"
 |.get=>"dict.get"
 |.join=>"bytes.join"
variable {as:List AV}
theorem yF13 (O:CxOk c) {l:List AV} (hl:σ.H[i]? =some (.list l)):popQ l i as Q σ->jL T c (.builtin "list.pop") (.ref i::as) Q X σ:=by
 rcases as with _|⟨w,as⟩
 ·exact fun h=>jg h.2 fun y e q=>yi12 O hl h.1 e q
 ·intro h;rcases l with _|⟨y,r⟩
  ·exact h.2.2.elim
  ·exact h.1▸kF h.2.1▸yT9 O hl h.2.2.1 h.2.2.2
variable {b:BM1}
theorem yE3 (O:CxOk c) {l:List AV} (hl:σ.H[i]? =some (.list l)):lmQ b l i as Q σ->jL T c (.builtin (bmId b)) (.ref i::as) Q X σ:=by
 rcases b with _|_|_|_|_|_
 ·exact fun h=>yi5 (p:=fun as=>jL T c (.builtin "list.append") (.ref i::as) Q X σ) h fun v h=>yZ6 O hl h.1 h.2
 ·exact fun h=>yi5 (p:=fun as=>jL T c (.builtin "list.extend") (.ref i::as) Q X σ) h fun v h=>jg h fun m e h=>yg5 (p:=fun v=>jL T c (.builtin "list.extend") [.ref i,v] Q X σ) e fun j hj=>y06 O hl hj h.1 h.2
 ·exact yF13 O hl
 ·exact fun h=>h.1▸yI5 O hl h.2.1 h.2.2
 ·exact fun h=>qJ h
 ·exact fun h=>qJ h
theorem y611 (K:Ok T P N ad) (O:CxOk c) {o:AV} (hj:∀{o as},yu8 o as Q σ->jL T c (.builtin "bytes.join") (o::as) Q X σ) (h:bmQ b o as Q σ):jL T c (.builtin (bmId b)) (o::as) Q X σ:=by
 delta bmQ at h
 revert h
 rcases b with _|_|_|_|_|_
 ·exact fun h=>jg h fun i e h=>ja1 e▸jg h fun l hl h=>yE3 O (j6 hl) h
 ·exact fun h=>jg h fun i e h=>ja1 e▸jg h fun l hl h=>yE3 O (j6 hl) h
 ·exact fun h=>jg h fun i e h=>ja1 e▸jg h fun l hl h=>yE3 O (j6 hl) h
 ·exact fun h=>jg h fun i e h=>ja1 e▸jg h fun l hl h=>yE3 O (j6 hl) h
 ·exact fun h=>jg h fun i e h=>ja1 e▸jg h fun l hl h=>yi5 (p:=fun as=>jL T c (.builtin "dict.get") (.ref i::as) Q X σ) h fun k h=>yX4 O (y99 K.TO (yU hl) h.1) h.2
 ·exact hj
theorem y72 {v:Value} (e:Er T μ h v a):v≠.builtin "__main__.__loader__#opaque":=
 e.xall (p:=fun v o_=>v≠.builtin "__main__.__loader__#opaque") (fun z=>nomatch z) (fun o_ z=>nomatch z) (fun o_ o_ z=>nomatch z) (fun o_ o_ z=>nomatch z) (fun o_ o_ z=>nomatch z) (fun o_ z=>nomatch z) (fun o_ o_ z=>nomatch z) (fun o_ o_ z=>nomatch z) (fun z=>nomatch z)
variable {k:IK} {b:Bool}
theorem zu (K:Ok T P N ad) (hk:ikOk N k=true) (n:Nat) (hn:n<8) (t:typV σ.H a=some (.type (tyNm n))) (h:some (ikN k n)=some b) (v:Value):Gv T σ.H (Er1 T v a) (call (.builtin "isinstance") [v,zr k]) (.bool b):=y82 t rfl ((K.kit1 k hk n hn).trans h) (fun o_ o_ o_=>y72) v
theorem yj10 (K:Ok T P N ad) (O:CxOk c) (hk:ikOk N k=true):isiV P σ.H a k=some b->(v:Value)->Gv T σ.H (Er1 T v a) (call (.builtin "isinstance") [v,zr k]) (.bool b):=by cases a with
 |nil=>exact zu K hk 0 (by decide) rfl
 |bool=>exact zu K hk 1 (by decide) rfl
 |int=>exact zu K hk 2 (by decide) rfl
 |str=>exact zu K hk 3 (by decide) rfl
 |bytes=>exact zu K hk 4 (by decide) rfl
 |tup=>exact zu K hk 5 (by decide) rfl
 |ref i=>exact fun h=>ob_e h fun o ho=>by cases o with
  |list l=>exact zu K hk 6 (by decide) (congrArg (fun o=>Option.bind o (AO.ty σ.H)) ho)
  |dict l=>exact zu K hk 7 (by decide) (congrArg (fun o=>Option.bind o (AO.ty σ.H)) ho)
  |inst C j=>exact fun h=>ob_e h fun l hl h=>gd_e (p:=fun b=>(v:Value)->Gv T σ.H (Er1 T v (.ref i)) (call (.builtin "isinstance") [v,zr k]) (.bool b)) h fun hC=>y82 (t:=.ref C) ((congrArg (fun o=>Option.bind o (AO.ty σ.H)) ho).trans (congrArg (Option.map fun o_=>Value.ref C) hl)) (K.kit2 C hC).1 ((K.kit2 C hC).2 k hk) (fun o_ o_ o_=>y72)
  |_=>exact ja
 |_=>exact ja
structure Ctx (T:Tab) (sc:Scope) (lm:Bool) (k:Nat) (c:Cx):Prop where
 O:CxOk c
 rm:Room c.A k
 sc:c.env.scope=sc
 lam:lm=true->∃cc,yD1 T c cc
theorem Ctx.ko {T sc lm k c:_} (C:Ctx T sc lm k c) (x:Str):c.env.kindOf x=sc.names.lookup x:=by refine rz (Eq.symm C.sc) ?_;rfl
theorem and2 {a:Bool} (h:(a&&b)=true):a=true/\b=true:=qI.mp h
variable {sc:Scope}
theorem kM (h:gi sc x=true):sc.names.lookup x=some .globalImplicit/\(x==(qH "__debug__"))=false:=by
 exact x_A (and2 h) fun a b=>⟨eq_of_beq a,by simpa using b⟩
theorem zw (h:lo sc x=true):sc.names.lookup x=some .local:=eq_of_beq h
variable {scope:Scope}
theorem kF1 (h:kc1 scope=true):scope.kind=.function/\(∀y∈scope.names,y.2≠.cell)/\(∀y∈scope.names,y.2≠.free)/\∀y∈scope.names,y.2=.local->scope.names.lookup y.1=some .local:=by
 refine x_A (and2 h) fun a b=>?_;rw [List.all_eq_true] at b;refine ⟨eq_of_beq a,fun y m=>?_,fun y m=>?_,fun y m e=>?_⟩
 all_goals
  have z:=b y m;rw [Bool.or_eq_true,Bool.and_eq_true,beq_iff_eq,beq_iff_eq,beq_iff_eq] at z
 ·rintro e;rw [e] at z;simp at z
 ·rintro e;rw [e] at z;simp at z
 ·rw [e] at z;simp at z;exact z
variable {env:Env}
theorem yg (h:∀y∈scope.names,y.2≠.free):relabel scope env=scope:=by
 have e:(scope.names.map fun (n,k)=>if (k==NameKind.free&&env.scope.kind== .function&&env.kindOf n==some .cell) then (n,NameKind.cell) else (n,k))=scope.names:=by
  conv=>rhs;rw [<-List.map_id scope.names]
  refine List.map_congr_left fun y m=>?_;obtain ⟨n,k⟩:=y
  have:(k==NameKind.free)=false:=beq_eq_false_iff_ne.mpr (h _ m);simp [this]
 unfold relabel;exact rz e rfl
theorem yq (h:∀y∈scope.names,y.2≠.free):closureFor scope env=pure []:=by
 refine Eq.trans (congrArg (fun (t:Sem (List (Str×Addr)))=>t>>=fun cs=>pure cs) (forIn_yield_id (c:=([]:List (Str×Addr))) fun y m cs=>?_)) rfl;have:(y.2==NameKind.free)=false:=beq_eq_false_iff_ne.mpr (h _ m);simp [this]
theorem zE {e:Expr} (h:zd e=true) (x:Value):foldedSetIterable e env x=pure x:=by
 rcases e with _|_|_|_|_|_|_|_|_|_|_|_|_|_|_|_|_|_|_|_|_|_|_|_|_|_|_<;>first|rfl|exact Bool.noConfusion h
theorem W.q {α β:Type} {R:List Addr->Heap->α->β->Prop} {m:Sem α} {Q Q':β->St->Prop} (h:W T c R m Q X σ) (k:∀a σ,Q a σ->Q' a σ):W T c R m Q' X σ:=W.mono h k fun o_ q=>q
variable (T:Tab) (P:Prg) (k:Nat) (Γ:Ora) (sc:Scope) (lm:Bool)
end
section
variable (T:Tab)
variable (P:Prg)
variable (k:Nat)
variable (Γ:Ora)
variable (sc:Scope)
variable (lm:Bool)
structure EvOk (e:E) (x:Expr):Prop where
 v:∀{c},Ctx T sc lm k c->∀{Q:AV->St->Prop} {X:St->Prop} {σ:St},wp P Γ e Q X σ->W T c (Er T) (eval x c.env) Q X σ
 t:∀{c},Ctx T sc lm k c->∀{R:AV->St->Prop} {Q:Bool->St->Prop} {X:St->Prop} {σ:St},(∀a σ,R a σ->trQ Q a σ)->wp P Γ e R X σ->W T c BoR (isTrue x c.env (eval x c.env)) Q X σ
noncomputable def LsOk (e:E) (xs:List Expr):Prop:=∀{c},Ctx T sc lm k c->∀{pos:Pos} {Q:AV->St->Prop} {X:St->Prop} {σ:St},wp P Γ e Q X σ->W T c (ErL T) (spliced (backTo pos (qX xs c.env))) (fun l σ=>Q (.tup l) σ) X σ
noncomputable def yP11 (p:AV×AV):AV:=.tup [p.1,p.2]
noncomputable def PsOk (e:E) (ks:List (Option Expr)) (vs:List Expr):Prop:=∀{c},Ctx T sc lm k c->∀{pos:Pos} {Q:AV->St->Prop} {X:St->Prop} {σ:St},wp P Γ e Q X σ->W T c (ErP T) (evalPairs (pairTrees ks vs c.env pos)) (fun l σ=>Q (.tup (l.map yP11)) σ) X σ
noncomputable def PtOk (e:E) (x:Option Expr):Prop:=∀{c},Ctx T sc lm k c->∀{Q:AV->St->Prop} {X:St->Prop} {σ:St},wp P Γ e Q X σ->yI1 T c x Q X σ
structure yG1 (sk:SK) (it:E) (iter:Expr):Prop where
 f:∀{c},Ctx T sc lm k c->∀{Z:Src->St->Prop} {X:St->Prop} {σ:St},wp P Γ it (fun a σ1=>optQ (fun src=>Z src σ1) (srcV σ1.H sk a)) X σ->∀{μ:List Addr} {s:Shared},Rel T c σ μ s.heap->∀{Q':Value->Shared->Prop},
  (∀x s1 src σ1,kt1 T c x μ (hpp s) src σ1 s1->Z src σ1->Q' x s1)->wpAny T.M c.A (eval iter c.env) Q' (EX T c X μ (hpp s)) s
 g:sk≠.enum->∀{c},Ctx T sc lm k c->∀{Z:Src->St->Prop} {X:St->Prop} {σ:St},wp P Γ it (fun a σ1=>optQ (fun src=>Z src σ1) (srcV σ1.H sk a)) X σ->∀{μ:List Addr} {s:Shared},Rel T c σ μ s.heap->∀{Q':Value->Shared->Prop},
  (∀x s1 src μ1 σ1,At T c μ (hpp s) σ1 μ1 (hpp s1)->kt1 T (noOwn c) x μ1 (hpp s1) src σ1 s1->Z src σ1->Q' x s1)->wpAny T.M c.A (eval iter c.env) Q' (EX T c X μ (hpp s)) s
noncomputable def Snd (e:E) (a:Arg1):Prop:=match a with
 |.e x=>EvOk T P k Γ sc lm e x
 |.l xs=>LsOk T P k Γ sc lm e xs
 |.d ks vs=>PsOk T P k Γ sc lm e ks vs
 |.o x=>PtOk T P k Γ sc lm e x
 |.s sk x=>yG1 T P k Γ sc lm sk e x
variable {T:Tab} {P:Prg} {N:FT} {ad:Nat->Addr} {k:Nat} {Γ:Ora} {sc:Scope} {lm:Bool}
structure kj1 (T:Tab) (ad:Nat->Addr) (k:Nat) (Γ:Ora):Prop where
 f:∀f as H Q X,Γ (.f f) as H Q X->yh T k (.ref (ad f)) as H Q X
 l:∀a as H Q X,Γ (.l a) as H Q X->yU2 T k a as H Q X
variable {c:Cx} {f:Nat} {as:List AV} {Q:AV->St->Prop} {X:St->Prop} {σ:St}
theorem yS1 (G:kj1 T ad k Γ) (rm:Room c.A k) (h:yV4 Γ (.f f) as Q X σ):yV2 T c (.ref (ad f)) as Q X σ:=⟨k,rm,G.f _ _ _ _ _ h⟩
theorem yW6 (G:kj1 T ad k Γ) (rm:Room c.A k) {a:AV} (h:yV4 Γ (.l a) as Q X σ):ys3 T c a as Q X σ:=⟨k,rm,G.l _ _ _ _ _ h⟩
noncomputable def yZ8:Expr->Bool
 |.UnaryOp _ _ _=>false
 |.BoolOp _ _ _=>false
 |.IfExp _ _ _ _=>false
 |.Compare _ _ _ _=>false
 |_=>true
variable {x:Expr}
theorem yh7 (h:yZ8 x=true) (env:Env) (whole:Sem Value):isTrue x env whole=(do let v <-whole;standAt x.pos;holding [v] (truthy v)):=by
 rcases x with _|_|_|_|_|_|_|_|_|_|_|_|_|_|_|_|_|_|_|_|_|_|_|_|_|_|_<;>first|rfl|exact Bool.noConfusion h
theorem jH {e:E} (hp:yZ8 x=true) (h:∀{c},Ctx T sc lm k c->∀{Q:AV->St->Prop} {X:St->Prop} {σ:St},wp P Γ e Q X σ->W T c (Er T) (eval x c.env) Q X σ):EvOk T P k Γ sc lm e x:=
 ⟨h,fun C o_ o_ o_ o_ r hw=>yK (yh7 hp _ _) ((h C hw).q fun o_ o_ q=>zA (r _ _ q))⟩
variable {n:Nat} {x:Str}
theorem jJ (K:Ok T P N ad) (h:jE N n x=true):T.names[n]? =some x:=by
 have:=eq_of_beq h;rw [K.nm] at this;exact this
theorem yl5 (h:y0 x=true):(x==(qH "__debug__"))=false/\(x==(qH "__classdict__"))=false:=by
 exact x_A (and2 h) fun a b=>⟨by simpa using a,by simpa using b⟩
variable {a b d l e:E} {x y z:Expr} {pos:Pos}
theorem yu {v:Const} (h:∀{c:Cx} {Q:AV->St->Prop} {X:St->Prop} {σ:St},wp P Γ e Q X σ->W T c (Er T) (eval (.Constant v n pos) c.env) Q X σ):EvOk T P k Γ sc lm e (.Constant v n pos):=jH rfl fun o_ o_ o_ o_ q=>h q
variable {nm:Str}
theorem f_nm (K:Ok T P N ad) (h:(jE N n nm&&y0 nm)=true):EvOk T P k Γ sc lm (.nm n) (.Name nm pos):=jH rfl fun C Q X σ q=>
 jg q fun v e q=>y513 C.O (jJ K (and2 h).1) e q (yl5 (and2 h).2).1 (yl5 (and2 h).2).2
theorem f_gv (K:Ok T P N ad) {g:Nat} (h:(N.gvn g==some nm&&gi sc nm)=true):EvOk T P k Γ sc lm (.gv g) (.Name nm pos):=jH rfl fun C Q X σ q=>
 jg q fun a e q=>x_EA (K.gv _ _ (eq_of_beq (and2 h).1) _ e) fun v hv er=>y213 K.TO.toTabOk C.O ((C.ko _).trans (kM (and2 h).2).1) hv (kM (and2 h).2).2 (fun μ h R=>er μ _ h R) q
variable {name:Str}
theorem yw12 (K:Ok T P N ad) (h:(jE N n name&&z7 x)=true) (hx:EvOk T P k Γ sc lm e x):EvOk T P k Γ sc lm (.attr e n) (.Attribute x name pos):=jH rfl fun C Q X σ q=>
 yU13 (jJ K (and2 h).1) ((hx.v C q).q fun o_ o_ g=>yq6 K (jJ K (and2 h).1) g) (congrArg (fun t=>t>>=fun o'=>standAt pos.atName>>=fun o_=>holding [o'] (getAttr o' name true)>>=fun r=>letTemporaryGo x o' r>>=fun o_=>pure r) (ye6 (and2 h).2))
theorem yI14 {op:Operator} (hx:EvOk T P k Γ sc lm a x) (hy:EvOk T P k Γ sc lm b y):EvOk T P k Γ sc lm (.bin op a b) (.BinOp x op y pos):=jH rfl fun C Q X σ q=>
 yX10 ((hx.v C q).q fun o_ o_ q=>(hy.v C q).q fun o_ o_ q=>yG9 C.O q)
theorem f_un {op:UnaryOp} (hx:EvOk T P k Γ sc lm a x):EvOk T P k Γ sc lm (.un op a) (.UnaryOp op x pos):=by
 have hv:∀{c},Ctx T sc lm k c->∀{Q:AV->St->Prop} {X:St->Prop} {σ:St},wp P Γ (.un op a) Q X σ->W T c (Er T) (eval (.UnaryOp op x pos) c.env) Q X σ:=fun C Q X σ q=>
  yc14 ((hx.v C q).q fun o_ o_ q=>yS13 C.O q)
 refine ⟨hv,fun C R Q X σ r q=>?_⟩;rcases op with _|_|_|_
 ·exact yK rfl ((hv C q).q fun o_ o_ q=>zA (r _ _ q))
 ·exact yb14 (hx.t C (fun v σ1 q=>by rcases v with _|_|_|_|_|_|_|_|_<;>first|exact r _ _ q|exact q.elim) q)
 ·exact yK rfl ((hv C q).q fun o_ o_ q=>zA (r _ _ q))
 ·exact yK rfl ((hv C q).q fun o_ o_ q=>zA (r _ _ q))
variable {op:CmpOp} {Q':AV->St->Prop}
theorem yQ3 (K:Ok T P N ad) {a b:AV} (O:CxOk c) (h:cmpQ P op a b Q σ) (r:∀a σ,Q a σ->Q' a σ):WCmp T c op a b Q' X σ:=jg h fun t e h=>(yR3 K e).w O (r _ _ h)
theorem yJ14 (K:Ok T P N ad) (h:(qc1 op y==false)=true) (hx:EvOk T P k Γ sc lm a x) (hy:EvOk T P k Γ sc lm b y):EvOk T P k Γ sc lm (.cmp op a b) (.Compare x [op] [y] pos):=
 ⟨fun C Q X σ q=>yT15 (eq_of_beq h) ((hx.v C q).q fun o_ o_ q=>(hy.v C q).q fun o_ o_ q=>yQ3 K C.O q fun o_ o_ q=>q),
  fun C R Q X σ r q=>ya14 (eq_of_beq h) ((hx.v C q).q fun o_ o_ q=>(hy.v C q).q fun o_ o_ q=>yQ3 K C.O q fun o_ o_ q=>zA (r _ _ q))⟩
theorem yy12 (K:Ok T P N ad) {op':CmpOp} (h:(qc1 op y==false&&qc1 op' z==false)=true) (hx:EvOk T P k Γ sc lm a x) (hy:EvOk T P k Γ sc lm b y) (hz:EvOk T P k Γ sc lm d z):EvOk T P k Γ sc lm (.cmp2 op op' a b d) (.Compare x [op,op'] [y,z] pos):=
 have h12:=and2 h
 ⟨fun C Q X σ q=>yW13 (eq_of_beq h12.1) (eq_of_beq h12.2) ((hx.v C q).q fun o_ o_ q=>(hy.v C q).q fun o_ o_ q=>jg q fun t ht q=>(yR3 K ht).w C.O (yr4 (by
  rcases t with _|_
  ·exact ⟨rfl,q⟩
  ·exact (hz.v C q).q fun o_ o_ q=>yQ3 K C.O q fun o_ o_ q=>q))),
  fun C R Q X σ r q=>y710 (eq_of_beq h12.1) (eq_of_beq h12.2) ((hx.v C q).q fun o_ o_ q=>(hy.v C q).q fun o_ o_ q=>jg q fun t ht q=>(yR3 K ht).w C.O (yr4 (by
   rcases t with _|_
   ·exact r _ _ q
   ·exact (hz.v C q).q fun o_ o_ q=>yQ3 K C.O q fun o_ o_ q=>zA (r _ _ q))))⟩
variable {B:St->Prop} {Q:Bool->St->Prop}
theorem yq3 {A:St->Prop} {a:AV} (h:trQ (ifK A B) a σ) (f:tv a=some true->A σ->Q true σ) (g:tv a=some false->B σ->Q false σ):trQ Q a σ:=
 jg h fun t e h=>jj e (Bool.rec (motive:=fun t=>tv a=some t->ifK A B t σ->Q t σ) g f t e h)
theorem tr_v {a:AV} {t:Bool} (h:trQ Q a σ) (e:tv a=some t):Q t σ:=jg h fun b e' h=>qq (e'.symm.trans e)▸h
variable {r:List Expr}
theorem y87 (hx:EvOk T P k Γ sc lm a x) (hv:∀{c},Ctx T sc lm k c->∀{Q:AV->St->Prop} {X:St->Prop} {σ:St},wp P Γ b Q X σ->W T c (Er T) (eval (.BoolOp .And (y::r) pos) c.env) Q X σ)
 (ht:∀{c},Ctx T sc lm k c->∀{R:AV->St->Prop} {Q:Bool->St->Prop} {X:St->Prop} {σ:St} {whole:Sem Value},(∀a σ,R a σ->trQ Q a σ)->wp P Γ b R X σ->W T c BoR (isTrue (.BoolOp .And (y::r) pos) c.env whole) Q X σ):EvOk T P k Γ sc lm (.and a b) (.BoolOp .And (x::y::r) pos):=
 ⟨fun C Q X σ q=>yS15 ((hx.v C q).q fun v σ1 q=>zA (yq3 q (fun o_ q=>hv C q) fun o_ q=>q)),
  fun C R Q X σ r q=>yt9 (hx.t C (fun v σ1 q=>yq3 q (fun o_ q=>ht C r q) fun e q=>tr_v (r _ _ q) e) q)⟩
theorem yn11 (hx:EvOk T P k Γ sc lm a x) (hv:∀{c},Ctx T sc lm k c->∀{Q:AV->St->Prop} {X:St->Prop} {σ:St},wp P Γ b Q X σ->W T c (Er T) (eval (.BoolOp .Or (y::r) pos) c.env) Q X σ)
 (ht:∀{c},Ctx T sc lm k c->∀{R:AV->St->Prop} {Q:Bool->St->Prop} {X:St->Prop} {σ:St} {whole:Sem Value},(∀a σ,R a σ->trQ Q a σ)->wp P Γ b R X σ->W T c BoR (isTrue (.BoolOp .Or (y::r) pos) c.env whole) Q X σ):EvOk T P k Γ sc lm (.or a b) (.BoolOp .Or (x::y::r) pos):=
 ⟨fun C Q X σ q=>w_or ((hx.v C q).q fun v σ1 q=>zA (yq3 q (fun o_ q=>q) fun o_ q=>hv C q)),
  fun C R Q X σ r q=>yX11 (hx.t C (fun v σ1 q=>yq3 q (fun e q=>tr_v (r _ _ q) e) fun o_ q=>ht C r q) q)⟩
theorem yu12 (hx:EvOk T P k Γ sc lm a x) (hy:EvOk T P k Γ sc lm b y):EvOk T P k Γ sc lm (.and a b) (.BoolOp .And [x,y] pos):=
 y87 hx (fun C Q X σ q=>yW11 (hy.v C q)) fun C R Q X σ whole r q=>yt9 ((hy.t C r q).q fun t σ q=>match t,q with
  |true,q=>y95 q
  |false,q=>q)
theorem yN14 (hx:EvOk T P k Γ sc lm a x) (hy:EvOk T P k Γ sc lm b y):EvOk T P k Γ sc lm (.or a b) (.BoolOp .Or [x,y] pos):=
 yn11 hx (fun C Q X σ q=>yW11 (hy.v C q)) fun C R Q X σ whole r q=>yX11 ((hy.t C r q).q fun t σ q=>match t,q with
  |false,q=>yq7 q
  |true,q=>q)
variable {ys:List Expr}
theorem yv12 (hx:EvOk T P k Γ sc lm a x) (hy:EvOk T P k Γ sc lm b (.BoolOp .And (y::z::ys) pos)):EvOk T P k Γ sc lm (.and a b) (.BoolOp .And (x::y::z::ys) pos):=
 y87 hx (fun C Q X σ q=>hy.v C q) fun C R Q X σ whole r q=>hy.t C r q
theorem yO14 (hx:EvOk T P k Γ sc lm a x) (hy:EvOk T P k Γ sc lm b (.BoolOp .Or (y::z::ys) pos)):EvOk T P k Γ sc lm (.or a b) (.BoolOp .Or (x::y::z::ys) pos):=
 yn11 hx (fun C Q X σ q=>hy.v C q) fun C R Q X σ whole r q=>hy.t C r q
theorem yZ15 {t b o:Expr} {whole:Sem Value} {Qb:Bool->St->Prop} (h:W T c BoR (isTrue t c.env (eval t c.env)) (fun x σ1=>match x with|true=>W T c BoR (isTrue b c.env (eval b c.env)) Qb X σ1|false=>W T c BoR (isTrue o c.env (eval o c.env)) Qb X σ1) X σ):
 W T c BoR (isTrue (.IfExp t b o pos) c.env whole) Qb X σ:=fun μ s rl=>by
 refine (?_:wpAny _ _ (do if <-isTrue t c.env (eval t c.env) then isTrue b c.env (eval b c.env) else isTrue o c.env (eval o c.env)) _ _ _);refine qP (h.go rl.at fun v1 s1 μ1 a σ1 a1 e1 h1 p1 k1=>?_);subst (e1:v1=a);rcases v1 with _|_<;>exact W.go h1 a1 fun v s3 μ3 d σ3 a3 e3 h3 o_ o_=>⟨μ3,d,σ3,a3,e3,h3⟩
theorem yL14 (hx:EvOk T P k Γ sc lm a x) (hy:EvOk T P k Γ sc lm b y) (hz:EvOk T P k Γ sc lm d z):EvOk T P k Γ sc lm (.ite a b d) (.IfExp x y z pos):=
 ⟨fun C Q X σ q=>y310 (hx.t C (fun v σ1 q=>yq3 q (fun o_ q=>hy.v C q) fun o_ q=>hz.v C q) q),
  fun C R Q X σ r q=>yZ15 (hx.t C (fun v σ1 q=>yq3 q (fun o_ q=>hy.t C r q) fun o_ q=>hz.t C r q) q)⟩
theorem kH {Q:List AV->St->Prop} {l:List AV} (h:tupQ Q (.tup l) σ):Q l σ:=h
theorem yA12 {xs:List Expr} (h:y93 x=true) (hx:EvOk T P k Γ sc lm a x) (hr:LsOk T P k Γ sc lm b xs):LsOk T P k Γ sc lm (.cons a b) (x::xs):=fun C p Q X σ q=>
 y85 (kc h) ((hx.v C q).q fun o_ o_ q=>(hr C q).q fun o_ o_ q=>kH q)
theorem y29 {xs:List (Option Expr)} (hx:EvOk T P k Γ sc lm a x) (hy:EvOk T P k Γ sc lm b y) (hr:PsOk T P k Γ sc lm d xs ys):PsOk T P k Γ sc lm (.pcons a b d) (some x::xs) (y::ys):=fun C p Q X σ q=>
 y510 ((hx.v C q).q fun o_ o_ q=>(hy.v C q).q fun o_ o_ q=>(hr C q).q fun o_ o_ q=>kH q)
variable {es:List Expr}
theorem yQ14 (hl:LsOk T P k Γ sc lm l es):EvOk T P k Γ sc lm (.tup l) (.Tuple es n pos):=jH rfl fun C Q X σ q=>
 y810 ((hl C q).q fun o_ o_ q=>kH q)
theorem yC12 (hl:LsOk T P k Γ sc lm l es):EvOk T P k Γ sc lm (.list l) (.List es pos):=jH rfl fun C Q X σ q=>
 y313 ((hl C q).q fun o_ o_ q=>kH q)
theorem yf7 (l:List (AV×AV)):yd4 (l.map yP11)=some l:=by
 induction l with
 |nil=>rfl
 |cons p r ih=>exact congrArg (fun o=>match o with|some l=>some (p::l)|none=>none) ih
theorem y09:EvOk T P k Γ sc lm (.dict .nil) (.Dict [] [] pos):=jH rfl fun C Q X σ q=>by
 refine x_A ((show (σ.H++[AO.dict []])[σ.H.length]? =some (.dict [])/\Q (.ref σ.H.length) ⟨(σ.H++[AO.dict []]).set σ.H.length (.dict []),σ.m⟩ from q)) fun q1 q2=>?_;have e:(σ.H++[AO.dict []]).set σ.H.length (.dict [])=σ.H++[.dict []]:=by simp
 rw [e] at q2;exact y210 q2
theorem yB12 {u:Option Expr} {ks:List (Option Expr)} {vs:List Expr} (h:((u::ks).all (·.isSome)&&(u::ks).length==vs.length&&decide ((u::ks).length<=15))=true) (hl:PsOk T P k Γ sc lm l (u::ks) vs):EvOk T P k Γ sc lm (.dict l) (.Dict (u::ks) vs pos):=jH rfl fun C Q X σ q=>by
 refine x_A (and2 h) fun h12 h3=>x_A (and2 h12) fun h1 h2=>yY13 C.O h1 (eq_of_beq h2) (List.cons_ne_nil _ _) (of_decide_eq_true h3) ((hl C q).q fun l σ1 q=>?_);refine x_A (kH q) fun q1 q2=>?_;rw [yf7] at q2;exact ⟨q1,yZ q2⟩
variable {p:Pos}
theorem yx12 (K:Ok T P N ad) (G:kj1 T ad k Γ) (h:(N.gn f==some nm&&gi sc nm&&ju es)=true) (hl:LsOk T P k Γ sc lm l es):EvOk T P k Γ sc lm (.call f l) (.Call (.Name nm p) es [] pos):=jH rfl fun C Q X σ q=>by
 exact x_A (and2 h) fun h12 h3=>x_A (and2 h12) fun h1 h2=>x_A (K.gn _ _ (eq_of_beq h1)) fun g1 g2=>y110 K.TO.toTabOk C.O ((C.ko _).trans (kM h2).1) g1 (kM h2).2 g2 h3 ((hl C q).q fun o_ o_ q=>yS1 G C.rm (kH q))
variable {apos:Pos}
theorem y19 (K:Ok T P N ad) (G:kj1 T ad k Γ) (h:(N.mc f==some (nm,name)&&gi sc nm&&apos.endLine==pos.line&&ju es&&decide (es.length<30))=true) (hl:LsOk T P k Γ sc lm l es):EvOk T P k Γ sc lm (.methC f l) (.Call (.Attribute (.Name nm p) name apos) es [] pos):=jH rfl fun C Q X σ q=>by
 exact x_A (and2 h) fun h14 h5=>x_A (and2 h14) fun h13 h4=>x_A (and2 h13) fun h12 h3=>x_A (and2 h12) fun h1 h2=>yu2 (K.mc _ _ _ (eq_of_beq h1)) fun Ca mc g1 g2 g3 g4 g5=>y410 K.TO.toTabOk C.O h3 h4 h5 ((C.ko _).trans (kM h2).1) g1 (kM h2).2 g2 g3 g4 rfl g5 ((hl C q).q fun o_ o_ q=>yS1 G C.rm (kH q))
theorem yP14 (K:Ok T P N ad) (h:yC y=true) (hx:EvOk T P k Γ sc lm a x) (hy:EvOk T P k Γ sc lm b y):EvOk T P k Γ sc lm (.sub a b) (.Subscript x y pos):=jH rfl fun C Q X σ q=>
 yY15 C.O h ((hx.v C q).q fun o_ o_ q=>(hy.v C q).q fun o_ o_ q=>yP10 K q)
theorem kY:Slot "bytes" "join" "bytes.join":=
 .of (owner:="bytes") (n:="join") (by rw [qb1];refine rz qU ?_;kernel_rfl) (by decide+kernel) (by decide+kernel) (by decide+kernel)
  (by first|exact .inl (by decide+kernel)|exact .inr (by decide+kernel)) (by rw [isSubtype_type];kernel_rfl)
theorem yV:entryFor table "bytes.join"=some Builtin.«bytes.join»:=entryFor_of_tree (by kernel_rfl)
theorem yg1 (a b:Value):argsOk "bytes.join" ⟨[a,b],[]⟩:=by
 unfold argsOk;refine rz (signature?_of (id:="bytes.join") (n:=['n','i','o','j']) (o:=['s','e','t','y','b']) (by kernel_rfl) FB.owner_bytes) ?_;kernel_rfl
theorem yt1:typeOf (.builtin "bytes.join")=pure (.type "method_descriptor"):=by refine (?_:builtinType _=_);refine rz builtinType_eq_fast ?_;kernel_rfl
theorem jQ:Slot "bytes" "__buffer__" "bytes.__buffer__":=
 .of (owner:="bytes") (n:="__buffer__") (by rw [qb1];refine rz qU ?_;kernel_rfl) (by decide+kernel) (by decide+kernel) (by decide+kernel)
  (by first|exact .inl (by decide+kernel)|exact .inr (by decide+kernel)) (by rw [isSubtype_type];kernel_rfl)
variable {prog:Program} {w:World} {A:Around} {E:Value->Shared->Prop} {s:Shared} {b:Array UInt8} {t:Tok}
theorem zS {Q:Array UInt8->Shared->Prop} (h:Q b s):wpAny (model prog w) A (Builtin.Bytes.payload (.bytes b t)) Q E s:=qQ h
theorem y77:("bytes.__buffer__".endsWith ("."++"__buffer__"))=true:=by decide+kernel
theorem y47:"bytes.__buffer__".dropRight ("__buffer__".length+1)="bytes":=by decide+kernel
theorem yf:qe1 (.type "bytes") (qH "__release_buffer__")=pure none:=by rw [qb1];refine rz qU ?_;kernel_rfl
variable {Q:Bool->Shared->Prop}
theorem yH6 (h:Q true s):wpAny (model prog w) A (Builtin.Bytes.slotIsOwn (.bytes b t) "__buffer__") Q E s:=by
 unfold Builtin.Bytes.slotIsOwn;refine qP (qa1 (qf1 s b t) jQ.lookup ?_);dsimp only;refine rz y77 (rz y47 ?_);exact wpAny_isInstance (qf1 s b t) F.sub_bytes_bytes (h)
theorem yG10 (h:Q false s):wpAny (model prog w) A (Builtin.Bytes.ownRelease (.bytes b t)) Q E s:=by
 unfold Builtin.Bytes.ownRelease Builtin.Bytes.slotIsOwn;refine qP (qP (qa1 (qf1 s b t) yf ?_));exact qQ (qQ h)
variable {id:String}
theorem yG3 {full:Bool} {Q:Option (Array UInt8)->Shared->Prop} (h:Q (some b) s):wpAny (model prog w) A (Builtin.Bytes.buffer? id (.bytes b t) full) Q E s:=by
 unfold Builtin.Bytes.buffer?;refine qP (qa1 (qf1 s b t) jQ.lookup ?_);refine qP (yH6 ?_);refine qP (qa1 (qf1 s b t) jQ.lookup ?_);refine qP (yG10 ?_);refine qP (zS ?_);exact qQ h
theorem yo2 {Q:Option (Array UInt8×Option Value)->Shared->Prop} (h:Q (some (b,none)) s):wpAny (model prog w) A (Builtin.Bytes.takeBufferQuiet? id (.bytes b t) 0) Q E s:=by
 unfold Builtin.Bytes.takeBufferQuiet?;refine qP (wpAny_attempt ?_);unfold Builtin.Bytes.takeBuffer?;refine qP (qa1 (qf1 s b t) jQ.lookup ?_);refine qP (yH6 ?_);refine qP (qa1 (qf1 s b t) jQ.lookup ?_);refine qP (yG3 ?_);exact qQ (qQ h)
noncomputable def forK {σ:Type} (Q K:σ->Shared->Prop) (r:ForInStep σ) (s:Shared):Prop:=match r with
 |.done b=>Q b s
 |.yield b=>K b s
theorem ys2 {σ:Type} {Q:σ->Shared->Prop} {t:Sem (ForInStep σ)} {g:σ->Sem σ} (h:wpAny (model prog w) A t (forK Q fun b s=>wpAny (model prog w) A (g b) Q E s) E s):wpAny (model prog w) A (t>>=fun r=>match r with|.done b=>pure b|.yield b=>g b) Q E s:=
 qP (qV h (fun r s q=>by
  rcases r with b|b
  ·exact qQ q
  ·exact q) fun o_ o_ q=>q)
theorem yb6 {σ:Type} {f:Nat->σ->Sem (ForInStep σ)} {s0:σ} {Q:σ->Shared->Prop} (h:wpAny (model prog w) A (f 0 s0) (forK Q fun b s=>wpAny (model prog w) A (f 1 b) (forK Q Q) E s) E s):wpAny (model prog w) A (forIn [:2] s0 f) Q E s:=by
 rw [Std.Legacy.Range.forIn_eq_forIn_range',show List.range' [:2].start [:2].size [:2].step=[0,1] from rfl,List.forIn_cons];refine ys2 (qV h (fun r s q=>?_) fun o_ o_ q=>q);rcases r with b|b
 ·exact q
 ·refine (?_:wpAny _ _ (forIn [1] b f) Q E s);rw [List.forIn_cons];refine ys2 (qV q (fun r s q=>?_) fun o_ o_ q=>q);rcases r with b|b
  ·exact q
  ·refine (?_:wpAny _ _ (forIn [] b f) Q E s);exact rz List.forIn_nil (qQ q)
variable {I:Addr}
theorem yv8 {x y:Array UInt8} {tx ty:Tok} {o:Obj} {Q:Value->Shared->Prop} (hI:s.heap.get? I=some o) (hc:o.cls=.type "list") (hd:o.data=.seq #[.bytes x tx,.bytes y ty] n) (hz:x.size+y.size<=1000000) (h:Q (.bytes (x++y) s.toks) {s with toks:=s.toks+1}):
 wpAny (model prog w) A (call (.builtin "bytes.join") [.bytes #[] t,.ref I]) Q E s:=by
 refine wpAny_call (codeAny_call_builtin kY.plain yV (kY.check _ _ _ _ _ _ _ _ (qf1 _ _ _) (yg1 _ _) ?_));unfold Builtin.«bytes.join» Builtin.Bytes.joinM;refine qP (qT (show selfAndOne _ ⟨[.bytes #[] t,.ref I],[]⟩=pure (.bytes #[] t,.ref I) from rfl) ?_);refine qP ((?_:wpAny _ _ (Builtin.Bytes.joinItems (.ref I)) _ _ _));unfold Builtin.Bytes.joinItems;refine qP (wpAny_typeOf (T:="list") ⟨o,hI,hc⟩ ?_);refine qQ (qP (wpAny_seqItems hI hd ?_));refine qP (yb6 ?_);refine qP (wpAny_seqItems hI hd ?_);refine qP (qW (yo2 ?_));refine qP (wpAny_seqItems hI hd ?_);refine qQ (qP (wpAny_seqItems hI hd ?_));refine qP (qW (yo2 ?_));refine qP (wpAny_seqItems hI hd ?_);refine qQ (qP (zS ?_));have hl:Builtin.Bytes.tooLong (Array.foldl (fun x1 x2=>x1+x2.size) ((#[]:Array UInt8).size*(((#[].push x).push y).size-1)) ((#[].push x).push y))=false:=by
  refine (?_:decide (0*(2-1)+x.size+y.size>sizeLine)=false);exact rz qY (decide_eq_false (by lia))
 dsimp only;refine rz hl ?_;have hj:Builtin.Bytes.joined #[] ((#[].push x).push y).toList=x++y:=by
  refine (?_:(((#[]++x)++ #[])++y:Array UInt8)=x++y);simp
 refine rz hj (rz (if_neg (by simp)) ?_);have hs:(x++y).size<=sizeLine:=by refine rz Array.size_append (rz qY ?_);lia
 refine qP (wpAny_mkBytes ?_ (hb:=hs));refine qP (qW (wpAny_point ?_));refine qP (qP (wpAny_letGo ?_));refine qP (wpAny_letGo ?_);exact qQ (qQ h)
theorem yk3:mroOf (.type "bytes")=pure [.type "bytes",.type "object"]:=by rw [mroOf_type];kernel_rfl
theorem yY:qe1 (.type "bytes") "__new__"=pure (some (.builtin "bytes.__new__")):=by rw [qb1];refine rz qU ?_;kernel_rfl
theorem ys1:Slot "bytes" "__init__" "object.__init__":=
 .of (owner:="object") (n:="__init__") (by rw [qb1];refine rz qU ?_;kernel_rfl) (by decide+kernel) (by decide+kernel) (by decide+kernel)
  (by first|exact .inl (by decide+kernel)|exact .inr (by decide+kernel)) (by rw [isSubtype_type];kernel_rfl)
theorem kE1:TypeCalled "bytes" "bytes.__new__" "object.__init__":=
 ⟨by decide+kernel,by decide+kernel,⟨_,_,yk3⟩,madeBy_type yk3 yY (by decide+kernel),by decide+kernel,by rw [isSubtype_type];kernel_rfl,ys1⟩
theorem yp2 (a:Value):checkTypeCall "bytes" ⟨[a],[]⟩=pure ():=by kernel_rfl
theorem yG2 (a:Value):checkBuiltinCall "bytes.__new__" ⟨[.type "bytes",a],[]⟩=pure ():=by kernel_rfl
theorem yq1:entryFor table "bytes.__new__"=some Builtin.«bytes.__new__»:=entryFor_of_tree (by kernel_rfl)
theorem kv1:entryFor table "bytes.__new__.loop"=some Builtin.«bytes.__new__.loop»:=entryFor_of_tree (by kernel_rfl)
theorem zg:plainId "bytes.__new__"=true:=by decide+kernel
theorem kb:plainId "bytes.__new__.loop"=true:=by decide+kernel
theorem zv:qe1 (.type "list") (qH "__buffer__")=pure none:=by rw [qb1];refine rz qU ?_;kernel_rfl
theorem yE2:qe1 (.type "list") (qH "__bytes__")=pure none:=by rw [qb1];refine rz qU ?_;kernel_rfl
theorem yF2:qe1 (.type "list") (qH "__index__")=pure none:=by rw [qb1];refine rz qU ?_;kernel_rfl
theorem yK8:qe1 (.type "list") (qH "__len__")=pure (some (.builtin "list.__len__")):=by rw [qb1];refine rz qU ?_;kernel_rfl
theorem yj7:splitId "list.__len__"=some ("list","__len__"):=by decide+kernel
theorem yS2:isSubtype (.type "list") (.type "list")=pure true:=by rw [isSubtype_type];kernel_rfl
theorem yu9 {S:Addr} {c:Nat} {x:UInt8} {Q:Unit->Shared->Prop} (hS:s.heap.get? S=some {cls:=.type "bytearray",dict:=none,data:=.bytearray b c,slots:= #[]}) (hz:b.size+1<=1000001)
 (h:∀h',h'.get? S=some {cls:=.type "bytearray",dict:=none,data:=.bytearray (b.push x) c,slots:= #[]}->(∀a,a≠S->h'.get? a=s.heap.get? a)->Q () {s with heap:=h'}):wpAny (model prog w) A (Builtin.Bytes.write (.ref S) (·.push x)) Q E s:=by
 refine (?_:wpAny _ _ (updateBytearray S _) _ _ _);unfold updateBytearray;refine qP (wpAny_load hS ?_);refine qP (wpAny_update hS ?_);have e:(s.heap.update S (Obj.mapBytearray (·.push x))).get? S=some {cls:=.type "bytearray",dict:=none,data:=.bytearray (b.push x) c,slots:= #[]}:=qN _ hS rfl;refine wpAny_lookBehind e ?_ (h _ e fun a ha=>Heap.get?_update_other _ _ (Ne.symm ha));refine (?_:(if (b.push x).size>sizeLine then _ else none)=none);rw [if_neg (by refine rz qY ?_;rw [Array.size_push];lia)]
theorem yQ5 {R:Result->Shared->Prop} {fp wr:List Addr} {P:Nat->Value->Prop} {St:Nat->Heap->Prop} (W:Walks prog w A.in1 I fp wr n P St) (bs:Nat->UInt8) (hval:∀i v,P i v->∃t,v=.int (bs i).toNat t) (hn:n<=1000000) (S:Addr) (hSf:S∉fp) (c:Nat):
 ∀(k i:Nat) (s:Shared) (acc:Array UInt8),n-i=k->i<=n->acc.size=i->St i s.heap->s.heap.get? S=some {cls:=.type "bytearray",dict:=none,data:=.bytearray acc c,slots:= #[]}->
 (∀h' tk t',(∀b o,b∉wr->b≠S->s.heap.get? b=some o->h'.get? b=some o)->R (.ok (.ret (.bytes (acc++((List.range' i (n-i)).map bs).toArray) t'))) {s with heap:=h',toks:=tk})->
 codeAny (model prog w) A (.builtin "bytes.__new__.loop" ⟨[.type "bytes",.ref I,.ref S],[]⟩) R s:=by
 have hSw:S∉wr:=fun h=>hSf (W.sub _ h);intro k
 induction k with
 |zero=>
  intro i s acc hk hi hz hst hS hR;have hin:i=n:=by lia
  subst hin;refine codeAny_builtin kv1 (rz (Around.under_plainId kb _) ((?_:wpAny _ A.in1 (pyNext (.ref I)>>=_) _ _ s)));refine qP (W.done s _ _ hst fun h' tk hk'=>?_);refine qP ?_;have hS':=hk' S _ hSw hS;refine qP (qP (wpAny_load hS' (qQ (qQ ?_))));refine qP (wpAny_mkBytes ?_ (hb:=by refine rz qY ?_;lia));have e:acc++((List.range' i (i-i)).map bs).toArray=acc:=by simp
  have r:=hR h' (tk+1) tk fun b o hb hb' e=>hk' b o hb e;rw [e] at r;refine (?_:wpAny _ _ (if (Value.type "bytes"==Value.type "bytes")=true then (ret (.bytes acc tk)>>=fun v=>pure v) else _) _ _ _);exact rz (if_pos (by decide)) (qP (qQ (qQ r)))
 |succ k ih=>
  intro i s acc hk hi hz hst hS hR;have hlt:i<n:=by lia
  refine codeAny_builtin kv1 (rz (Around.under_plainId kb _) ((?_:wpAny _ A.in1 (pyNext (.ref I)>>=_) _ _ s)));refine qP (W.item i s _ _ hlt hst fun v h' tk hP hst' hk'=>?_);obtain ⟨t,rfl⟩:=hval i v hP
  have hS':=hk' S _ hSw hS;refine qP (qW (qT (show asIndex (.int (bs i).toNat t)=pure ((bs i).toNat:Int) from rfl) ?_));refine qP (wpAny_letGo ?_);have h0:(decide (((bs i).toNat:Int)<0)||decide (((bs i).toNat:Int)>=256))=false:=by
   have:=(bs i).toNat_lt;simp;lia
  dsimp only;refine rz h0 (rz (if_neg (by simp)) (qP (yu9 hS' (by lia) fun h'' hS'' hk''=>?_)));have e8:((bs i).toNat:Int).toNat.toUInt8=bs i:=by simp
  rw [e8] at hS'';refine qQ ⟨plainId_quiet kb _,ih (i+1) _ (acc.push (bs i)) (by lia) hlt (by rw [Array.size_push];lia) (W.frame _ _ _ hst' fun b hb o e=>?_) hS'' fun h3 tk3 t3 hk3=>?_⟩
  ·exact rz (hk'' b fun z=>hSf (z▸hb)) e
  ·have e:acc++((List.range' i (n-i)).map bs).toArray=acc.push (bs i)++((List.range' (i+1) (n-(i+1))).map bs).toArray:=by
    have:n-i=(n-(i+1))+1:=by lia
    refine rz this (rz List.range'_succ (rz List.map_cons ?_));simp
   rw [e] at hR;exact hR h3 tk3 t3 fun b o hb hb' e=>hk3 b o hb hb' (by exact rz (hk'' b hb') (hk' b o hb e))
variable {its:Array Value} {bs:List UInt8}
theorem yV1 {Q₁:Value->Shared->Prop} {l:Addr} (hh:A.handled=none) (hl:s.heap.IsList l its) (hv:∀(i:Nat) (v:Value),its[i]? =some v->∃t,v=.int (bs.getD i 0).toNat t) (hz:its.size=bs.length) (hn:bs.length<=1000000)
 (h:∀h' tk t',(∀b o,s.heap.get? b=some o->h'.get? b=some o)->Q₁ (.bytes bs.toArray t') {s with heap:=h',toks:=tk}):
 codeAny (model prog w) A (.call (.builtin "bytes.__new__") ⟨[.type "bytes",.ref l],[]⟩) (wants Q₁ E) s:=by
 refine codeAny_of_tree ((?_:wpAny _ A.in1 (do checkBuiltinCall "bytes.__new__" ⟨[.type "bytes",.ref l],[]⟩;again (.builtin "bytes.__new__" ⟨[.type "bytes",.ref l],[]⟩)) _ _ s));refine qP (qT (yG2 _) (qQ ⟨plainId_quiet zg _,codeAny_builtin yq1 ?_⟩));refine rz (Around.under_plainId zg _) ?_;have hT:s.TypeIs (.ref l) "list":=let ⟨o,e,c,_⟩:=hl;⟨o,e,c⟩;unfold Builtin.«bytes.__new__»;refine qP (qT (show isType (.type "bytes")=pure true from by rfl) ?_);refine qP (qT F.sub_bytes_bytes ?_);refine qP (qT (show Builtin.Bytes.bindOptional "bytes.__new__" "bytes" ["source","encoding","errors"] [.ref l] []=pure [some (.ref l),none,none] from by rfl) ?_);refine qP (qT (show Builtin.Bytes.checkCodecArg "bytes.__new__" "bytes" "encoding" none=pure () from rfl) ?_);refine qP (qT (show Builtin.Bytes.checkCodecArg "bytes.__new__" "bytes" "errors" none=pure () from rfl) ?_);refine qP (qa1 hT yE2 ?_);refine qP (ye14 hl fun o ho hc n hd=>qP (qP (wpAny_load ho ?_)));refine rz hd (qQ (qQ ?_));refine qP (qa1 hT yF2 ?_);refine rz (if_pos (show (none:Option Value).isNone=true from rfl)) ((?_:wpAny _ _ (Builtin.Bytes.buffer? "bytes.__new__" (.ref l) true>>=fun r=>_) _ _ _));refine qP ?_;unfold Builtin.Bytes.buffer?;refine qP (qa1 hT zv ?_);refine qP (qa1 hT zv ?_);refine qQ ?_;have hl:s.heap.IsList l its:=⟨o,ho,hc,n,hd⟩;have hlt:l<s.heap.objs.size:=qM ho;refine qP (wpAny_tryCatch (wpAny_pyIter_list hl ?_));have ho1:(s.heap.push {cls:=.type "list_iterator",data:=.fields #[.ref l,.int 0 0]}).get? l=some o:=qL _ ho;have hT1:Shared.TypeIs {s with heap:=s.heap.push {cls:=.type "list_iterator",data:=.fields #[.ref l,.int 0 0]}} (.ref l) "list":=⟨o,ho1,hc⟩;refine qP (qW ?_);unfold Builtin.Bytes.lengthHint;refine qP (qa1 hT1 yK8 ?_);dsimp only;refine rz yj7 ?_;dsimp only;refine qP (wpAny_isInstance hT1 yS2 ?_);refine rz (if_neg (by simp)) ?_;have fin:wpAny (model prog w) A.in1 (Builtin.Bytes.newBytearray #[]>>=fun b=>again (.builtin "bytes.__new__.loop" ⟨[.type "bytes",.ref s.heap.objs.size,b],[]⟩)) (fun fin s'=>match fin with
  |Fin.done f=>wants Q₁ E (Except.ok f) s'
  |Fin.again c'=>c'.quiet=true/\codeAny (model prog w) A c' (wants Q₁ E) s') (fun e s'=>wants Q₁ E (Except.error e) s') {s with heap:=s.heap.push {cls:=.type "list_iterator",data:=.fields #[.ref l,.int 0 0]}}:=by
  refine qP (wpAny_newObj_type ?_ (hd:=by refine (?_:(#[]:Array UInt8).size<=sizeLine);exact qn _));have hz1:(s.heap.push {cls:=.type "list_iterator",data:=.fields #[.ref l,.int 0 0]}).objs.size=s.heap.objs.size+1:=Heap.size_push ..;have hI:(s.heap.push {cls:=.type "list_iterator",data:=.fields #[.ref l,.int 0 0]}).get? s.heap.objs.size=some {cls:=.type "list_iterator",data:=.fields #[.ref l,.int 0 0]}:=qK _ rfl;have hlt':s.heap.objs.size<(s.heap.push {cls:=.type "list_iterator",data:=.fields #[.ref l,.int 0 0]}).objs.size:=by exact rz hz1 (Nat.lt_succ_self _)
  refine qQ ⟨plainId_quiet kb _,yQ5 (A:=A) (Walks.list (A:=A.in1) hh s.heap.objs.size l (qf hlt) its) (fun i=>bs.getD i 0) hv (by rw [hz];exact hn) _ (fun m=>?_) 0 its.size 0 _ #[] rfl (qn _) rfl ⟨⟨_,qL _ hI,rfl,rfl⟩,⟨o,qL _ ho1,hc,n,hd⟩⟩ (qK _ rfl) fun h' tk t' hk=>?_⟩
  ·rw [hz1] at m;rcases qC.mp m with m|m
   ·exact Nat.succ_ne_self _ m
   ·rw [<-qB.mp m] at hlt;exact Nat.not_succ_lt_self hlt
  ·have e:(#[]:Array UInt8)++((List.range' 0 (its.size-0)).map fun i=>bs.getD i 0).toArray=bs.toArray:=by
    rw [Nat.sub_zero];refine rz hz ?_;have:(List.range' 0 bs.length).map (fun i=>bs.getD i 0)=bs:=by
     apply List.ext_getElem
     ·simp
     ·intro i h1 h2;simp;refine rz (qu h2) ?_;rfl
    refine rz this ?_;simp
   refine rz e (h h' tk t' fun b ob eb=>hk b ob (fun m=>?_) (fun e=>?_) (qL _ (qL _ eb)))
   ·rw [qB.mp m] at eb;exact qo _ (qM eb)
   ·rw [e,hz1] at eb;exact Nat.not_succ_lt_self (qM eb)
 exact rz (if_pos (by kernel_rfl)) (qQ fin)
theorem yG5 {Q:Value->Shared->Prop} {l:Addr} (hh:A.handled=none) (hl:s.heap.IsList l its) (hv:∀(i:Nat) (v:Value),its[i]? =some v->∃t,v=.int (bs.getD i 0).toNat t) (hz:its.size=bs.length) (hn:bs.length<=1000000)
 (h:∀h' tk t',(∀b o,s.heap.get? b=some o->h'.get? b=some o)->Q (.bytes bs.toArray t') {s with heap:=h',toks:=tk}):wpAny (model prog w) A (call (.type "bytes") [.ref l]) Q E s:=by
 refine callType_codes (Q₁:=fun obj s₁=>s₁.TypeIs obj "bytes"/\Q obj s₁) kE1 (yp2 _) F.entry_object_init
  (yV1 hh hl hv hz hn fun h' tk t' hk=>⟨qf1 _ _ _,h h' tk t' hk⟩) fun obj s₁ h₁=>?_
 exact ⟨h₁.1,F.args_object_init_2 obj _,object_init_meets kE1.init.lookup kE1.made (by decide) prog w A.in1 _ s₁ ⟨h₁.1,rfl,h₁.2⟩⟩
theorem yH9:BM "bytes" (qH "join") "bytes.join":=⟨FB.plainAttrs_bytes,kY,yt1⟩
variable {Q:AV->St->Prop}
variable {i:Nat}
theorem yS7 (O:CxOk c) (hi:σ.H[i]? =some (.list (bs.map fun b=>.int b.toNat))) (hn:bs.length<=1000000) (q:Q (.bytes bs) σ):jL T c (.type "bytes") [.ref i] Q X σ:=fun vs μ s rl p=>by
 refine jp p.ofCons fun o_ o_ hz54 e1 er=>?_;subst hz54;obtain rfl:=er.ofNil
 refine kK (rl.rh.at hi) fun la hm its n hd el=>?_;apply e1.xref;intro _ em;rw [hm] at em;obtain rfl:=qq em;have el':ErL T μ s.heap its ((bs.map fun b=>(b.toNat:Int)).map .int):=by exact rz List.map_map el
 refine x_EA (y23 el') fun xs hz55 hx=>?_;subst hz55;have hlen:xs.length=bs.length:=by have:=congrArg List.length hx;simpa using this
 refine yG5 (bs:=bs) O.hnd ⟨_,hd,rfl,n,rfl⟩ (fun j v hv=>?_) (by simp [hlen]) hn fun h' tk t' hk=>?_
 ·have hv:(xs.map fun p=>Value.int p.1 p.2)[j]? =some v:=by simpa using hv
  rw [qt] at hv;refine x_EA (Option.map_eq_some_iff.mp hv) fun p hp hz56=>?_;subst hz56;refine ⟨p.2,?_⟩;have h1:(xs.map (·.1))[j]? =some p.1:=by refine rz qt ?_;refine rz hp ?_;rfl
  rw [hx,qt] at h1;refine x_EA (Option.map_eq_some_iff.mp h1) fun b hb e=>rz (Eq.symm e) ?_;have:bs.getD j 0=b:=by refine rz List.getD_eq_getElem?_getD ?_;refine rz hb ?_;rfl
  exact rz this rfl
 ·have a2:=(rl.at (g:=hpp s)).keeps hk;exact ⟨μ,_,σ,a2,.bytes _ _,q⟩
theorem yR9 (O:CxOk c) {x y:List UInt8} (hi:σ.H[i]? =some (.list [.bytes x,.bytes y])) (hn:x.length+y.length<=1000000) (q:Q (.bytes (x++y)) σ):jL T c (.builtin "bytes.join") [.bytes [],.ref i] Q X σ:=fun vs μ s rl p=>by
 refine jp p.ofCons fun o_ o_ hz57 e0 er=>?_;subst hz57;obtain ⟨_,_,rfl,e1,er⟩:=er.ofCons
 obtain rfl:=er.ofNil
 refine kK (rl.rh.at hi) fun la hm its n hd el=>?_;apply e0.xbytes;intro t;apply e1.xref;intro _ em;rw [hm] at em;obtain rfl:=qq em;obtain ⟨_,_,rfl,a1,el⟩:=el.ofCons
 obtain ⟨_,_,rfl,a2,el⟩:=el.ofCons
 obtain rfl:=el.ofNil
 cases a1 with
 |bytes _ t1=>
  cases a2 with
  |bytes _ t2=>
   refine yv8 (x:=⟨x⟩) (y:=⟨y⟩) hd rfl rfl (by simpa using hn) ?_;have a3:=(rl.at (g:=hpp s)).keeps (h':=s.heap) fun o_ o_ e=>e;have e:((⟨x⟩:Array UInt8)++⟨y⟩)=⟨x++y⟩:=by simp
   exact rz e (⟨μ,_,σ,a3,.bytes _ _,q⟩)
variable {μ:List Addr} {h:Heap} {p:Value->Prop} {v:Value}
theorem Er.xclo {w:AV} (e:Er T μ h v (.clo k w)) (kk:∀{a ca c:Addr} {pm ct rv:Value} {lam:Lam} {oc ocell:Obj} {vs:Array Value} {t:Tok},T.lamOk k lam=true->h.get? a=some (kla_obj "<lambda>" lam.qual lam.params lam.body lam.scope [(lam.cap,ca)] pm c ct)->h.get? c=some oc->oc.data=.fields vs->vs[1]? =some (.str lam.qual t)->h.get? ca=some ocell->ocell.data=.cell (some rv)->Er T μ h rv w->p (.ref a)):p v:=by
 cases e with
 |clo a b c d e f g h=>exact kk a b c d e f g h
end
section
variable {T:Tab}
inductive MH (T:Tab) (c:Cx) (n:Nat) (name:Str) (args:(List AV->St->Prop)->St->Prop) (Q:AV->St->Prop) (X:St->Prop) (σ:St):AV->Prop
 |fn {i C j l f} (hi:σ.H[i]? =some (.inst C j)) (hj:σ.H[j]? =some (.dict l)) (h1:plainGet T.K C name=true) (h2:findIn T.K (.ref C) name=some (some (.ref f))) (h3:isFn T.K (.ref f)=true) (h4:keepIn T.K (.ref f)=true)
  (h5:kA l=true) (h6:dget l n=none) (h:args (fun as σ2=>yV2 T c (.ref f) (.ref i::as) Q X σ2) σ):MH T c n name args Q X σ (.ref i)
 |clo {i C j l kk v} (hi:σ.H[i]? =some (.inst C j)) (hj:σ.H[j]? =some (.dict l)) (hp:kD T.K C name=true) (hg:dget l n=some (.clo kk v)) (h:args (fun as σ2=>ys3 T c (.clo kk v) as Q X σ2) σ):MH T c n name args Q X σ (.ref i)
 |bm {a Tn id} (b:BM Tn name id) (t:tnOf σ.H a=some Tn) (h:args (fun as σ2=>jL T c (.builtin id) (a::as) Q X σ2) σ):MH T c n name args Q X σ a
variable {c:Cx} {σ:St} {Q:AV->St->Prop} {X:St->Prop} {n:Nat} {name:Str} {apos pos:Pos} {es:List Expr}
theorem y413 (O:CxOk c) {o:Expr} (hb:z7 o=true) (hl:(apos.endLine==pos.line)=true) (hs:ju es=true) (hn:(decide (es.length<30))=true) (hname:T.names[n]? =some name)
 (h:W T c (Er T) (eval o c.env) (fun a σ1=>MH T c n name (fun Ql σ=>W T c (ErL T) (spliced (backTo pos (qX es c.env))) Ql X σ) Q X σ1 a) X σ):
 W T c (Er T) (eval (.Call (.Attribute o name apos) es [] pos) c.env) Q X σ:=fun μ s rl=>by
 refine x_E (y9 (env:=c.env) (name:=name) hb hl hs hn) fun pl he=>methodCall_KW (pl:=pl) (h.go rl.at fun v1 s1 μ1 a σ1 a1 e1 h1 p1 k1=>?_) he;cases h1 with
 | @fn i C j l f hi hj hg hf hi' hk al dn h1=>
  exact zF a1.rel.rh hi hj fun x dx es' m hx hdx I hd er o_=>yk4 e1 hx▸method_fn a1.rel.rh.top I (plainGet_of hg).1 (plainGet_of hg).2 hf (beq_iff_eq.mp hi') (congrArg (Option.map _) (y26 hname er al dn))
   (ku1 (P:=T.K.In) hs (keeps_K hk) (W.go h1 a1 fun vs s2 μ2 l σ2 a2 e2 h2 p2 k2=>⟨a2.rel.rh.top,h2.wat O a2 (.cons (.ref (p2.get hx)) e2) fun v s' μ' av σ' a' er q=>⟨μ',av,σ',a',er,q⟩⟩))
 | @clo i C j l kk v hi hj hp hg h1=>
  refine zF a1.rel.rh hi hj fun x dx es' m hx hdx I hd er o_=>yk4 e1 hx▸yD hp fun g1 o_ g3 o_ o_ o_=>method_usual (r:=none) a1.rel.rh.top I (plainGet_of g1).1 (plainGet_of g1).2 g3 rfl
   (y31 a1.rel (.ref hx) hname (.mk (Q:=fun fa σ1=>fa=.clo kk v) hi hj hname hp hg rfl) fun rv av er q=>?_)
  subst q;have er0:=er
  revert er0
  apply er.xclo;intro fa ca c' pm ct rv' lam' oc ocell fvs t _ ho _ _ _ _ _ _ er0;exact ku1 (s:={s1 with toks:=s1.toks+1}) (first:=[]) (P:=fun h=>h.get? fa=some (kla_obj "<lambda>" lam'.qual lam'.params lam'.body lam'.scope [(lam'.cap,ca)] pm c' ct)) hs (fun h z=>⟨.frame,.inl rfl,(Looks.ld (part:=none) z).andThen .now⟩)
   (W.go (s:={s1 with toks:=s1.toks+1}) h1 a1 fun vs s2 μ2 l σ2 a2 e2 h2 p2 k2=>⟨k2 _ _ ho (.inr (.inl ⟨_,rfl⟩)),h2.wat O a2 (er0.keep p2 k2) e2 fun v s' μ' av σ' a' er q=>⟨μ',av,σ',a',er,q⟩⟩)
 | @bm a Tn id bm ht h1=>
  have tn:=yU11 a1.rel.rh e1 ht;exact getMethod_builtin tn.ty bm.pa bm.slot bm.ty (fun x q=>(q▸tn.nd:yG6 (fun x=>∃o,s1.heap.get? x=some o/\o.dict=none) (.ref x))) (za1 (n:="") (.inr ⟨_,rfl⟩) hs (W.go h1 a1 fun vs s2 μ2 l σ2 a2 e2 h2 p2 k2=>
   (h2 (v1::vs)).go a2 (.cons (e1.keep p2 k2) e2) fun v s' μ' av σ' a' er q o_ o_=>⟨μ',av,σ',a',er,q⟩))
variable {as:List AV}
theorem yl10 (O:CxOk c) {o:AV} (h:yu8 o as Q σ):jL T c (.builtin "bytes.join") (o::as) Q X σ:=
 yf6 h.1▸yi5 (p:=fun as=>jL T c (.builtin "bytes.join") (.bytes []::as) Q X σ) h.2 fun w h=>jg h fun m e h=>yg5 (p:=fun w=>jL T c (.builtin "bytes.join") [.bytes [],w] Q X σ) e fun j hj=>jp h fun x y hm h1 h2=>yR9 O (hm▸hj) h1 h2
variable {P:Prg}
variable {a:AV}
theorem yC7 (O:CxOk c) (h:bi1 P .bytes a Q σ):jL T c (kB .bytes) [a] Q X σ:=
 jg h fun l e h=>yg5 (p:=fun a=>jL T c (kB .bytes) [a] Q X σ) e fun i hi=>jR h fun bs hb h1 h2=>yS7 O (hb▸hi) (by rw [hb,qF] at h1;exact h1) h2
noncomputable def tyB (n:Nat):String:=["list","dict","bytes"].getD n ""
theorem yq14 (b:BM1):BM (tyB b.ty) (yF3 b) (bmId b):=by
 rcases b with _|_|_|_|_|_
 ·exact yU6
 ·exact yV6
 ·exact y911
 ·exact yy5
 ·exact y811
 ·exact yH9
variable {mk:MK}
variable {N:FT}
variable {ad:Nat->Addr}
variable {Γ:Ora}
theorem yR5 (K:Ok T P N ad) (O:CxOk c) (hname:T.names[n]? =some name) {t:Nat} (ht:tnOf σ.H a=some (tyB t)) (h:mkB P n t=some mk):
 W T c (ErL T) (spliced (backTo pos (qX es c.env))) (fun as σ2=>yj3 Γ mk a as Q X σ2) X σ->MH T c n name (fun Ql σ=>W T c (ErL T) (spliced (backTo pos (qX es c.env))) Ql X σ) Q X σ a:=
 ob_e h fun b hb h=>yq11 (p:=fun mk=>W T c (ErL T) (spliced (backTo pos (qX es c.env))) (fun as σ2=>yj3 Γ mk a as Q X σ2) X σ->MH T c n name (fun Ql σ=>W T c (ErL T) (spliced (backTo pos (qX es c.env))) Ql X σ) Q X σ a) h fun e q'=>
  .bm (K.bm _ _ _ hb hname▸yq14 b) ((Nat.eq_of_beq_eq_true e)▸ht) (q'.q fun as σ2 h=>y611 K O (yl10 O) h)
variable {k:Nat}
variable {sc:Scope}
variable {lm:Bool}
variable {j:Nat}
theorem yt13 (K:Ok T P N ad) (G:kj1 T ad k Γ) (C:Ctx T sc lm k c) (hname:T.names[n]? =some name) {i:Nat} {Ca:Addr} {d:List (AV×AV)} (hi:σ.H[i]? =some (.inst Ca j)) (hj:σ.H[j]? =some (.dict d)) (h:mkI P Ca n d=some mk)
 (q':W T c (ErL T) (spliced (backTo pos (qX es c.env))) (fun as σ2=>yj3 Γ mk (.ref i) as Q X σ2) X σ):MH T c n name (fun Ql σ=>W T c (ErL T) (spliced (backTo pos (qX es c.env))) Ql X σ) Q X σ (.ref i):=by
 delta mkI at h;rcases hf:P.mth Ca n with _|f
 ·rw [hf] at h;exact ob_e h fun v hv h=>ob_e h fun p hp h=>yq11 (p:=fun mk=>W T c (ErL T) (spliced (backTo pos (qX es c.env))) (fun as σ2=>yj3 Γ mk (.ref i) as Q X σ2) X σ->MH T c n name (fun Ql σ=>W T c (ErL T) (spliced (backTo pos (qX es c.env))) Ql X σ) Q X σ (.ref i)) h (fun ha q'=>.clo hi hj (K.atr _ _ _ ha hname) (hv.trans (congrArg some (yW7 hp))) (q'.q fun as σ2 h=>yW6 G C.rm h)) q'
 ·rw [hf] at h;refine x_A (if_e h) fun hd e=>?_;obtain rfl:=qq e
  exact kJ (K.mth _ _ _ _ hf hname) fun g1 g2 g3 g4=>.fn hi hj g1 g2 g3 g4 hd.1 hd.2 (q'.q fun as σ2 h=>yS1 G C.rm h)
theorem yu15 (K:Ok T P N ad) (G:kj1 T ad k Γ) (C:Ctx T sc lm k c) (hname:T.names[n]? =some name):yb1 P σ.H a n=some mk->
 W T c (ErL T) (spliced (backTo pos (qX es c.env))) (fun as σ2=>yj3 Γ mk a as Q X σ2) X σ->MH T c n name (fun Ql σ=>W T c (ErL T) (spliced (backTo pos (qX es c.env))) Ql X σ) Q X σ a:=by cases a with
 |ref i=>exact fun h=>ob_e h fun o ho=>by cases o with
  |inst Ca j=>exact fun h=>ob_e h fun d hd h=>yt13 K G C hname ho (yU hd) h
  |list l=>exact yR5 K C.O hname (t:=0) (y35 ho)
  |dict l=>exact yR5 K C.O hname (t:=1) (yd9 ho)
  |_=>exact fun h=>ja h
 |bytes l=>exact yR5 K C.O hname (t:=2) rfl
 |_=>exact fun h=>ja h
theorem yD12 (K:Ok T P N ad) (G:kj1 T ad k Γ) {o l:E} {ox:Expr} (h:(jE N n name&&z7 ox&&apos.endLine==pos.line&&ju es&&decide (es.length<30))=true) (ho:EvOk T P k Γ sc lm o ox) (hl:LsOk T P k Γ sc lm l es):EvOk T P k Γ sc lm (.meth o n l) (.Call (.Attribute ox name apos) es [] pos):=jH rfl fun C Q X σ q=>
 have h4:=and2 h;have h3:=and2 h4.1;have h2:=and2 h3.1;have h1:=and2 h2.1
 y413 C.O h1.2 h2.2 h3.2 h4.2 (jJ K h1.1) ((ho.v C q).q fun a σ1 q=>jg q fun mk hm q=>yu15 K G C (jJ K h1.1) hm ((hl C q).q fun o_ o_ q=>kH q))
theorem yp14 (f:Bid):(∃n,kB f=.type n)\/∃id,kB f=.builtin id:=by rcases f with _|_|_|_|_<;>first|exact .inl ⟨_,rfl⟩|exact .inr ⟨_,rfl⟩
variable {x:Str} {p:Pos}
theorem f_bi (K:Ok T P N ad) {f:Bid} {l:E} (h:(x==km1 f&&gi sc x&&ju es)=true) (hl:LsOk T P k Γ sc lm l es):EvOk T P k Γ sc lm (.bi f l) (.Call (.Name x p) es [] pos):=jH rfl fun C Q X σ q=>by
 have h2:=and2 h;have h1:=and2 h2.1;obtain rfl:=eq_of_beq h1.1
 refine y010 K.TO.toTabOk C.O ((C.ko _).trans (kM h1.2).1) (K.bi f).1 (K.bi f).2 (kM h1.2).2 (yp14 f) h2.2 ((hl C q).q fun as σ1 q=>?_);have q:biQ P f as Q σ1:=kH q;delta biQ at q;exact yi5 (p:=fun as=>jL T _ (kB f) as Q X σ1) q fun a q=>y511 K C.O (yC7 C.O) q
variable {ik:IK}
theorem yN12 {c:_} (K:Ok T P N ad) (O:CxOk c) {b:Bool} (hk:ikOk N ik=true) (h:isiV P σ.H a ik=some b) (q:Q (.bool b) σ):
 ∀v,Wat T c (Er1 T v a) (Er T) (call (.builtin "isinstance") [v,zr ik]) Q X σ:=fun v=>(yj10 K O hk h v).wat O q
theorem yi10 (K:Ok T P N ad) (O:CxOk c) (ko:∀x,c.env.kindOf x=sc.names.lookup x) (h:(gi sc x&&ikB N ik x)=true):ikOk N ik=true/\
 ∀{s:Shared},T.K.In s.heap->∀{Q':Value->Shared->Prop} {E},Q' (zr ik) s->wpAny T.M c.A (eval (.Name x p) c.env) Q' E s:=by
 refine x_A (and2 h) fun h1 h2=>?_;have hk:=(ko x).trans (kM h1).1;have hd:=(kM h1).2;have bt:∀t:String,t∈["int","bool","bytes","tuple"]->x=qH t->∀{s:Shared},T.K.In s.heap->∀{Q':Value->Shared->Prop} {E},Q' (.type t) s->wpAny T.M c.A (eval (.Name x p) c.env) Q' E s:=fun t ht e s X Q' E q=>by
  subst e;obtain ⟨g1,g2⟩:=K.ik t ht
  exact yz5 K.TO.toTabOk O hk g1 g2 hd X q
 rcases ik with _|_|_|_|C
 ·exact ⟨rfl,bt _ (by simp) (eq_of_beq h2)⟩
 ·exact ⟨rfl,bt _ (by simp) (eq_of_beq h2)⟩
 ·exact ⟨rfl,bt _ (by simp) (eq_of_beq h2)⟩
 ·exact ⟨rfl,bt _ (by simp) (eq_of_beq h2)⟩
 ·have e:=eq_of_beq h2;exact ⟨by refine (?_:(N.cn C).isSome=true);refine rz e ?_;rfl,fun {s} X Q' E q=>y74 K.TO.toTabOk O hk (K.cn C x e) hd X q⟩
theorem yK14 (K:Ok T P N ad) {e:E} {y:Str} {a:Expr} {p':Pos} (h:(x==qH "isinstance"&&gi sc x&&ju [a,.Name y p']&&(gi sc y&&ikB N ik y))=true) (ha:EvOk T P k Γ sc lm e a):EvOk T P k Γ sc lm (.isi e ik) (.Call (.Name x p) [a,.Name y p'] [] pos):=jH rfl fun C Q X σ q=>by
 refine x_A (and2 h) fun h13 h4=>x_A (and2 h13) fun h12 h3=>x_A (and2 h12) fun h1 h2=>?_;obtain rfl:=eq_of_beq h1
 obtain ⟨g1,g2⟩:=K.isi
 obtain ⟨k1,k3⟩:=yi10 K C.O C.ko h4
 intro μ s rl;refine Call_Name rfl (yz5 K.TO.toTabOk C.O ((C.ko _).trans (kM h2).1) g1 g2 (kM h2).2 rl.rh.top (za1 (n:="") (.inr ⟨_,rfl⟩) h3 ?_));refine wpAny_items_cons ((ha.v C q).go rl.at fun v1 s1 μ1 a σ1 a1 e1 q p1 kp1=>?_) (kc (and2 h3).1);refine wpAny_items_cons (k3 a1.rel.rh.top (wpAny_items_nil ?_)) (kc rfl);exact x_EA (yZ q) fun b' hb q=>(yN12 K C.O k1 hb q v1).go a1 e1 fun v s2 μ2 d σ2 a2 e2 q o_ o_=>⟨μ2,d,σ2,a2,e2,q⟩
noncomputable abbrev SlS (s:Shared) (a b:Value):Shared:={s with heap:=s.heap.push {cls:=.type "slice",data:=.fields #[a,b,.none]}}
variable {μ₀ μ:List Addr} {h₀:Hp} {s:Shared} {v1 v2 v3:Value} {x y:Option Int} {A:Around} {E:Value->Shared->Prop} {l:List AV} {value:Expr} {lo hi:Option Expr}
theorem y16 {l:List UInt8} {t:Tok} (a:At T c μ₀ h₀ σ μ (hpp s)) (ix:IsPart v2 x) (iy:IsPart v3 y) (hl:l.length<=1000000) (q:Q (.bytes (cut l x y)) σ):
 wpAny T.M A (subscriptTail value (.Slice lo hi none p) (.bytes ⟨l⟩ t) (.ref s.heap.objs.size)) (WQ T c (Er T) Q μ₀ h₀) E (SlS s v2 v3):=by
 refine yG (Tn:="bytes") (qf1 _ _ _) FB.slot_bytes_getitem.lookup (getItem_meets (qf1 _ _ _) (by decide) FB.slot_bytes_getitem FB.entry_bytes_getitem (FB.args_bytes_getitem_2 _ _) (PySem.W.KBc.meets_slice2 ⟨l⟩ t _ ix iy) ⟨Heap.IsSliceOf.new s.heap v2 v3 .none,?_,fun t' k=>?_⟩)
 ·exact qb (PySem.W.KBc.size_picked_le _ _ _) (by refine rz qY ?_;simp;lia)
 ·rw [PySem.W.KBc.picked_eq];exact ⟨μ,_,σ,a.keeps (jm _ _),.bytes _ _,q⟩
variable {its:List Value}
theorem y24 {la:Addr} {o:Obj} (a:At T c μ₀ h₀ σ μ (hpp s)) (ix:IsPart v2 x) (iy:IsPart v3 y) (ho:s.heap.get? la=some o) (h1:o.cls=.type "list") (h2:o.data=.seq ⟨its⟩ n) (el:ErL T μ s.heap its l) (hl:l.length<=1000000) (q:Q (.ref σ.H.length) ⟨σ.H++[.list (cut l x y)],σ.m⟩):
 wpAny T.M A (subscriptTail value (.Slice lo hi none p) (.ref la) (.ref s.heap.objs.size)) (WQ T c (Er T) Q μ₀ h₀) E (SlS s v2 v3):=by
 have kp:=jm s.heap {cls:=.type "slice",data:=.fields #[v2,v3,.none]};have hd:=kp _ _ ho;have a4:=a.keeps kp;refine yG (Tn:="list") ⟨_,hd,h1⟩ F.slot_list_getitem.lookup (wpAny_getItem_list_slice (s:=SlS s v2 v3) (items:=its.toArray) ⟨o,hd,h1,n,h2⟩ (Heap.IsSliceOf.new s.heap v2 v3 .none) ix iy .none (by simp) ?_ (by refine rz qG (rz el.length (rz qY ?_));lia));have hcl:ErL T μ (SlS s v2 v3).heap (cut its x y) (cut l x y):=by
  unfold cut;exact rz el.length (((el.keep (.refl _) (.of_keeps kp)).drop _).take _)
 have hob:({cls:=.type "list",data:=.seq (slicePick its.toArray x y none)}:Obj)=jz (cut its x y) 0:=by
  rw [yY8];rfl
 exact rz hob (⟨_,_,_,a4.push (o:=jz (cut its x y) 0) (ao:=.list (cut l x y)) ⟨_,0,qK _ rfl,hcl.keep (.snoc _ _) (.of_keeps (jm _ _))⟩,.ref (by refine rz (Eq.symm a4.rel.rh.len) ?_;simp),q⟩)
variable {t:Addr} {z:Int}
theorem y07 (a:At T c μ₀ h₀ σ μ (hpp s)) (iy:IsPart v3 (some z)) (ho:s.heap.get? t=some (j9 its)) (el:ErL T μ s.heap its l) (h0:0<=z) (hz:l.length<=1000) (q:Q (.tup (l.take z.toNat)) σ):
 wpAny T.M A (subscriptTail value (.Slice lo hi none p) (.ref t) (.ref s.heap.objs.size)) (WQ T c (Er T) Q μ₀ h₀) E (SlS s .none v3):=by
 have kp:=jm s.heap {cls:=.type "slice",data:=.fields #[.none,v3,.none]};have ho':=kp _ _ ho;have a4:=a.keeps kp;have el':=el.keep (.refl μ) (.of_keeps kp);have hl:=el.length;refine yG (Tn:="tuple") ⟨_,ho',rfl⟩ slot_tuple_getitem.lookup ?_;cases iy with
 |int _ u=>
  have hzz:(z.toNat:Int)=z:=Int.toNat_of_nonneg h0;refine ya (b:=z.toNat) (u:=u) ⟨_,ho',rfl,0,rfl⟩ (by exact rz hzz (Heap.IsSliceOf.new s.heap _ _ _)) (fun hb=>?_) ?_ (by refine rz qG (rz hl (rz qY ?_));lia)
  ·refine ⟨μ,_,σ,a4,?_,q⟩;refine rz (List.take_of_length_le (by refine rz (Eq.symm hl) ?_;simpa using hb)) ?_;exact .tup ho' el'
  ·exact ⟨μ,_,σ,a4.keeps (jm _ _),.tup (its:=its.take z.toNat) (qK _ rfl) ((el'.take _).keep (.refl _) (.of_keeps (jm _ _))),q⟩
theorem yZ7 (a:At T c μ₀ h₀ σ μ (hpp s)) (ix:IsPart v2 (some z)) (ho:s.heap.get? t=some (j9 its)) (el:ErL T μ s.heap its l) (h0:1<=z) (hz:z<=l.length/\l.length<=1000) (q:Q (.tup (l.drop z.toNat)) σ):
 wpAny T.M A (subscriptTail value (.Slice lo hi none p) (.ref t) (.ref s.heap.objs.size)) (WQ T c (Er T) Q μ₀ h₀) E (SlS s v2 .none):=by
 have kp:=jm s.heap {cls:=.type "slice",data:=.fields #[v2,.none,.none]};have ho':=kp _ _ ho;have a4:=a.keeps kp;have hl:=el.length;refine yG (Tn:="tuple") ⟨_,ho',rfl⟩ slot_tuple_getitem.lookup ?_;cases ix with
 |int _ u=>
  have hzz:(z.toNat:Int)=z:=Int.toNat_of_nonneg (by lia);refine getItem_tuple_from (a:=z.toNat) (u:=u) ⟨_,ho',rfl,0,rfl⟩ (by exact rz hzz (Heap.IsSliceOf.new s.heap _ _ _)) (by lia) (by refine rz qG (rz hl ?_);lia) ?_ (by refine rz qG (rz hl (rz qY ?_));lia);exact ⟨μ,_,σ,a4.keeps (jm _ _),.tup (its:=its.drop z.toNat) (qK _ rfl) (((el.keep (.refl μ) (.of_keeps kp)).drop _).keep (.refl _) (.of_keeps (jm _ _))),q⟩
theorem yn3 (e:Er T μ s.heap v1 a):kG a=some none->v1=.none:=
 e.xall (p:=fun v a=>kG a=some none->v=.none) (fun o_=>rfl) (fun o_=>ja) (fun o_ o_ q=>ja (qq q).symm) (fun o_ o_=>ja) (fun o_ o_=>ja) (fun o_=>ja) (fun o_ o_=>ja) (fun o_ o_=>ja) ja
noncomputable def CutW (T:Tab) (c:Cx) (Q:AV->St->Prop) (μ₀:List Addr) (h₀:Hp) (E:Value->Shared->Prop) (s:Shared) (A:Around) (value:Expr) (lo hi:Option Expr) (p:Pos) (v2 v3 v1:Value):Prop:=wpAny T.M A (subscriptTail value (.Slice lo hi none p) v1 (.ref s.heap.objs.size)) (WQ T c (Er T) Q μ₀ h₀) E (SlS s v2 v3)
variable {d:AV}
theorem yX9 {e:AV} (a:At T c μ₀ h₀ σ μ (hpp s)) (e2:Er T μ s.heap v2 d) (e3:Er T μ s.heap v3 e) (px:kG d=some x) (py:kG e=some y) (ho:s.heap.get? t=some (j9 its)) (el:ErL T μ s.heap its l) (h:cutT l x y Q σ):CutW T c Q μ₀ h₀ E s A value lo hi p v2 v3 (.ref t):=by
 rcases x with _|z
 ·refine jg h fun z hz h=>?_;subst hz;exact yn3 e2 px▸y07 a (yA1 e3 py) ho el h.1.1 h.1.2 h.2
 ·have hy:=h.1;subst hy;exact yn3 e3 py▸yZ7 a (yA1 e2 px) ho el h.2.1.1 h.2.1.2 h.2.2
theorem yl12 (K:Ok T P N ad) {b e:AV} (a:At T c μ₀ h₀ σ μ (hpp s)) (e1:Er T μ s.heap v1 b) (e2:Er T μ s.heap v2 d) (e3:Er T μ s.heap v3 e) (px:kG d=some x) (py:kG e=some y) (h:cutX P b x y Q σ):CutW T c Q μ₀ h₀ E s A value lo hi p v2 v3 v1:=
 have ix:=yA1 e2 px;have iy:=yA1 e3 py
 e1.xall (p:=fun v b=>cutX P b x y Q σ->CutW T c Q μ₀ h₀ E s A value lo hi p v2 v3 v) (fun h=>h.elim) (fun o_ h=>h.elim) (fun o_ o_ h=>h.elim) (fun o_ o_ h=>h.elim) (fun l t h=>y16 a ix iy h.1 h.2)
  (fun em h=>jg h fun l hl h=>jk (a.rel.rh.o _ _ _ em (j6 hl)) fun its n hd el=>y24 a ix iy hd rfl rfl el h.1 h.2)
  (fun ho el h=>yX9 a e2 e3 px py ho el h) (fun o_ o_ h=>h.elim)
  (fun {ad} h=>jg h fun l hl h=>jD (K.tl _ _ hl) fun o its n k1 k2 k3 el=>y24 a ix iy (a.rel.rh.top _ _ k1) k2 k3 (el _ _) h.1 h.2) h
variable {v:Expr}
theorem ys9 (K:Ok T P N ad) (h:W T c (Er T) (eval v c.env) (fun a σ1=>yI1 T c lo (fun x σ2=>yI1 T c hi (fun y σ3=>cutQ P a x y Q σ3) X σ2) X σ1) X σ):
 W T c (Er T) (eval (.Subscript v (.Slice lo hi none p) pos) c.env) Q X σ:=fun μ s rl=>by
 refine Subscript_ (h.go rl.at fun v1 s1 μ1 a σ1 a1 e1 h1 p1 k1=>wpAny_Slice (h1.go a1 fun v2 s2 μ2 b σ2 a2 e2 h2 p2 k2=>h2.go a2 fun v3 s3 μ3 d σ3 a3 e3 h3 p3 k3=>?_));rw [evalPart_none];have h3:cutQ P a b d Q σ3:=h3;delta cutQ at h3;exact jg h3 fun x px h3=>jg h3 fun y py h3=>qQ (yl12 K a3 (e1.keep (p2.trans p3) (k2.trans k3)) (e2.keep p3 k3) e3 px py h3)
theorem f_oN:PtOk T P k Γ sc lm .none none:=fun C Q X σ q=>q
end
section
variable {T:Tab}
variable {P:Prg}
variable {k:Nat}
variable {Γ:Ora}
variable {sc:Scope}
variable {lm:Bool}
theorem f_oS {e:E} {x:Expr} (h:EvOk T P k Γ sc lm e x):PtOk T P k Γ sc lm e (some x):=fun C Q X σ q=>h.v C q
variable {c:Cx} {σ:St} {X:St->Prop} {Q Q':AV->St->Prop}
theorem yw13 {x:Option Expr} (h:yI1 T c x Q X σ) (k:∀a σ,Q a σ->Q' a σ):yI1 T c x Q' X σ:=by
 rcases x with _|x
 ·exact k _ _ h
 ·exact W.q h k
variable {N:FT}
variable {ad:Nat->Addr}
variable {p pos:Pos}
theorem y49 (K:Ok T P N ad) {a lo hi:E} {v:Expr} {l h:Option Expr} (ha:EvOk T P k Γ sc lm a v) (hl:PtOk T P k Γ sc lm lo l) (hh:PtOk T P k Γ sc lm hi h):EvOk T P k Γ sc lm (.slice a lo hi) (.Subscript v (.Slice l h none p) pos):=jH rfl fun C Q X σ q=>
 ys9 K ((ha.v C q).q fun o_ o_ q=>yw13 (hl C q) fun o_ o_ q=>hh C q)
theorem y22 {f:Str×NameKind->List (Str×Addr)->Sem (ForInStep (List (Str×Addr)))} (hf:∀y cs,y.2≠.free->f y cs=pure (.yield cs)):∀(names:List (Str×NameKind)) (cs:List (Str×Addr)),names.filter (·.2== .free)=[]->forIn names cs f=pure cs
 |[],cs,_=>by exact rz List.forIn_nil rfl
 |y::r,cs,h=>by
  have hy:(y.2==NameKind.free)=false:=by
   cases e:(y.2==NameKind.free) with
   |false=>rfl
   |true=>rw [List.filter_cons,e] at h;simp at h
  rw [List.filter_cons,hy] at h;rw [List.forIn_cons,hf y cs (beq_eq_false_iff_ne.mp hy),pure_bind];exact y22 hf r cs (by simpa using h)
variable {cap:Str} {ca:Addr}
theorem yY4 {kd:NameKind} {f:Str×NameKind->List (Str×Addr)->Sem (ForInStep (List (Str×Addr)))} (hf:∀y cs,y.2≠.free->f y cs=pure (.yield cs)) (hc:∀kd cs,kd=NameKind.free->f (cap,kd) cs=pure (.yield ((cap,ca)::cs))):
 ∀(names:List (Str×NameKind)) (cs:List (Str×Addr)),names.filter (·.2== .free)=[(cap,kd)]->forIn names cs f=pure ((cap,ca)::cs)
 |[],cs,h=>by simp at h
 |y::r,cs,h=>by
  rw [List.forIn_cons];cases e:(y.2==NameKind.free) with
  |false=>
   rw [List.filter_cons,e] at h;refine rz (hf y cs (beq_eq_false_iff_ne.mp e)) ?_;rw [pure_bind];exact yY4 hf hc r cs (by simpa using h)
  |true=>
   rw [List.filter_cons,e] at h;simp only [if_true,List.cons.injEq] at h;obtain ⟨rfl,h⟩:=h
   refine rz (hc kd cs (eq_of_beq e)) ?_;rw [pure_bind];exact y22 hf r _ h
variable {scope:Scope} {env:Env}
theorem yZ4 {kd:NameKind} (h:scope.names.filter (·.2== .free)=[(cap,kd)]) (hc:env.cells.lookup cap=some ca):closureFor scope env=pure [(cap,ca)]:=by
 refine Eq.trans (congrArg (fun (t:Sem (List (Str×Addr)))=>t>>=fun cs=>pure cs) (yY4 (ca:=ca) (kd:=kd) (cap:=cap) (fun y cs hy=>?_) (fun kd cs hk=>?_) scope.names [] h)) rfl
 ·have:(y.2==NameKind.free)=false:=beq_eq_false_iff_ne.mpr hy;simp [this]
 ·have:cellOf env cap=pure ca:=by unfold cellOf;exact rz hc rfl
  subst hk;simp [this]
variable {n:Nat}
theorem yM14 (K:Ok T P N ad) {ps:Arguments} {body:Expr} (h:(lm&&yM11 ps&&N.lpos n==((pos.line:Int),(pos.col:Int)))=true) (hc:yb2 sc scope=some cap) (hk:N.lm n ps body scope cap=true):EvOk T P k Γ sc lm (.lam n) (.Lambda ps body scope pos):=jH rfl fun {c} C Q X σ q=>by
 refine x_A (and2 h) fun h12 h3=>x_A (and2 h12) fun h1 h2=>x_E (C.lam h1) fun cc L=>?_;unfold yb2 at hc;split at hc
 case h_2=>injection hc
 rename_i cap' kd hfil;split at hc
 case isFalse=>injection hc
 rename_i hcell;obtain rfl:=(qq hc).symm
 refine jg q fun q' hq q=>jg q fun l ht q=>jg q fun v hv q=>?_;have ht:=yP13 ht;have hpos:N.lpos n=((pos.line:Int),(pos.col:Int)):=eq_of_beq h3;rw [K.lpos n,hpos] at q;have hdef:defaultsOf ps c.env=([],[]):=by
  obtain ⟨po,ar,va,kwo,kwd,kwa,df⟩:=ps
  cases kwd<;>cases df<;>first|rfl|exact Bool.noConfusion h2
 exact yo9 K.TO.toTabOk C.O L (kk:=n) (cn:=q'.1) (lam:=⟨c.env.qual++"<lambda>",ps,body,scope,cap⟩) (K.lm _ _ hk) (K.lmc _ _ _ _ _ hk _ hq) ((C.ko _).trans (eq_of_beq hcell)) (fun ca hca=>yZ4 hfil hca) rfl hdef hv ht q.1 q.2
variable {tgt:Tgt}
theorem y25 (K:Ok T P N ad) (ko:∀x,c.env.kindOf x=sc.names.lookup x) {e:Expr} (h:kU N sc tgt e):yH1 T c tgt e:=by
 cases h with
 |one h=>
  exact x_A (and2 h) fun h1 h2=>⟨_,_,rfl,jJ K h1,(ko _).trans (zw h2)⟩
 |two h=>
  exact x_A (and2 h) fun h13 h4=>x_A (and2 h13) fun h12 h3=>x_A (and2 h12) fun h1 h2=>⟨_,_,_,_,_,_,rfl,jJ K h1,(ko _).trans (zw h2),jJ K h3,(ko _).trans (zw h4)⟩
variable {it:E}
theorem yM7 (K:Ok T P N ad) {c:_} (C:Ctx T sc lm k c) {t:String} (ht:t∈["range","enumerate"]) {x:Str} {a:Expr} (ih:EvOk T P k Γ sc lm it a) (hf:(x==qH t&&gi sc x&&ju [a])=true) (h:wp P Γ it Q X σ)
 {μ:List Addr} {s:Shared} (rl:Rel T c σ μ s.heap) {Q':Value->Shared->Prop} (kk:∀v s1 μ1 b σ1,At T c μ (hpp s) σ1 μ1 (hpp s1)->Er T μ1 s1.heap v b->Q b σ1->wpAny T.M c.A (call (.type t) [v]) Q' (EX T c X μ (hpp s)) s1):
 wpAny T.M c.A (eval (.Call (.Name x p) [a] [] pos) c.env) Q' (EX T c X μ (hpp s)) s:=by
 refine x_A (and2 hf) fun h12 h3=>x_A (and2 h12) fun h1 h2=>?_;obtain rfl:=eq_of_beq h1
 obtain ⟨g1,g2⟩:=K.rg t ht
 exact yN7 K.TO.toTabOk C.O ((C.ko _).trans (kM h2).1) g1 g2 (kM h2).2 (.inl ⟨_,rfl⟩) h3 (y85 (kc (and2 h3).1) (Ql:=fun l σ=>∃b,l=[b]/\Q b σ) ((ih.v C h).q fun b o_ q=>yp9 ⟨b,rfl,q⟩)) rl fun vs s1 μ1 l σ1 a1 e1 ⟨b,hl,q⟩=>by
  subst hl;exact e1.x1 (p:=fun vs=>wpAny T.M c.A (call (.type t) vs) Q' (EX T c X μ (hpp s)) s1) fun e=>kk _ _ _ _ _ a1 e q
variable {H:List AO} {src:Src} {a:AV} {p:AV->Src->Prop}
theorem yK6 (k1:∀i l,H[i]? =some (.list l)->p (.ref i) (.list i)) (k2:∀l,p (.tup l) (.tup l)):srcL H a=some src->p a src:=by
 rcases a with _|_|_|_|_|l|i|⟨_,_⟩|_
 ·exact ja
 ·exact ja
 ·exact ja
 ·exact ja
 ·exact ja
 ·exact fun h=>qq h▸k2 l
 ·exact fun h=>om_e h fun l e q=>q▸k1 i l (j6 e)
 ·exact ja
 ·exact ja
theorem yE12 {x:Expr} (h:EvOk T P k Γ sc lm it x):yG1 T P k Γ sc lm .val it x:=
 ⟨fun C Z X σ q μ s rl Q' kk=>(h.v C q).go rl.at fun v s1 μ1 a σ1 a1 e1 q o_ o_=>jg q fun src hs q=>yK6 (p:=fun a src=>Er T μ1 s1.heap v a->kt1 T _ v μ (hpp s) src σ1 s1) (fun i l hi e1=>yf3 a1 hi e1) (fun l e1=>yc5 a1 e1) hs e1|>fun iq=>kk _ _ _ _ iq q,
  fun o_ o_ C Z X σ q μ s rl Q' kk=>(h.v C q).go rl.at fun v s1 μ1 a σ1 a1 e1 q o_ o_=>jg q fun src hs q=>yK6 (p:=fun a src=>Er T μ1 s1.heap v a->kt1 T (noOwn _) v μ1 (hpp s1) src σ1 s1) (fun i l hi e1=>yf3 a1.rel.noOwn.at hi e1) (fun l e1=>yc5 a1.rel.noOwn.at e1) hs e1|>fun iq=>kk _ _ _ _ _ a1 iq q⟩
theorem yp3 (h:srcV H .range a=some src) (k:∀n:Nat,(n:Int)<2^40->p (.int n) (.range 0 n)):p a src:=
 ob_e h fun z e h=>x_A (if_e h) fun hz q=>qq q▸kF e▸yB6 (p:=fun y=>p (.int y) (.range 0 z.toNat)) hz.1 (k z.toNat (by exact rz (Int.toNat_of_nonneg hz.1) hz.2))
variable {x:Str} {a:Expr} {p:Pos}
theorem y97 (K:Ok T P N ad) (h:(x==qH "range"&&gi sc x&&ju [a])=true) (ha:EvOk T P k Γ sc lm it a):yG1 T P k Γ sc lm .range it (.Call (.Name x p) [a] [] pos):=by
 refine ⟨fun C Z X σ q μ s rl Q' kk=>yM7 K C (by simp) ha h q rl fun v s1 μ1 b σ1 a1 e1 q=>jg q fun src hs q=>?_,fun o_ o_ C Z X σ q μ s rl Q' kk=>yM7 K C (by simp) ha h q rl fun v s1 μ1 b σ1 a1 e1 q=>jg q fun src hs q=>?_⟩
 ·exact yp3 (p:=fun b src=>Er T μ1 s1.heap v b->Z src σ1->wpAny T.M _ _ Q' _ s1) hs (fun n hn e1 q=>yZ5 (n:=n) (by lia) a1 (.cons e1 .nil) fun x s' a' iq=>kk _ _ _ _ iq q) e1 q
 ·refine yp3 (p:=fun b src=>Er T μ1 s1.heap v b->Z src σ1->wpAny T.M _ _ Q' _ s1) hs (fun n hn e1 q=>e1.xint (p:=fun v=>wpAny T.M _ (call (.type "range") [v]) Q' _ s1) fun t=>call_range_1 ?_) e1 q;have a2:=a1.keeps (jm s1.heap {cls:=.type "range",data:=.fields #[.int 0 s1.toks,.int n t,.int 1 (s1.toks+1)]});refine kk _ _ _ _ _ a2 (y81 a2.rel.noOwn.at (x:=s1.heap.objs.size) (a:=0) (n:=n) (t:=s1.toks) (u:=t) (v:=s1.toks+1) ?_ (by lia)) q;have:=IsRange.new s1.heap 0 n 1 s1.toks t (s1.toks+1);rw [Nat.zero_add];exact this
theorem y39 (K:Ok T P N ad) (h:(x==qH "enumerate"&&gi sc x&&ju [a])=true) (ha:EvOk T P k Γ sc lm it a):yG1 T P k Γ sc lm .enum it (.Call (.Name x p) [a] [] pos):=
 ⟨fun C Z X σ q μ s rl Q' kk=>yM7 K C (by simp) ha h q rl fun v s1 μ1 b σ1 a1 e1 q=>jg q fun src hs q=>ob_e hs fun i e hs=>om_e hs fun l hl hs=>y68 a1 (j6 hl) (.cons (ja1 e▸e1) .nil) fun x s' a' iq=>kk _ _ _ _ iq (hs▸q),fun z=>absurd rfl z⟩
theorem yt8 {o:Option (Option AV)} {Z:Prop} {g:AV->Option Loc} {F F':Loc->Prop} (k:∀m,F m->F' m):(match o with
 |none=>False
 |some none=>Z
 |some (some a)=>optQ F (g a))->∃ki,o=some ki/\(ki=none->Z)/\∀a,ki=some a->∃m',g a=some m'/\F' m':=by
 rcases o with _|ki
 ·exact fun h=>h.elim
 ·
  rcases ki with _|a
  ·exact fun h=>⟨none,rfl,fun o_=>h,fun o_ q=>ja q⟩
  ·exact fun h=>⟨some a,rfl,fun q=>ja q.symm,fun b q=>qq q▸jg h fun m e w=>⟨m,e,k m w⟩⟩
variable {elt':Expr} {elt:E} {μ:List Addr} {kk:Nat}
theorem y14 {sc0:Scope} (hsc:kc1 scope=true) (C:Ctx T sc0 lm k c) (ihe:EvOk T P k Γ scope false elt elt') {Z:Nat->St->Prop} {μ1:List Addr} {h:Hp} {x:Value} {s1:Shared} {σ1:St} {J:Nat->Nat->St->Prop}
 (a1:At T c μ h σ1 μ1 (hpp s1)) (hg:good src tgt=true) (iq:kt1 T (noOwn c) x μ1 (hpp s1) src σ1 s1) (hJ:J kk 0 ⟨σ1.H++[.list []],[]⟩) (hc:yX7 (wp P Γ elt) σ1.H.length src tgt (fun σ'=>Z σ1.H.length ⟨σ'.H,σ1.m⟩) J):yt7 T c scope [] tgt elt' Z μ h x s1:=by
 exact kJ (kF1 hsc) fun hk hcell hfree o_=>⟨μ1,src,σ1,J,kk,a1,hg,iq,hJ,fun Ca kq n σ' hJ'=>yt8 (fun m w=>(ihe.v (⟨y32 C.O hk,C.rm,yg hfree,fun q=>Bool.noConfusion q⟩:Ctx T scope false k (kh c scope [] Ca)) w).q fun v σ2 q=>jg q fun l hl q=>⟨l,j6 hl,q⟩) (hc kq n σ' hJ')⟩
variable {target iter:Expr}
theorem yz12 (K:Ok T P N ad) {sk:SK} (h:(kc1 scope&&zd iter)=true) (hk:sk≠.enum) (ht:kU N scope tgt target) (he:EvOk T P k Γ scope false elt elt') (hs:yG1 T P k Γ sc lm sk it iter):EvOk T P k Γ sc lm (.comp elt tgt sk it) (.ListComp elt' [⟨target,iter,[],0⟩] scope pos):=jH rfl fun {c} C Q X σ q=>by
 refine x_A (and2 h) fun h1 h2=>kJ (kF1 h1) fun hkd hcell hfree hloc=>yX13 C.O (zE h2) (yq hfree) hcell hkd hloc (fun Ca=>y25 K (fun y=>by refine (?_:(relabel scope c.env).names.lookup y=_);exact rz (yg hfree) rfl) ht) fun μ s rl=>?_;exact hs.g hk C q rl fun x s1 src μ1 σ1 a1 iq ⟨hg,J,kk,hJ,hc⟩=>y14 h1 C he a1 hg iq hJ hc
structure CtxS (T:Tab) (sc:Scope) (lm tr:Bool) (k:Nat) (c:Cx):Prop extends Ctx T sc lm k c where
 fr:∃outer,c.fr=c.env::outer
 L:∃L,c.env.frame=some L
 own:tr=true->∀a∈frs c.fr,a∈c.own
theorem yp5 {e:Expr} (t:Option Expr) (n:Nat) (env:Env):yB e=true->swapsWith e t n env=pure false:=by
 rcases e with ⟨_,_,_⟩|⟨_,_,_⟩|⟨_,_,_,_⟩|⟨_,_,_⟩|⟨_,_,_,_⟩|⟨_,_,_,_⟩|⟨_,_,_⟩|⟨_,_,_⟩|⟨_,_,_,_⟩|⟨_,_,_,_⟩|⟨_,_,_,_,_⟩|⟨_,_,_,_⟩|⟨_,_⟩|⟨_,_⟩|⟨_,_⟩|⟨_,_,_,_⟩|⟨_,_,_,_⟩|⟨_,_,_,_⟩|⟨_,_⟩|⟨_,_,_⟩|⟨_,_,_⟩|⟨_,_,_⟩|⟨_,_⟩|⟨_,_⟩|⟨_,_⟩|⟨_,_,_⟩|⟨_,_,_,_⟩
 ·exact fun o_=>rfl
 ·exact fun o_=>rfl
 ·exact fun o_=>rfl
 ·exact fun o_=>rfl
 ·exact fun o_=>rfl
 ·exact fun o_=>rfl
 ·exact fun o_=>rfl
 ·exact fun o_=>rfl
 ·exact ff
 ·exact ff
 ·exact ff
 ·exact fun o_=>rfl
 ·exact fun o_=>rfl
 ·exact fun o_=>rfl
 ·exact fun o_=>rfl
 ·exact fun o_=>rfl
 ·exact fun o_=>rfl
 ·exact fun o_=>rfl
 ·exact fun o_=>rfl
 ·exact fun o_=>rfl
 ·exact fun o_=>rfl
 ·exact fun o_=>rfl
 ·exact fun o_=>rfl
 ·exact fun o_=>rfl
 ·exact fun o_=>rfl
 ·exact fun o_=>rfl
 ·exact fun o_=>rfl
theorem yI {e t:Expr} (h:Nat.beq t.ctorIdx 23=false) (n:Nat) (env:Env):swapsWith e (some t) n env=pure false:=by
 rcases e with ⟨_,_,_⟩|⟨_,_,_⟩|⟨_,_,_,_⟩|⟨_,_,_⟩|⟨_,_,_,_⟩|⟨_,_,_,_⟩|⟨_,_,_⟩|⟨_,_,_⟩|⟨_,_,_,_⟩|⟨_,_,_,_⟩|⟨_,_,_,_,_⟩|⟨_,_,_,_⟩|⟨_,_⟩|⟨_,_⟩|⟨_,_⟩|⟨_,_,_,_⟩|⟨_,_,_,_⟩|⟨_,_,_,_⟩|⟨_,_⟩|⟨_,_,_⟩|⟨_,_,_⟩|⟨_,_,_⟩|⟨_,_⟩|⟨_,_⟩|⟨_,_⟩|⟨_,_,_⟩|⟨_,_,_,_⟩
 ·rfl
 ·rfl
 ·rfl
 ·rfl
 ·rfl
 ·rfl
 ·rfl
 ·rfl
 ·rcases t with _|_|_|_|_|_|_|_|_|_|_|_|_|_|_|_|_|_|_|_|_|_|_|_|_|_|_<;>first|rfl|exact ff h.symm
 ·rcases t with _|_|_|_|_|_|_|_|_|_|_|_|_|_|_|_|_|_|_|_|_|_|_|_|_|_|_<;>first|rfl|exact ff h.symm
 ·rcases t with _|_|_|_|_|_|_|_|_|_|_|_|_|_|_|_|_|_|_|_|_|_|_|_|_|_|_<;>first|rfl|exact ff h.symm
 ·rfl
 ·rfl
 ·rfl
 ·rfl
 ·rfl
 ·rfl
 ·rfl
 ·rfl
 ·rfl
 ·rfl
 ·rfl
 ·rfl
 ·rfl
 ·rfl
 ·rfl
 ·rfl
variable {px:Pos}
theorem yk7 {gs:List Comprehension} (hb:env.scope.kind=.function) (hx:env.kindOf x=some .local) (hl:(px.line==p.line)=true) (hn:(scope.names.any fun y=>y.1==x&&(y.2== .local||y.2== .cell))=false):
 swapsWith (.ListComp a gs scope p) (some (.Name x px)) n env=pure true:=by
 refine (?_:(pure (env.blockKind== .function&&env.kindOf x==some .local&&px.line==p.line&& !(scope.names.any fun (n,k)=>n==x&&(k== .local||k== .cell))):Sem Bool)=_);have h1:env.blockKind=.function:=by unfold Env.blockKind;refine rz hb ?_;rfl
 refine rz h1 (rz hx (rz hl (rz hn ?_)));rfl
theorem yf1 (h:env.scope=sc) (ts:List Expr) (v:Expr):swappedStores ts v env=swappedStores ts v (y34 sc):=by subst h;rfl
variable {ns:List Nat}
theorem yP8 (K:Ok T P N ad) (ko:∀x,c.env.kindOf x=sc.names.lookup x) {es:List Expr} (h:NFit N sc ns es):yE1 T c ns es:=by
 induction h with
 |nil=>exact .nil
 |cons h _ ih=>exact .cons (jJ K (and2 h).1) ((ko _).trans (zw (and2 h).2)) ih
theorem y96 (K:Ok T P N ad) (ko:∀x,c.env.kindOf x=sc.names.lookup x):∀{es:List Str},y83 N sc ns es=true->ky T c ns es:=by
 induction ns with
 |nil=>intro es h;cases es with
  |nil=>exact .nil
  |cons=>exact ff h
 |cons n ns ih=>intro es h;cases es with
  |nil=>exact ff h
  |cons e es=>exact .cons (jJ K (and2 (and2 h).1).1) ((ko _).trans (zw (and2 (and2 h).1).2)) (ih (and2 h).2)
variable {Qf:AF->St->Prop}
variable {h:Heap} {Q:List AV->St->Prop} {a:AV}
theorem yQ15 {rev:Bool} {v:Value} {p:Value->Prop} (R:RH T μ σ.H h) (k1:∀{t its l},h.get? t=some (j9 its)->ErL T μ h its l->Q l σ->p (.ref t)) (k2:rev=false->∀{t its n l},h.get? t=some (jz its n)->ErL T μ h its l->Q l σ->p (.ref t)):
 unpQ rev Q a σ->Er T μ h v a->p v:=by
 rcases a with _|_|_|_|_|l|i|⟨_,_⟩|_
 ·exact fun w o_=>qJ w
 ·exact fun w o_=>qJ w
 ·exact fun w o_=>qJ w
 ·exact fun w o_=>qJ w
 ·exact fun w o_=>qJ w
 ·exact fun w e=>e.xtup fun ho el=>k1 ho el w
 ·exact fun w e=>jg w.2 fun l hl q=>R.xlist (j6 hl) e fun o_ ho el=>k2 w.1 ho el q
 ·exact fun w o_=>qJ w
 ·exact fun w o_=>qJ w
theorem yr7 (O:CxOk c) {elts:List Expr} {tpos:Pos} {e:Expr} (N:yE1 T c ns elts) (hs:swapsWithSole [.Tuple elts k tpos] e pos.line c.env=pure false) (hw:swappedStores [.Tuple elts k tpos] e c.env=pure none)
 (h:W T c (Er T) (eval e c.env) (unpQ false fun l σ1=>l.length=ns.length/\Qf .next ⟨σ1.H,putAll ns l σ1.m⟩) X σ):W T c (FlR T) (exec (.Assign [.Tuple elts k tpos] e pos) c.env) Qf X σ:=fun μ s rl=>
 Assign_Tuple (h.go rl.at fun v1 s1 μ1 a σ1 a1 e1 h1 p1 k1=>by
  refine x_A (ya7 (c:=c) N) fun n1 n2=>?_;have fin:∀{h':Heap} {its:List Value} {l:List AV},Heap.ExtBut s1.heap.objs.size s1.heap h'->ErL T μ1 s1.heap its l->(l.length=ns.length/\Qf .next ⟨σ1.H,putAll ns l σ1.m⟩)->wpAny T.M c.A (assignInOrder ((assignEach elts c.env).map (·.2)) its) (fun o_ s2=>WQ T c (FlR T) Qf μ (hpp s) .next s2) (EX T c X μ (hpp s)) {s1 with heap:=h'}:=fun {h' its l} hx el q=>
   have kk:∀b o,s1.heap.get? b=some o->h'.get? b=some o:=fun b o e=>hx b o (jc1 e) e
   yq8 (s:={s1 with heap:=h'}) O N (a1.keeps kk) (el.keep (.refl _) (.of_keeps kk)) (el.length.trans q.1) fun s2 a2=>⟨μ1,.next,_,a2,.next,q.2⟩
  revert h1 e1
  refine fun e1 h1=>?_;apply yQ15 a1.rel.rh ?_ ?_ h1 e1
  ·intro t its l ho el q;exact wpAny_assign_Tuple O.hnd (jY ho) (n1.trans ((q.1.symm.trans el.length.symm).trans (qG ..).symm)) n2 fun h' hx=>fin hx el q
  ·intro _ t its n l ho el q;refine (?_:wpAny T.M c.A (do standAt tpos;unpack (.ref t) (assignEach elts c.env)) _ _ s1);refine qP (wpAny_standAt ?_);delta unpack;have hlen:(assignEach elts c.env).length=its.toArray.size:=n1.trans ((q.1.symm.trans el.length.symm).trans (qG ..).symm);refine rz hlen (rz n2 ?_);exact qP (qW (y2 O.hnd (kP ho) fun h' hx=>fin hx el q))) hs hw
variable (T:Tab) (P:Prg) (k:Nat) (Γ:Ora) (sc:Scope) (lm tr:Bool)
noncomputable def XOk (s:S) (x:Stmt):Prop:=∀{c},CtxS T sc lm tr k c->∀{Q:AF->St->Prop} {X:St->Prop} {σ:St},wpS P Γ s Q X σ->W T c (FlR T) (exec x c.env) Q X σ
noncomputable def BOk (s:S) (xs:List Stmt):Prop:=∀{c},CtxS T sc lm tr k c->∀{Q:AF->St->Prop} {X:St->Prop} {σ:St},wpS P Γ s Q X σ->W T c (FlR T) (execs xs c.env) Q X σ
noncomputable def SndS (s:S) (a:Stmt ⊕ List Stmt):Prop:=match a with
 |.inl x=>XOk T P k Γ sc lm tr s x
 |.inr xs=>BOk T P k Γ sc lm tr s xs
variable {T:Tab} {P:Prg} {k:Nat} {Γ:Ora} {sc:Scope} {lm tr:Bool}
variable {e o i t:E} {x v o' i' t':Expr} {s r b:S} {xs b':List Stmt} {q:Pos} {nm:Str} {sk:SK}
theorem yD15 {x:Stmt} (hs:XOk T P k Γ sc lm tr s x) (hr:BOk T P k Γ sc lm tr r xs):BOk T P k Γ sc lm tr (.seq s r) (x::xs):=fun {c} C Q X σ q=>
 y913 ((hs C q).q fun f σ1=>AF.rec (motive:=fun f=>seqK (wpS P Γ r Q X) Q f σ1->match f with
  |.next=>W T c (FlR T) (execs xs c.env) Q X σ1
  |.brk=>Q .brk σ1
  |.cont=>Q .cont σ1
  |.ret v=>Q (.ret v) σ1) (fun q=>hr C q) (fun q=>q) (fun q=>q) (fun o_ q=>q) f)
theorem yK13 (h:yB x=true) (he:EvOk T P k Γ sc lm e x):XOk T P k Γ sc lm tr (.expr e) (.Expr x p):=fun C Q X σ q=>
 y013 (by unfold interactive;refine rz C.O.kind ?_;rfl) (yp5 _ _ _ h) (he.v C.toCtx q)
theorem yA15 (K:Ok T P N ad) (h:(jE N n nm&&lo sc nm&&yB v)=true) (he:EvOk T P k Γ sc lm e v):XOk T P k Γ sc lm tr (.asg n e) (.Assign [.Name nm p] v q):=fun {c} C Q X σ w=>by
 exact x_A (and2 h) fun h12 h3=>x_A (and2 h12) fun h1 h2=>yn9 C.O (jJ K h1) ((C.ko _).trans (zw h2)) (yp5 _ _ _ h3) ((he.v C.toCtx w).q fun v σ q=>q)
theorem yH13 (K:Ok T P N ad) (h:(jE N n nm&&lo sc nm&&px.line==p.line&& !(scope.names.any fun y=>y.1==nm&&(y.2== .local||y.2== .cell)))=true) (h':(kc1 scope&&zd iter)=true) (hk:sk≠.enum) (ht:kU N scope tgt target) (he:EvOk T P k Γ scope false elt elt') (hs:yG1 T P k Γ sc lm sk it iter):
 XOk T P k Γ sc lm tr (.asgC n (.comp elt tgt sk it)) (.Assign [.Name nm px] (.ListComp elt' [⟨target,iter,[],0⟩] scope p) q):=fun {c} C Q X σ w=>by
 refine x_A (and2 h) fun h13 h4=>x_A (and2 h13) fun h12 h3=>x_A (and2 h12) fun h1 h2=>x_A (and2 h') fun g1 g2=>kJ (kF1 g1) fun hkd hcell hfree hloc=>yT2 C.O (yk7 C.O.kind ((C.ko _).trans (zw h2)) h3 (by simpa using h4)) (jJ K h1) ((C.ko _).trans (zw h2)) (zE g2) (yq hfree) hcell hkd hloc (fun Ca=>y25 K (fun y=>by refine (?_:(relabel scope c.env).names.lookup y=_);exact rz (yg hfree) rfl) ht) fun μ s rl=>?_;exact hs.g hk C.toCtx w rl fun x s1 src μ1 σ1 a1 iq ⟨hg,J,kk,hJ,hc⟩=>y14 g1 C.toCtx he a1 hg iq hJ hc
theorem yP15:unpQ true Q a σ->∃l,a=.tup l/\Q l σ:=by
 rcases a with _|_|_|_|_|l|i|⟨_,_⟩|_
 ·exact fun h=>qJ h
 ·exact fun h=>qJ h
 ·exact fun h=>qJ h
 ·exact fun h=>qJ h
 ·exact fun h=>qJ h
 ·exact fun h=>⟨l,rfl,h⟩
 ·exact fun h=>Bool.noConfusion h.1
 ·exact fun h=>qJ h
 ·exact fun h=>qJ h
variable {ts:List Expr}
theorem yJ10 (K:Ok T P N ad) (h:swappedStores [.Tuple ts n p] v (y34 sc)=pure none) (hn:NFit N sc ns ts) (he:EvOk T P k Γ sc lm e v):XOk T P k Γ sc lm tr (.asgT false ns e) (.Assign [.Tuple ts n p] v q):=fun {c} C Q X σ w=>
 yr7 C.O (yP8 K C.ko hn) (yI (t:=.Tuple ts n p) rfl q.line c.env) ((yf1 C.sc _ _).trans h) (he.v C.toCtx w)
theorem yI10 (K:Ok T P N ad) {names:List Str} (h:swappedStores [.Tuple ts n p] v (y34 sc)=pure (some names)) (hn:y83 N sc ns names=true) (he:EvOk T P k Γ sc lm e v):XOk T P k Γ sc lm tr (.asgT true ns e) (.Assign [.Tuple ts n p] v q):=fun {c} C Q X σ w=>
 ys7 C.O (y96 K C.ko hn) (yI (t:=.Tuple ts n p) rfl q.line c.env) ((yf1 C.sc _ _).trans h) ((he.v C.toCtx w).q fun a σ1 w=>(yP15 w).imp fun l ⟨e,w⟩=>⟨e,w⟩)
variable {name:Str}
theorem yi7 (K:Ok T P N ad) (h:jE N n name=true) (ho:EvOk T P k Γ sc lm o o') (he:EvOk T P k Γ sc lm e v):XOk T P k Γ sc lm tr (.setattr o n e) (.Assign [.Attribute o' name p] v q):=fun {c} C Q X σ w=>
 yp7 C.O (jJ K h) (yI rfl _ _) ((he.v C.toCtx w).q fun o_ o_ w=>(ho.v C.toCtx w).q fun o_ o_ w=>yJ6 K (jJ K h) w)
theorem y48 (ho:EvOk T P k Γ sc lm o o') (hi:EvOk T P k Γ sc lm i i') (he:EvOk T P k Γ sc lm e v):XOk T P k Γ sc lm tr (.setsub o i e) (.Assign [.Subscript o' i' p] v q):=fun {c} C Q X σ w=>
 yr9 C.O (yI rfl _ _) ((he.v C.toCtx w).q fun o_ o_ w=>(ho.v C.toCtx w).q fun o_ o_ w=>(hi.v C.toCtx w).q fun o_ o_ w=>y58 w)
variable {op:Operator}
theorem yJ13 (K:Ok T P N ad) (h:(jE N n nm&&lo sc nm)=true) (he:EvOk T P k Γ sc lm e v):XOk T P k Γ sc lm tr (.augN n op e) (.AugAssign (.Name nm p) op v q):=fun {c} C Q X σ w=>by
 refine x_A (and2 h) fun h1 h2=>x_EA (yZ w) fun old ho w=>yo7 C.O (jJ K h1) ((C.ko _).trans (zw h2)) ho ((he.v C.toCtx w).q fun v σ1 w=>?_);rcases op with _|_|_|_|_|_|_|_|_|_|_|_|_
 ·exact zt (p:=fun a b=>WIn T c .Add a b _ X σ1) w fun i j w=>yd8.w C.O w
 ·exact qJ w
 ·exact qJ w
 ·exact qJ w
 ·exact qJ w
 ·exact qJ w
 ·exact qJ w
 ·exact qJ w
 ·exact qJ w
 ·exact qJ w
 ·exact qJ w
 ·exact qJ w
 ·exact qJ w
theorem GetA.mono {Q:AV->St->Prop} (k:∀a σ',Q a σ'->Q' a σ') (h:GetA T n Q σ a):GetA T n Q' σ a:=by
 cases h with
 |mk a b c d e f=>exact .mk a b c d e (k _ _ f)
theorem yI13 (K:Ok T P N ad) (h:jE N n name=true) (ho:EvOk T P k Γ sc lm o o') (he:EvOk T P k Γ sc lm e v):XOk T P k Γ sc lm tr (.augA o n op e) (.AugAssign (.Attribute o' name p) op v q):=fun {c} C Q X σ w=>
 yn7 C.O (jJ K h) ((ho.v C.toCtx w).q fun a σ1 w=>(yq6 K (jJ K h) w).mono fun old σ2 w=>(he.v C.toCtx w).q fun v σ3 w=>by
  rcases op with _|_|_|_|_|_|_|_|_|_|_|_|_
  ·exact zt (p:=fun x y=>WIn T c .Add x y _ X σ3) w fun i j w=>yd8.w C.O (yJ6 K (jJ K h) w)
  ·exact qJ w
  ·exact qJ w
  ·exact qJ w
  ·exact qJ w
  ·exact qJ w
  ·exact qJ w
  ·exact qJ w
  ·exact qJ w
  ·exact qJ w
  ·exact qJ w
  ·exact qJ w
  ·exact qJ w)
variable {A B:St->Prop}
theorem yx11 {t:Bool} {A' B':Prop} (f:A σ->A') (g:B σ->B'):ifK A B t σ->match t with|true=>A'|false=>B':=
 Bool.rec (motive:=fun t=>ifK A B t σ->match t with|true=>A'|false=>B') g f t
theorem ye9 {Q:Bool->St->Prop}:∀a σ,trQ Q a σ->trQ Q a σ:=fun o_ o_ q=>q
theorem yC15 {ys:List Stmt} {o:S} (ht:EvOk T P k Γ sc lm t t') (hb:BOk T P k Γ sc lm tr b xs) (ho:BOk T P k Γ sc lm tr o ys):XOk T P k Γ sc lm tr (.ite t b o) (.If t' xs ys p):=fun {c} C Q X σ w=>
 w_if ((ht.t C.toCtx ye9 w).q fun t σ1 w=>yx11 (fun w=>hb C w) (fun w=>ho C w) w)
theorem yL10 (ht:EvOk T P k Γ sc lm t t') (hb:BOk T P k Γ sc lm tr b b'):XOk T P k Γ sc lm tr (.while t b) (.While t' b' [] p):=fun {c} C Q X σ w=>by
 exact jk w fun J n hJ st=>x_E C.fr fun outer hfr=>x_E C.L fun L hL=>y910 C.O hfr hL J (fun k' σ hJ=>(ht.t C.toCtx ye9 (st k' σ hJ)).q fun t σ1 w=>yx11 (fun w=>hb C w) (fun w=>w) w) hJ
theorem yB15 (K:Ok T P N ad) (h:zd iter=true) (ht:kU N sc tgt target) (hs:yG1 T P k Γ sc lm sk it iter) (hb:BOk T P k Γ sc lm tr b b'):XOk T P k Γ sc lm tr (.for tgt sk it b) (.For target iter b' [] p):=fun {c} C Q X σ w=>by
 refine x_E C.fr fun outer hfr=>x_E C.L fun L hL=>yU15 C.O hfr hL (y25 K C.ko ht) (zE h) fun μ s rl=>hs.f C.toCtx w rl fun x s1 src σ1 iq ⟨hg,J,n,hJ,st⟩=>⟨src,σ1,J,n,hg,iq,hJ,fun kk n σ hJ=>?_⟩;exact yt8 (fun m w=>hb C w) (st kk n σ hJ)
theorem yL13 (K:Ok T P N ad) (h:(zd iter&&jE N n nm&&lo sc nm)=true) (hi:EvOk T P k Γ sc lm it iter) (hb:BOk T P k Γ sc lm tr b b'):XOk T P k Γ sc lm tr (.forD n it b) (.For (.Name nm p) iter b' [] q):=fun {c} C Q X σ w=>by
 refine x_A (and2 h) fun h12 h3=>x_A (and2 h12) fun h1 h2=>x_E C.fr fun outer hfr=>x_E C.L fun L hL=>y113 K.TO C.O hfr hL (jJ K h2) ((C.ko _).trans (zw h3)) (zE h1) ((hi.v C.toCtx w).q fun a σ1 q=>?_);refine jg q fun i hi q=>jg q fun l hl q=>yx9 q fun hq J n hJ st=>?_;obtain rfl:=ja1 hi
 refine ⟨i,l,J,n,yU hl,hq,hJ,fun kk n σ hJ=>x_A (st kk n σ hJ) fun g1 g2=>⟨g1,fun e=>?_,fun q e=>?_⟩⟩
 ·rw [e] at g2;exact g2
 ·rw [e] at g2;exact hb C g2
variable {np:Pos}
theorem yK10 (K:Ok T P N ad) {a:Expr} {cpos:Pos} (h:(nm==qH "LuaError"&&gi sc nm&&ju [a])=true) (he:EvOk T P k Γ sc lm e a):XOk T P k Γ sc lm tr (.raise e) (.Raise (some (.Call (.Name nm np) [a] [] cpos)) none p):=fun {c} C Q X σ w=>by
 refine x_A (and2 h) fun h12 h3=>x_A (and2 h12) fun h1 h2=>?_;obtain rfl:=eq_of_beq h1
 refine jF K.lua fun fI fd body hz=>jF hz fun n1 n2 n3 hz=>yv2 hz fun a1 a2 l1 s1 s2 L hb=>?_;exact y610 K.TO.toTabOk C.O L hb (by have:=C.rm.1;lia) ((C.ko _).trans (kM h2).1) K.exc.1 (kM h2).2 K.exc.2 h3
  (y85 (kc (and2 h3).1) ((he.v C.toCtx w).q fun o_ o_ q=>yp9 ⟨rfl,q⟩))
theorem yE15 (K:Ok T P N ad) {y:Str} {v:Bool} {py p1 p2 p3:Pos} (h:(tr&&nm==qH "LuaError"&&gi sc nm&&jE N n y&&lo sc y)=true) (hb:BOk T P k Γ sc lm tr b b'):
 XOk T P k Γ sc lm tr (.try b n v) (.Try b' [.ExceptHandler (some (.Name nm np)) none [.Assign [.Name y py] (.Constant (.bool v) kk p1) p2] p3] [] [] p):=fun {c} C Q X σ w=>by
 refine x_A (and2 h) fun h14 h5=>?_;obtain ⟨h13,h4⟩:=and2 h14
 obtain ⟨h12,h3⟩:=and2 h13
 refine x_A (and2 h12) fun h1 h2=>?_;obtain rfl:=eq_of_beq h2
 obtain ⟨outer,hfr⟩:=C.fr
 obtain ⟨Lf,hL⟩:=C.L
 exact jF K.lua fun fI fd body hz=>jF hz fun n1 n2 n3 hz=>yv2 hz fun a1 a2 l1 s1 s2 L hq=>y015 K.TO.toTabOk C.O L hfr hL (C.own h1) ((C.ko _).trans (kM h3).1) K.exc.1 (kM h3).2 (jJ K h4) ((C.ko _).trans (zw h5)) (hb C w)
noncomputable def Fit (N:FT) (sc:Scope) (lm:Bool) (e:E) (a:Arg1):Prop:=∀T P ad k Γ,Ok T P N ad->kj1 T ad k Γ->Snd T P k Γ sc lm e a
noncomputable def FitS (N:FT) (sc:Scope) (lm tr:Bool) (s:S) (a:Stmt ⊕ List Stmt):Prop:=∀T P ad k Γ,Ok T P N ad->kj1 T ad k Γ->SndS T P k Γ sc lm tr s a
theorem ym14 {a:Arg1}:Snd T P k Γ sc lm .bad a:=by
 rcases a with _|_|⟨_,_⟩|_|⟨_,_⟩
 ·exact ⟨fun o_ o_ o_ o_ h=>h.elim,fun o_ o_ o_ o_ o_ o_ h=>h.elim⟩
 ·exact fun o_ o_ o_ o_ o_ h=>h.elim
 ·exact fun o_ o_ o_ o_ o_ h=>h.elim
 ·exact fun o_ o_ o_ o_ h=>h.elim
 ·exact ⟨fun o_ o_ o_ o_ h=>h.elim,fun o_ o_ o_ o_ o_ o_ h=>h.elim⟩
theorem yn14 {a:Stmt ⊕ List Stmt}:SndS T P k Γ sc lm tr .bad a:=by
 rcases a with _|_
 ·exact fun o_ o_ o_ o_ h=>qJ h
 ·exact fun o_ o_ o_ o_ h=>qJ h
noncomputable def ys14 {α:Type} {q:Prop} (o:Option α) (k:∀a,o=some a->Option (PLift q)):Option (PLift q):=Option.rec (motive:=fun o=>(∀a,o=some a->Option (PLift q))->Option (PLift q)) (fun o_=>none) (fun a k=>k a rfl) o k
noncomputable def eqC {α:Type} [BEq α] [LawfulBEq α] {p:α->Prop} (a b:α) (k:Unit->Option (PLift (p a))):Option (PLift (p b)):=cB (a==b) fun h=>eq_of_beq h▸k ()
variable {p:Arg1->Prop}
noncomputable def aE (a:Arg1) (k:∀x,Option (PLift (p (.e x)))):Option (PLift (p a)):=cI a.ctorIdx 0 fun h=>Arg1.e.elim (motive:=fun a=>Option (PLift (p a))) a h k
noncomputable def aL (a:Arg1) (k:∀x,Option (PLift (p (.l x)))):Option (PLift (p a)):=cI a.ctorIdx 1 fun h=>Arg1.l.elim (motive:=fun a=>Option (PLift (p a))) a h k
noncomputable def aD (a:Arg1) (k:∀x y,Option (PLift (p (.d x y)))):Option (PLift (p a)):=cI a.ctorIdx 2 fun h=>Arg1.d.elim (motive:=fun a=>Option (PLift (p a))) a h k
noncomputable def aN (a:Arg1) (k:∀nm ps,Option (PLift (p (.e (.Name nm ps))))):Option (PLift (p a)):=aE a fun x=>kC (p:=fun x=>p (.e x)) x k
noncomputable def aC (i:Nat) (a:Arg1) (k:∀c n ps,i=c.ctorIdx->Option (PLift (p (.e (.Constant c n ps))))):Option (PLift (p a)):=aE a fun x=>yF6 (p:=fun x=>p (.e x)) x fun c n ps=>cI i c.ctorIdx (k c n ps)
noncomputable def yj11 (i:BoolOp) (a:Arg1) (k1:∀x y ps,Option (PLift (p (.e (.BoolOp i [x,y] ps))))) (k2:∀x y z ys ps,Option (PLift (p (.e (.BoolOp i (x::y::z::ys) ps))))):Option (PLift (p a)):=aE a fun x=>cI x.ctorIdx 0 fun h=>Expr.BoolOp.elim (motive_1:=fun x=>Option (PLift (p (.e x)))) x h fun op es ps=>eqC (p:=fun op=>p (.e (.BoolOp op es ps))) i op fun o_=>
 lsC (p:=fun es=>p (.e (.BoolOp i es ps))) es none fun x r=>lsC (p:=fun r=>p (.e (.BoolOp i (x::r) ps))) r none fun y r=>lsC (p:=fun r=>p (.e (.BoolOp i (x::y::r) ps))) r (k1 x y ps) fun z ys=>k2 x y z ys ps
noncomputable def yk11 (a:Arg1) (k:∀f es ps,Option (PLift (p (.e (.Call f es [] ps))))):Option (PLift (p a)):=aE a fun x=>yV8 (p:=fun x=>p (.e x)) x k
noncomputable def ys5 (a:Arg1) (k:∀nm q es ps,Option (PLift (p (.e (.Call (.Name nm q) es [] ps))))):Option (PLift (p a)):=yk11 a fun f es ps=>kC (p:=fun f=>p (.e (.Call f es [] ps))) f fun nm q=>k nm q es ps
noncomputable def yw7 (a:Arg1) (k:∀x nm q es ps,Option (PLift (p (.e (.Call (.Attribute x nm q) es [] ps))))):Option (PLift (p a)):=yk11 a fun f es ps=>yc4 (p:=fun f=>p (.e (.Call f es [] ps))) f fun x nm q=>k x nm q es ps
noncomputable def aCmp (a:Arg1) (k:∀l ops rs ps,Option (PLift (p (.e (.Compare l ops rs ps))))):Option (PLift (p a)):=aE a fun x=>cI x.ctorIdx 15 fun h=>Expr.Compare.elim (motive_1:=fun x=>Option (PLift (p (.e x)))) x h k
noncomputable def aSub (a:Arg1) (k:∀v i ps,Option (PLift (p (.e (.Subscript v i ps))))):Option (PLift (p a)):=aE a fun x=>cI x.ctorIdx 21 fun h=>Expr.Subscript.elim (motive_1:=fun x=>Option (PLift (p (.e x)))) x h k
variable {p:Expr->Prop}
noncomputable def yW8 (x:Expr) (k:∀elt t i scope ps,Option (PLift (p (.ListComp elt [⟨t,i,[],0⟩] scope ps)))):Option (PLift (p x)):=cI x.ctorIdx 8 fun h=>Expr.ListComp.elim (motive_1:=fun x=>Option (PLift (p x))) x h fun elt gs scope ps=>one1 (p:=fun gs=>p (.ListComp elt gs scope ps)) gs fun g=>
 match g with
 |⟨t,i,is,as⟩=>nil0 (p:=fun is=>p (.ListComp elt [⟨t,i,is,as⟩] scope ps)) is (eqC (p:=fun as=>p (.ListComp elt [⟨t,i,[],as⟩] scope ps)) 0 as fun o_=>k elt t i scope ps)
noncomputable def yU7 (e:E) (f:(x:Expr)->Option (PLift (Fit N sc lm e (.e x)))) (o:Option Expr):Option (PLift (Fit N sc lm e (.o o))):=opC (p:=fun o=>Fit N sc lm e (.o o)) o (cO (isNone e) fun h=>some ⟨fun o_ o_ o_ o_ o_ K G=>h▸f_oN⟩) fun x=>cO (f x) fun h=>some ⟨fun o_ o_ o_ o_ o_ K G=>f_oS (h _ _ _ _ _ K G)⟩
noncomputable def yF5 (x:Expr) (k:∀nm q a ps,Option (PLift (p (.Call (.Name nm q) [a] [] ps)))):Option (PLift (p x)):=yV8 (p:=p) x fun f es ps=>kC (p:=fun f=>p (.Call f es [] ps)) f fun nm q=>one1 (p:=fun es=>p (.Call (.Name nm q) es [] ps)) es fun a=>k nm q a ps
noncomputable def yJ5 (f:(x:Expr)->Option (PLift (Fit N sc lm it (.e x)))):(sk:SK)->(x:Expr)->Option (PLift (Fit N sc lm it (.s sk x)))
 |.val,x=>cO (f x) fun h=>some ⟨fun o_ o_ o_ o_ o_ K G=>yE12 (h _ _ _ _ _ K G)⟩
 |.range,x=>yF5 (p:=fun x=>Fit N sc lm it (.s .range x)) x fun nm o_ a o_=>cB (nm==qH "range"&&gi sc nm&&ju [a]) fun h=>cO (f a) fun ha=>some ⟨fun o_ o_ o_ o_ o_ K G=>y97 K h (ha _ _ _ _ _ K G)⟩
 |.enum,x=>yF5 (p:=fun x=>Fit N sc lm it (.s .enum x)) x fun nm o_ a o_=>cB (nm==qH "enumerate"&&gi sc nm&&ju [a]) fun h=>cO (f a) fun ha=>some ⟨fun o_ o_ o_ o_ o_ K G=>y39 K h (ha _ _ _ _ _ K G)⟩
noncomputable def chk (N:FT) (e:E):(sc:Scope)->(lm:Bool)->(a:Arg1)->Option (PLift (Fit N sc lm e a)):=E.rec (motive:=fun e=>(sc:Scope)->(lm:Bool)->(a:Arg1)->Option (PLift (Fit N sc lm e a)))
 (fun o_ o_ o_=>some ⟨fun o_ o_ o_ o_ o_ K G=>ym14⟩)
 (fun o_ o_ a=>aC 0 a fun c n ps h=>Const.none.elim c h.symm (some ⟨fun o_ o_ o_ o_ o_ K G=>yu y613⟩))
 (fun b sc lm a=>aC 1 a fun c n ps h=>Const.bool.elim c h.symm fun b'=>eqC (p:=fun b'=>Fit N sc lm (.bool b) (.e (.Constant (.bool b') n ps))) b b' fun o_=>some ⟨fun o_ o_ o_ o_ o_ K G=>yu yV13⟩)
 (fun i sc lm a=>aC 2 a fun c n ps h=>Const.int.elim c h.symm fun i'=>eqC (p:=fun i'=>Fit N sc lm (.int i) (.e (.Constant (.int i') n ps))) i i' fun o_=>some ⟨fun o_ o_ o_ o_ o_ K G=>yu yV15⟩)
 (fun i o_ o_ a=>aC 5 a fun c n ps h=>Const.str.elim c h.symm fun s=>cB (jE N i s) fun h=>some ⟨fun o_ o_ o_ o_ o_ K G=>yu (yX15 (jJ K h))⟩)
 (fun l sc lm a=>aC 6 a fun c n ps h=>Const.bytes.elim c h.symm fun l'=>eqC (p:=fun l'=>Fit N sc lm (.bytes l) (.e (.Constant (.bytes l') n ps))) l l' fun o_=>some ⟨fun o_ o_ o_ o_ o_ K G=>yu yZ10⟩)
 (fun x o_ o_ a=>aN a fun nm o_=>cB (jE N x nm&&y0 nm) fun h=>some ⟨fun o_ o_ o_ o_ o_ K G=>f_nm K h⟩)
 (fun g sc o_ a=>aN a fun nm o_=>cB (N.gvn g==some nm&&gi sc nm) fun h=>some ⟨fun o_ o_ o_ o_ o_ K G=>f_gv K h⟩)
 (fun e n i_e sc lm a=>aE a fun x=>yc4 (p:=fun x=>Fit N sc lm (.attr e n) (.e x)) x fun x name o_=>cB (jE N n name&&z7 x) fun h=>cO (i_e sc lm (.e x)) fun hx=>some ⟨fun o_ o_ o_ o_ o_ K G=>yw12 K h (hx _ _ _ _ _ K G)⟩)
 (fun op a b i_a i_b sc lm y=>aE y fun x=>cI x.ctorIdx 2 fun h=>Expr.BinOp.elim x h fun l op' r ps=>eqC (p:=fun op'=>Fit N sc lm (.bin op a b) (.e (.BinOp l op' r ps))) op op' fun o_=>cO (i_a sc lm (.e l)) fun hl=>cO (i_b sc lm (.e r)) fun hr=>some ⟨fun o_ o_ o_ o_ o_ K G=>yI14 (hl _ _ _ _ _ K G) (hr _ _ _ _ _ K G)⟩)
 (fun op a i_a sc lm y=>aE y fun x=>cI x.ctorIdx 3 fun h=>Expr.UnaryOp.elim x h fun op' l ps=>eqC (p:=fun op'=>Fit N sc lm (.un op a) (.e (.UnaryOp op' l ps))) op op' fun o_=>cO (i_a sc lm (.e l)) fun hl=>some ⟨fun o_ o_ o_ o_ o_ K G=>f_un (hl _ _ _ _ _ K G)⟩)
 (fun op a b i_a i_b sc lm y=>aCmp y fun l ops rs ps=>one1 (p:=fun ops=>Fit N sc lm (.cmp op a b) (.e (.Compare l ops rs ps))) ops fun op'=>one1 (p:=fun rs=>Fit N sc lm (.cmp op a b) (.e (.Compare l [op'] rs ps))) rs fun r=>eqC (p:=fun op'=>Fit N sc lm (.cmp op a b) (.e (.Compare l [op'] [r] ps))) op op' fun o_=>
  cB (qc1 op r==false) fun h=>cO (i_a sc lm (.e l)) fun hl=>cO (i_b sc lm (.e r)) fun hr=>some ⟨fun o_ o_ o_ o_ o_ K G=>yJ14 K h (hl _ _ _ _ _ K G) (hr _ _ _ _ _ K G)⟩)
 (fun op1 op2 a b d i_a i_b i_d sc lm y=>aCmp y fun l ops rs ps=>two2 (p:=fun ops=>Fit N sc lm (.cmp2 op1 op2 a b d) (.e (.Compare l ops rs ps))) ops fun op1' op2'=>two2 (p:=fun rs=>Fit N sc lm (.cmp2 op1 op2 a b d) (.e (.Compare l [op1',op2'] rs ps))) rs fun r r2=>
  eqC (p:=fun op1'=>Fit N sc lm (.cmp2 op1 op2 a b d) (.e (.Compare l [op1',op2'] [r,r2] ps))) op1 op1' fun o_=>eqC (p:=fun op2'=>Fit N sc lm (.cmp2 op1 op2 a b d) (.e (.Compare l [op1,op2'] [r,r2] ps))) op2 op2' fun o_=>
  cB (qc1 op1 r==false&&qc1 op2 r2==false) fun h=>cO (i_a sc lm (.e l)) fun hl=>cO (i_b sc lm (.e r)) fun hr=>cO (i_d sc lm (.e r2)) fun hs=>some ⟨fun o_ o_ o_ o_ o_ K G=>yy12 K h (hl _ _ _ _ _ K G) (hr _ _ _ _ _ K G) (hs _ _ _ _ _ K G)⟩)
 (fun a b i_a i_b sc lm y=>yj11 .And y (fun u v o_=>cO (i_a sc lm (.e u)) fun hx=>cO (i_b sc lm (.e v)) fun hy=>some ⟨fun o_ o_ o_ o_ o_ K G=>yu12 (hx _ _ _ _ _ K G) (hy _ _ _ _ _ K G)⟩) fun u v z ys ps=>cO (i_a sc lm (.e u)) fun hx=>cO (i_b sc lm (.e (.BoolOp .And (v::z::ys) ps))) fun hy=>some ⟨fun o_ o_ o_ o_ o_ K G=>yv12 (hx _ _ _ _ _ K G) (hy _ _ _ _ _ K G)⟩)
 (fun a b i_a i_b sc lm y=>yj11 .Or y (fun u v o_=>cO (i_a sc lm (.e u)) fun hx=>cO (i_b sc lm (.e v)) fun hy=>some ⟨fun o_ o_ o_ o_ o_ K G=>yN14 (hx _ _ _ _ _ K G) (hy _ _ _ _ _ K G)⟩) fun u v z ys ps=>cO (i_a sc lm (.e u)) fun hx=>cO (i_b sc lm (.e (.BoolOp .Or (v::z::ys) ps))) fun hy=>some ⟨fun o_ o_ o_ o_ o_ K G=>yO14 (hx _ _ _ _ _ K G) (hy _ _ _ _ _ K G)⟩)
 (fun t b o i_t i_b i_o sc lm y=>aE y fun x=>cI x.ctorIdx 5 fun h=>Expr.IfExp.elim x h fun t' b' o' o_=>cO (i_t sc lm (.e t')) fun ht=>cO (i_b sc lm (.e b')) fun hb=>cO (i_o sc lm (.e o')) fun ho=>some ⟨fun o_ o_ o_ o_ o_ K G=>yL14 (ht _ _ _ _ _ K G) (hb _ _ _ _ _ K G) (ho _ _ _ _ _ K G)⟩)
 (fun sc lm a=>Arg1.rec (motive:=fun a=>Option (PLift (Fit N sc lm .nil a))) (fun o_=>none) (fun l=>nil0 (p:=fun l=>Fit N sc lm .nil (.l l)) l (some ⟨fun o_ o_ o_ o_ o_ K G o_ o_ o_ o_ o_ o_ h=>yp9 h⟩)) (fun ks vs=>nil0 (p:=fun ks=>Fit N sc lm .nil (.d ks vs)) ks (nil0 (p:=fun vs=>Fit N sc lm .nil (.d [] vs)) vs (some ⟨fun o_ o_ o_ o_ o_ K G o_ o_ o_ o_ o_ o_ h=>y813 h⟩))) (fun o_=>none) (fun o_ o_=>none) a)
 (fun a r i_a i_r sc lm y=>aL y fun l=>lsC (p:=fun l=>Fit N sc lm (.cons a r) (.l l)) l none fun x xs=>cB (y93 x) fun h=>cO (i_a sc lm (.e x)) fun hx=>cO (i_r sc lm (.l xs)) fun hr=>some ⟨fun o_ o_ o_ o_ o_ K G=>yA12 h (hx _ _ _ _ _ K G) (hr _ _ _ _ _ K G)⟩)
 (fun k v r i_k i_v i_r sc lm y=>aD y fun ks vs=>lsC (p:=fun ks=>Fit N sc lm (.pcons k v r) (.d ks vs)) ks none fun o xs=>opC (p:=fun o=>Fit N sc lm (.pcons k v r) (.d (o::xs) vs)) o none fun x=>lsC (p:=fun vs=>Fit N sc lm (.pcons k v r) (.d (some x::xs) vs)) vs none fun y ys=>
  cO (i_k sc lm (.e x)) fun hx=>cO (i_v sc lm (.e y)) fun hy=>cO (i_r sc lm (.d xs ys)) fun hr=>some ⟨fun o_ o_ o_ o_ o_ K G=>y29 (hx _ _ _ _ _ K G) (hy _ _ _ _ _ K G) (hr _ _ _ _ _ K G)⟩)
 (fun l i_l sc lm a=>aE a fun x=>yX8 (p:=fun x=>Fit N sc lm (.tup l) (.e x)) x fun es o_ o_=>cO (i_l sc lm (.l es)) fun h=>some ⟨fun o_ o_ o_ o_ o_ K G=>yQ14 (h _ _ _ _ _ K G)⟩)
 (fun l i_l sc lm a=>aE a fun x=>cI x.ctorIdx 24 fun h=>Expr.List.elim x h fun es o_=>cO (i_l sc lm (.l es)) fun h=>some ⟨fun o_ o_ o_ o_ o_ K G=>yC12 (h _ _ _ _ _ K G)⟩)
 (fun l i_l sc lm a=>aE a fun x=>cI x.ctorIdx 6 fun h=>Expr.Dict.elim x h fun ks vs ps=>lsC (p:=fun ks=>Fit N sc lm (.dict l) (.e (.Dict ks vs ps))) ks (nil0 (p:=fun vs=>Fit N sc lm (.dict l) (.e (.Dict [] vs ps))) vs (cO (y612 l) fun h=>some ⟨fun o_ o_ o_ o_ o_ K G=>h▸y09⟩)) fun x xs=>
  cB ((x::xs).all (·.isSome)&&(x::xs).length==vs.length&&decide ((x::xs).length<=15)) fun h=>cO (i_l sc lm (.d (x::xs) vs)) fun hl=>some ⟨fun o_ o_ o_ o_ o_ K G=>yB12 h (hl _ _ _ _ _ K G)⟩)
 (fun f l i_l sc lm a=>ys5 a fun x o_ es o_=>cB (N.gn f==some x&&gi sc x&&ju es) fun h=>cO (i_l sc lm (.l es)) fun hl=>some ⟨fun o_ o_ o_ o_ o_ K G=>yx12 K G h (hl _ _ _ _ _ K G)⟩)
 (fun f l i_l sc lm a=>ys5 a fun x o_ es o_=>cB (x==km1 f&&gi sc x&&ju es) fun h=>cO (i_l sc lm (.l es)) fun hl=>some ⟨fun o_ o_ o_ o_ o_ K G=>f_bi K h (hl _ _ _ _ _ K G)⟩)
 (fun e k i_e sc lm a=>ys5 a fun x q es ps=>two2 (p:=fun es=>Fit N sc lm (.isi e k) (.e (.Call (.Name x q) es [] ps))) es fun a b=>kC (p:=fun b=>Fit N sc lm (.isi e k) (.e (.Call (.Name x q) [a,b] [] ps))) b fun y p'=>cB (x==qH "isinstance"&&gi sc x&&ju [a,.Name y p']&&(gi sc y&&ikB N k y)) fun h=>cO (i_e sc lm (.e a)) fun ha=>some ⟨fun o_ o_ o_ o_ o_ K G=>yK14 K h (ha _ _ _ _ _ K G)⟩)
 (fun o n l i_o i_l sc lm a=>yw7 a fun ox name apos es pos=>cB (jE N n name&&z7 ox&&apos.endLine==pos.line&&ju es&&decide (es.length<30)) fun h=>cO (i_o sc lm (.e ox)) fun ho=>cO (i_l sc lm (.l es)) fun hl=>some ⟨fun o_ o_ o_ o_ o_ K G=>yD12 K G h (ho _ _ _ _ _ K G) (hl _ _ _ _ _ K G)⟩)
 (fun f l i_l sc lm a=>yw7 a fun ox name apos es pos=>kC (p:=fun ox=>Fit N sc lm (.methC f l) (.e (.Call (.Attribute ox name apos) es [] pos))) ox fun x o_=>cB (N.mc f==some (x,name)&&gi sc x&&apos.endLine==pos.line&&ju es&&decide (es.length<30)) fun h=>cO (i_l sc lm (.l es)) fun hl=>some ⟨fun o_ o_ o_ o_ o_ K G=>y19 K G h (hl _ _ _ _ _ K G)⟩)
 (fun v i i_v i_i sc lm a=>aSub a fun v' i' o_=>cB (yC i') fun h=>cO (i_v sc lm (.e v')) fun hv=>cO (i_i sc lm (.e i')) fun hi=>some ⟨fun o_ o_ o_ o_ o_ K G=>yP14 K h (hv _ _ _ _ _ K G) (hi _ _ _ _ _ K G)⟩)
 (fun v lo hi i_v i_lo i_hi sc lm a=>aSub a fun v' i' ps=>cI i'.ctorIdx 26 fun h=>Expr.Slice.elim i' h fun lo' hi' st q=>opC (p:=fun st=>Fit N sc lm (.slice v lo hi) (.e (.Subscript v' (.Slice lo' hi' st q) ps))) st (cO (i_v sc lm (.e v')) fun hv=>cO (yU7 lo (fun x=>i_lo sc lm (.e x)) lo') fun hlo=>cO (yU7 hi (fun x=>i_hi sc lm (.e x)) hi') fun hhi=>some ⟨fun o_ o_ o_ o_ o_ K G=>y49 K (hv _ _ _ _ _ K G) (hlo _ _ _ _ _ K G) (hhi _ _ _ _ _ K G)⟩) fun o_=>none)
 (fun k sc lm a=>aE a fun x=>cI x.ctorIdx 4 fun h=>Expr.Lambda.elim x h fun ps body scope pos=>cB (lm&&yM11 ps&&N.lpos k==((pos.line:Int),(pos.col:Int))) fun h=>ys14 (yb2 sc scope) fun cap hc=>cB (N.lm k ps body scope cap) fun hk=>some ⟨fun o_ o_ o_ o_ o_ K G=>yM14 K h hc hk⟩)
 (fun elt tgt sk it i_elt i_it sc lm a=>aE a fun x=>yW8 (p:=fun x=>Fit N sc lm (.comp elt tgt sk it) (.e x)) x fun elt' target iter scope o_=>cB (kc1 scope&&zd iter) fun h=>cO (yE6 sk) fun hk=>cO (chkT N scope tgt target) fun ht=>cO (i_elt scope false (.e elt')) fun he=>cO (yJ5 (fun x=>i_it sc lm (.e x)) sk iter) fun hs=>some ⟨fun o_ o_ o_ o_ o_ K G=>yz12 K h hk ht (he _ _ _ _ _ K G) (hs _ _ _ _ _ K G)⟩) e
variable {p:Stmt ⊕ List Stmt->Prop}
noncomputable def aI (i:Nat) (a:Stmt ⊕ List Stmt) (k:∀x,i=x.ctorIdx->Option (PLift (p (.inl x)))):Option (PLift (p a)):=Sum.rec (motive:=fun a=>Option (PLift (p a))) (fun x=>cI i x.ctorIdx (k x)) (fun o_=>none) a
noncomputable def aR (a:Stmt ⊕ List Stmt) (k:∀x,Option (PLift (p (.inr x)))):Option (PLift (p a)):=Sum.rec (motive:=fun a=>Option (PLift (p a))) (fun o_=>none) k a
noncomputable def aAsg (a:Stmt ⊕ List Stmt) (k:∀t v ps,Option (PLift (p (.inl (.Assign [t] v ps))))):Option (PLift (p a)):=aI 5 a fun x h=>Stmt.Assign.elim (motive_2:=fun x=>Option (PLift (p (.inl x)))) x h.symm fun ts v ps=>one1 (p:=fun ts=>p (.inl (.Assign ts v ps))) ts fun t=>k t v ps
noncomputable def aAug (op:Operator) (a:Stmt ⊕ List Stmt) (k:∀t v ps,Option (PLift (p (.inl (.AugAssign t op v ps))))):Option (PLift (p a)):=aI 7 a fun x h=>Stmt.AugAssign.elim (motive_2:=fun x=>Option (PLift (p (.inl x)))) x h.symm fun t op' v ps=>eqC (p:=fun op'=>p (.inl (.AugAssign t op' v ps))) op op' fun o_=>k t v ps
noncomputable def aFor (a:Stmt ⊕ List Stmt) (k:∀t i b ps,Option (PLift (p (.inl (.For t i b [] ps))))):Option (PLift (p a)):=aI 9 a fun x h=>Stmt.For.elim (motive_2:=fun x=>Option (PLift (p (.inl x)))) x h.symm fun t i b o ps=>nil0 (p:=fun o=>p (.inl (.For t i b o ps))) o (k t i b ps)
noncomputable def onHd {q:ExceptHandler->Prop} (v:Bool) (hd:ExceptHandler) (k:∀x np y py kk p1 p2 p3,Option (PLift (q (.ExceptHandler (some (.Name x np)) none [.Assign [.Name y py] (.Constant (.bool v) kk p1) p2] p3)))):Option (PLift (q hd)):=match hd with
 |.ExceptHandler ty nm bd p3=>opC (p:=fun ty=>q (.ExceptHandler ty nm bd p3)) ty none fun ty=>kC (p:=fun ty=>q (.ExceptHandler (some ty) nm bd p3)) ty fun x np=>opC (p:=fun nm=>q (.ExceptHandler (some (.Name x np)) nm bd p3)) nm (one1 (p:=fun bd=>q (.ExceptHandler (some (.Name x np)) none bd p3)) bd fun s=>cI s.ctorIdx 5 fun h=>Stmt.Assign.elim (motive_2:=fun s=>Option (PLift (q (.ExceptHandler (some (.Name x np)) none [s] p3)))) s h fun ts e p2=>
  one1 (p:=fun ts=>q (.ExceptHandler (some (.Name x np)) none [.Assign ts e p2] p3)) ts fun t=>kC (p:=fun t=>q (.ExceptHandler (some (.Name x np)) none [.Assign [t] e p2] p3)) t fun y py=>yF6 (p:=fun e=>q (.ExceptHandler (some (.Name x np)) none [.Assign [.Name y py] e p2] p3)) e fun c kk p1=>cI c.ctorIdx 1 fun h=>Const.bool.elim (motive:=fun c=>Option (PLift (q (.ExceptHandler (some (.Name x np)) none [.Assign [.Name y py] (.Constant c kk p1) p2] p3)))) c h fun v'=>
  eqC (p:=fun v=>q (.ExceptHandler (some (.Name x np)) none [.Assign [.Name y py] (.Constant (.bool v) kk p1) p2] p3)) v v' fun o_=>k x np y py kk p1 p2 p3) fun o_=>none
noncomputable def chkC (n:Nat) (x:Str) (px:Pos) (v:Expr) (q:Pos):(e:E)->Option (PLift (FitS N sc lm tr (.asgC n e) (.inl (.Assign [.Name x px] v q))))
 |.comp elt tgt sk it=>yW8 (p:=fun v=>FitS N sc lm tr (.asgC n (.comp elt tgt sk it)) (.inl (.Assign [.Name x px] v q))) v fun elt' target iter scope p=>cB (jE N n x&&lo sc x&&px.line==p.line&& !(scope.names.any fun y=>y.1==x&&(y.2== .local||y.2== .cell))) fun h=>cB (kc1 scope&&zd iter) fun h'=>cO (yE6 sk) fun hk=>cO (chkT N scope tgt target) fun ht=>
  cO (chk N elt scope false (.e elt')) fun he=>cO (yJ5 (fun x=>chk N it sc lm (.e x)) sk iter) fun hs=>some ⟨fun o_ o_ o_ o_ o_ K G=>yH13 K h h' hk ht (he _ _ _ _ _ K G) (hs _ _ _ _ _ K G)⟩
 |_=>none
noncomputable def chkS (N:FT) (s:S):(sc:Scope)->(lm tr:Bool)->(a:Stmt ⊕ List Stmt)->Option (PLift (FitS N sc lm tr s a)):=S.rec (motive:=fun s=>(sc:Scope)->(lm tr:Bool)->(a:Stmt ⊕ List Stmt)->Option (PLift (FitS N sc lm tr s a)))
 (fun o_ o_ o_ o_=>some ⟨fun o_ o_ o_ o_ o_ K G=>yn14⟩)
 (fun sc lm tr a=>aR a fun l=>nil0 (p:=fun l=>FitS N sc lm tr .done (.inr l)) l (some ⟨fun o_ o_ o_ o_ o_ K G o_ C o_ o_ o_ q=>yZ13 q⟩))
 (fun s r i_s i_r sc lm tr a=>aR a fun l=>lsC (p:=fun l=>FitS N sc lm tr (.seq s r) (.inr l)) l none fun x xs=>cO (i_s sc lm tr (.inl x)) fun hs=>cO (i_r sc lm tr (.inr xs)) fun hr=>some ⟨fun o_ o_ o_ o_ o_ K G=>yD15 (hs _ _ _ _ _ K G) (hr _ _ _ _ _ K G)⟩)
 (fun o_ o_ o_ a=>aI 25 a fun x h=>Stmt.Pass.elim x h.symm fun o_=>some ⟨fun o_ o_ o_ o_ o_ K G o_ C o_ o_ o_ q=>y713 q⟩)
 (fun o_ o_ o_ a=>aI 26 a fun x h=>Stmt.Break.elim x h.symm fun o_=>some ⟨fun o_ o_ o_ o_ o_ K G o_ C o_ o_ o_ q=>yY10 q⟩)
 (fun o_ o_ o_ o_=>none)
 (fun e sc lm o_ a=>aI 24 a fun x h=>Stmt.Expr.elim x h.symm fun x o_=>cB (yB x) fun h=>cO (chk N e sc lm (.e x)) fun he=>some ⟨fun o_ o_ o_ o_ o_ K G=>yK13 h (he _ _ _ _ _ K G)⟩)
 (fun e sc lm tr a=>aI 3 a fun x h=>Stmt.Return.elim x h.symm fun o ps=>opC (p:=fun o=>FitS N sc lm tr (.ret e) (.inl (.Return o ps))) o none fun x=>cO (chk N e sc lm (.e x)) fun he=>some ⟨fun o_ o_ o_ o_ o_ K G o_ C o_ o_ o_ q=>yq9 ((he _ _ _ _ _ K G).v C.toCtx q)⟩)
 (fun n e sc lm tr a=>aAsg a fun t v q=>kC (p:=fun t=>FitS N sc lm tr (.asg n e) (.inl (.Assign [t] v q))) t fun x o_=>cB (jE N n x&&lo sc x&&yB v) fun h=>cO (chk N e sc lm (.e v)) fun he=>some ⟨fun o_ o_ o_ o_ o_ K G=>yA15 K h (he _ _ _ _ _ K G)⟩)
 (fun n e sc lm tr a=>aAsg a fun t v q=>kC (p:=fun t=>FitS N sc lm tr (.asgC n e) (.inl (.Assign [t] v q))) t fun x px=>chkC n x px v q e)
 (fun rev ns e sc lm tr a=>aAsg a fun t v q=>yX8 (p:=fun t=>FitS N sc lm tr (.asgT rev ns e) (.inl (.Assign [t] v q))) t fun ts n ps=>cO (chk N e sc lm (.e v)) fun he=>Bool.rec (motive:=fun rev=>Option (PLift (FitS N sc lm tr (.asgT rev ns e) (.inl (.Assign [.Tuple ts n ps] v q)))))
  (cO (purN (swappedStores [.Tuple ts n ps] v (y34 sc))) fun h=>cO (chkN N sc ns ts) fun hn=>some ⟨fun o_ o_ o_ o_ o_ K G=>yJ10 K h hn (he _ _ _ _ _ K G)⟩) (purS (swappedStores [.Tuple ts n ps] v (y34 sc)) fun names h=>cB (y83 N sc ns names) fun hn=>some ⟨fun o_ o_ o_ o_ o_ K G=>yI10 K h hn (he _ _ _ _ _ K G)⟩) rev)
 (fun o n e sc lm tr a=>aAsg a fun t v q=>yc4 (p:=fun t=>FitS N sc lm tr (.setattr o n e) (.inl (.Assign [t] v q))) t fun o' name o_=>cB (jE N n name) fun h=>cO (chk N o sc lm (.e o')) fun ho=>cO (chk N e sc lm (.e v)) fun he=>some ⟨fun o_ o_ o_ o_ o_ K G=>yi7 K h (ho _ _ _ _ _ K G) (he _ _ _ _ _ K G)⟩)
 (fun o i e sc lm tr a=>aAsg a fun t v q=>cI t.ctorIdx 21 fun h=>Expr.Subscript.elim t h fun o' i' o_=>cO (chk N o sc lm (.e o')) fun ho=>cO (chk N i sc lm (.e i')) fun hi=>cO (chk N e sc lm (.e v)) fun he=>some ⟨fun o_ o_ o_ o_ o_ K G=>y48 (ho _ _ _ _ _ K G) (hi _ _ _ _ _ K G) (he _ _ _ _ _ K G)⟩)
 (fun n op e sc lm tr a=>aAug op a fun t v q=>kC (p:=fun t=>FitS N sc lm tr (.augN n op e) (.inl (.AugAssign t op v q))) t fun x o_=>cB (jE N n x&&lo sc x) fun h=>cO (chk N e sc lm (.e v)) fun he=>some ⟨fun o_ o_ o_ o_ o_ K G=>yJ13 K h (he _ _ _ _ _ K G)⟩)
 (fun o n op e sc lm tr a=>aAug op a fun t v q=>yc4 (p:=fun t=>FitS N sc lm tr (.augA o n op e) (.inl (.AugAssign t op v q))) t fun o' name o_=>cB (jE N n name) fun h=>cO (chk N o sc lm (.e o')) fun ho=>cO (chk N e sc lm (.e v)) fun he=>some ⟨fun o_ o_ o_ o_ o_ K G=>yI13 K h (ho _ _ _ _ _ K G) (he _ _ _ _ _ K G)⟩)
 (fun t b o i_b i_o sc lm tr a=>aI 12 a fun x h=>Stmt.If.elim x h.symm fun t' b' o' o_=>cO (chk N t sc lm (.e t')) fun ht=>cO (i_b sc lm tr (.inr b')) fun hb=>cO (i_o sc lm tr (.inr o')) fun ho=>some ⟨fun o_ o_ o_ o_ o_ K G=>yC15 (ht _ _ _ _ _ K G) (hb _ _ _ _ _ K G) (ho _ _ _ _ _ K G)⟩)
 (fun t b i_b sc lm tr a=>aI 11 a fun x h=>Stmt.While.elim x h.symm fun t' b' o p=>nil0 (p:=fun o=>FitS N sc lm tr (.while t b) (.inl (.While t' b' o p))) o (cO (chk N t sc lm (.e t')) fun ht=>cO (i_b sc lm tr (.inr b')) fun hb=>some ⟨fun o_ o_ o_ o_ o_ K G=>yL10 (ht _ _ _ _ _ K G) (hb _ _ _ _ _ K G)⟩))
 (fun tgt sk it b i_b sc lm tr a=>aFor a fun target iter b' o_=>cB (zd iter) fun h=>cO (chkT N sc tgt target) fun ht=>cO (yJ5 (fun x=>chk N it sc lm (.e x)) sk iter) fun hs=>cO (i_b sc lm tr (.inr b')) fun hb=>some ⟨fun o_ o_ o_ o_ o_ K G=>yB15 K h ht (hs _ _ _ _ _ K G) (hb _ _ _ _ _ K G)⟩)
 (fun n it b i_b sc lm tr a=>aFor a fun t iter b' q=>kC (p:=fun t=>FitS N sc lm tr (.forD n it b) (.inl (.For t iter b' [] q))) t fun x o_=>cB (zd iter&&jE N n x&&lo sc x) fun h=>cO (chk N it sc lm (.e iter)) fun hi=>cO (i_b sc lm tr (.inr b')) fun hb=>some ⟨fun o_ o_ o_ o_ o_ K G=>yL13 K h (hi _ _ _ _ _ K G) (hb _ _ _ _ _ K G)⟩)
 (fun e sc lm tr a=>aI 16 a fun x h=>Stmt.Raise.elim x h.symm fun ex ca r=>opC (p:=fun ex=>FitS N sc lm tr (.raise e) (.inl (.Raise ex ca r))) ex none fun x=>opC (p:=fun ca=>FitS N sc lm tr (.raise e) (.inl (.Raise (some x) ca r))) ca (yF5 (p:=fun x=>FitS N sc lm tr (.raise e) (.inl (.Raise (some x) none r))) x fun nm o_ a o_=>cB (nm==qH "LuaError"&&gi sc nm&&ju [a]) fun h=>cO (chk N e sc lm (.e a)) fun he=>some ⟨fun o_ o_ o_ o_ o_ K G=>yK10 K h (he _ _ _ _ _ K G)⟩) fun o_=>none)
 (fun b n v i_b sc lm tr a=>aI 17 a fun x h=>Stmt.Try.elim x h.symm fun b' hs o f ps=>one1 (p:=fun hs=>FitS N sc lm tr (.try b n v) (.inl (.Try b' hs o f ps))) hs fun hd=>nil0 (p:=fun o=>FitS N sc lm tr (.try b n v) (.inl (.Try b' [hd] o f ps))) o (nil0 (p:=fun f=>FitS N sc lm tr (.try b n v) (.inl (.Try b' [hd] [] f ps))) f (
  onHd (q:=fun hd=>FitS N sc lm tr (.try b n v) (.inl (.Try b' [hd] [] [] ps))) v hd fun x o_ y o_ o_ o_ o_ o_=>cB (tr&&x==qH "LuaError"&&gi sc x&&jE N n y&&lo sc y) fun h=>cO (i_b sc lm tr (.inr b')) fun hb=>some ⟨fun o_ o_ o_ o_ o_ K G=>yE15 K h (hb _ _ _ _ _ K G)⟩))) s
theorem yO10 (K:Ok T P N ad) (G:kj1 T ad k Γ) {a:Arg1} (h:Fit N sc lm e a):Snd T P k Γ sc lm e a:=h _ _ _ _ _ K G
theorem yo4 (K:Ok T P N ad) (G:kj1 T ad k Γ) {a:Stmt ⊕ List Stmt} (h:FitS N sc lm tr s a):SndS T P k Γ sc lm tr s a:=h _ _ _ _ _ K G
variable {x:Str}
theorem zf:∀{ps:List Str} {vs:List Value},vs.length=ps.length->x∈ps->((ps.zip vs).lookup x).isSome=true
 |[],_,_,h=>nomatch h
 |_::_,[],e,_=>by simp at e
 |p::ps,v::vs,e,h=>by
  refine rz List.zip_cons_cons (rz List.lookup_cons ?_);rcases q:(x==p) with _|_
  ·rcases qC.mp h with h|h
   ·subst h;simp at q
   ·exact zf (by simpa using e) h
  ·rfl
theorem zx:∀{ps:List Str} {vs:List Value},vs.length=ps.length->ps.Nodup->∀(l:List (Str×Value)),(∀p∈ps,(l.lookup p)=(ps.zip vs).lookup p)->ps.filterMap (fun n=>(l.lookup n).map (n,·))=ps.zip vs
 |[],_,_,_,_,_=>rfl
 |_::_,[],e,_,_,_=>by simp at e
 |p::ps,v::vs,e,nd,l,h=>by
  rw [qx] at nd;refine rz List.filterMap_cons (rz (h p (List.mem_cons_self ..)) ?_);have h0:((p::ps).zip (v::vs)).lookup p=some v:=by refine rz List.zip_cons_cons (rz List.lookup_cons ?_);simp
  refine rz h0 ?_;simp only [Option.map_some,List.zip_cons_cons]
  congr 1
  refine zx (by simpa using e) nd.2 l fun q m=>?_;refine rz (h q (List.mem_cons_of_mem _ m)) (rz List.zip_cons_cons (rz List.lookup_cons ?_));have:(q==p)=false:=beq_eq_false_iff_ne.mpr fun z=>nd.1 (z▸m);exact rz this rfl
theorem yD10 {ps:List Str} {vs:List Value} (hl:vs.length=ps.length) (n:Nat):(ps.take n).filter (fun x=>((ps.zip vs).lookup x).isNone)=[]:=
 List.filter_eq_nil_iff.mpr fun x m h=>by
  have:=zf (vs:=vs) hl (List.mem_of_mem_take m);rw [Option.isNone_iff_eq_none.mp h] at this;exact Bool.noConfusion this
theorem ya8 {α β γ:Type} {l:List α} {s:γ} {f:α×β->γ->Sem (ForInStep γ)}:forIn (l.zip (List.drop n ([]:List β))) s f=pure s:=by refine rz List.drop_nil (rz List.zip_nil_right ?_);rfl
variable {fd:FuncData}
theorem kC1 {args:List Arg} {df:List Expr} (hp:fd.params=⟨[],args,none,[],[],none,df⟩) (hd:fd.defaults=.none) (nd:(args.map (·.arg)).Nodup) {vs:List Value} (hl:vs.length=(args.map (·.arg)).length):
 bindArgs fd ⟨vs,[]⟩=pure ((args.map (·.arg)).zip vs):=by
 obtain ⟨q,q2,q3,q4,q5,q6,q7,q8,q9,q10,q11⟩:=fd
 subst hp;subst hd;exact (if_neg fun h=>qo _ (Nat.lt_of_lt_of_eq (of_decide_eq_true (qI.mp h).1) hl)).trans ((if_neg fun h=>Bool.noConfusion ((congrArg (fun l:List Str=> !l.isEmpty) (yD10 hl _)).symm.trans h)).trans ((congrArg (fun m=>m>>=_) ya8).trans (congrArg (pure:List (Str×Value)->Sem (List (Str×Value))) ((congrArg (List.filterMap _) (List.append_nil _)).trans (zx hl nd _ fun o_ o_=>rfl)))))
end
structure FnOk (T:Tab) (N:FT) (ad:Nat->Addr) (f:Nat) (ps:List Nat) (body:S):Prop where
 h:∃(fd:FuncData) (stmts:List Stmt) (args:List Arg) (df:List Expr) (lm:Bool),FnAt T (ad f) fd stmts/\fd.params=⟨[],args,none,[],[],none,df⟩/\fd.defaults=.none/\ParL T ps (args.map (·.arg))/\(args.map (·.arg)).Nodup/\
  (∀x∈args.map (·.arg),fd.scope.names.lookup x=some .local\/(fd.scope.names.lookup x=some .cell/\∀n,((cellsFrom n fd.scope.names []).lookup x).isSome=true))/\
  FitS N fd.scope lm false body (.inr stmts)/\
  (lm=true->∃cc,fd.code=.ref cc/\(∀h,T.K.In h->CodeHd h cc T.tab)/\qR≠T.tab/\∀h mg,T.K.In h->h.Ns qR mg->h.BuiltinsAt mg T.tab)
structure yh14 (T:Tab) (N:FT) (ad:Nat->Addr) (f:Nat) (ps:List Nat) (dfl:List AV) (body:S):Prop where
 h:∃(fd:FuncData) (stmts:List Stmt) (names:List Str),FnAt T (ad f) fd stmts/\(∀(s:Shared) (vs:List Value),T.K.In s.heap->vs.length+dfl.length=names.length->∃ds,BindsTo s fd ⟨vs,[]⟩ (names.zip (vs++ds))/\∀μ h,T.K.In h->ErL T μ h ds dfl)/\ParL T ps names/\names.Nodup/\
  (∀x∈names,fd.scope.names.lookup x=some .local)/\FitS N fd.scope false false body (.inr stmts)
structure Text (T:Tab) (P:Prg) (N N0:FT) (ad:Nat->Addr):Prop where
 ok:Ok T P N ad
 ok0:Ok T P N0 ad
 fn:∀f ps b,P.cal f=.fn ps b->FnOk T N ad f ps b
 fnD:∀f ps d b,P.cal f=.fnD ps d b->yh14 T N ad f ps d b
 cl:∀f C i,P.cal f=.cls C i->ad f=C/\makesIn T.K C=true/\findIn T.K (.ref C) "__init__"=some (some (.ref (ad i)))/\typeIn T.K (.ref (ad i))=some (.type "function")
 la:∀kk cn ns e,P.lam kk=some (cn,ns,e)->∃ps,ParL T ns ps/\ps.Nodup/\∀lam,T.lamOk kk lam=true->LamF T cn ps lam/\Fit N0 lam.scope false e (.e lam.body)
section
variable {T:Tab} {P:Prg} {N N0:FT} {ad:Nat->Addr}
variable {k:Nat} {fd:FuncData} {lm:Bool}
theorem yl6 {c:Cx} {L f:Addr} {fr:List Env} (O:CxOk c) (rm:Room c.A k) (he:c.env=callEnvC fd L f) (hfr:c.fr=c.env::fr) (hl:lm=true->∃cc,yD1 T c cc):CtxS T fd.scope lm false k c:=⟨⟨O,rm,he▸rfl,hl⟩,⟨fr,hfr⟩,⟨L,he▸rfl⟩,fun q=>Bool.noConfusion q⟩
variable {Γ:Ora} {as:List AV} {H:List AO} {Q:AV->List AO->Prop} {X:List AO->Prop} {d:Cal}
theorem yg12 (G:Text T P N N0 ad) (ih:kj1 T ad k Γ) {f:Nat}:P.cal f=d->calQ P Γ as H Q X d->yh T (k+1) (.ref (ad f)) as H Q X:=by
 rcases d with ⟨ps,b⟩|⟨ps,d,b⟩|⟨C,i⟩|_
 ·exact fun hc h=>yv2 ((G.fn _ _ _ hc).h) fun fd stmts args df lm F hz=>zB hz fun hp hd hps hnd hkind hfit hlam=>yP7 G.ok.TO.toTabOk F (fun vs hv=>kC1 hp hd hnd hv) hps hnd h.1.symm hkind fun L c fr O rm he hfr hown=>yo4 G.ok ih hfit (yl6 O rm he hfr fun q=>zC (hlam q) fun cc h1 h2 h3 h4=>⟨cc,he▸h1,h2,h3,h4⟩) h.2
 ·exact fun hc h=>ks1 ((G.fnD _ _ _ _ hc).h) fun fd stmts names F hz=>jK hz fun hbind hps hnd hkind hfit=>yX6 G.ok.TO.toTabOk F (dargs:=d) (fun s vs hK hv=>hbind s vs hK (hv▸List.length_append.symm.trans (h.1.symm.trans hps.length))) hps hnd h.1.symm (fun x m=>.inl (hkind x m)) fun L c fr O rm he hfr hown=>yo4 G.ok ih hfit (yl6 O rm he hfr fun q=>Bool.noConfusion q) h.2
 ·exact fun hc h=>kJ (G.cl _ _ _ hc) fun h1 h2 h3 h4=>h1▸yq13 h2 h3 h4 (ih.f _ _ _ _ _ h)
 ·exact fun o_ h=>qJ h
variable {kk cn:Nat} {v:AV} {ns:List Nat}
theorem yt10 (G:Text T P N N0 ad) (ih:kj1 T ad k Γ) {e:E} (hq:P.lam kk=some (cn,ns,e)) (hl:ns.length=as.length) (hw:wp P Γ e (lamR Q) (exH X) ⟨H,(cn,v)::ns.zip as⟩):yU2 T (k+1) (.clo kk v) as H Q X:=
 jR (G.la _ _ _ _ hq) fun ps hps hnd hL=>yQ7 G.ok.TO.toTabOk (fun lam hl=>(hL lam hl).1) hps hnd hl.symm fun lam L f c' ca c hl' O rm he=>(yO10 G.ok0 ih (hL lam hl').2).v (⟨O,rm,he▸rfl,fun q=>Bool.noConfusion q⟩:Ctx T lam.scope false k c) hw
theorem yH5 (G:Text T P N N0 ad) (k:Nat):kj1 T ad k (Call P k):=by induction k with
 |zero=>exact ⟨fun o_ o_ o_ o_ o_ h=>qJ h,fun o_ o_ o_ o_ o_ h=>qJ h⟩
 |succ k ih=>exact ⟨fun f as H Q X h=>yg12 G ih rfl h,fun a as H Q X h=>jg h fun p hp h=>jg h fun q hq h=>yW7 hp▸yt10 G ih hq h.1 h.2⟩
noncomputable def fdOf (K:Frag) (a:Addr):Option FuncData:=match K.lookup a with
 |some ⟨_,_,.func fd,_⟩=>some fd
 |_=>none
theorem y59 {K:Frag} {a:Addr} (h:fdOf K a=some fd):∃oc od osl,K.lookup a=some ⟨oc,od,.func fd,osl⟩:=by
 unfold fdOf at h;split at h
 ·rename_i e;obtain rfl:=qq h;exact ⟨_,_,_,e⟩
 ·injection h
noncomputable def parB (names:List Str):List Nat->List Arg->Bool
 |[],[]=>true
 |n::ns,a::as=>names[n]? ==some a.arg&&parB names ns as
 |_,_=>false
theorem ye4:∀{ns:List Nat} {as:List Arg},parB T.names ns as=true->ParL T ns (as.map (·.arg))
 |[],[],_=>.nil
 |[],_::_,h=>by injection h
 |_::_,[],h=>by injection h
 |n::ns,a::as,h=>.cons (eq_of_beq (and2 h).1) (ye4 (and2 h).2)
noncomputable def yY2 (K:Frag) (fd:FuncData):Bool:=codeIn K fd.code fd.qualname&&fd.closure.isEmpty&&Nat.beq fd.globals qR&&Nat.beq fd.builtins qd1&& !fd.scope.isCoroutine&& !fd.scope.isGenerator&&fd.scope.kind== .function
theorem ym {f:Addr} {st:List Stmt} (h1:fdOf T.K f=some fd) (h2:fd.body=.stmts st) (h:yY2 T.K fd=true):FnAt T f fd st:=by
 unfold yY2 at h;simp only [Bool.and_eq_true,Bool.not_eq_true',List.isEmpty_iff,beq_iff_eq,Nat.beq_eq_true_eq] at h;refine x_A h fun hy36 k=>?_;obtain ⟨⟨⟨⟨⟨a,b⟩,c⟩,d⟩,e⟩,g⟩:=hy36;exact ⟨y59 h1,a,h2,b,Nat.eq_of_beq_eq_true c,Nat.eq_of_beq_eq_true d,e,g,k⟩
theorem zo:∀(l:List (Str×NameKind)) (n m:Nat) (a b:List (Str×Addr)),a.map (·.1)=b.map (·.1)->(cellsFrom n l a).map (·.1)=(cellsFrom m l b).map (·.1)
 |[],_,_,_,_,h=>h
 |(x,k)::r,n,m,a,b,h=>by
  unfold cellsFrom;split
  ·exact zo r _ _ _ _ (by simp [h])
  ·exact zo r _ _ _ _ h
variable {x:Str}
theorem zR:∀{a b:List (Str×Addr)},a.map (·.1)=b.map (·.1)->(a.lookup x).isSome=(b.lookup x).isSome
 |[],[],_=>rfl
 |[],_::_,h=>by simp at h
 |_::_,[],h=>by simp at h
 |(p,v)::a,(q,w)::b,h=>by
  simp only [List.map_cons,List.cons.injEq] at h;obtain ⟨rfl,h⟩:=h
  refine rz List.lookup_cons (rz List.lookup_cons ?_);rcases x==p with _|_
  ·exact zR h
  ·rfl
noncomputable def yx8 (sc:Scope) (x:Str):Bool:=sc.names.lookup x==some .local||(sc.names.lookup x==some .cell&&((cellsFrom 0 sc.names []).lookup x).isSome)
theorem yy8 {sc:Scope} (h:yx8 sc x=true):sc.names.lookup x=some .local\/(sc.names.lookup x=some .cell/\∀n,((cellsFrom n sc.names []).lookup x).isSome=true):=by
 unfold yx8 at h;rw [Bool.or_eq_true,Bool.and_eq_true,beq_iff_eq,beq_iff_eq] at h;exact h.imp id fun q=>⟨q.1,fun n=>by exact rz (zR (zo sc.names n 0 [] [] rfl)) q.2⟩
noncomputable def zz:List Str->Bool
 |[]=>true
 |x::r=> !(r.any fun y=>y==x)&&zz r
theorem j2:∀{l:List Str},zz l=true->l.Nodup
 |[],_=>.nil
 |x::r,h=>by
  refine x_A (and2 h) fun h1 h2=>qx.mpr ⟨fun m=>?_,j2 h2⟩;have:(r.any fun y=>y==x)=false:=by simpa using h1
  rw [List.any_eq_false] at this;exact this x m (by simp)
noncomputable def yT7 (K:Frag) (N:FT) (a:Addr) (lm:Bool) (ps:List Nat) (b:S):Bool:=match fdOf K a with
 |none=>false
 |some fd=>match fd.body with
  |.expr _=>false
  |.stmts st=>match fd.params with
   |⟨[],args,none,[],[],none,_⟩=>yY2 K fd&&fd.defaults== .none&&parB N.names ps args&&zz (args.map (·.arg))&&(args.map (·.arg)).all (yx8 fd.scope)&&(chkS N b fd.scope lm false (.inr st)).isSome
   |_=>false
variable {f:Nat} {ps:List Nat}
theorem y69 {P:Prg} (hn:N.names=T.names) {b:S} (h:yT7 T.K N (ad f) lm ps b=true)
 (hl:lm=true->∀fd,fdOf T.K (ad f)=some fd->∃cc,fd.code=.ref cc/\(∀h,T.K.In h->CodeHd h cc T.tab)/\qR≠T.tab/\∀h mg,T.K.In h->h.Ns qR mg->h.BuiltinsAt mg T.tab):FnOk T N ad f ps b:=by
 unfold yT7 at h;split at h
 ·injection h
 ·rename_i fd hfd;split at h
  ·injection h
  ·rename_i st hst;split at h
   ·rename_i args df hp;simp only [Bool.and_eq_true,beq_iff_eq,List.all_eq_true] at h;obtain ⟨⟨⟨⟨⟨h1,h2⟩,h3⟩,h4⟩,h5⟩,h6⟩:=h
    rw [hn] at h3;exact ⟨fd,st,args,df,lm,ym hfd hst h1,hp,h2,ye4 h3,j2 h4,fun x m=>yy8 (h5 x m),c_ok h6,fun q=>hl q fd hfd⟩
   ·injection h
noncomputable def lamB (names:List Str) (N0:FT) (q:Option (Nat×List Nat×E)) (ps:Arguments) (body:Expr) (scope:Scope) (cap:Str):Bool:=match q with
 |none=>false
 |some (cn,ns,e)=>match ps with
  |⟨[],args,none,[],[],none,[]⟩=>names[cn]? ==some cap&&parB names ns args&&zz (args.map (·.arg))&&(args.map (·.arg)).all (lo scope)&&scope.names.lookup cap==some .free&&scope.names.all (fun x=>x.2 != .cell)&&scope.kind== .function&& !scope.isCoroutine&& !scope.isGenerator&&
   (chk N0 e scope false (.e body)).isSome
  |_=>false
theorem yz6 {e:E} {lam:Lam} (h:lamB T.names N0 (some (cn,ns,e)) lam.params lam.body lam.scope lam.cap=true):
 ∃ps,ParL T ns ps/\ps.Nodup/\LamF T cn ps lam/\Fit N0 lam.scope false e (.e lam.body):=by
 unfold lamB at h;dsimp only at h;split at h
 ·rename_i args hp;simp only [Bool.and_eq_true,beq_iff_eq,List.all_eq_true,Bool.not_eq_true',bne_iff_ne] at h;obtain ⟨⟨⟨⟨⟨⟨⟨⟨⟨h1,h2⟩,h3⟩,h4⟩,h5⟩,h6⟩,h7⟩,h8⟩,h9⟩,h10⟩:=h
  refine ⟨args.map (·.arg),ye4 h2,j2 h3,⟨h1,fun pm c ct ca vs hv=>kC1 hp rfl (j2 h3) hv,fun x m=>h4 x m,h5,h6,h7,h8,h9⟩,c_ok h10⟩
 ·injection h
variable {n i:Nat}
theorem kb1 {p:Nat->Bool} (h:(List.range n).all p=true) (hi:i<n):p i=true:=List.all_eq_true.mp h i (List.mem_range.mpr hi)
end
end Mine
set_option maxHeartbeats 0
namespace Hd
open PySem PySem.W PyProof.Rows
noncomputable section
abbrev pw:Program:=PySem.Challenge.pw_pc0186_02
noncomputable def st (i:Nat):Stmt:=pw.main.body.getD i (.Pass ⟨0,0,0,0⟩)
noncomputable def me (i j:Nat):Stmt:=match st i with|.ClassDef _ _ _ b _ _ _ _ _ _ _=>b.getD j (.Pass ⟨0,0,0,0⟩)|s=>s
noncomputable def stA:Stmt->Arguments|.FunctionDef _ a _ _ _ _ _ _ _ _=>a|_=>default
noncomputable def stB:Stmt->List Stmt|.FunctionDef _ _ b _ _ _ _ _ _ _=>b|_=>[]
noncomputable def stS:Stmt->Scope|.FunctionDef _ _ _ _ _ _ s _ _ _=>s|_=>default
noncomputable def stP:Stmt->Pos|.FunctionDef _ _ _ _ _ _ _ _ _ p=>p|_=>default
abbrev N:Value:=.none
abbrev vs (s:String) (t:Nat):Value:=.str (Str.ofString s) t
abbrev vi (i:Int) (t:Nat):Value:=.int i t
abbrev vb (b:List UInt8) (t:Nat):Value:=.bytes ⟨b⟩ t
abbrev vt (s:String):Value:=.type s
abbrev vn (s:String):Value:=.builtin s
abbrev vr (a:Nat):Value:=.ref a
abbrev tp (l:List Value):Obj:=⟨.type "tuple",none,.seq ⟨l⟩ 0,⟨[]⟩⟩
abbrev co (l:List Value):Obj:=⟨.type "code",none,.fields ⟨l⟩,⟨[]⟩⟩
abbrev fl (l:List Value):Obj:=⟨.none,none,.fields ⟨l⟩,⟨[]⟩⟩
abbrev sk (f:FuncData):Obj:=⟨.none,none,.func f,⟨[]⟩⟩
abbrev fo (f:FuncData):Obj:=⟨.type "function",none,.func f,⟨[]⟩⟩
abbrev di (l:List DictEntry) (n:Nat):Obj:=⟨.type "dict",none,.dict ⟨l⟩ n,⟨[]⟩⟩
abbrev e (P:Params) (k:String) (t:Nat) (v:Value):DictEntry:=⟨PyData.keyHash P (Str.ofString k),.str (Str.ofString k) t,v⟩
abbrev fn (s:Stmt) (name qual:String) (g:Nat) (d kd doc pm:Value) (an:Option Addr) (cd ct:Value) (b:Nat):FuncData:=
 {name:=Str.ofString name,qualname:=Str.ofString qual,params:=stA s,body:=.stmts (stB s),scope:=stS s,globals:=g,closure:=[],defaults:=d,kwdefaults:=kd,doc,pyModule:=pm,annotations:=an,code:=cd,closureTuple:=ct,builtins:=b}
def nms:List String->Nat->List Value
 |[],_=>[]
 |x::r,t=>vs x t::nms r (t+1)
noncomputable def fu (a:Nat) (s:Stmt) (n q:String) (t l g:Nat) (p:List String) (d:Value) (m:String) (y:Nat):List Obj:=
 [tp [],fl [],tp (nms p (t+3)),tp [],sk (fn s n q 0 N N N N none N N 0),
  co [vs n t,vs q (t+1),vs "/claim/cut.py" (t+2),vi l 0,vi g 0,vi 0 0,vi 0 0,vi 3 0,vr a,.bool true,vi 181 0,vr (a+1),N,vr (a+2),vr (a+3),vr (a+4),vi (t+3+p.length:Nat) 0,vi l 0,vs "/claim/cut.py" (t+3+p.length+1)],
  fo (fn s n q 3 d N N (vs m y) none (vr (a+5)) N 0)]
noncomputable def o1 (x:Nat):Obj:=⟨vt "builtin_function_or_method",none,.fields #[vn "object.__init_subclass__",vr x], #[]⟩
noncomputable def o2 (x:Nat):Obj:=⟨vt "super",none,.fields #[vr x,vr x,vr x], #[]⟩
noncomputable def o3 (t x:Nat):Obj:=⟨vt "getset_descriptor",none,.fields #[vs "__weakref__" t,vr x,vn "ExceptionGroup.__weakref__",N], #[]⟩
noncomputable def o4 (t x:Nat):Obj:=⟨vt "getset_descriptor",none,.fields #[vs "__dict__" t,vr x,vn "function.__dict__",vn "function.__dict__#set"], #[]⟩
noncomputable def o5:Obj:=⟨vt "builtin_function_or_method",none,.fields #[vn "type.__prepare__",vt "type"], #[]⟩
noncomputable def o6 (a b c:Nat) (m:String) (t z:Nat):Obj:=⟨vt "frame",none,.plain, #[some (vr a),some (vr b),some (vr c),none,some (vs m t),none,some (vr z)]⟩
noncomputable def o7 (n:String) (b m:List Value) (s:Nat) (u:List Value) (x:Option Value) (t y:Nat) (w:String):Obj:=
 ⟨vt "type",none,.cls {name:=n,bases:=b,mro:=m,ns:=s,qualname:=n,hasDict:=true,slotNames:=[],subclasses:=u,abstract:=false,collection:=none,hasDel:=false}, #[x,none,some (vs n t),some (vs n y),some (vn w),some (.bool true)]⟩
noncomputable def o8 (n:String) (t l a:Nat):Obj:=co [vs n t,vs n (t+1),vs "/claim/cut.py" (t+2),vi l 0,vi 0 0,vi 0 0,vi 0 0,vi 0 0,vr a,.bool false,vi 181 0,vr (a+1),N,N,N,N,vi (t+3:Nat) 0,vi l 0,vs "/claim/cut.py" (t+4)]
noncomputable def ob0 (P:Params):List Obj:=
 [
 boot_o_0 P,
 boot_o_1 P,
 ⟨N,none,.dict #[e P "type.__subclasses__.Exception.0" 295 (vi 74 0),e P "type.__subclasses__.Exception.n" 296 (vi 2 0),e P "type.__subclasses__.Exception.1" 324 (vi 94 0)] 3, #[]⟩,
 di [e P "__name__" 165 (vs "law_pc0186_02" 1188),e P "__doc__" 166 N,e P "__package__" 167 N,e P "__loader__" 168 (vn "__main__.__loader__#opaque"),e P "__spec__" 169 N,e P "__annotations__" 170 (vr 6),e P "__builtins__" 171 (vr 4),e P "__file__" 173 (vs "/claim/cut.py" 172),e P "__cached__" 174 N,e P "_wall" 193 (vr 21),e P "BLANKS" 197 (vb [32,9,10,11,12,13] 196),e P "Limits" 268 (vr 53),e P "LuaError" 298 (vr 74),e P "ApiError" 327 (vr 94),e P "is_number" 334 (vr 104),e P "is_false" 341 (vr 111),e P "wrap" 350 (vr 118),e P "divide" 359 (vr 125),e P "power" 370 (vr 132),e P "arith" 381 (vr 139),e P "is_blank" 388 (vr 146),e P "digit_of" 395 (vr 153),e P "read_digits" 406 (vr 160),e P "skip_blanks" 414 (vr 167),e P "str_to_number" 422 (vr 174),e P "text_in_base" 436 (vr 181),e P "to_number" 444 (vr 188),e P "number_text" 453 (vr 195),e P "to_text" 460 (vr 202),e P "c_text" 468 (vr 209),e P "first_line" 476 (vr 216),e P "chunk_id" 487 (vr 223),e P "TreeTable" 568 (vr 275),e P "Builtin" 601 (vr 296),e P "tree_type" 608 (vr 307),e P "same" 617 (vr 314),e P "is_function" 624 (vr 321),e P "Frame" 658 (vr 338),e P "Host" 867 (vr 485),e P "flushed" 879 (vr 496),e P "ARITHMETIC" 900 (vr 497),e P "OPEN" 904 (vr 498),e P "CHAIN" 906 (vi 100 905),e P "Cell" 937 (vr 515),e P "ExprRunner" 1144 (vr 634),e P "own_local" 1152 (vr 643),e P "Node" 1187 (vr 660),e P "_law_events" 1195 (vr 671),e P "_law_words" 1201 (vr 678),e P "_law_take" 1209 (vr 685),e P "_law_world" 1220 (vr 692),e P "_law_meta" 1231 (vr 699),e P "_law_thing" 1239 (vr 706),e P "_law_wrong" 1246 (vr 713),e P "_law_handler" 1255 (vr 720),e P "_law_call" 1265 (vr 727),e P "_law_field" 1277 (vr 734),e P "_law_kind" 1284 (vr 741),e P "_law_is_yes" 1291 (vr 748),e P "_law_both" 1302 (vr 755),e P "_law_order" 1315 (vr 762),e P "_law_binary" 1321 (vr 767),e P "_law_leaf" 1328 (vr 774),e P "_law_asked" 1343 (vr 781),e P "_law_made" 1349 (vr 786),e P "_law_noted" 1355 (vr 791),e P "_law_as_told" 1362 (vr 798),e P "law" 1378 (vr 805)] 68,
 boot_o_4 P,
 boot_o_5 P,
 boot_o_6 P,
 boot_o_7 P,
 boot_o_8 P,
 boot_o_9 P,
 boot_o_10 P,
 tp [],
 fl [(vi 1 0),(vi 0 0),(vr 20),(vi 6 0),(vi 0 0),(vr 27),(vi 25 0),(vi 0 0),(vr 63),(vi 30 0),(vi 0 0),(vr 83),(vi 34 0),(vi 0 0),(vr 103),(vi 36 0),(vi 0 0),(vr 110),(vi 40 0),(vi 0 0),(vr 117),(vi 45 0),(vi 0 0),(vr 124),(vi 48 0),(vi 0 0),(vr 131),(vi 62 0),(vi 0 0),(vr 138),(vi 81 0),(vi 0 0),(vr 145),(vi 83 0),(vi 0 0),(vr 152),(vi 91 0),(vi 0 0),(vr 159),(vi 100 0),(vi 0 0),(vr 166),(vi 104 0),(vi 0 0),(vr 173),(vi 106 0),(vi 0 0),(vr 180),(vi 118 0),(vi 0 0),(vr 187),(vi 124 0),(vi 0 0),(vr 194),(vi 134 0),(vi 0 0),(vr 201),(vi 140 0),(vi 0 0),(vr 208),(vi 145 0),(vi 0 0),(vr 215),(vi 150 0),(vi 0 0),(vr 222),(vi 164 0),(vi 0 0),(vr 229),(vi 206 0),(vi 0 0),(vr 285),(vi 212 0),(vi 0 0),(vr 306),(vi 222 0),(vi 0 0),(vr 313),(vi 229 0),(vi 0 0),(vr 320),(vi 231 0),(vi 0 0),(vr 327),(vi 238 0),(vi 0 0),(vr 348),(vi 359 0),(vi 0 0),(vr 495),(vi 368 0),(vi 0 0),(vr 504),(vi 373 0),(vi 0 0),(vr 525),(vi 574 0),(vi 0 0),(vr 642),(vi 581 0),(vi 0 0),(vr 649),(vi 588 0),(vi 0 0),(vr 670),(vi 590 0),(vi 0 0),(vr 677),(vi 592 0),(vi 0 0),(vr 684),(vi 597 0),(vi 0 0),(vr 691),(vi 607 0),(vi 0 0),(vr 698),(vi 616 0),(vi 0 0),(vr 705),(vi 619 0),(vi 0 0),(vr 712),(vi 622 0),(vi 0 0),(vr 719),(vi 626 0),(vi 0 0),(vr 726),(vi 634 0),(vi 0 0),(vr 733),(vi 646 0),(vi 0 0),(vr 740),(vi 648 0),(vi 0 0),(vr 747),(vi 650 0),(vi 0 0),(vr 754),(vi 655 0),(vi 0 0),(vr 761),(vi 666 0),(vi 0 0),(vr 766),(vi 685 0),(vi 0 0),(vr 773),(vi 691 0),(vi 0 0),(vr 780),(vi 706 0),(vi 0 0),(vr 785),(vi 724 0),(vi 0 0),(vr 790),(vi 727 0),(vi 0 0),(vr 797),(vi 729 0),(vi 0 0),(vr 804)],
 o8 "<module>" 182 1 11,
 o6 13 3 3 "__main__" 164 0]++(
 fu 15 (st 0) "_wall" "_wall" 187 1 1 ["k"] N "__main__" 164++(
 [
 tp [],
 o5,
 di [e P "__module__" 205 (vs "lua.values" 194),e P "__qualname__" 207 (vs "Limits" 206),e P "__firstlineno__" 209 (vi 6 208),e P "__init__" 236 (vr 36),e P "greatest" 243 (vr 43),e P "least" 250 (vr 50),e P "__static_attributes__" 261 (vr 51)] 7,
 tp [],
 fl [(vi 8 0),(vi 4 0),(vr 35),(vi 20 0),(vi 4 0),(vr 42),(vi 23 0),(vi 4 0),(vr 49)],
 o8 "Limits" 200 6 25,
 o6 27 3 24 "lua.values" 194 0,
 tp [(vi 64 210),(vi 250 211),(vi 60 212),(vi 200 213),(vi 40 214),(vi 200 215),(vi 2000 216),(vi 50 217),(vi 1000000000 218),(vi 1000000 219)]]++(
 fu 30 (me 3 0) "__init__" "Limits.__init__" 220 8 11 ["self","width","registers","upvalues","local_names","ccalls","frames","stack","flush","steps","text"] (vr 29) "lua.values" 194++(
 fu 37 (me 3 1) "greatest" "Limits.greatest" 237 20 1 ["self"] N "lua.values" 194++(
 fu 44 (me 3 2) "least" "Limits.least" 244 23 1 ["self"] N "lua.values" 194++(
 [
 tp [(vs "ccalls" 251),(vs "flush" 252),(vs "frames" 253),(vs "local_names" 254),(vs "registers" 255),(vs "stack" 256),(vs "steps" 257),(vs "text" 258),(vs "upvalues" 259),(vs "width" 260)],
 di [e P "__module__" 205 (vs "lua.values" 194),e P "__firstlineno__" 209 (vi 6 208),e P "__init__" 236 (vr 36),e P "greatest" 243 (vr 43),e P "least" 250 (vr 50),e P "__static_attributes__" 261 (vr 51),e P "__dict__" 263 (vr 54),e P "__weakref__" 265 (vr 55),e P "__doc__" 266 N] 4,
 o7 "Limits" [(vt "object")] [(vr 53),(vt "object")] 52 [] none 198 206 "object.__new__",
 o4 262 53,
 o3 264 53,
 o2 53,
 o1 53,
 tp [(vt "Exception")],
 o5]))))))
noncomputable def ob1 (P:Params):List Obj:=
 [
 di [e P "__module__" 276 (vs "lua.values" 194),e P "__qualname__" 278 (vs "LuaError" 277),e P "__firstlineno__" 280 (vi 25 279),e P "__init__" 288 (vr 71),e P "__static_attributes__" 291 (vr 72)] 5,
 tp [],
 fl [(vi 27 0),(vi 4 0),(vr 70)],
 o8 "LuaError" 271 25 61,
 o6 63 3 60 "lua.values" 194 0]++(
 fu 65 (me 4 0) "__init__" "LuaError.__init__" 281 27 2 ["self","value"] N "lua.values" 194++(
 [
 tp [(vs "trace" 289),(vs "value" 290)],
 di [e P "__module__" 276 (vs "lua.values" 194),e P "__firstlineno__" 280 (vi 25 279),e P "__init__" 288 (vr 71),e P "__static_attributes__" 291 (vr 72),e P "__weakref__" 293 (vr 75),e P "__doc__" 294 N] 3,
 o7 "LuaError" [(vt "Exception")] [(vr 74),(vt "Exception"),(vt "BaseException"),(vt "object")] 73 [] (some (vr 58)) 269 277 "Exception.__new__",
 o3 292 74,
 o2 74,
 o1 74,
 tp [(vt "Exception")],
 o5,
 di [e P "__module__" 306 (vs "lua.values" 194),e P "__qualname__" 308 (vs "ApiError" 307),e P "__firstlineno__" 310 (vi 30 309),e P "__init__" 318 (vr 91),e P "__static_attributes__" 320 (vr 92)] 5,
 tp [],
 fl [(vi 32 0),(vi 4 0),(vr 90)],
 o8 "ApiError" 301 30 81,
 o6 83 3 80 "lua.values" 194 0]++(
 fu 85 (me 5 0) "__init__" "ApiError.__init__" 311 32 2 ["self","text"] N "lua.values" 194++(
 [
 tp [(vs "text" 319)],
 di [e P "__module__" 306 (vs "lua.values" 194),e P "__firstlineno__" 310 (vi 30 309),e P "__init__" 318 (vr 91),e P "__static_attributes__" 320 (vr 92),e P "__weakref__" 322 (vr 95),e P "__doc__" 323 N] 3,
 o7 "ApiError" [(vt "Exception")] [(vr 94),(vt "Exception"),(vt "BaseException"),(vt "object")] 93 [] (some (vr 78)) 299 307 "Exception.__new__",
 o3 321 94,
 o2 94,
 o1 94]++(
 fu 98 (st 6) "is_number" "is_number" 328 34 1 ["value"] N "lua.values" 194++(
 fu 105 (st 7) "is_false" "is_false" 335 36 1 ["value"] N "lua.values" 194++(
 fu 112 (st 8) "wrap" "wrap" 342 40 2 ["n","width","low"] N "lua.values" 194++(
 fu 119 (st 9) "divide" "divide" 351 45 2 ["a","b","found"] N "lua.values" 194))))))))
noncomputable def ob2 (P:Params):List Obj:=
 fu 126 (st 10) "power" "power" 360 48 3 ["a","b","width","found","base"] N "lua.values" 194++(
 fu 133 (st 11) "arith" "arith" 371 62 4 ["op","a","b","limits","width"] N "lua.values" 194++(
 fu 140 (st 12) "is_blank" "is_blank" 382 81 1 ["octet"] N "lua.values" 194++(
 fu 147 (st 13) "digit_of" "digit_of" 389 83 1 ["octet"] N "lua.values" 194++(
 fu 154 (st 14) "read_digits" "read_digits" 396 91 3 ["text","at","base","found","digit"] N "lua.values" 194++(
 fu 161 (st 15) "skip_blanks" "skip_blanks" 407 100 2 ["text","at"] N "lua.values" 194++(
 fu 168 (st 16) "str_to_number" "str_to_number" 415 104 2 ["text","limits"] N "lua.values" 194++(
 fu 175 (st 17) "text_in_base" "text_in_base" 423 106 3 ["text","base","limits","at","is_below","is_marked","found","end"] N "lua.values" 194++(
 fu 182 (st 18) "to_number" "to_number" 437 118 2 ["value","limits"] N "lua.values" 194))))))))
noncomputable def ob3 (P:Params):List Obj:=
 fu 189 (st 19) "number_text" "number_text" 445 124 1 ["n","left","found"] N "lua.values" 194++(
 fu 196 (st 20) "to_text" "to_text" 454 134 1 ["value"] N "lua.values" 194++(
 fu 203 (st 21) "c_text" "c_text" 461 140 1 ["text","at"] N "lua.values" 194++(
 fu 210 (st 22) "first_line" "first_line" 469 145 1 ["text","at"] N "lua.values" 194++(
 fu 217 (st 23) "chunk_id" "chunk_id" 477 150 2 ["source","size","room","name","line"] N "lua.values" 194++(
 [
 tp [],
 o5,
 di [e P "__module__" 497 (vs "lua.treehost" 488),e P "__qualname__" 499 (vs "TreeTable" 498),e P "__firstlineno__" 501 (vi 164 500),e P "__init__" 509 (vr 237),e P "find" 519 (vr 244),e P "get" 528 (vr 251),e P "set" 538 (vr 258),e P "length" 546 (vr 265),e P "follower" 556 (vr 272),e P "__static_attributes__" 561 (vr 273)] 10,
 tp [],
 fl [(vi 166 0),(vi 4 0),(vr 236),(vi 172 0),(vi 4 0),(vr 243),(vi 178 0),(vi 4 0),(vr 250),(vi 182 0),(vi 4 0),(vr 257),(vi 190 0),(vi 4 0),(vr 264),(vi 196 0),(vi 4 0),(vr 271)],
 o8 "TreeTable" 492 164 227,
 o6 229 3 226 "lua.treehost" 488 0]++(
 fu 231 (me 25 0) "__init__" "TreeTable.__init__" 502 166 2 ["self","number"] N "lua.treehost" 488++(
 fu 238 (me 25 1) "find" "TreeTable.find" 510 172 2 ["self","key","at","known"] N "lua.treehost" 488++(
 fu 245 (me 25 2) "get" "TreeTable.get" 520 178 2 ["self","key","at"] N "lua.treehost" 488))))))))
noncomputable def ob4 (P:Params):List Obj:=
 fu 252 (me 25 3) "set" "TreeTable.set" 529 182 3 ["self","key","value","at"] N "lua.treehost" 488++(
 fu 259 (me 25 4) "length" "TreeTable.length" 539 190 1 ["self","found"] N "lua.treehost" 488++(
 fu 266 (me 25 5) "follower" "TreeTable.follower" 547 196 2 ["self","key","at","spot"] N "lua.treehost" 488++(
 [
 tp [(vs "keys" 557),(vs "meta" 558),(vs "number" 559),(vs "values" 560)],
 di [e P "__module__" 497 (vs "lua.treehost" 488),e P "__firstlineno__" 501 (vi 164 500),e P "__init__" 509 (vr 237),e P "find" 519 (vr 244),e P "get" 528 (vr 251),e P "set" 538 (vr 258),e P "length" 546 (vr 265),e P "follower" 556 (vr 272),e P "__static_attributes__" 561 (vr 273),e P "__dict__" 563 (vr 276),e P "__weakref__" 565 (vr 277),e P "__doc__" 566 N] 4,
 o7 "TreeTable" [(vt "object")] [(vr 275),(vt "object")] 274 [] none 490 498 "object.__new__",
 o4 562 275,
 o3 564 275,
 o2 275,
 o1 275,
 tp [],
 o5,
 di [e P "__module__" 576 (vs "lua.treehost" 488),e P "__qualname__" 578 (vs "Builtin" 577),e P "__firstlineno__" 580 (vi 206 579),e P "__init__" 590 (vr 293),e P "__static_attributes__" 594 (vr 294)] 5,
 tp [],
 fl [(vi 208 0),(vi 4 0),(vr 292)],
 o8 "Builtin" 571 206 283,
 o6 285 3 282 "lua.treehost" 488 0]++(
 fu 287 (me 26 0) "__init__" "Builtin.__init__" 581 208 4 ["self","number","name","work"] N "lua.treehost" 488++(
 [
 tp [(vs "name" 591),(vs "number" 592),(vs "work" 593)],
 di [e P "__module__" 576 (vs "lua.treehost" 488),e P "__firstlineno__" 580 (vi 206 579),e P "__init__" 590 (vr 293),e P "__static_attributes__" 594 (vr 294),e P "__dict__" 596 (vr 297),e P "__weakref__" 598 (vr 298),e P "__doc__" 599 N] 4,
 o7 "Builtin" [(vt "object")] [(vr 296),(vt "object")] 295 [] none 569 577 "object.__new__",
 o4 595 296,
 o3 597 296,
 o2 296,
 o1 296]++(
 fu 301 (st 27) "tree_type" "tree_type" 602 212 1 ["value"] N "lua.treehost" 488++(
 fu 308 (st 28) "same" "same" 609 222 2 ["one","other","kind"] N "lua.treehost" 488)))))))
noncomputable def ob5 (P:Params):List Obj:=
 fu 315 (st 29) "is_function" "is_function" 618 229 1 ["value"] N "lua.treehost" 488++(
 [
 tp [],
 o5,
 di [e P "__module__" 632 (vs "lua.treehost" 488),e P "__qualname__" 634 (vs "Frame" 633),e P "__firstlineno__" 636 (vi 231 635),e P "__init__" 646 (vr 335),e P "__static_attributes__" 651 (vr 336)] 5,
 tp [],
 fl [(vi 233 0),(vi 4 0),(vr 334)],
 o8 "Frame" 627 231 325,
 o6 327 3 324 "lua.treehost" 488 0]++(
 fu 329 (me 30 0) "__init__" "Frame.__init__" 637 233 4 ["self","number","cells","extra"] N "lua.treehost" 488++(
 [
 tp [(vs "cells" 647),(vs "extra" 648),(vs "line" 649),(vs "number" 650)],
 di [e P "__module__" 632 (vs "lua.treehost" 488),e P "__firstlineno__" 636 (vi 231 635),e P "__init__" 646 (vr 335),e P "__static_attributes__" 651 (vr 336),e P "__dict__" 653 (vr 339),e P "__weakref__" 655 (vr 340),e P "__doc__" 656 N] 4,
 o7 "Frame" [(vt "object")] [(vr 338),(vt "object")] 337 [] none 625 633 "object.__new__",
 o4 652 338,
 o3 654 338,
 o2 338,
 o1 338,
 tp [],
 o5,
 di [e P "__module__" 666 (vs "lua.treehost" 488),e P "__qualname__" 668 (vs "Host" 667),e P "__firstlineno__" 670 (vi 238 669),e P "__init__" 679 (vr 356),e P "fresh" 686 (vr 363),e P "tick" 693 (vr 370),e P "where" 702 (vr 377),e P "fail" 710 (vr 384),e P "complain" 718 (vr 391),e P "fail_type" 729 (vr 398),e P "cut_frames" 737 (vr 405),e P "handler" 746 (vr 412),e P "call_handler" 756 (vr 419),e P "either" 767 (vr 426),e P "call" 777 (vr 433),e P "call_other" 788 (vr 440),e P "call_host" 799 (vr 447),e P "equal" 809 (vr 454),e P "compared" 820 (vr 461),e P "fail_order" 831 (vr 468),e P "less" 841 (vr 475),e P "at_most" 852 (vr 482),e P "__static_attributes__" 860 (vr 483)] 23,
 tp [],
 fl [(vi 240 0),(vi 4 0),(vr 355),(vi 249 0),(vi 4 0),(vr 362),(vi 253 0),(vi 4 0),(vr 369),(vi 258 0),(vi 4 0),(vr 376),(vi 264 0),(vi 4 0),(vr 383),(vi 267 0),(vi 4 0),(vr 390),(vi 270 0),(vi 4 0),(vr 397),(vi 276 0),(vi 4 0),(vr 404),(vi 279 0),(vi 4 0),(vr 411),(vi 286 0),(vi 4 0),(vr 418),(vi 290 0),(vi 4 0),(vr 425),(vi 294 0),(vi 4 0),(vr 432),(vi 297 0),(vi 4 0),(vr 439),(vi 305 0),(vi 4 0),(vr 446),(vi 314 0),(vi 4 0),(vr 453),(vi 324 0),(vi 4 0),(vr 460),(vi 330 0),(vi 4 0),(vr 467),(vi 336 0),(vi 4 0),(vr 474),(vi 346 0),(vi 4 0),(vr 481)],
 o8 "Host" 661 238 346,
 o6 348 3 345 "lua.treehost" 488 0]++(
 fu 350 (me 31 0) "__init__" "Host.__init__" 671 240 3 ["self","limits","source"] N "lua.treehost" 488++(
 fu 357 (me 31 1) "fresh" "Host.fresh" 680 249 1 ["self"] N "lua.treehost" 488++(
 fu 364 (me 31 2) "tick" "Host.tick" 687 253 1 ["self"] N "lua.treehost" 488++(
 fu 371 (me 31 3) "where" "Host.where" 694 258 2 ["self","level","at"] N "lua.treehost" 488)))))))
noncomputable def ob6 (P:Params):List Obj:=
 fu 378 (me 31 4) "fail" "Host.fail" 703 264 2 ["self","text"] N "lua.treehost" 488++(
 fu 385 (me 31 5) "complain" "Host.complain" 711 267 2 ["self","text"] N "lua.treehost" 488++(
 fu 392 (me 31 6) "fail_type" "Host.fail_type" 719 270 4 ["self","value","deed","name","kind"] N "lua.treehost" 488++(
 fu 399 (me 31 7) "cut_frames" "Host.cut_frames" 730 276 2 ["self","many"] N "lua.treehost" 488++(
 fu 406 (me 31 8) "handler" "Host.handler" 738 279 3 ["self","value","event"] N "lua.treehost" 488++(
 fu 413 (me 31 9) "call_handler" "Host.call_handler" 747 286 3 ["self","handler","args","found"] N "lua.treehost" 488++(
 fu 420 (me 31 10) "either" "Host.either" 757 290 4 ["self","one","other","event","follow"] N "lua.treehost" 488++(
 fu 427 (me 31 11) "call" "Host.call" 768 294 4 ["self","function","args","name"] N "lua.treehost" 488++(
 fu 434 (me 31 12) "call_other" "Host.call_other" 778 297 4 ["self","function","args","name","follow"] N "lua.treehost" 488))))))))
noncomputable def ob7 (P:Params):List Obj:=
 fu 441 (me 31 13) "call_host" "Host.call_host" 789 305 3 ["self","function","args","frame","found"] N "lua.treehost" 488++(
 fu 448 (me 31 14) "equal" "Host.equal" 800 314 3 ["self","one","other","follow"] N "lua.treehost" 488++(
 fu 455 (me 31 15) "compared" "Host.compared" 810 324 4 ["self","one","other","event","follow"] N "lua.treehost" 488++(
 fu 462 (me 31 16) "fail_order" "Host.fail_order" 821 330 3 ["self","one","other","first","second"] N "lua.treehost" 488++(
 fu 469 (me 31 17) "less" "Host.less" 832 336 3 ["self","one","other","found"] N "lua.treehost" 488++(
 fu 476 (me 31 18) "at_most" "Host.at_most" 842 346 3 ["self","one","other","found","turned"] N "lua.treehost" 488++(
 [
 tp [(vs "chunk" 853),(vs "frames" 854),(vs "limits" 855),(vs "made" 856),(vs "out" 857),(vs "steps" 858),(vs "texts" 859)],
 di [e P "__module__" 666 (vs "lua.treehost" 488),e P "__firstlineno__" 670 (vi 238 669),e P "__init__" 679 (vr 356),e P "fresh" 686 (vr 363),e P "tick" 693 (vr 370),e P "where" 702 (vr 377),e P "fail" 710 (vr 384),e P "complain" 718 (vr 391),e P "fail_type" 729 (vr 398),e P "cut_frames" 737 (vr 405),e P "handler" 746 (vr 412),e P "call_handler" 756 (vr 419),e P "either" 767 (vr 426),e P "call" 777 (vr 433),e P "call_other" 788 (vr 440),e P "call_host" 799 (vr 447),e P "equal" 809 (vr 454),e P "compared" 820 (vr 461),e P "fail_order" 831 (vr 468),e P "less" 841 (vr 475),e P "at_most" 852 (vr 482),e P "__static_attributes__" 860 (vr 483),e P "__dict__" 862 (vr 486),e P "__weakref__" 864 (vr 487),e P "__doc__" 865 N] 4,
 o7 "Host" [(vt "object")] [(vr 485),(vt "object")] 484 [(vr 634)] none 659 667 "object.__new__",
 o4 861 485,
 o3 863 485,
 o2 485,
 o1 485]++(
 fu 490 (st 33) "flushed" "flushed" 870 359 3 ["table","values","stored","value"] N "lua.treelib" 868++(
 [
 di [e P "+" 882 (vb [97,100,100] 883),e P "-" 884 (vb [115,117,98] 885),e P "*" 886 (vb [109,117,108] 887),e P "/" 888 (vb [100,105,118] 889),e P "%" 890 (vb [109,111,100] 891),e P "^" 892 (vb [112,111,119] 893)] 6,
 tp [(vs "call" 901),(vs "method" 902),(vs "vararg" 903)],
 tp [],
 o5]))))))))
noncomputable def ob8 (P:Params):List Obj:=
 [
 di [e P "__module__" 914 (vs "lua.treeworth" 880),e P "__qualname__" 916 (vs "Cell" 915),e P "__firstlineno__" 918 (vi 368 917),e P "__init__" 927 (vr 512),e P "__static_attributes__" 930 (vr 513)] 5,
 tp [],
 fl [(vi 370 0),(vi 4 0),(vr 511)],
 o8 "Cell" 909 368 502,
 o6 504 3 501 "lua.treeworth" 880 0]++(
 fu 506 (me 38 0) "__init__" "Cell.__init__" 919 370 3 ["self","value","owner"] N "lua.treeworth" 880++(
 [
 tp [(vs "owner" 928),(vs "value" 929)],
 di [e P "__module__" 914 (vs "lua.treeworth" 880),e P "__firstlineno__" 918 (vi 368 917),e P "__init__" 927 (vr 512),e P "__static_attributes__" 930 (vr 513),e P "__dict__" 932 (vr 516),e P "__weakref__" 934 (vr 517),e P "__doc__" 935 N] 4,
 o7 "Cell" [(vt "object")] [(vr 515),(vt "object")] 514 [] none 907 915 "object.__new__",
 o4 931 515,
 o3 933 515,
 o2 515,
 o1 515,
 tp [(vr 485)],
 o5,
 di [e P "__module__" 945 (vs "lua.treeworth" 880),e P "__qualname__" 947 (vs "ExprRunner" 946),e P "__firstlineno__" 949 (vi 373 948),e P "__init__" 958 (vr 533),e P "worth" 968 (vr 540),e P "function" 977 (vr 547),e P "told" 989 (vr 554),e P "index" 1003 (vr 561),e P "values" 1015 (vr 568),e P "open_values" 1028 (vr 575),e P "hold" 1038 (vr 582),e P "value" 1052 (vr 589),e P "other_value" 1063 (vr 596),e P "table" 1079 (vr 603),e P "unary" 1093 (vr 610),e P "binary" 1108 (vr 617),e P "reckoned" 1124 (vr 624),e P "joined" 1138 (vr 631),e P "__static_attributes__" 1141 (vr 632)] 19,
 tp [],
 fl [(vi 375 0),(vi 4 0),(vr 532),(vi 379 0),(vi 4 0),(vr 539),(vi 384 0),(vi 4 0),(vr 546),(vi 387 0),(vi 4 0),(vr 553),(vi 402 0),(vi 4 0),(vr 560),(vi 420 0),(vi 4 0),(vr 567),(vi 429 0),(vi 4 0),(vr 574),(vi 446 0),(vi 4 0),(vr 581),(vi 450 0),(vi 4 0),(vr 588),(vi 472 0),(vi 4 0),(vr 595),(vi 484 0),(vi 4 0),(vr 602),(vi 503 0),(vi 4 0),(vr 609),(vi 523 0),(vi 4 0),(vr 616),(vi 548 0),(vi 4 0),(vr 623),(vi 562 0),(vi 4 0),(vr 630)],
 o8 "ExprRunner" 940 373 523,
 o6 525 3 522 "lua.treeworth" 880 0]++(
 fu 527 (me 39 0) "__init__" "ExprRunner.__init__" 950 375 3 ["self","limits","source"] N "lua.treeworth" 880++(
 fu 534 (me 39 1) "worth" "ExprRunner.worth" 959 379 3 ["self","node","extra","frame"] N "lua.treeworth" 880++(
 fu 541 (me 39 2) "function" "ExprRunner.function" 969 384 3 ["self","node","frame"] N "lua.treeworth" 880++(
 fu 548 (me 39 3) "told" "ExprRunner.told" 978 387 3 ["self","node","frame","kind","word","key"] N "lua.treeworth" 880++(
 fu 555 (me 39 4) "index" "ExprRunner.index" 990 402 4 ["self","owner","key","name","here","step","value","follow"] N "lua.treeworth" 880)))))))
noncomputable def ob9 (P:Params):List Obj:=
 fu 562 (me 39 5) "values" "ExprRunner.values" 1004 420 3 ["self","nodes","frame","found","at","node"] N "lua.treeworth" 880++(
 fu 569 (me 39 6) "open_values" "ExprRunner.open_values" 1016 429 3 ["self","node","frame","owner","function","args","name"] N "lua.treeworth" 880++(
 fu 576 (me 39 7) "hold" "ExprRunner.hold" 1029 446 3 ["self","node","frame","number"] N "lua.treeworth" 880++(
 fu 583 (me 39 8) "value" "ExprRunner.value" 1039 450 3 ["self","node","frame","kind","parts","found","owner","key"] N "lua.treeworth" 880++(
 fu 590 (me 39 9) "other_value" "ExprRunner.other_value" 1053 472 3 ["self","node","frame","kind","parts"] N "lua.treeworth" 880++(
 fu 597 (me 39 10) "table" "ExprRunner.table" 1064 484 3 ["self","items","frame","found","waiting","stored","at","item","key","value"] N "lua.treeworth" 880++(
 fu 604 (me 39 11) "unary" "ExprRunner.unary" 1080 503 3 ["self","node","frame","word","operand","value","number","follow"] N "lua.treeworth" 880++(
 fu 611 (me 39 12) "binary" "ExprRunner.binary" 1094 523 3 ["self","node","frame","word","left","right","value","one","other"] N "lua.treeworth" 880++(
 fu 618 (me 39 13) "reckoned" "ExprRunner.reckoned" 1109 548 6 ["self","word","one","other","node","frame","a","b","event","follow"] N "lua.treeworth" 880))))))))
noncomputable def ob10 (P:Params):List Obj:=
 fu 625 (me 39 14) "joined" "ExprRunner.joined" 1125 562 5 ["self","one","other","node","frame","a","b","follow"] N "lua.treeworth" 880++(
 [
 tp [(vs "frames" 1139),(vs "globals" 1140)],
 di [e P "__module__" 945 (vs "lua.treeworth" 880),e P "__firstlineno__" 949 (vi 373 948),e P "__init__" 958 (vr 533),e P "worth" 968 (vr 540),e P "function" 977 (vr 547),e P "told" 989 (vr 554),e P "index" 1003 (vr 561),e P "values" 1015 (vr 568),e P "open_values" 1028 (vr 575),e P "hold" 1038 (vr 582),e P "value" 1052 (vr 589),e P "other_value" 1063 (vr 596),e P "table" 1079 (vr 603),e P "unary" 1093 (vr 610),e P "binary" 1108 (vr 617),e P "reckoned" 1124 (vr 624),e P "joined" 1138 (vr 631),e P "__static_attributes__" 1141 (vr 632),e P "__doc__" 1142 N] 2,
 o7 "ExprRunner" [(vr 485)] [(vr 634),(vr 485),(vt "object")] 633 [] (some (vr 520)) 938 946 "object.__new__",
 o2 634,
 o1 634]++(
 fu 637 (st 40) "own_local" "own_local" 1145 574 2 ["node","frame"] N "lua.treeworth" 880++(
 [
 tp [],
 o5,
 di [e P "__module__" 1162 (vs "lua.treebase" 1153),e P "__qualname__" 1164 (vs "Node" 1163),e P "__firstlineno__" 1166 (vi 581 1165),e P "__init__" 1176 (vr 657),e P "__static_attributes__" 1180 (vr 658)] 5,
 tp [],
 fl [(vi 583 0),(vi 4 0),(vr 656)],
 o8 "Node" 1157 581 647,
 o6 649 3 646 "lua.treebase" 1153 0]++(
 fu 651 (me 42 0) "__init__" "Node.__init__" 1167 583 4 ["self","kind","line","parts"] N "lua.treebase" 1153++(
 [
 tp [(vs "kind" 1177),(vs "line" 1178),(vs "parts" 1179)],
 di [e P "__module__" 1162 (vs "lua.treebase" 1153),e P "__firstlineno__" 1166 (vi 581 1165),e P "__init__" 1176 (vr 657),e P "__static_attributes__" 1180 (vr 658),e P "__dict__" 1182 (vr 661),e P "__weakref__" 1184 (vr 662),e P "__doc__" 1185 N] 4,
 o7 "Node" [(vt "object")] [(vr 660),(vt "object")] 659 [] none 1155 1163 "object.__new__",
 o4 1181 660,
 o3 1183 660,
 o2 660,
 o1 660]++(
 fu 665 (st 44) "_law_events" "_law_events" 1190 588 0 [] N "law_pc0186_02" 1188++(
 fu 672 (st 45) "_law_words" "_law_words" 1196 590 0 [] N "law_pc0186_02" 1188++(
 fu 679 (st 46) "_law_take" "_law_take" 1202 592 2 ["box","wide"] N "law_pc0186_02" 1188))))))))
noncomputable def ob11 (P:Params):List Obj:=
 fu 686 (st 47) "_law_world" "_law_world" 1210 597 1 ["box","world","at","rows","key"] N "law_pc0186_02" 1188++(
 fu 693 (st 48) "_law_meta" "_law_meta" 1221 607 2 ["box","at","found","event","form"] N "law_pc0186_02" 1188++(
 fu 700 (st 49) "_law_thing" "_law_thing" 1232 616 1 ["box","form"] N "law_pc0186_02" 1188++(
 fu 707 (st 50) "_law_wrong" "_law_wrong" 1240 619 1 ["world"] N "law_pc0186_02" 1188++(
 fu 714 (st 51) "_law_handler" "_law_handler" 1247 622 3 ["world","value","event"] N "law_pc0186_02" 1188++(
 fu 721 (st 52) "_law_call" "_law_call" 1256 626 3 ["world","value","given","follow"] N "law_pc0186_02" 1188++(
 fu 728 (st 53) "_law_field" "_law_field" 1266 634 3 ["world","owner","key","turn","has_rows","follow"] N "law_pc0186_02" 1188++(
 fu 735 (st 54) "_law_kind" "_law_kind" 1278 646 1 ["value"] N "law_pc0186_02" 1188++(
 fu 742 (st 55) "_law_is_yes" "_law_is_yes" 1285 648 1 ["value"] N "law_pc0186_02" 1188))))))))
noncomputable def ob12 (P:Params):List Obj:=
 fu 749 (st 56) "_law_both" "_law_both" 1292 650 4 ["world","event","one","other","follow"] N "law_pc0186_02" 1188++(
 fu 756 (st 57) "_law_order" "_law_order" 1303 655 4 ["world","one","other","is_strict","kinds","found","turned"] N "law_pc0186_02" 1188++(
 [
 tp [],
 fl [],
 sk (fn (st 58) "_law_binary" "_law_binary" 0 N N N N none N N 0),
 co [(vs "_law_binary" 1316),(vs "_law_binary" 1317),(vs "/claim/cut.py" 1318),(vi 666 0),(vi 4 0),(vi 0 0),(vi 0 0),(vi 3 0),(vr 763),(Value.bool true),(vi 181 0),(vr 764),N,N,N,(vr 765),(vi 1319 0),(vi 666 0),(vs "/claim/cut.py" 1320)],
 fo (fn (st 58) "_law_binary" "_law_binary" 3 N N N (vs "law_pc0186_02" 1188) none (vr 766) N 0)]++(
 fu 768 (st 59) "_law_leaf" "_law_leaf" 1322 685 1 ["value"] N "law_pc0186_02" 1188++(
 fu 775 (st 60) "_law_asked" "_law_asked" 1329 691 2 ["box","world","form","one","other","key","node","follow","word"] N "law_pc0186_02" 1188++(
 [
 tp [],
 fl [],
 sk (fn (st 61) "_law_made" "_law_made" 0 N N N N none N N 0),
 co [(vs "_law_made" 1344),(vs "_law_made" 1345),(vs "/claim/cut.py" 1346),(vi 706 0),(vi 3 0),(vi 0 0),(vi 0 0),(vi 3 0),(vr 782),(Value.bool true),(vi 181 0),(vr 783),N,N,N,(vr 784),(vi 1347 0),(vi 706 0),(vs "/claim/cut.py" 1348)],
 fo (fn (st 61) "_law_made" "_law_made" 3 N N N (vs "law_pc0186_02" 1188) none (vr 785) N 0),
 tp [],
 fl [],
 sk (fn (st 62) "_law_noted" "_law_noted" 0 N N N N none N N 0),
 co [(vs "_law_noted" 1350),(vs "_law_noted" 1351),(vs "/claim/cut.py" 1352),(vi 724 0),(vi 3 0),(vi 0 0),(vi 0 0),(vi 3 0),(vr 787),(Value.bool true),(vi 181 0),(vr 788),N,N,N,(vr 789),(vi 1353 0),(vi 724 0),(vs "/claim/cut.py" 1354)],
 fo (fn (st 62) "_law_noted" "_law_noted" 3 N N N (vs "law_pc0186_02" 1188) none (vr 790) N 0)]++(
 fu 792 (st 63) "_law_as_told" "_law_as_told" 1356 727 1 ["value"] N "law_pc0186_02" 1188++(
 fu 799 (st 64) "law" "law" 1363 729 1 ["script","box","seen","world","runner","turn","node","due","found","is_refused"] N "law_pc0186_02" 1188)))))))
noncomputable def ob (P:Params):List Obj:=ob0 P++(ob1 P++(ob2 P++(ob3 P++(ob4 P++(ob5 P++(ob6 P++(ob7 P++(ob8 P++(ob9 P++(ob10 P++(ob11 P++(ob12 P))))))))))))
noncomputable def mkT:List Obj->Nat->BT->BT|[],_,t=>t|o::l,i,t=>mkT l (i+1) (t.ins i o)
noncomputable def putAll:List (Nat×Obj)->List Obj->List Obj|[],l=>l|p::r,l=>putAll r (l.set p.1 p.2)
noncomputable def trunD (k n:Nat) (nm:Value) (o:Obj):Obj:=match o with|⟨c,d,.dict ⟨x::es⟩ _,sl⟩=>⟨c,d,.dict ⟨⟨x.hash,x.key,nm⟩::es.take k⟩ n,sl⟩|o=>o
noncomputable def trunF (k:Nat) (o:Obj):Obj:=match o with|⟨c,d,.fields ⟨l⟩,sl⟩=>⟨c,d,.fields ⟨l.take k⟩,sl⟩|o=>o
noncomputable def stg (P:Params) (n:Nat) (ov:List Obj->List (Nat×Obj)):List Obj:=putAll (ov (ob P)) ((ob P).take n)
noncomputable def shT (P:Params) (n tk:Nat) (ov:List Obj->List (Nat×Obj)) (os:OsState):SharedT:=⟨mkT (stg P n ov) 0 .nil,n,{}, #[],⟨0,0,0,0⟩,tk,os⟩
noncomputable def ovB (P:Params) (l:List Obj):List (Nat×Obj):=[(2,⟨N,none,.dict #[] 0, #[]⟩),(3,trunD 8 9 (vs "__main__" 164) (l.getD 3 (fl []))),(12,trunF 0 (l.getD 12 (fl [])))]
noncomputable abbrev shB (P:Params) (os:OsState):SharedT:=shT P 15 187 (ovB P) os
noncomputable def ov0 (P:Params) (l:List Obj):List (Nat×Obj):=[(2,⟨N,none,.dict #[] 0, #[]⟩),(3,trunD 11 12 (vs "lua.values" 194) (l.getD 3 (fl []))),(12,trunF 6 (l.getD 12 (fl [])))]
noncomputable abbrev sh0 (P:Params) (os:OsState):SharedT:=shT P 58 269 (ov0 P) os
noncomputable def ov1 (P:Params) (l:List Obj):List (Nat×Obj):=[(2,⟨N,none,.dict #[e P "type.__subclasses__.Exception.0" 295 (vi 74 0),e P "type.__subclasses__.Exception.n" 296 (vi 1 0)] 2, #[]⟩),(3,trunD 12 13 (vs "lua.values" 194) (l.getD 3 (fl []))),(12,trunF 9 (l.getD 12 (fl [])))]
noncomputable abbrev sh1 (P:Params) (os:OsState):SharedT:=shT P 78 299 (ov1 P) os
noncomputable def ov2 (P:Params) (l:List Obj):List (Nat×Obj):=[(3,trunD 18 19 (vs "lua.values" 194) (l.getD 3 (fl []))),(12,trunF 27 (l.getD 12 (fl [])))]
noncomputable abbrev sh2 (P:Params) (os:OsState):SharedT:=shT P 133 371 (ov2 P) os
noncomputable def ov3 (P:Params) (l:List Obj):List (Nat×Obj):=[(3,trunD 30 31 (vs "lua.values" 194) (l.getD 3 (fl []))),(12,trunF 63 (l.getD 12 (fl [])))]
noncomputable abbrev sh3 (P:Params) (os:OsState):SharedT:=shT P 217 477 (ov3 P) os
noncomputable def ov4 (P:Params) (l:List Obj):List (Nat×Obj):=[(3,trunD 31 32 (vs "lua.treehost" 488) (l.getD 3 (fl []))),(12,trunF 66 (l.getD 12 (fl [])))]
noncomputable abbrev sh4 (P:Params) (os:OsState):SharedT:=shT P 224 490 (ov4 P) os
noncomputable def ov5 (P:Params) (l:List Obj):List (Nat×Obj):=[(3,trunD 32 33 (vs "lua.treehost" 488) (l.getD 3 (fl []))),(12,trunF 69 (l.getD 12 (fl [])))]
noncomputable abbrev sh5 (P:Params) (os:OsState):SharedT:=shT P 280 569 (ov5 P) os
noncomputable def ov6 (P:Params) (l:List Obj):List (Nat×Obj):=[(3,trunD 36 37 (vs "lua.treehost" 488) (l.getD 3 (fl []))),(12,trunF 81 (l.getD 12 (fl [])))]
noncomputable abbrev sh6 (P:Params) (os:OsState):SharedT:=shT P 322 625 (ov6 P) os
noncomputable def ov7 (P:Params) (l:List Obj):List (Nat×Obj):=[(3,trunD 37 38 (vs "lua.treehost" 488) (l.getD 3 (fl []))),(12,trunF 84 (l.getD 12 (fl [])))]
noncomputable abbrev sh7 (P:Params) (os:OsState):SharedT:=shT P 343 659 (ov7 P) os
noncomputable def ov8 (P:Params) (l:List Obj):List (Nat×Obj):=[(3,trunD 38 39 (vs "lua.treehost" 488) (l.getD 3 (fl []))),(12,trunF 87 (l.getD 12 (fl []))),(485,⟨(vt "type"),none,.cls ({name:="Host",bases:=[(vt "object")],mro:=[(vr 485),(vt "object")],ns:=484,qualname:="Host",hasDict:=true,slotNames:=[],subclasses:=[],abstract:=false,collection:=none,hasDel:=false}:ClassData), #[none,none,(some (vs "Host" 659)),(some (vs "Host" 667)),(some (vn "object.__new__")),(some (Value.bool true))]⟩)]
noncomputable abbrev sh8 (P:Params) (os:OsState):SharedT:=shT P 490 868 (ov8 P) os
noncomputable def ov9 (P:Params) (l:List Obj):List (Nat×Obj):=[(3,trunD 39 40 (vs "lua.treeworth" 880) (l.getD 3 (fl []))),(12,trunF 90 (l.getD 12 (fl []))),(485,⟨(vt "type"),none,.cls ({name:="Host",bases:=[(vt "object")],mro:=[(vr 485),(vt "object")],ns:=484,qualname:="Host",hasDict:=true,slotNames:=[],subclasses:=[],abstract:=false,collection:=none,hasDel:=false}:ClassData), #[none,none,(some (vs "Host" 659)),(some (vs "Host" 667)),(some (vn "object.__new__")),(some (Value.bool true))]⟩)]
noncomputable abbrev sh9 (P:Params) (os:OsState):SharedT:=shT P 497 882 (ov9 P) os
noncomputable def ov10 (P:Params) (l:List Obj):List (Nat×Obj):=[(3,trunD 40 41 (vs "lua.treeworth" 880) (l.getD 3 (fl []))),(12,trunF 90 (l.getD 12 (fl []))),(485,⟨(vt "type"),none,.cls ({name:="Host",bases:=[(vt "object")],mro:=[(vr 485),(vt "object")],ns:=484,qualname:="Host",hasDict:=true,slotNames:=[],subclasses:=[],abstract:=false,collection:=none,hasDel:=false}:ClassData), #[none,none,(some (vs "Host" 659)),(some (vs "Host" 667)),(some (vn "object.__new__")),(some (Value.bool true))]⟩)]
noncomputable abbrev sh10 (P:Params) (os:OsState):SharedT:=shT P 498 901 (ov10 P) os
noncomputable def ov11 (P:Params) (l:List Obj):List (Nat×Obj):=[(3,trunD 43 44 (vs "lua.treeworth" 880) (l.getD 3 (fl []))),(12,trunF 93 (l.getD 12 (fl []))),(485,⟨(vt "type"),none,.cls ({name:="Host",bases:=[(vt "object")],mro:=[(vr 485),(vt "object")],ns:=484,qualname:="Host",hasDict:=true,slotNames:=[],subclasses:=[],abstract:=false,collection:=none,hasDel:=false}:ClassData), #[none,none,(some (vs "Host" 659)),(some (vs "Host" 667)),(some (vn "object.__new__")),(some (Value.bool true))]⟩)]
noncomputable abbrev sh11 (P:Params) (os:OsState):SharedT:=shT P 520 938 (ov11 P) os
noncomputable def ov12 (P:Params) (l:List Obj):List (Nat×Obj):=[(3,trunD 44 45 (vs "lua.treeworth" 880) (l.getD 3 (fl []))),(12,trunF 96 (l.getD 12 (fl [])))]
noncomputable abbrev sh12 (P:Params) (os:OsState):SharedT:=shT P 637 1145 (ov12 P) os
noncomputable def ov13 (P:Params) (l:List Obj):List (Nat×Obj):=[(3,trunD 50 51 (vs "law_pc0186_02" 1188) (l.getD 3 (fl []))),(12,trunF 114 (l.getD 12 (fl [])))]
noncomputable abbrev sh13 (P:Params) (os:OsState):SharedT:=shT P 693 1221 (ov13 P) os
noncomputable def ov14 (P:Params) (l:List Obj):List (Nat×Obj):=[(3,trunD 62 63 (vs "law_pc0186_02" 1188) (l.getD 3 (fl []))),(12,trunF 150 (l.getD 12 (fl [])))]
noncomputable abbrev sh14 (P:Params) (os:OsState):SharedT:=shT P 775 1329 (ov14 P) os
noncomputable def ov15 (P:Params) (l:List Obj):List (Nat×Obj):=[]
noncomputable abbrev sh15 (P:Params) (os:OsState):SharedT:=shT P 806 1379 (ov15 P) os
abbrev m0:Nat:=11
abbrev ann:Option Value:=(some (vr 6))
abbrev en:Env:={scope:=pw.main.scope,locals:=mainNs,globals:=mainNs,cells:=[],code:=(vr 13),frame:=some 14}
abbrev bd:List Stmt:=behindTheImports pw
abbrev cE:Code:=.body bd en
abbrev qE:Pos:=⟨0,0,0,0⟩
noncomputable def H0 (P:Params):Heap:=boot_heap P
noncomputable def HA (P:Params):Heap:=⟨⟨stg P 15 (ovB P)⟩,{}⟩
noncomputable def H1 (P:Params):Heap:=⟨⟨ob P⟩,{}⟩
abbrev d0:Drawn:=⟨0,0,0,0⟩
noncomputable def g0s:Array GenState:=Array.mk []
theorem pre_ (w:World) (os:OsState):topGo treeTable pw w m0 ann 12 ⟨H0 w.params,g0s,d0,181,os⟩ (topStub pw)=some (⟨HA w.params,g0s,d0,187,os⟩,⟨denote treeTable cE,cE,⟨0,0,0,0⟩,[topFrame qE]⟩):=by
 rw [PySem.W.Fast.te15667345088766844465,PySem.W.Fast.te11892475500146522536,PySem.W.Fast.te14364793385576792824];kernel_rfl
theorem block_ (w:World) (os:OsState):segRun treeTable pw w m0 ann 1 1 ⟨HA w.params,g0s,d0,187,os⟩ (blockOf bd en cE ⟨0,0,0,0⟩ [topFrame qE])=some (.next,(shB w.params os).abs,cE,⟨0,0,0,0⟩):=by
 rw [PySem.W.Fast.te14374325043358763698,PySem.W.Fast.te14364793385576792824];kernel_rfl
abbrev l0:List Stmt:=(bd.drop 0).take 4
theorem pc0 (w:World) (os:OsState):segRunT treeTable pw w m0 ann 1 361 (shB w.params os) (piecesOf l0 en cE ⟨0,0,0,0⟩ [topFrame qE])=some (.next,sh0 w.params os,cE,⟨6,0,24,37⟩):=by
 rw [PySem.W.Fast.te10110043849684766642,PySem.W.Fast.te14364793385576792824];kernel_rfl
abbrev l1:List Stmt:=(bd.drop 4).take 1
theorem pc1 (w:World) (os:OsState):segRunT treeTable pw w m0 ann 1 230 (sh0 w.params os) (piecesOf l1 en cE ⟨6,0,24,37⟩ [topFrame qE])=some (.next,sh1 w.params os,cE,⟨25,0,29,23⟩):=by
 rw [PySem.W.Fast.te10110043849684766642,PySem.W.Fast.te14364793385576792824];kernel_rfl
abbrev l2:List Stmt:=(bd.drop 5).take 6
theorem pc2 (w:World) (os:OsState):segRunT treeTable pw w m0 ann 1 382 (sh1 w.params os) (piecesOf l2 en cE ⟨25,0,29,23⟩ [topFrame qE])=some (.next,sh2 w.params os,cE,⟨48,0,61,29⟩):=by
 rw [PySem.W.Fast.te10110043849684766642,PySem.W.Fast.te14364793385576792824];kernel_rfl
abbrev l3:List Stmt:=(bd.drop 11).take 12
theorem pc3 (w:World) (os:OsState):segRunT treeTable pw w m0 ann 1 371 (sh2 w.params os) (piecesOf l3 en cE ⟨48,0,61,29⟩ [topFrame qE])=some (.next,sh3 w.params os,cE,⟨145,0,149,20⟩):=by
 rw [PySem.W.Fast.te10110043849684766642,PySem.W.Fast.te14364793385576792824];kernel_rfl
abbrev l4:List Stmt:=(bd.drop 23).take 2
theorem pc4 (w:World) (os:OsState):segRunT treeTable pw w m0 ann 1 43 (sh3 w.params os) (piecesOf l4 en cE ⟨145,0,149,20⟩ [topFrame qE])=some (.next,sh4 w.params os,cE,⟨163,0,163,8⟩):=by
 rw [PySem.W.Fast.te10110043849684766642,PySem.W.Fast.te14364793385576792824];kernel_rfl
abbrev l5:List Stmt:=(bd.drop 25).take 1
theorem pc5 (w:World) (os:OsState):segRunT treeTable pw w m0 ann 1 393 (sh4 w.params os) (piecesOf l5 en cE ⟨163,0,163,8⟩ [topFrame qE])=some (.next,sh5 w.params os,cE,⟨164,0,205,19⟩):=by
 rw [PySem.W.Fast.te10110043849684766642,PySem.W.Fast.te14364793385576792824];kernel_rfl
abbrev l6:List Stmt:=(bd.drop 26).take 4
theorem pc6 (w:World) (os:OsState):segRunT treeTable pw w m0 ann 1 316 (sh5 w.params os) (piecesOf l6 en cE ⟨164,0,205,19⟩ [topFrame qE])=some (.next,sh6 w.params os,cE,⟨229,0,230,42⟩):=by
 rw [PySem.W.Fast.te10110043849684766642,PySem.W.Fast.te14364793385576792824];kernel_rfl
abbrev l7:List Stmt:=(bd.drop 30).take 1
theorem pc7 (w:World) (os:OsState):segRunT treeTable pw w m0 ann 1 228 (sh6 w.params os) (piecesOf l7 en cE ⟨229,0,230,42⟩ [topFrame qE])=some (.next,sh7 w.params os,cE,⟨231,0,237,21⟩):=by
 rw [PySem.W.Fast.te10110043849684766642,PySem.W.Fast.te14364793385576792824];kernel_rfl
abbrev l8:List Stmt:=(bd.drop 31).take 1
theorem pc8 (w:World) (os:OsState):segRunT treeTable pw w m0 ann 1 835 (sh7 w.params os) (piecesOf l8 en cE ⟨231,0,237,21⟩ [topFrame qE])=some (.next,sh8 w.params os,cE,⟨238,0,357,20⟩):=by
 rw [PySem.W.Fast.te10110043849684766642,PySem.W.Fast.te14364793385576792824];kernel_rfl
abbrev l9:List Stmt:=(bd.drop 32).take 3
theorem pc9 (w:World) (os:OsState):segRunT treeTable pw w m0 ann 1 51 (sh8 w.params os) (piecesOf l9 en cE ⟨238,0,357,20⟩ [topFrame qE])=some (.next,sh9 w.params os,cE,⟨364,0,364,8⟩):=by
 rw [PySem.W.Fast.te10110043849684766642,PySem.W.Fast.te14364793385576792824];kernel_rfl
abbrev l10:List Stmt:=(bd.drop 35).take 1
theorem pc10false (w:World) (os:OsState):segRunT treeTable pw (w.withFollow "special-get-raises" false) m0 ann 1 101 (sh9 (w.withFollow "special-get-raises" false).params os) (piecesOf l10 en cE ⟨364,0,364,8⟩ [topFrame qE])=some (.next,sh10 (w.withFollow "special-get-raises" false).params os,cE,⟨365,0,365,10⟩):=by
 rw [PySem.W.Fast.te10110043849684766642,PySem.W.Fast.te14364793385576792824];kernel_rfl
theorem pc10true (w:World) (os:OsState):segRunT treeTable pw (w.withFollow "special-get-raises" true) m0 ann 1 101 (sh9 (w.withFollow "special-get-raises" true).params os) (piecesOf l10 en cE ⟨364,0,364,8⟩ [topFrame qE])=some (.next,sh10 (w.withFollow "special-get-raises" true).params os,cE,⟨365,0,365,10⟩):=by
 rw [PySem.W.Fast.te10110043849684766642,PySem.W.Fast.te14364793385576792824];kernel_rfl
theorem pc10 (w:World) (os:OsState):segRunT treeTable pw w m0 ann 1 101 (sh9 w.params os) (piecesOf l10 en cE ⟨364,0,364,8⟩ [topFrame qE])=some (.next,sh10 w.params os,cE,⟨365,0,365,10⟩):=
 byRow2 "special-get-raises" (P:=fun w=>segRunT treeTable pw w m0 ann 1 101 (sh9 w.params os) (piecesOf l10 en cE ⟨364,0,364,8⟩ [topFrame qE])=some (.next,sh10 w.params os,cE,⟨365,0,365,10⟩)) (fun w=>pc10false w os) (fun w=>pc10true w os) w
abbrev l11:List Stmt:=(bd.drop 36).take 3
theorem pc11 (w:World) (os:OsState):segRunT treeTable pw w m0 ann 1 247 (sh10 w.params os) (piecesOf l11 en cE ⟨365,0,365,10⟩ [topFrame qE])=some (.next,sh11 w.params os,cE,⟨368,0,372,26⟩):=by
 rw [PySem.W.Fast.te10110043849684766642,PySem.W.Fast.te14364793385576792824];kernel_rfl
abbrev l12:List Stmt:=(bd.drop 39).take 1
theorem pc12 (w:World) (os:OsState):segRunT treeTable pw w m0 ann 1 764 (sh11 w.params os) (piecesOf l12 en cE ⟨368,0,372,26⟩ [topFrame qE])=some (.next,sh12 w.params os,cE,⟨373,0,573,78⟩):=by
 rw [PySem.W.Fast.te10110043849684766642,PySem.W.Fast.te14364793385576792824];kernel_rfl
abbrev l13:List Stmt:=(bd.drop 40).take 8
theorem pc13 (w:World) (os:OsState):segRunT treeTable pw w m0 ann 1 394 (sh12 w.params os) (piecesOf l13 en cE ⟨373,0,573,78⟩ [topFrame qE])=some (.next,sh13 w.params os,cE,⟨597,0,606,16⟩):=by
 rw [PySem.W.Fast.te10110043849684766642,PySem.W.Fast.te14364793385576792824];kernel_rfl
abbrev l14:List Stmt:=(bd.drop 48).take 12
theorem pc14 (w:World) (os:OsState):segRunT treeTable pw w m0 ann 1 371 (sh13 w.params os) (piecesOf l14 en cE ⟨597,0,606,16⟩ [topFrame qE])=some (.next,sh14 w.params os,cE,⟨685,0,690,79⟩):=by
 rw [PySem.W.Fast.te10110043849684766642,PySem.W.Fast.te14364793385576792824];kernel_rfl
abbrev l15:List Stmt:=(bd.drop 60).take 5
theorem pc15 (w:World) (os:OsState):segRunT treeTable pw w m0 ann 1 157 (sh14 w.params os) (piecesOf l15 en cE ⟨685,0,690,79⟩ [topFrame qE])=some (.next,sh15 w.params os,cE,⟨729,0,747,15⟩):=by
 rw [PySem.W.Fast.te10110043849684766642,PySem.W.Fast.te14364793385576792824];kernel_rfl
theorem fin_ (w:World) (os:OsState):topRun treeTable pw w m0 ann 2 (sh15 w.params os).abs ⟨doneF .next,cE,⟨729,0,747,15⟩,[topFrame qE]⟩=some ⟨H1 w.params,g0s,d0,1379,os⟩:=by
 rw [PySem.W.Fast.te14082659384304107361,PySem.W.Fast.te14364793385576792824];kernel_rfl
theorem run_ (w:World) (os:OsState):topRun treeTable pw w m0 ann 10722 ⟨H0 w.params,g0s,d0,181,os⟩ (topStub pw)=some ⟨H1 w.params,g0s,d0,1379,os⟩:=by
 have k:∀M,Nat.ble M 10722=true->topRun treeTable pw w m0 ann M ⟨H0 w.params,g0s,d0,181,os⟩ (topStub pw)=some ⟨H1 w.params,g0s,d0,1379,os⟩->topRun treeTable pw w m0 ann 10722 ⟨H0 w.params,g0s,d0,181,os⟩ (topStub pw)=some ⟨H1 w.params,g0s,d0,1379,os⟩:=fun M h r=>by
  have:=topRun_mono (10722-M) _ _ _ _ r;rwa [show M+(10722-M)=10722 from Nat.add_sub_cancel' (Nat.le_of_ble_eq_true h)] at this
 have r16:=piece_nil (env:=en) (fin_ w os);have r15:=piece_app (segRun_of (pc15 w os)) r16;have r14:=piece_app (segRun_of (pc14 w os)) r15;have r13:=piece_app (segRun_of (pc13 w os)) r14;have r12:=piece_app (segRun_of (pc12 w os)) r13;have r11:=piece_app (segRun_of (pc11 w os)) r12;have r10:=piece_app (segRun_of (pc10 w os)) r11;have r9:=piece_app (segRun_of (pc9 w os)) r10;have r8:=piece_app (segRun_of (pc8 w os)) r9;have r7:=piece_app (segRun_of (pc7 w os)) r8;have r6:=piece_app (segRun_of (pc6 w os)) r7;have r5:=piece_app (segRun_of (pc5 w os)) r6;have r4:=piece_app (segRun_of (pc4 w os)) r5;have r3:=piece_app (segRun_of (pc3 w os)) r4;have r2:=piece_app (segRun_of (pc2 w os)) r3;have r1:=piece_app (segRun_of (pc1 w os)) r2;have r0:=piece_app (segRun_of (pc0 w os)) r1;have rb:=piece_block (b:=bd) (block_ w os) r0;have ra:=go_top (pre_ w os) rb;exact k _ (by rfl) ra
end
end Hd
namespace Hd
open PySem PySem.W PyProof.Rows
noncomputable section
abbrev rw1:OpenLaw:=PySem.Challenge.rw_pc0186_02
def vw:Program:={pw with main:={pw.main with body:=[st 64]}}
def dl:DefRec:=⟨Str.ofString "law",stA (st 64),stB (st 64),stS (st 64),stP (st 64)⟩
def lo:List Str:=pw.boundNames.filter fun n=> !(n==Str.ofString "law"||n==Str.ofString "__name__")
theorem hdef:defOf vw (Str.ofString "law")=some (dl,[]):=by kernel_rfl
abbrev Xt:Shared->Bool:=fun s=>xlAt vw [] s&&recOk [] s
theorem look1 (w:World) (os:OsState):(staticsOk (importedModules pw.main.body) (H0 w.params) (H1 w.params)&&namesBound pw (H1 w.params)&&gensDone ⟨H1 w.params,g0s,d0,1379,os⟩&&laidKept (H0 w.params) (H1 w.params))=true:=by
 kernel_rfl
theorem look2 (w:World) (os:OsState):openSeen vw lo (importedModules pw.main.body) Xt true ⟨H1 w.params,g0s,d0,1379,os⟩=openGood vw lo:=by
 rw [PySem.W.Fast.te4187177175401517315];kernel_rfl
theorem looks_ (w:World):(fun os=>((staticsOk (importedModules pw.main.body) (H0 w.params) (H1 w.params)&&namesBound pw (H1 w.params)&&gensDone ⟨H1 w.params,g0s,d0,1379,os⟩&&laidKept (H0 w.params) (H1 w.params)),
 openSeen vw lo (importedModules pw.main.body) Xt true ⟨H1 w.params,g0s,d0,1379,os⟩,(⟨H1 w.params,g0s,d0,1379,os⟩:Shared).heap.objs))=fun _=>(true,openGood vw lo,⟨ob w.params⟩):=by
 funext os
 rw [look1,look2];rfl
theorem open_:∀w:World,(fencedOpening treeTable pw w 10722).map (fun s=>(s.heap,s.gens,s.drawn,s.toks))=some (H0 w.params,g0s,d0,181):=
 boot_open (by kernel_rfl) (by kernel_rfl) (fun s=>by kernel_rfl)
theorem size_ (w:World):((H0 w.params).isNs mainGlobals&&g0s.size==0,(H0 w.params).objs.size,(H0 w.params).nsMap mainGlobals "__annotations__")=(true,m0,ann):=by kernel_rfl
theorem left_:LeftO pw vw lo Xt (fun s=>s.heap.objs) (fun w=>(⟨ob w.params⟩:Array Obj)) 10722:=
 LeftO.of_pieces open_ size_ run_ (by rfl) looks_
end
end Hd
namespace Hd
open PySem PySem.W PyProof.Rows
noncomputable section
def YP (w:World) (h:Heap):Prop:=∀(i:Nat) (o:Obj),(ob w.params)[i]? =some o->h.get? i=some o
theorem noFreed (P:Params):(ob P).all (fun o=> !o.isFreed)=true:=by kernel_rfl
theorem YP_of (w:World) (s:Shared) (y:s.heap.objs=(⟨ob w.params⟩:Array Obj)):YP w s.heap:=by
 intro i o h;refine Heap.get?_some_iff.mpr ⟨?_,?_⟩
 ·rw [y];simpa using h
 ·have:=List.all_eq_true.mp (noFreed w.params) o (List.mem_of_getElem? h);simpa using this
theorem YP_keeps (w:World) (h h':Heap) (y:YP w h) (k:∀b o,h.get? b=some o->h'.get? b=some o):YP w h':=fun i o e=>k _ _ (y i o e)
theorem ws1:rw1.wellSaid=true:=by
 rw [PySem.W.Fast.te9446332074065402090];kernel_rfl
theorem top1 (hw:rw1.row.toRowW.promised) (hc:WalkO vw lo (XL vw []) YP rw1.row.toRowW dl [] fun f vs=>PySem.call f vs):rw1.Holds:=
 holds_law ws1 fun said=>holds_open (r:=rw1.row) (q:=vw) (loose:=lo) (Xt:=Xt) (XP:=XL vw []) (Yf:=fun s=>s.heap.objs) (Ya:=fun w=>(⟨ob w.params⟩:Array Obj)) (YP:=YP) (N:=10722)
  left_ YP_of YP_keeps (fun s e=>xl_of s (Bool.and_eq_true_iff.mp e).1) XL.keeps hdef (by kernel_rfl) (by kernel_rfl) (fun s e=>recFacts_of (Bool.and_eq_true_iff.mp e).2) (by rfl) said (by kernel_rfl)
  ⟨rfl,rfl,rfl,rfl,rfl,by decide+kernel⟩ hw hc
end
end Hd
namespace Hd
open PySem PySem.W PySem.W.X PyProof.Rows
theorem tt (hc:WalkO Hd.vw Hd.lo (XL Hd.vw []) Hd.YP Hd.rw1.row.toRowW Hd.dl [] fun f vs=>PySem.call f vs):PySem.Challenge.rw_pc0186_02.Holds:=by
 refine Hd.top1 ?_ hc
 w_on
 w_witness2
end Hd
namespace Mine
open Nat renaming le_of_ble_eq_true->qa,le_trans->qb,lt_of_lt_of_le->qc,lt_of_le_of_lt->qd,ne_of_gt->qe,ne_of_lt->qf,lt_add_of_pos_right->qg,le_add_right_of_le->qh,le_add_right->qi,lt_succ_of_le->qj,le_of_eq->qk,le_of_lt->ql,le_refl->qm,zero_le->qn,lt_irrefl->qo,le_succ->qp
open Option.some renaming inj->qq
open And renaming intro->qr
open List renaming getElem?_eq_none_iff->qs,getElem?_map->qt,getElem?_eq_getElem->qu,getElem?_append_right->qv,getElem?_append_left->qw,nodup_cons->qx,length_set->qy,mem_append->qz,getElem?_eq_some_iff->qA,mem_singleton->qB,mem_cons->qC,mem_of_getElem?->qD,length_map->qF,size_toArray->qG
open PySem.Str renaming ofString->qH
open Bool renaming and_eq_true_iff->qI
open False renaming elim->qJ
open PySem.Heap renaming get?_push_size->qK,get?_push_of_some->qL,lt_size->qM,get?_update_self->qN
open PySem.PyData renaming keyHash->qO
open PySem renaming wpAny_bind->qP,wpAny_pure->qQ,mainGlobals->qR,call_gives->qS,wpAny_of_eq->qT,builtinLookup_eq_fast->qU,wpAny_mono->qV,wpAny_holding->qW,starEach->qX,sizeLine_eq->qY,treeTable->qZ,wpAny_specialOf->qa1,typeLookup_type->qb1,behindInMarks->qc1,builtinsNs->qd1,typeLookup->qe1
open PySem.W renaming typeIs_bytes->qf1
open PySem
section P2
open S renaming done->d,seq->s,expr->x,ret->r,asg->a,asgT->t,setattr->p,ite->f,asgC->C
open E renaming nm->n,cons->c,nil->l,int->i,str->k,bytes->b,cmp->q,call->g,meth->m,sub->u,attr->e,bin->z,none->N,list->L,tup->T,and->A,or->O,un->U,isi->I,bi->B,ite->F,bool->D,slice->S'
noncomputable def kk1:S:=s (p (n 0) 1 (n 1)) (s (p (n 0) 2 (n 2)) (s (p (n 0) 3 (n 3)) (s (p (n 0) 4 (n 4)) (s (p (n 0) 5 (n 5)) (s (p (n 0) 6 (n 6)) (s (p (n 0) 7 (n 7)) (s (p (n 0) 8 (n 8)) (s (p (n 0) 9 (n 9)) (s (p (n 0) 10 (n 10)) d)))))))))
noncomputable def yK4:S:=s (r (A (I (n 11) .int) (U .Not (I (n 11) .bool)))) d
noncomputable def yx5:S:=s (f (q .Is (n 11) N) (s (r (D true)) d) d) (s (r (A (I (n 11) .bool) (U .Not (n 11)))) d)
noncomputable def y411:S:=s (a 13 (z .BitAnd (n 12) (z .Sub (z .LShift (i 1) (n 1)) (i 1)))) (s (f (q .GtE (n 13) (z .LShift (i 1) (z .Sub (n 1) (i 1)))) (s (r (z .Sub (n 13) (z .LShift (i 1) (n 1)))) d) d) (s (r (n 13)) d))
noncomputable def yz7:S:=s (a 16 (z .FloorDiv (B .abs (c (n 14) l)) (B .abs (c (n 15) l)))) (s (r (F (q .NotEq (q .Lt (n 14) (i 0)) (q .Lt (n 15) (i 0))) (U .USub (n 16)) (n 16))) d)
noncomputable def yF9:S:=s (a 1 (e (n 18) 1)) (s (f (q .Eq (n 17) (b [97,100,100])) (s (r (g 3 (c (z .Add (n 14) (n 15)) (c (n 1) l)))) d) d) (s (f (q .Eq (n 17) (b [115,117,98])) (s (r (g 3 (c (z .Sub (n 14) (n 15)) (c (n 1) l)))) d) d) (s (f (q .Eq (n 17) (b [109,117,108])) (s (r (g 3 (c (z .Mult (n 14) (n 15)) (c (n 1) l)))) d) d) (s (f (q .Eq (n 17) (b [117,110,109])) (s (r (g 3 (c (U .USub (n 14)) (c (n 1) l)))) d) d) (s (f (q .Eq (n 17) (b [112,111,119])) (s (r .bad) d) d) (s (f (A (q .NotEq (n 17) (b [100,105,118])) (q .NotEq (n 17) (b [109,111,100]))) (s .bad d) d) (s (f (q .Eq (n 15) (i 0)) (s (.raise (b [97,116,116,101,109,112,116,32,116,111,32,100,105,118,105,100,101,32,98,121,32,122,101,114,111])) d) d) (s (f (q .Eq (n 17) (b [100,105,118])) (s (r (g 3 (c (g 4 (c (n 14) (c (n 15) l))) (c (n 1) l)))) d) d) (s (r (g 3 (c (z .Mod (n 14) (n 15)) (c (n 1) l)))) d)))))))))
noncomputable def yw5:S:=s (r (q .In (n 19) (.gv 2))) d
noncomputable def yv5:S:=s (f (.cmp2 .LtE .LtE (i 48) (n 19) (i 57)) (s (r (z .Sub (n 19) (i 48))) d) d) (s (f (.cmp2 .LtE .LtE (i 97) (n 19) (i 122)) (s (r (z .Sub (n 19) (i 87))) d) d) (s (f (.cmp2 .LtE .LtE (i 65) (n 19) (i 90)) (s (r (z .Sub (n 19) (i 55))) d) d) (s (r (U .USub (i 1))) d)))
noncomputable def yC2:S:=s (a 16 (i 0)) (s (.while (q .Lt (n 20) (B .len (c (n 10) l))) (s (a 22 (g 7 (c (u (n 10) (n 20)) l))) (s (f (O (q .Lt (n 22) (i 0)) (q .GtE (n 22) (n 21))) (s .brk d) d) (s (a 16 (z .Add (z .Mult (n 16) (n 21)) (n 22))) (s (a 20 (z .Add (n 20) (i 1))) d))))) (s (r (T (c (n 16) (c (n 20) l)))) d))
noncomputable def yD2:S:=s (.while (A (q .Lt (n 20) (B .len (c (n 10) l))) (g 6 (c (u (n 10) (n 20)) l))) (s (a 20 (z .Add (n 20) (i 1))) d)) (s (r (n 20)) d)
noncomputable def yp1:S:=s (r (g 11 (c (n 10) (c (i 0) (c (n 18) l))))) d
noncomputable def yO1:S:=s (t true [20,23] (T (c (g 9 (c (n 10) (c (i 0) l))) (c (D false) l)))) (s (f (A (q .Lt (n 20) (B .len (c (n 10) l))) (q .In (u (n 10) (n 20)) (b [43,45]))) (s (a 23 (q .Eq (u (n 10) (n 20)) (i 45))) (s (a 20 (z .Add (n 20) (i 1))) d)) d) (s (a 25 (A (q .Lt (z .Add (n 20) (i 2)) (B .len (c (n 10) l))) (A (q .Eq (u (n 10) (n 20)) (i 48)) (A (q .In (u (n 10) (z .Add (n 20) (i 1))) (b [120,88])) (q .In (n 21) (T (c (i 0) (c (i 16) l)))))))) (s (f (A (n 25) (.cmp2 .LtE .Lt (i 0) (g 7 (c (u (n 10) (z .Add (n 20) (i 2))) l)) (i 16))) (s (t true [20,21] (T (c (z .Add (n 20) (i 2)) (c (i 16) l)))) d) d) (s (t false [16,24] (g 8 (c (n 10) (c (n 20) (c (F (q .Eq (n 21) (i 0)) (i 10) (n 21)) l))))) (s (f (O (q .Eq (n 24) (n 20)) (q .NotEq (g 9 (c (n 10) (c (n 24) l))) (B .len (c (n 10) l)))) (s (r N) d) d) (s (r (g 3 (c (F (n 23) (U .USub (n 16)) (n 16)) (c (e (n 18) 1) l)))) d))))))
noncomputable def yN4:S:=s (f (g 1 (c (n 11) l)) (s (r (n 11)) d) d) (s (f (I (n 11) .bytes) (s (r (g 10 (c (n 11) (c (n 18) l)))) d) d) (s (r N) d))
noncomputable def yB2:S:=s (t true [28,16] (T (c (B .abs (c (n 12) l)) (c (L l) l)))) (s (.while (q .Gt (n 28) (i 9)) (s (x (m (n 16) 27 (c (z .Add (i 48) (z .Mod (n 28) (i 10))) l))) (s (a 28 (z .FloorDiv (n 28) (i 10))) d))) (s (x (m (n 16) 27 (c (z .Add (i 48) (n 28)) l))) (s (f (q .Lt (n 12) (i 0)) (s (x (m (n 16) 27 (c (i 45) l))) d) d) (s (x (m (n 16) 26 l)) (s (r (B .bytes (c (n 16) l))) d)))))
noncomputable def yT6:S:=s (f (I (n 11) .bytes) (s (r (n 11)) d) d) (s (f (g 1 (c (n 11) l)) (s (r (g 13 (c (n 11) l))) d) d) (s (r N) d))
noncomputable def yy7:S:=s (a 20 (i 0)) (s (.while (A (q .Lt (n 20) (B .len (c (n 10) l))) (q .NotEq (u (n 10) (n 20)) (i 0))) (s (a 20 (z .Add (n 20) (i 1))) d)) (s (r (S' (n 10) N (n 20))) d))
noncomputable def yu5:S:=s (a 29 (g 15 (c (n 29) l))) (s (f (q .Eq (S' (n 29) N (i 1)) (b [61])) (s (r (S' (n 29) (i 1) (n 30))) d) d) (s (f (q .Eq (S' (n 29) N (i 1)) (b [64])) (s (t true [32,33] (T (c .bad (c (S' (n 29) (i 1) N) l)))) (s (r (F (q .Gt (B .len (c (n 33) l)) (n 32)) (z .Add (b [46,46,46]) (S' (n 33) (z .Sub (B .len (c (n 33) l)) (n 32)) N)) (n 33))) d)) d) (s (t true [31,32] (T (c .bad (c .bad l)))) (s (f (q .Gt (B .len (c (n 31) l)) (n 32)) (s (a 31 (S' (n 31) N (n 32))) d) d) (s (f (q .Lt (B .len (c (n 31) l)) (B .len (c (n 29) l))) (s (a 31 (z .Add (n 31) (b [46,46,46]))) d) d) (s (r (z .Add (z .Add (b [91,115,116,114,105,110,103,32,34]) (n 31)) (b [34,93]))) d))))))
noncomputable def zm:S:=s (p (n 0) 34 (n 34)) (s (p (n 0) 37 (L l)) (s (p (n 0) 36 (L l)) (s (p (n 0) 35 N) d)))
noncomputable def yQ:S:=s (.for (.two 20 39) .enum (e (n 0) 37) (s (f (g 24 (c (n 39) (c (n 38) l))) (s (r (n 20)) d) d) d)) (s (r (U .USub (i 1))) d)
noncomputable def yn1:S:=s (a 20 (m (n 0) 40 (c (n 38) l))) (s (r (F (q .Lt (n 20) (i 0)) N (u (e (n 0) 36) (n 20)))) d)
noncomputable def yo1:S:=s (a 20 (m (n 0) 40 (c (n 38) l))) (s (f (q .GtE (n 20) (i 0)) (s (.setsub (e (n 0) 36) (n 20) (n 11)) d) (s (f (q .IsNot (n 11) N) (s (x (m (e (n 0) 37) 27 (c (n 38) l))) (s (x (m (e (n 0) 36) 27 (c (n 11) l))) d)) d) d)) d)
noncomputable def z6:S:=s (a 16 (i 0)) (s (.while (q .IsNot (m (n 0) 41 (c (z .Add (n 16) (i 1)) l)) N) (s (.augN 16 .Add (i 1)) d)) (s (r (n 16)) d))
noncomputable def zW:S:=s (p (n 0) 34 (n 34)) (s (p (n 0) 33 (n 33)) (s (p (n 0) 42 (n 42)) d))
noncomputable def yO4:S:=s (f (q .Is (n 11) N) (s (r (b [110,105,108])) d) d) (s (f (I (n 11) .bool) (s (r (b [98,111,111,108,101,97,110])) d) d) (s (f (I (n 11) .int) (s (r (b [110,117,109,98,101,114])) d) d) (s (f (I (n 11) .bytes) (s (r (b [115,116,114,105,110,103])) d) d) (s (r (F (I (n 11) (.cls 275)) (b [116,97,98,108,101]) (b [102,117,110,99,116,105,111,110]))) d))))
noncomputable def y311:S:=s (a 45 (g 23 (c (n 43) l))) (s (f (q .NotEq (n 45) (g 23 (c (n 44) l))) (s (r (D false)) d) d) (s (f (O (q .Eq (n 45) (b [116,97,98,108,101])) (q .Eq (n 45) (b [102,117,110,99,116,105,111,110]))) (s (r (q .Eq (e (n 43) 34) (e (n 44) 34))) d) d) (s (r (q .Eq (n 43) (n 44))) d)))
noncomputable def yA2:S:=s (r (q .Eq (g 23 (c (n 11) l)) (b [102,117,110,99,116,105,111,110]))) d
noncomputable def yN:S:=s (p (n 0) 34 (n 34)) (s (p (n 0) 46 (n 46)) (s (p (n 0) 47 (n 47)) (s (p (n 0) 31 (i 0)) d)))
noncomputable def yk1:S:=s (p (n 0) 18 (n 18)) (s (p (n 0) 51 (g 16 (c (n 29) (c (i 60) l)))) (s (p (n 0) 50 (L l)) (s (p (n 0) 9 (i 0)) (s (p (n 0) 49 (i 0)) (s (p (n 0) 6 (L l)) (s (p (n 0) 48 (g 64 (c (U .USub (i 60)) l))) d))))))
noncomputable def yu3:S:=s (.augA (n 0) 49 .Add (i 1)) (s (r (e (n 0) 49)) d)
noncomputable def yC4:S:=s (.augA (n 0) 9 .Add (i 1)) (s (f (q .Gt (e (n 0) 9) (e (e (n 0) 18) 9)) (s (.raise (b [116,111,111,32,109,97,110,121,32,115,116,101,112,115])) d) d) d)
noncomputable def yv3:S:=s (a 20 (z .Sub (z .Sub (B .len (c (e (n 0) 6) l)) (i 1)) (n 52))) (s (f (O (q .Lt (n 20) (i 0)) (q .Lt (e (u (e (n 0) 6) (n 20)) 31) (i 1))) (s (r (b [])) d) d) (s (r (z .Add (z .Add (z .Add (e (n 0) 51) (b [58])) (g 13 (c (e (u (e (n 0) 6) (n 20)) 31) l))) (b [58,32]))) d))
noncomputable def yA4:S:=s (.raise (z .Add (m (n 0) 53 (c (i 0) l)) (n 10))) d
noncomputable def yP:S:=s (a 45 (g 23 (c (n 11) l))) (s (f (q .Eq (n 33) (b [])) (s (x (m (n 0) 55 (c (z .Add (z .Add (z .Add (z .Add (b [97,116,116,101,109,112,116,32,116,111,32]) (n 54)) (b [32,97,32])) (n 45)) (b [32,118,97,108,117,101])) l))) d) d) (s (x (m (n 0) 55 (c (z .Add (z .Add (z .Add (z .Add (z .Add (z .Add (b [97,116,116,101,109,112,116,32,116,111,32]) (n 54)) (b [32])) (n 33)) (b [32,40,97,32])) (n 45)) (b [32,118,97,108,117,101,41])) l))) d))
noncomputable def yL1:S:=s (f (I (n 11) (.cls 275)) (s (r (F (q .Is (e (n 11) 35) N) N (m (e (n 11) 35) 41 (c (n 56) l)))) d) d) (s (f (I (n 11) .bytes) (s (r (m (e (n 0) 48) 41 (c (n 56) l))) d) d) (s (r N) d))
noncomputable def zO:S:=s (a 16 (m (n 0) 59 (c (n 57) (c (n 58) (c (b []) l))))) (s (r (F (q .Gt (B .len (c (n 16) l)) (i 0)) (u (n 16) (i 0)) N)) d)
noncomputable def yw2:S:=s (a 60 (m (n 0) 57 (c (n 43) (c (n 56) l)))) (s (r (F (q .Is (n 60) N) (m (n 0) 57 (c (n 44) (c (n 56) l))) (n 60))) d)
noncomputable def yz4:S:=s (r (m (n 0) 62 (c (n 61) (c (n 58) (c (n 33) l))))) d
noncomputable def yk:S:=s (f (I (n 61) (.cls 296)) (s (r (m (n 0) 64 (c (n 61) (c (n 58) l)))) d) d) (s (a 60 (m (n 0) 57 (c (n 61) (c (b [95,95,99,97,108,108]) l)))) (s (f (U .Not (g 25 (c (n 60) l))) (s (x (m (n 0) 63 (c (n 61) (c (b [99,97,108,108]) (c (n 33) l))))) d) d) (s (r (m (n 0) 59 (c (n 60) (c (z .Add (L (c (n 61) l)) (n 58)) (c (b []) l))))) d)))
noncomputable def yO:S:=s (x (m (n 0) 67 l)) (s (a 66 (g 66 (c (U .USub (i 1)) (c (.dict l) (c (L l) l))))) (s (p (n 66) 31 (U .USub (i 1))) (s (x (m (e (n 0) 6) 27 (c (n 66) l))) (s (a 16 (m (n 61) 42 (c (n 0) (c (n 58) l)))) (s (x (m (e (n 0) 6) 65 l)) (s (r (n 16)) d))))))
noncomputable def yt3:S:=s (f (g 24 (c (n 43) (c (n 44) l))) (s (r (D true)) d) d) (s (f (O (U .Not (I (n 43) (.cls 275))) (U .Not (I (n 44) (.cls 275)))) (s (r (D false)) d) d) (s (a 60 (m (n 0) 57 (c (n 43) (c (b [95,95,101,113]) l)))) (s (f (O (q .Is (n 60) N) (U .Not (g 24 (c (n 60) (c (m (n 0) 57 (c (n 44) (c (b [95,95,101,113]) l))) l))))) (s (r (D false)) d) d) (s (r (U .Not (g 2 (c (m (n 0) 68 (c (n 60) (c (L (c (n 43) (c (n 44) l))) l))) l)))) d))))
noncomputable def yl1:S:=s (a 60 (m (n 0) 57 (c (n 43) (c (n 56) l)))) (s (f (O (q .Is (n 60) N) (U .Not (g 24 (c (n 60) (c (m (n 0) 57 (c (n 44) (c (n 56) l))) l))))) (s (r N) d) d) (s (r (U .Not (g 2 (c (m (n 0) 68 (c (n 60) (c (L (c (n 43) (c (n 44) l))) l))) l)))) d))
noncomputable def yl:S:=s (t true [69,70] (T (c (g 23 (c (n 43) l)) (c (g 23 (c (n 44) l)) l)))) (s (f (q .Eq (n 69) (n 70)) (s (x (m (n 0) 55 (c (z .Add (z .Add (b [97,116,116,101,109,112,116,32,116,111,32,99,111,109,112,97,114,101,32,116,119,111,32]) (n 69)) (b [32,118,97,108,117,101,115])) l))) d) d) (s (x (m (n 0) 55 (c (z .Add (z .Add (z .Add (b [97,116,116,101,109,112,116,32,116,111,32,99,111,109,112,97,114,101,32]) (n 69)) (b [32,119,105,116,104,32])) (n 70)) l))) d))
noncomputable def yB4:S:=s (f (O (A (g 1 (c (n 43) l)) (g 1 (c (n 44) l))) (A (I (n 43) .bytes) (I (n 44) .bytes))) (s (r (q .Lt (n 43) (n 44))) d) d) (s (a 16 N) (s (f (q .Eq (g 23 (c (n 43) l)) (g 23 (c (n 44) l))) (s (a 16 (m (n 0) 72 (c (n 43) (c (n 44) (c (b [95,95,108,116]) l))))) d) d) (s (f (q .Is (n 16) N) (s (x (m (n 0) 71 (c (n 43) (c (n 44) l)))) d) d) (s (r (n 16)) d))))
noncomputable def yK1:S:=s (f (O (A (g 1 (c (n 43) l)) (g 1 (c (n 44) l))) (A (I (n 43) .bytes) (I (n 44) .bytes))) (s (r (q .LtE (n 43) (n 44))) d) d) (s (a 16 N) (s (f (q .Eq (g 23 (c (n 43) l)) (g 23 (c (n 44) l))) (s (a 16 (m (n 0) 72 (c (n 43) (c (n 44) (c (b [95,95,108,101]) l))))) (s (f (q .Is (n 16) N) (s (a 73 (m (n 0) 72 (c (n 44) (c (n 43) (c (b [95,95,108,116]) l))))) (s (a 16 (F (q .Is (n 73) N) N (U .Not (n 73)))) d)) d) d)) d) (s (f (q .Is (n 16) N) (s (x (m (n 0) 71 (c (n 43) (c (n 44) l)))) d) d) (s (r (n 16)) d))))
noncomputable def yS6:S:=s (.for (.one 11) .val (n 36) (s (.augN 75 .Add (i 1)) (s (x (m (n 74) 76 (c (n 75) (c (n 11) l)))) d))) (s (r (n 75)) d)
noncomputable def yj1:S:=s (p (n 0) 11 (n 11)) (s (p (n 0) 77 (n 77)) d)
noncomputable def zh:S:=s (x (.methC 27 (c (n 0) (c (n 18) (c (n 29) l))))) (s (p (n 0) 78 (g 64 (c (U .USub (i 80)) l))) d)
noncomputable def z5:S:=s (a 66 (g 66 (c (m (n 0) 80 l) (c (.dict l) (c (n 47) l))))) (s (p (n 0) 6 (L (c (n 66) l))) (s (r (m (n 0) 11 (c (n 79) (c (n 66) l)))) d))
noncomputable def zi:S:=s (x (m (n 0) 55 (c (b [110,111,32,102,117,110,99,116,105,111,110,115,32,104,101,114,101]) l))) d
noncomputable def yj:S:=s (a 45 (e (n 79) 45)) (s (.while (q .Eq (n 45) (k 87)) (s (a 79 (u (e (n 79) 83) (i 0))) (s (a 45 (e (n 79) 45)) d))) (s (f (q .Eq (n 45) (k 85)) (s (a 86 (F (q .Eq (e (u (e (n 66) 46) (u (e (n 79) 83) (i 1))) 77) (e (n 66) 34)) (b [108,111,99,97,108,32,39]) (b [117,112,118,97,108,117,101,32,39]))) (s (r (z .Add (z .Add (n 86) (u (e (n 79) 83) (i 0))) (b [39]))) d)) d) (s (f (q .Eq (n 45) (k 84)) (s (r (z .Add (z .Add (b [103,108,111,98,97,108,32,39]) (u (e (n 79) 83) (i 0))) (b [39]))) d) d) (s (f (q .Eq (n 45) (k 81)) (s (a 38 (u (e (n 79) 83) (i 1))) (s (r (z .Add (z .Add (b [102,105,101,108,100,32,39]) (F (q .Eq (e (n 38) 45) (k 82)) (u (e (n 38) 83) (i 0)) (b [63]))) (b [39]))) d)) d) (s (r (b [])) d)))))
noncomputable def zX:S:=s (a 89 (n 77)) (s (.for (.one 88) .range (.gv 0) (s (f (I (n 89) (.cls 275)) (s (a 11 (m (n 89) 41 (c (n 38) l))) (s (a 60 (F (q .Is (n 11) N) (m (n 0) 57 (c (n 89) (c (b [95,95,105,110,100,101,120]) l))) N)) (s (f (q .Is (n 60) N) (s (r (n 11)) d) d) d))) (s (a 60 (m (n 0) 57 (c (n 89) (c (b [95,95,105,110,100,101,120]) l)))) (s (f (q .Is (n 60) N) (s (x (m (n 0) 63 (c (n 89) (c (b [105,110,100,101,120]) (c (n 33) l))))) d) d) d))) (s (f (g 25 (c (n 60) l)) (s (r (m (n 0) 68 (c (n 60) (c (L (c (n 89) (c (n 38) l))) l)))) d) d) (s (a 89 (n 60)) (s (a 33 (b [])) d))))) (s (x (m (n 0) 55 (c (b [108,111,111,112,32,105,110,32,103,101,116,116,97,98,108,101]) l))) d))
noncomputable def zN:S:=s (a 16 (L l)) (s (.for (.two 20 79) .enum (n 90) (s (f (A (q .Eq (n 20) (z .Sub (B .len (c (n 90) l)) (i 1))) (q .In (e (n 79) 45) (.gv 1))) (s (x (m (n 16) 91 (c (m (n 0) 92 (c (n 79) (c (n 66) l))) l))) d) (s (x (m (n 16) 27 (c (m (n 0) 11 (c (n 79) (c (n 66) l))) l))) d)) d)) (s (r (n 16)) d))
noncomputable def kq1:S:=s (x (m (n 0) 67 l)) (s (f (q .Eq (e (n 79) 45) (k 95)) (s (r (B .list (c (e (n 66) 47) l))) d) d) (s (f (q .Eq (e (n 79) 45) (k 93)) (s (a 77 (m (n 0) 11 (c (u (e (n 79) 83) (i 0)) (c (n 66) l)))) (s (p (n 66) 31 (e (n 79) 31)) (s (a 61 (m (n 0) 81 (c (n 77) (c (u (e (n 79) 83) (i 1)) (c (m (n 0) 94 (c (u (e (n 79) 83) (i 0)) (c (n 66) l))) l))))) (s (a 58 (z .Add (L (c (n 77) l)) (m (n 0) 36 (c (u (e (n 79) 83) (i 2)) (c (n 66) l))))) (s (a 33 (z .Add (z .Add (b [109,101,116,104,111,100,32,39]) (u (e (n 79) 83) (i 1))) (b [39]))) d))))) (s (a 61 (m (n 0) 11 (c (u (e (n 79) 83) (i 0)) (c (n 66) l)))) (s (a 58 (m (n 0) 36 (c (u (e (n 79) 83) (i 1)) (c (n 66) l)))) (s (a 33 (m (n 0) 94 (c (u (e (n 79) 83) (i 0)) (c (n 66) l)))) d)))) (s (p (n 66) 31 (e (n 79) 31)) (s (r (m (n 0) 59 (c (n 61) (c (n 58) (c (n 33) l))))) d))))
noncomputable def yi:S:=s (a 34 (g 61 (c (n 79) (c (n 66) l)))) (s (r (F (q .Lt (n 34) (i 0)) (g 67 (c (m (n 0) 11 (c (n 79) (c (n 66) l))) (c (U .USub (i 1)) l))) (u (e (n 66) 46) (n 34)))) d)
noncomputable def z4:S:=s (x (m (n 0) 67 l)) (s (t true [45,83] (T (c (e (n 79) 45) (c (e (n 79) 83) l)))) (s (f (q .Eq (n 45) (k 85)) (s (r (e (u (e (n 66) 46) (u (n 83) (i 1))) 11)) d) d) (s (f (O (q .Eq (n 45) (k 34)) (q .Eq (n 45) (k 82))) (s (r (u (n 83) (i 0))) d) d) (s (f (q .Eq (n 45) (k 84)) (s (p (n 66) 31 (e (n 79) 31)) (s (r (m (e (n 0) 78) 41 (c (u (n 83) (i 0)) l))) d)) d) (s (f (q .Eq (n 45) (k 98)) (s (r (m (n 0) 99 (c (n 79) (c (n 66) l)))) d) d) (s (f (q .In (n 45) (.gv 1)) (s (a 16 (m (n 0) 92 (c (n 79) (c (n 66) l)))) (s (r (F (q .Gt (B .len (c (n 16) l)) (i 0)) (u (n 16) (i 0)) N)) d)) d) (s (f (q .Eq (n 45) (k 81)) (s (a 77 (m (n 0) 97 (c (u (n 83) (i 0)) (c (n 66) l)))) (s (a 38 (m (n 0) 97 (c (u (n 83) (i 1)) (c (n 66) l)))) (s (p (n 66) 31 (e (n 79) 31)) (s (r (m (n 0) 81 (c (e (n 77) 11) (c (e (n 38) 11) (c (m (n 0) 94 (c (u (n 83) (i 0)) (c (n 66) l))) l))))) d)))) d) (s (r (m (n 0) 96 (c (n 79) (c (n 66) l)))) d))))))))
noncomputable def kr1:S:=s (t true [45,83] (T (c (e (n 79) 45) (c (e (n 79) 83) l)))) (s (f (q .Eq (n 45) (k 87)) (s (r (m (n 0) 11 (c (u (n 83) (i 0)) (c (n 66) l)))) d) d) (s (f (q .Eq (n 45) (k 103)) (s (r (m (n 0) 104 (c (n 79) (c (n 66) l)))) d) d) (s (f (q .Eq (n 45) (k 74)) (s (r (m (n 0) 74 (c (u (n 83) (i 0)) (c (n 66) l)))) d) d) (s (f (O (q .Eq (n 45) (k 102)) (q .Eq (n 45) (k 101))) (s (r (q .Eq (n 45) (k 102))) d) d) (s (r (F (q .Eq (n 45) (k 100)) N (m (n 0) 61 (c (n 79) (c (n 66) l))))) d)))))
noncomputable def zY:S:=s (t true [16,106,75] (T (c (g 64 (c (m (n 0) 80 l) l)) (c (L l) (c (i 0) l))))) (s (.for (.two 20 107) .enum (n 105) (s (f (q .GtE (B .len (c (n 106) l)) (e (e (n 0) 18) 8)) (s (a 75 (g 44 (c (n 16) (c (n 106) (c (n 75) l))))) (s (a 106 (L l)) d)) d) (s (f (q .Eq (e (n 107) 45) (k 108)) (s (a 38 (m (n 0) 97 (c (u (e (n 107) 83) (i 0)) (c (n 66) l)))) (s (a 11 (m (n 0) 11 (c (u (e (n 107) 83) (i 1)) (c (n 66) l)))) (s (f (q .Is (e (n 38) 11) N) (s (x (m (n 0) 55 (c (b [116,97,98,108,101,32,105,110,100,101,120,32,105,115,32,110,105,108]) l))) d) d) (s (x (m (n 16) 76 (c (e (n 38) 11) (c (n 11) l)))) d)))) (s (f (A (q .Eq (n 20) (z .Sub (B .len (c (n 105) l)) (i 1))) (q .In (e (u (e (n 107) 83) (i 0)) 45) (.gv 1))) (s (x (m (n 106) 91 (c (m (n 0) 92 (c (u (e (n 107) 83) (i 0)) (c (n 66) l))) l))) d) (s (x (m (n 106) 27 (c (m (n 0) 11 (c (u (e (n 107) 83) (i 0)) (c (n 66) l))) l))) d)) d)) d))) (s (x (g 44 (c (n 16) (c (n 106) (c (n 75) l))))) (s (r (n 16)) d)))
noncomputable def zZ:S:=s (t false [86,109] (e (n 79) 83)) (s (a 11 (m (n 0) 11 (c (n 109) (c (n 66) l)))) (s (p (n 66) 31 (e (n 79) 31)) (s (f (q .Eq (n 86) (k 112)) (s (r (g 2 (c (n 11) l))) d) d) (s (f (q .Eq (n 86) (k 111)) (s (a 34 (g 12 (c (n 11) (c (e (n 0) 18) l)))) (s (f (q .IsNot (n 34) N) (s (r (g 5 (c (b [117,110,109]) (c (n 34) (c (i 0) (c (e (n 0) 18) l)))))) d) d) (s (a 60 (m (n 0) 57 (c (n 11) (c (b [95,95,117,110,109]) l)))) (s (f (q .IsNot (n 60) N) (s (r (m (n 0) 68 (c (n 60) (c (L (c (n 11) (c (n 11) l))) l)))) d) d) (s (x (m (n 0) 63 (c (n 11) (c (b [112,101,114,102,111,114,109,32,97,114,105,116,104,109,101,116,105,99,32,111,110]) (c (m (n 0) 94 (c (n 109) (c (n 66) l))) l))))) d))))) d) (s (f (I (n 11) (.cls 275)) (s (r (m (n 11) 110 l)) d) d) (s (f (I (n 11) .bytes) (s (r (B .len (c (n 11) l))) d) d) (s (x (m (n 0) 63 (c (n 11) (c (b [103,101,116,32,108,101,110,103,116,104,32,111,102]) (c (m (n 0) 94 (c (n 109) (c (n 66) l))) l))))) d)))))))
noncomputable def zL:S:=s (t false [86,28,122] (e (n 79) 83)) (s (f (O (q .Eq (n 86) (k 126)) (q .Eq (n 86) (k 125))) (s (a 11 (m (n 0) 11 (c (n 28) (c (n 66) l)))) (s (f (q .Eq (g 2 (c (n 11) l)) (q .Eq (n 86) (k 126))) (s (r (n 11)) d) d) (s (r (m (n 0) 11 (c (n 122) (c (n 66) l)))) d))) d) (s (f (q .Eq (n 86) (k 123)) (s (a 43 (m (n 0) 11 (c (n 28) (c (n 66) l)))) (s (a 44 (m (n 0) 11 (c (n 122) (c (n 66) l)))) (s (p (n 66) 31 (e (n 79) 31)) (s (r (m (n 0) 124 (c (n 43) (c (n 44) (c (n 79) (c (n 66) l)))))) d)))) d) (s (a 43 (m (n 0) 97 (c (n 28) (c (n 66) l)))) (s (a 44 (m (n 0) 97 (c (n 122) (c (n 66) l)))) (s (p (n 66) 31 (e (n 79) 31)) (s (f (q .In (n 86) (.gv 3)) (s (r (m (n 0) 121 (c (n 86) (c (e (n 43) 11) (c (e (n 44) 11) (c (n 79) (c (n 66) l))))))) d) d) (s (f (O (q .Eq (n 86) (k 119)) (q .Eq (n 86) (k 118))) (s (r (q .Eq (m (n 0) 120 (c (e (n 43) 11) (c (e (n 44) 11) l))) (q .Eq (n 86) (k 119)))) d) d) (s (f (O (q .Eq (n 86) (k 114)) (q .Eq (n 86) (k 117))) (s (t true [43,44] (T (c (n 44) (c (n 43) l)))) d) d) (s (f (O (q .Eq (n 86) (k 115)) (q .Eq (n 86) (k 114))) (s (r (m (n 0) 116 (c (e (n 43) 11) (c (e (n 44) 11) l)))) d) d) (s (r (m (n 0) 113 (c (e (n 43) 11) (c (e (n 44) 11) l)))) d))))))))))
noncomputable def zj:S:=s (t true [14,15] (T (c (g 12 (c (n 43) (c (e (n 0) 18) l))) (c (g 12 (c (n 44) (c (e (n 0) 18) l))) l)))) (s (a 56 (u (.gv 3) (n 86))) (s (f (A (q .IsNot (n 14) N) (q .IsNot (n 15) N)) (s (f (O (A (q .Eq (n 15) (i 0)) (O (q .Eq (n 86) (k 130)) (q .Eq (n 86) (k 129)))) (A (q .Eq (n 86) (k 128)) (A (q .Eq (n 14) (i 0)) (q .Lt (n 15) (i 0))))) (s (x (m (n 0) 55 (c (b [97,116,116,101,109,112,116,32,116,111,32,100,105,118,105,100,101,32,98,121,32,122,101,114,111]) l))) d) d) (s (r (g 5 (c (n 56) (c (n 14) (c (n 15) (c (e (n 0) 18) l)))))) d)) d) (s (a 60 (m (n 0) 127 (c (n 43) (c (n 44) (c (z .Add (b [95,95]) (n 56)) l))))) (s (f (q .IsNot (n 60) N) (s (r (m (n 0) 68 (c (n 60) (c (L (c (n 43) (c (n 44) l))) l)))) d) d) (s (f (q .Is (n 14) N) (s (x (m (n 0) 63 (c (n 43) (c (b [112,101,114,102,111,114,109,32,97,114,105,116,104,109,101,116,105,99,32,111,110]) (c (m (n 0) 94 (c (u (e (n 79) 83) (i 1)) (c (n 66) l))) l))))) d) d) (s (x (m (n 0) 63 (c (n 44) (c (b [112,101,114,102,111,114,109,32,97,114,105,116,104,109,101,116,105,99,32,111,110]) (c (m (n 0) 94 (c (u (e (n 79) 83) (i 2)) (c (n 66) l))) l))))) d))))))
noncomputable def zM:S:=s (t true [14,15] (T (c (g 14 (c (n 43) l)) (c (g 14 (c (n 44) l)) l)))) (s (f (A (q .IsNot (n 14) N) (q .IsNot (n 15) N)) (s (f (q .Gt (z .Add (B .len (c (n 14) l)) (B .len (c (n 15) l))) (e (e (n 0) 18) 10)) (s (x (m (n 0) 55 (c (b [115,116,114,105,110,103,32,108,101,110,103,116,104,32,111,118,101,114,102,108,111,119]) l))) d) d) (s (r (z .Add (n 14) (n 15))) d)) d) (s (a 60 (m (n 0) 127 (c (n 43) (c (n 44) (c (b [95,95,99,111,110,99,97,116]) l))))) (s (f (q .IsNot (n 60) N) (s (r (m (n 0) 68 (c (n 60) (c (L (c (n 43) (c (n 44) l))) l)))) d) d) (s (f (q .Is (n 14) N) (s (x (m (n 0) 63 (c (n 43) (c (b [99,111,110,99,97,116,101,110,97,116,101]) (c (m (n 0) 94 (c (u (e (n 79) 83) (i 1)) (c (n 66) l))) l))))) d) d) (s (x (m (n 0) 63 (c (n 44) (c (b [99,111,110,99,97,116,101,110,97,116,101]) (c (m (n 0) 94 (c (u (e (n 79) 83) (i 2)) (c (n 66) l))) l))))) d)))))
noncomputable def yM4:S:=s (.while (q .Eq (e (n 79) 45) (k 87)) (s (a 79 (u (e (n 79) 83) (i 0))) d)) (s (f (O (q .NotEq (e (n 79) 45) (k 85)) (q .NotEq (e (u (e (n 66) 46) (u (e (n 79) 83) (i 1))) 77) (e (n 66) 34))) (s (r (U .USub (i 1))) d) d) (s (r (u (e (n 79) 83) (i 1))) d))
noncomputable def ym1:S:=s (p (n 0) 45 (n 45)) (s (p (n 0) 31 (n 31)) (s (p (n 0) 83 (n 83)) d))
noncomputable def yy2:S:=s (r (L (c (b [95,95,105,110,100,101,120]) (c (b [95,95,99,97,108,108]) (c (b [95,95,101,113]) (c (b [95,95,108,116]) (c (b [95,95,108,101]) (c (b [95,95,99,111,110,99,97,116]) (c (b [95,95,97,100,100]) (c (b [95,95,117,110,109]) l)))))))))) d
noncomputable def yB3:S:=s (r (L (c (k 119) (c (k 118) (c (k 115) (c (k 132) (c (k 114) (c (k 117) (c (k 123) (c (k 131) l)))))))))) d
noncomputable def yJ4:S:=s (.setsub (n 133) (i 1) (z .Add (u (n 133) (i 1)) (i 1))) (s (f (q .Gt (B .len (c (u (n 133) (i 0)) l)) (i 0)) (s (r (z .Mod (B .abs (c (m (u (n 133) (i 0)) 65 (c (i 0) l)) l)) (n 134))) d) d) (s (r (z .Mod (z .Add (z .Add (z .Mult (i 7) (u (n 133) (i 1))) (z .FloorDiv (z .Mult (u (n 133) (i 1)) (u (n 133) (i 1))) (i 3))) (u (n 133) (i 2))) (n 134))) d))
noncomputable def yC3:S:=s (a 135 (.dict (.pcons (k 137) (L l) (.pcons (k 136) (L l) (.pcons (k 139) (L l) (.pcons (k 138) (D false) l)))))) (s (.for (.one 20) .range (i 4) (s (a 137 (.dict l)) (s (.for (.one 38) .val (S' (T (c (b [120]) (c (b [121]) l))) N (g 72 (c (n 133) (c (i 3) l)))) (s (.setsub (n 137) (n 38) (u (L (c (i 7) (c (b [115]) (c (D true) l)))) (g 72 (c (n 133) (c (i 3) l))))) d)) (s (x (m (u (n 135) (k 137)) 27 (c (n 137) l))) (s (x (m (u (n 135) (k 136)) 27 (c (F (q .Gt (g 72 (c (n 133) (c (i 4) l))) (i 0)) (g 74 (c (n 133) (c (n 20) l))) N) l))) d))))) (s (.setsub (n 135) (k 48) (F (q .Eq (g 72 (c (n 133) (c (i 2) l))) (i 0)) (.dict (.pcons (b [95,95,105,110,100,101,120]) (T (c (k 74) (c (i 2) l))) l)) (.dict l))) (s (r (n 135)) d)))
noncomputable def yI4:S:=s (a 16 (.dict l)) (s (.for (.one 56) .val (g 70 l) (s (a 140 (g 72 (c (n 133) (c (i 4) l)))) (s (f (q .Lt (n 140) (i 2)) (s (.setsub (n 16) (n 56) (T (c (k 61) (c (g 72 (c (n 133) (c (i 3) l))) l)))) d) d) (s (f (A (q .Eq (n 140) (i 2)) (q .Lt (n 20) (i 3))) (s (.setsub (n 16) (n 56) (T (c (k 74) (c (z .Add (z .Add (n 20) (i 1)) (g 72 (c (n 133) (c (z .Sub (i 3) (n 20)) l)))) l)))) d) d) d)))) (s (r (n 16)) d))
noncomputable def yA3:S:=s (a 140 (g 72 (c (n 133) (c (i 7) l)))) (s (r (F (q .Lt (n 140) (i 4)) (T (c (k 74) (c (n 140) l))) (u (L (c (i 5) (c (b [115]) (c N l)))) (z .Sub (n 140) (i 4))))) d)
noncomputable def yD3:S:=s (.setsub (n 135) (k 138) (D true)) (s (r N) d)
noncomputable def yN1:S:=s (f (A (I (n 11) .tuple) (q .Eq (u (n 11) (i 0)) (k 74))) (s (r (F (q .Is (u (u (n 135) (k 136)) (u (n 11) (i 1))) N) N (m (u (u (n 135) (k 136)) (u (n 11) (i 1))) 41 (c (n 56) l)))) d) d) (s (r (F (I (n 11) .bytes) (m (u (n 135) (k 48)) 41 (c (n 56) l)) N)) d)
noncomputable def yE4:S:=s (f (O (U .Not (I (n 11) .tuple)) (q .NotEq (u (n 11) (i 0)) (k 61))) (s (a 60 (g 77 (c (n 135) (c (n 11) (c (b [95,95,99,97,108,108]) l))))) (s (f (O (q .Is (n 60) N) (q .NotEq (u (n 60) (i 0)) (k 61))) (s (r (g 76 (c (n 135) l))) d) d) (s (t true [11,141] (T (c (n 60) (c (z .Add (L (c (n 11) l)) (n 141)) l)))) d))) d) (s (x (m (u (n 135) (k 139)) 27 (c (T (c (u (n 11) (i 1)) (c (n 141) l))) l))) (s (r (u (L (c (i 11) (c N (c (D false) l)))) (u (n 11) (i 1)))) d))
noncomputable def yx3:S:=s (.for (.one 142) .range (i 100) (s (a 143 (A (I (n 77) .tuple) (q .Eq (u (n 77) (i 0)) (k 74)))) (s (f (A (n 143) (q .In (n 38) (u (u (n 135) (k 137)) (u (n 77) (i 1))))) (s (r (u (u (u (n 135) (k 137)) (u (n 77) (i 1))) (n 38))) d) d) (s (a 60 (g 77 (c (n 135) (c (n 77) (c (b [95,95,105,110,100,101,120]) l))))) (s (f (q .Is (n 60) N) (s (r (F (n 143) N (g 76 (c (n 135) l)))) d) d) (s (f (q .Eq (u (n 60) (i 0)) (k 61)) (s (r (g 78 (c (n 135) (c (n 60) (c (L (c (n 77) (c (n 38) l))) l))))) d) d) (s (a 77 (n 60)) d))))))) (s (r (g 76 (c (n 135) l))) d)
noncomputable def yF4:S:=s (r (F (I (n 11) .tuple) (u (n 11) (i 0)) (g 23 (c (n 11) l)))) d
noncomputable def yz2:S:=s (r (A (q .IsNot (n 11) N) (U .Not (A (I (n 11) .bool) (U .Not (n 11)))))) d
noncomputable def yD4:S:=s (a 60 (g 77 (c (n 135) (c (n 43) (c (n 56) l))))) (s (f (O (q .Is (n 60) N) (q .NotEq (n 60) (g 77 (c (n 135) (c (n 44) (c (n 56) l)))))) (s (r N) d) d) (s (r (g 81 (c (g 78 (c (n 135) (c (n 60) (c (L (c (n 43) (c (n 44) l))) l)))) l))) d))
noncomputable def yz3:S:=s (a 145 (T (c (g 80 (c (n 43) l)) (c (g 80 (c (n 44) l)) l)))) (s (f (q .In (n 145) (T (c (T (c (b [110,117,109,98,101,114]) (c (b [110,117,109,98,101,114]) l))) (c (T (c (b [115,116,114,105,110,103]) (c (b [115,116,114,105,110,103]) l))) l)))) (s (r (F (n 144) (q .Lt (n 43) (n 44)) (q .LtE (n 43) (n 44)))) d) d) (s (a 16 N) (s (f (q .Eq (u (n 145) (i 0)) (u (n 145) (i 1))) (s (a 16 (g 82 (c (n 135) (c (F (n 144) (b [95,95,108,116]) (b [95,95,108,101])) (c (n 43) (c (n 44) l)))))) (s (f (A (q .Is (n 16) N) (U .Not (n 144))) (s (a 73 (g 82 (c (n 135) (c (b [95,95,108,116]) (c (n 44) (c (n 43) l)))))) (s (a 16 (F (q .Is (n 73) N) N (U .Not (n 73)))) d)) d) d)) d) (s (r (F (q .Is (n 16) N) (g 76 (c (n 135) l)) (n 16))) d))))
noncomputable def yx2:S:=s (f (q .In (n 86) (T (c (k 119) (c (k 118) l)))) (s (a 16 (A (q .Eq (g 80 (c (n 43) l)) (g 80 (c (n 44) l))) (q .Eq (n 43) (n 44)))) (s (f (A (U .Not (n 16)) (A (q .Eq (g 80 (c (n 43) l)) (k 74)) (q .Eq (g 80 (c (n 44) l)) (k 74)))) (s (a 16 (q .Eq (g 82 (c (n 135) (c (b [95,95,101,113]) (c (n 43) (c (n 44) l))))) (D true))) d) d) (s (r (q .Eq (n 16) (q .Eq (n 86) (k 119)))) d))) d) (s (f (q .In (n 86) (T (c (k 114) (c (k 117) l)))) (s (t true [43,44] (T (c (n 44) (c (n 43) l)))) d) d) (s (f (q .In (u (n 86) (i 0)) (k 147)) (s (r (g 83 (c (n 135) (c (n 43) (c (n 44) (c (q .Eq (B .len (c (n 86) l)) (i 1)) l)))))) d) d) (s (C 145 (.comp (g 80 (c (n 11) l)) (.one 11) .val (T (c (n 43) (c (n 44) l))))) (s (f (A (q .Eq (n 86) (k 131)) (q .Eq (n 145) (L (c (b [110,117,109,98,101,114]) (c (b [110,117,109,98,101,114]) l))))) (s (r (z .Add (n 43) (n 44))) d) d) (s (f (A (q .Eq (n 86) (k 123)) (A (q .In (u (n 145) (i 0)) (T (c (b [110,117,109,98,101,114]) (c (b [115,116,114,105,110,103]) l)))) (q .In (u (n 145) (i 1)) (T (c (b [110,117,109,98,101,114]) (c (b [115,116,114,105,110,103]) l)))))) (s (r (m (b []) 146 (c (.comp (F (I (n 11) .bytes) (n 11) (b [53])) (.one 11) .val (T (c (n 43) (c (n 44) l)))) l))) d) d) (s (a 56 (F (q .Eq (n 86) (k 131)) (b [95,95,97,100,100]) (b [95,95,99,111,110,99,97,116]))) (s (a 60 (g 77 (c (n 135) (c (n 43) (c (n 56) l))))) (s (a 60 (F (q .Is (n 60) N) (g 77 (c (n 135) (c (n 44) (c (n 56) l)))) (n 60))) (s (r (F (q .IsNot (n 60) N) (g 78 (c (n 135) (c (n 60) (c (L (c (n 43) (c (n 44) l))) l)))) (g 76 (c (n 135) l)))) d)))))))))
noncomputable def yG4:S:=s (f (I (n 11) .tuple) (s (r (g 69 (c (k 84) (c (i 1) (c (L (c (z .Add (b [116]) (S' (b [48,49,50,51]) (u (n 11) (i 1)) (z .Add (u (n 11) (i 1)) (i 1)))) l)) l))))) d) d) (s (f (q .Is (n 11) N) (s (r (g 69 (c (k 100) (c (i 1) (c (L l) l))))) d) d) (s (r (g 69 (c (F (I (n 11) .bytes) (k 82) (k 34)) (c (i 1) (c (L (c (n 11) l)) l))))) d))
noncomputable def yw3:S:=s (t true [140,43,44] (T (c (g 72 (c (n 133) (c (i 8) l))) (c (g 75 (c (n 133) l)) (c (g 75 (c (n 133) l)) l))))) (s (f (q .Lt (n 140) (i 2)) (s (a 38 (u (L (c (b [120]) (c (b [121]) (c (b [122]) l)))) (g 72 (c (n 133) (c (i 3) l))))) (s (r (T (c (g 69 (c (k 81) (c (i 1) (c (L (c (g 85 (c (n 43) l)) (c (g 69 (c (k 82) (c (i 1) (c (L (c (n 38) l)) l)))) l))) l)))) (c (g 79 (c (n 135) (c (n 43) (c (n 38) l)))) l)))) d)) d) (s (f (q .Eq (n 140) (i 2)) (s (r (T (c (g 69 (c (k 59) (c (i 1) (c (L (c (g 85 (c (n 43) l)) (c (L (c (g 85 (c (n 44) l)) l)) l))) l)))) (c (g 78 (c (n 135) (c (n 43) (c (L (c (n 44) l)) l)))) l)))) d) d) (s (f (q .Eq (n 140) (i 3)) (s (t true [79,60] (T (c (g 69 (c (k 103) (c (i 1) (c (L (c (k 111) (c (g 85 (c (n 43) l)) l))) l)))) (c (g 77 (c (n 135) (c (n 43) (c (b [95,95,117,110,109]) l)))) l)))) (s (f (q .Eq (n 43) (i 5)) (s (r (T (c (n 79) (c (U .USub (i 5)) l)))) d) d) (s (r (T (c (n 79) (c (F (q .IsNot (n 60) N) (g 78 (c (n 135) (c (n 60) (c (L (c (n 43) (c (n 43) l))) l)))) (g 76 (c (n 135) l))) l)))) d))) d) (s (a 86 (u (g 71 l) (g 72 (c (n 133) (c (i 8) l))))) (s (a 79 (g 69 (c (k 98) (c (i 1) (c (L (c (n 86) (c (g 85 (c (n 43) l)) (c (g 85 (c (n 44) l)) l)))) l))))) (s (r (T (c (n 79) (c (g 84 (c (n 135) (c (n 86) (c (n 43) (c (n 44) l))))) l)))) d))))))
noncomputable def yH4:S:=s (C 150 (.comp (g 64 (c (z .Sub (z .Sub (i 0) (i 1)) (n 20)) l)) (.one 20) .range (i 4))) (s (a 152 (L (c (g 65 (c (U .USub (i 20)) (c (b [102]) (c (.lam 2) l)))) (c (g 65 (c (U .USub (i 21)) (c (b [103]) (c (.lam 1) l)))) (c (g 65 (c (U .USub (i 22)) (c (b [104]) (c (.lam 0) l)))) l))))) (s (a 151 (.dict (.pcons (k 74) (n 150) (.pcons (k 61) (n 152) l)))) (s (.for (.two 20 16) .enum (n 150) (s (.forD 38 (u (u (n 135) (k 137)) (n 20)) (s (x (m (n 16) 76 (c (n 38) (c (u (u (u (n 135) (k 137)) (n 20)) (n 38)) l)))) d)) (s (f (q .IsNot (u (u (n 135) (k 136)) (n 20)) N) (s (p (n 16) 35 (g 64 (c (z .Sub (U .USub (i 40)) (n 20)) l))) (s (.forD 56 (u (u (n 135) (k 136)) (n 20)) (s (t false [45,34] (u (u (u (n 135) (k 136)) (n 20)) (n 56))) (s (x (m (e (n 16) 35) 76 (c (n 56) (c (u (u (n 151) (n 45)) (n 34)) l)))) d))) d)) d) (s (x (m (e (n 148) 78) 76 (c (z .Add (b [116]) (S' (b [48,49,50,51]) (n 20) (z .Add (n 20) (i 1)))) (c (n 16) l)))) d)))) (s (.forD 56 (u (n 135) (k 48)) (s (x (m (e (n 148) 48) 76 (c (n 56) (c (u (n 150) (i 2)) l)))) d)) d))))
noncomputable def yy3:S:=s (x (m (n 149) 27 (c (T (c (n 34) (c (.comp (g 89 (c (n 11) l)) (.one 11) .val (n 36)) l))) l))) (s (r (u (L (c (L (c (i 11) l)) (c (L l) (c (L (c (D false) (c (i 1) l))) l)))) (n 34))) d)
noncomputable def yM1:S:=s (r (F (I (n 11) (.cls 275)) (T (c (k 74) (c (z .Sub (U .USub (i 1)) (e (n 11) 34)) l))) (n 11))) d
noncomputable def yL4:S:=s (t true [133,149] (T (c (L (c (B .list (c (S' (n 155) N (i 60)) l)) (c (i 0) (c (z .Mod (B .sum (c (S' (n 155) N (i 60)) l)) (i 997)) l)))) (c (L l) l)))) (s (t true [135,148] (T (c (g 73 (c (n 133) l)) (c (g 68 (c (g 63 l) (c (b [61,108,97,119]) l))) l)))) (s (f (A (q .Eq (g 72 (c (n 133) (c (i 6) l))) (i 5)) (q .IsNot (u (u (n 135) (k 136)) (i 3)) N)) (s (.setsub (u (u (n 135) (k 136)) (i 3)) (b [95,95,105,110,100,101,120]) (T (c (k 74) (c (i 3) l)))) d) d) (s (x (g 87 (c (n 148) (c (n 135) (c (n 149) l))))) (s (.for (.one 142) .range (i 7) (s (.setsub (n 135) (k 138) (D false)) (s (t false [79,156] (g 86 (c (n 133) (c (n 135) l)))) (s (t false [16,157] (T (c N (c (D false) l)))) (s (.try (s (a 16 (g 89 (c (m (n 148) 158 (c (n 79) (c (L l) l))) l))) d) 157 true) (s (f (O (q .NotEq (n 157) (u (n 135) (k 138))) (q .NotEq (n 149) (u (n 135) (k 139)))) (s (r (D false)) d) d) (s (f (A (U .Not (n 157)) (q .NotEq (T (c (g 80 (c (n 16) l)) (c (n 16) l))) (T (c (g 80 (c (n 156) l)) (c (n 156) l))))) (s (r (D false)) d) d) d))))))) (s (r (D true)) d)))))
end P2
noncomputable def calL:List Cal:=[
 .fnD [0,1,2,3,4,5,6,7,8,9,10] [.int 64,.int 250,.int 60,.int 200,.int 40,.int 200,.int 2000,.int 50,.int 1000000000,.int 1000000] kk1,
 .fn [11] yK4,
 .fn [11] yx5,
 .fn [12,1] y411,
 .fn [14,15] yz7,
 .fn [17,14,15,18] yF9,
 .fn [19] yw5,
 .fn [19] yv5,
 .fn [10,20,21] yC2,
 .fn [10,20] yD2,
 .fn [10,18] yp1,
 .fn [10,21,18] yO1,
 .fn [11,18] yN4,
 .fn [12] yB2,
 .fn [11] yT6,
 .fn [10] yy7,
 .fn [29,30] yu5,
 .fn [0,34] zm,
 .fn [0,38] yQ,
 .fn [0,38] yn1,
 .fn [0,38,11] yo1,
 .fn [0] z6,
 .fn [0,34,33,42] zW,
 .fn [11] yO4,
 .fn [43,44] y311,
 .fn [11] yA2,
 .fn [0,34,46,47] yN,
 .fn [0,18,29] yk1,
 .fn [0] yu3,
 .fn [0] yC4,
 .fn [0,52] yv3,
 .fn [0,10] yA4,
 .fn [0,11,54,33] yP,
 .fn [0,11,56] yL1,
 .fn [0,57,58] zO,
 .fn [0,43,44,56] yw2,
 .fn [0,61,58,33] yz4,
 .fn [0,61,58,33] yk,
 .fn [0,61,58] yO,
 .fn [0,43,44] yt3,
 .fn [0,43,44,56] yl1,
 .fn [0,43,44] yl,
 .fn [0,43,44] yB4,
 .fn [0,43,44] yK1,
 .fn [74,36,75] yS6,
 .fn [0,11,77] yj1,
 .fn [0,18,29] zh,
 .fn [0,79,47] z5,
 .fn [0,79,66] zi,
 .fn [0,79,66] yj,
 .fn [0,77,38,33] zX,
 .fn [0,90,66] zN,
 .fn [0,79,66] kq1,
 .fn [0,79,66] yi,
 .fn [0,79,66] z4,
 .fn [0,79,66] kr1,
 .fn [0,105,66] zY,
 .fn [0,79,66] zZ,
 .fn [0,79,66] zL,
 .fn [0,86,43,44,79,66] zj,
 .fn [0,43,44,79,66] zM,
 .fn [79,66] yM4,
 .fn [0,45,31,83] ym1,
 .cls 53 0,
 .cls 275 17,
 .cls 296 22,
 .cls 338 26,
 .cls 515 45,
 .cls 634 46,
 .cls 660 62,
 .fn [] yy2,
 .fn [] yB3,
 .fn [133,134] yJ4,
 .fn [133] yC3,
 .fn [133,20] yI4,
 .fn [133] yA3,
 .fn [135] yD3,
 .fn [135,11,56] yN1,
 .fn [135,11,141] yE4,
 .fn [135,77,38] yx3,
 .fn [11] yF4,
 .fn [11] yz2,
 .fn [135,56,43,44] yD4,
 .fn [135,43,44,144] yz3,
 .fn [135,86,43,44] yx2,
 .fn [11] yG4,
 .fn [133,135] yw3,
 .fn [148,135,149] yH4,
 .fn [149,34,36] yy3,
 .fn [11] yM1]
noncomputable def mthL:List (Nat×List (Nat×Nat)):=[(53,[]),(275,[(40,18),(41,19),(76,20),(110,21)]),(296,[]),(338,[]),(515,[]),(634,[(11,54),(36,51),(53,30),(55,31),(57,33),(59,36),(61,48),(62,37),(63,32),(64,38),(67,29),(68,34),(71,41),(72,40),(74,56),(80,28),(81,50),(92,52),(94,49),(96,55),(97,53),(99,58),(104,57),(113,43),(116,42),(120,39),(121,59),(124,60),(127,35),(158,47)]),(660,[])]
noncomputable def atrL:List (Nat×List Nat):=[(53,[1,2,3,4,5,6,7,8,9,10]),(275,[34,35,36,37]),(296,[33,34,42]),(338,[31,34,46,47]),(515,[11,77]),(634,[6,9,18,48,49,50,51,78]),(660,[31,45,83])]
noncomputable def lamL:List (Nat×List Nat×E):=[(149,[153,154],(.call 88 (.cons (.nm 149) (.cons (.int 2) (.cons (.nm 154) .nil))))),(149,[153,154],(.call 88 (.cons (.nm 149) (.cons (.int 1) (.cons (.nm 154) .nil))))),(149,[153,154],(.call 88 (.cons (.nm 149) (.cons (.int 0) (.cons (.nm 154) .nil)))))]
noncomputable def yH11:List (Int×Int):=[(711,0),(710,0),(709,0)]
noncomputable def hdL:List (Nat×Nat):=[(119,159),(118,160),(115,115),(132,115),(114,114),(117,114),(123,161),(131,131),(111,111),(162,162),(130,130),(129,129)]
noncomputable def sinL:List (Nat×Bool):=[(159,false),(160,false),(115,true),(114,true),(161,false),(131,false),(111,false),(162,false),(130,false),(129,false)]
noncomputable def lenL:List Nat:=[4,5,9,8,11,6,6,5,5,5,4,5,1,3,1,1,5,2,6,5,2,4,5,8,3,9,7,6,4,6,4,4,4,4,6,4,6,4,3,5,4,3,4,3,5,4,5,5,5,4,3,5,5,5,4,4,5,7,4,4,6,8,10,9,9,3,5,4,12,5,6,10,8,6,5,6,3,5,7,4,5,5,6,5,6,5,4,5,4,4,5,6,11,6,4,6,11,4,5,6,3,5,4,4,5,5,7,4,4,7,6,1,3,7,1,1,4,2,2,2,5,8,5,2,6,2,3,6,1,1,1,1,2,3,4,5,5,4,5,6,4,5,4,8,9,5,4,2,6,4,6,4,5,4,3,6,3,10,5,1,1,1,1]
noncomputable def bmL:List (Nat×BM1):=[(27,.append),(91,.extend),(65,.pop),(26,.reverse),(41,.get),(146,.join)]
noncomputable def isCL:List Nat:=[53,275,296,338,515,634,660]
noncomputable def gvL:List AV:=[.int 100,.tup [.str 59,.str 93,.str 95],.bytes [32,9,10,11,12,13],.top 497]
noncomputable def ariL:List (AV×AV):=[(.str 131,.bytes [97,100,100]),(.str 111,.bytes [115,117,98]),(.str 162,.bytes [109,117,108]),(.str 130,.bytes [100,105,118]),(.str 129,.bytes [109,111,100]),(.str 128,.bytes [112,111,119])]
noncomputable def pg (sa:Addr) (sl:List AV):Prg where
 cal f:=calL.getD f .no
 mth C n:=(mthL.lookup C).bind fun l=>l.lookup n
 atr C n:=match atrL.lookup C with
  |some l=>l.any fun k=>Nat.beq k n
  |none=>false
 gv g:=gvL[g]?
 lam k:=lamL[k]?
 lpos k:=yH11.getD k (0,0)
 bm n:=bmL.lookup n
 hd n:=hdL.lookup n
 slen n:=lenL.getD n 0
 sin k n:=if Nat.beq n 147 then sinL.lookup k else none
 isC C:=isCL.any fun k=>Nat.beq k C
 tl a:=if Nat.beq a sa then some sl else none
 td a:=if Nat.beq a 497 then some ariL else none
open PySem.W PySem.Calls PyProof.Rows
noncomputable def jA:List Str:=[qH "self",qH "width",qH "registers",qH "upvalues",qH "local_names",qH "ccalls",qH "frames",qH "stack",qH "flush",qH "steps",qH "text",qH "value",qH "n",qH "low",qH "a",qH "b",qH "found",qH "op",qH "limits",qH "octet",qH "at",qH "base",qH "digit",qH "is_below",qH "end",qH "is_marked",qH "reverse",qH "append",qH "left",qH "source",qH "size",qH "line",qH "room",qH "name",qH "number",qH "meta",qH "values",qH "keys",qH "key",qH "known",qH "find",qH "get",qH "work",qH "one",qH "other",qH "kind",qH "cells",qH "extra",qH "texts",qH "made",qH "out",qH "chunk",qH "level",qH "where",qH "deed",qH "fail",qH "event",qH "handler",qH "args",qH "call",qH "follow",qH "function",qH "call_other",qH "fail_type",qH "call_host",qH "pop",qH "frame",qH "tick",qH "call_handler",qH "first",qH "second",qH "fail_order",qH "compared",qH "turned",qH "table",qH "stored",qH "set",qH "owner",qH "globals",qH "node",qH "fresh",qH "index",qH "string",qH "parts",qH "global",qH "local",qH "word",qH "paren",qH "step",qH "here",qH "nodes",qH "extend",qH "open_values",qH "method",qH "told",qH "vararg",qH "other_value",qH "hold",qH "binop",qH "binary",qH "nil",qH "false",qH "true",qH "unop",qH "unary",qH "items",qH "waiting",qH "item",qH "pair",qH "operand",qH "length",qH "-",qH "not",qH "at_most",qH ">",qH "<",qH "less",qH ">=",qH "~=",qH "==",qH "equal",qH "reckoned",qH "right",qH "..",qH "joined",qH "or",qH "and",qH "either",qH "^",qH "%",qH "/",qH "+",qH "<=",qH "box",qH "wide",qH "world",qH "metas",qH "rows",qH "wrong",qH "called",qH "form",qH "given",qH "turn",qH "has_rows",qH "is_strict",qH "kinds",qH "join",qH "<>",qH "runner",qH "seen",qH "tables",qH "lots",qH "works",qH "host",qH "row",qH "script",qH "due",qH "is_refused",qH "worth",qH "=",qH "~",qH ".",qH "*"]
noncomputable def gnL:List (Option Str):=[none,some (qH "is_number"),some (qH "is_false"),some (qH "wrap"),some (qH "divide"),some (qH "arith"),some (qH "is_blank"),some (qH "digit_of"),some (qH "read_digits"),some (qH "skip_blanks"),some (qH "str_to_number"),some (qH "text_in_base"),some (qH "to_number"),some (qH "number_text"),some (qH "to_text"),some (qH "c_text"),some (qH "chunk_id"),none,none,none,none,none,none,some (qH "tree_type"),some (qH "same"),some (qH "is_function"),none,none,none,none,none,none,none,none,none,none,none,none,none,none,none,none,none,none,some (qH "flushed"),none,none,none,none,none,none,none,none,none,none,none,none,none,none,none,none,some (qH "own_local"),none,some (qH "Limits"),some (qH "TreeTable"),some (qH "Builtin"),some (qH "Frame"),some (qH "Cell"),some (qH "ExprRunner"),some (qH "Node"),some (qH "_law_events"),some (qH "_law_words"),some (qH "_law_take"),some (qH "_law_world"),some (qH "_law_meta"),some (qH "_law_thing"),some (qH "_law_wrong"),some (qH "_law_handler"),some (qH "_law_call"),some (qH "_law_field"),some (qH "_law_kind"),some (qH "_law_is_yes"),some (qH "_law_both"),some (qH "_law_order"),some (qH "_law_binary"),some (qH "_law_leaf"),some (qH "_law_asked"),some (qH "_law_made"),some (qH "_law_noted"),some (qH "_law_as_told")]
noncomputable def gvnL:List Str:=[qH "CHAIN",qH "OPEN",qH "BLANKS",qH "ARITHMETIC"]
noncomputable def adL:List Nat:=[36,104,111,118,125,139,146,153,160,167,174,181,188,195,202,209,223,237,244,251,258,265,293,307,314,321,335,356,363,370,377,384,398,412,419,426,433,440,447,454,461,468,475,482,496,512,533,540,547,554,561,568,575,582,589,596,603,610,617,624,631,643,657,53,275,296,338,515,634,660,671,678,685,692,699,706,713,720,727,734,741,748,755,762,767,774,781,786,791,798]
noncomputable def cnL:List (Nat×Str):=[(275,qH "TreeTable"),(296,qH "Builtin")]
noncomputable def mcL:List (Nat×(Str×Str)):=[(27,(qH "Host",qH "__init__"))]
noncomputable def ft0:FT:={names:=jA,gn:=fun f=>(gnL[f]?).join,gvn:=fun g=>gvnL[g]?,cn:=fun C=>cnL.lookup C,mc:=fun f=>mcL.lookup f,lm:=fun _ _ _ _ _=>false,lpos:=fun k=>yH11.getD k (0,0)}
noncomputable def ft:FT:={ft0 with lm:=fun k ps b sc cap=>lamB jA ft0 (lamL[k]?) ps b sc cap}
noncomputable def ad (f:Nat):Addr:=adL.getD f 0
noncomputable def zipK:Nat->List Obj->Frag
 |_,[]=>[]
 |i,o::l=>bif Nat.beq i 783 then zipK (i+1) l else (i,o)::zipK (i+1) l
noncomputable def KF (P:Params):Frag:=zipK 0 (Hd.ob P)
theorem nd_:jA.Nodup:=j2 (by kernel_rfl)
noncomputable def TW (w:World) (sa:Addr) (so:Obj):Tab:={prog:=Hd.pw,w:=w,K:=KF w.params++[(sa,so)],exc:=74,names:=jA,nd:=nd_,lamOk:=fun k lam=>ft.lm k lam.params lam.body lam.scope lam.cap,tab:=783}
section
variable (w:World) (sa:Addr) (so:Obj)
noncomputable abbrev KW:Frag:=(TW w sa so).K
theorem gn_:(List.range 90).all (fun f=>match ft.gn f with
 |some x=>nsIn (KW w sa so) qR x==some (some (.ref (ad f)))&&keepIn (KW w sa so) (.ref (ad f))
 |none=>true)=true:=by kernel_rfl
theorem bi_:[Bid.len,.abs,.list,.bytes,.sum].all (fun f=>nsIn (KW w sa so) qR (km1 f)==some none&&nsIn (KW w sa so) qd1 (km1 f)==some (some (kB f)))=true:=by kernel_rfl
theorem isi_:nsIn (KW w sa so) qR (qH "isinstance")=some none/\nsIn (KW w sa so) qd1 (qH "isinstance")=some (some (.builtin "isinstance")):=⟨by kernel_rfl,by kernel_rfl⟩
theorem ik_:["int","bool","bytes","tuple","range","enumerate"].all (fun t=>nsIn (KW w sa so) qR (qH t)==some none&&nsIn (KW w sa so) qd1 (qH t)==some (some (.type t)))=true:=by kernel_rfl
theorem cn_:cnL.all (fun q=>nsIn (KW w sa so) qR q.2==some (some (.ref q.1)))=true:=by kernel_rfl
noncomputable def ikL:List IK:=[.int,.bool,.bytes,.tuple,.cls 275,.cls 296]
theorem ym15:ikL.all (fun k=>(List.range 8).all fun n=>kitOne (KW w sa so) (.type (tyNm n)) (zr k)==some (ikN k n))=true:=by kernel_rfl
theorem yn15:isCL.all (fun C=>zs (KW w sa so) C&&ikL.all fun k=>kitOne (KW w sa so) (.ref C) (zr k)==some (isK C k))=true:=by kernel_rfl
theorem atr_:atrL.all (fun q=>q.2.all fun n=>match jA[n]? with
 |some s=>kD (KW w sa so) q.1 s
 |none=>true)=true:=by kernel_rfl
theorem mth_:mthL.all (fun q=>q.2.all fun p=>match jA[p.1]? with
 |some s=>plainGet (KW w sa so) q.1 s&&findIn (KW w sa so) (.ref q.1) s==some (some (.ref (ad p.2)))&&isFn (KW w sa so) (.ref (ad p.2))&&keepIn (KW w sa so) (.ref (ad p.2))
 |none=>true)=true:=by kernel_rfl
noncomputable def chkB (w:World) (sa:Addr) (so:Obj) (f:Nat):Bool:=match calL.getD f .no with
 |.fn ps b=>yT7 (KW w sa so) ft (ad f) (Nat.beq f 87) ps b
 |_=>true
theorem yu14:(List.range 10).all (fun i=>chkB w sa so (i+0))=true:=by kernel_rfl
theorem yv14:(List.range 10).all (fun i=>chkB w sa so (i+10))=true:=by kernel_rfl
theorem yw14:(List.range 10).all (fun i=>chkB w sa so (i+20))=true:=by kernel_rfl
theorem yx14:(List.range 10).all (fun i=>chkB w sa so (i+30))=true:=by kernel_rfl
theorem yy14:(List.range 10).all (fun i=>chkB w sa so (i+40))=true:=by kernel_rfl
theorem yz14:(List.range 10).all (fun i=>chkB w sa so (i+50))=true:=by kernel_rfl
theorem yA14:(List.range 10).all (fun i=>chkB w sa so (i+60))=true:=by kernel_rfl
theorem yB14:(List.range 10).all (fun i=>chkB w sa so (i+70))=true:=by kernel_rfl
theorem yC14:(List.range 10).all (fun i=>chkB w sa so (i+80))=true:=by kernel_rfl
variable (sl:List AV)
theorem lim_:nsOkIn (KW w sa so) cStatics=true/\nsIn (KW w sa so) cStatics "sys.recursionlimit"=some none:=⟨by kernel_rfl,by kernel_rfl⟩
theorem ye8:nsOkIn (KW w sa so) qR=true/\nsOkIn (KW w sa so) qd1=true:=⟨by kernel_rfl,by kernel_rfl⟩
theorem sys_:((KW w sa so).lookup sysModules).isSome=true:=by kernel_rfl
theorem to_:zV (TW w sa so) where
 lim h X:=⟨_,.of_isNs (isNs_of_in X (lim_ w sa so).1),nsMap_none_of_in X (lim_ w sa so).1 (lim_ w sa so).2⟩
 glob h X:=⟨_,.of_isNs (isNs_of_in X (ye8 w sa so).1)⟩
 blt h X:=⟨_,.of_isNs (isNs_of_in X (ye8 w sa so).2)⟩
 sys:=Option.isSome_iff_exists.mp (sys_ w sa so)
variable {n i:Nat}
theorem yx7 {α:Type} {l:List α} (hl:l.length=n) {a:α} (h:l[i]? =some a):i<n:=by rw [<-hl];exact (qA.mp h).1
theorem y814 (f:Nat) (x:Str) (h:ft.gn f=some x):nsIn (KW w sa so) qR x=some (some (.ref (ad f)))/\keepIn (KW w sa so) (.ref (ad f))=true:=by
 have hf:f<90:=by
  obtain ⟨y,h1,_⟩:=Option.bind_eq_some_iff.mp (show ((gnL[f]?).bind id)=some x from h)
  exact yx7 (by kernel_rfl) h1
 have:=kb1 (gn_ w sa so) hf;rw [h] at this;obtain ⟨a,b⟩:=and2 this
 exact ⟨eq_of_beq a,b⟩
theorem gv0:nsIn (KW w sa so) qR (qH "CHAIN")=some (some (.int 100 905)):=by kernel_rfl
theorem gv1:nsIn (KW w sa so) qR (qH "OPEN")=some (some (.ref 498))/\(KW w sa so).lookup 498=some (j9 [.str (qH "call") 901,.str (qH "method") 902,.str (qH "vararg") 903]):=⟨by kernel_rfl,by kernel_rfl⟩
theorem gv2:nsIn (KW w sa so) qR (qH "BLANKS")=some (some (.bytes ⟨[32,9,10,11,12,13]⟩ 196)):=by kernel_rfl
noncomputable def ariE (P:Params):List DictEntry:=[⟨qO P (qH "+"),.str (qH "+") 882,.bytes ⟨[97,100,100]⟩ 883⟩,⟨qO P (qH "-"),.str (qH "-") 884,.bytes ⟨[115,117,98]⟩ 885⟩,⟨qO P (qH "*"),.str (qH "*") 886,.bytes ⟨[109,117,108]⟩ 887⟩,⟨qO P (qH "/"),.str (qH "/") 888,.bytes ⟨[100,105,118]⟩ 889⟩,⟨qO P (qH "%"),.str (qH "%") 890,.bytes ⟨[109,111,100]⟩ 891⟩,⟨qO P (qH "^"),.str (qH "^") 892,.bytes ⟨[112,111,119]⟩ 893⟩]
theorem gv3:nsIn (KW w sa so) qR (qH "ARITHMETIC")=some (some (.ref 497))/\(KW w sa so).lookup 497=some (j3 (ariE w.params) 6):=⟨by kernel_rfl,by kernel_rfl⟩
theorem nmAt (i:Nat) (x:Str) (h:jA[i]? =some x):(TW w sa so).names[i]? =some x:=h
theorem ya15 (g:Nat) (x:Str) (h:ft.gvn g=some x) (a:AV) (ha:(pg sa sl).gv g=some a):∃v,nsIn (KW w sa so) qR x=some (some v)/\∀μ H h,RH (TW w sa so) μ H h->Er (TW w sa so) μ h v a:=by
 have hg:g<4:=yx7 (by kernel_rfl) (show gvnL[g]? =some x from h);have hx:gvnL[g]? =some x:=h;have hy:gvL[g]? =some a:=ha
 match g,hg,hx,hy with
 |0,_,hx,hy=>cases hx;cases hy;exact ⟨_,gv0 w sa so,fun _ _ _ _=>.int _ _⟩
 |1,_,hx,hy=>
  cases hx;cases hy;exact ⟨_,(gv1 w sa so).1,fun _ _ _ R=>.tup (R.top _ _ (gv1 w sa so).2) (.cons (.str _ (nmAt w sa so _ _ (by kernel_rfl))) (.cons (.str _ (nmAt w sa so _ _ (by kernel_rfl))) (.cons (.str _ (nmAt w sa so _ _ (by kernel_rfl))) .nil)))⟩
 |2,_,hx,hy=>cases hx;cases hy;exact ⟨_,gv2 w sa so,fun _ _ _ _=>.bytes _ _⟩
 |3,_,hx,hy=>cases hx;cases hy;exact ⟨_,(gv3 w sa so).1,fun _ _ _ _=>.top (gv3 w sa so).2⟩
theorem jM {α:Type} {p:α->Bool} {l:List α} (h:l.all p=true) {a:α} (m:a∈l):p a=true:=List.all_eq_true.mp h a m
variable {k:Nat}
theorem jT {β:Type} {b:β}:∀{l:List (Nat×β)},l.lookup k=some b->(k,b)∈l
 |[],h=>by cases h
 |(x,y)::r,h=>by
  rw [List.lookup_cons] at h;cases q:(k==x) with
  |true=>rw [q] at h;cases h;rw [eq_of_beq q];exact List.mem_cons_self ..
  |false=>rw [q] at h;exact List.mem_cons_of_mem _ (jT h)
theorem yo14 (f:Bid):nsIn (KW w sa so) qR (km1 f)=some none/\nsIn (KW w sa so) qd1 (km1 f)=some (some (kB f)):=by
 have:=jM (bi_ w sa so) (a:=f) (by cases f<;>simp);exact ⟨eq_of_beq (and2 this).1,eq_of_beq (and2 this).2⟩
theorem yn8 (t:String) (h:t∈["int","bool","bytes","tuple","range","enumerate"]):nsIn (KW w sa so) qR (qH t)=some none/\nsIn (KW w sa so) qd1 (qH t)=some (some (.type t)):=by
 have:=jM (ik_ w sa so) h;exact ⟨eq_of_beq (and2 this).1,eq_of_beq (and2 this).2⟩
theorem yE14 (C:Addr) (x:Str) (h:ft.cn C=some x):nsIn (KW w sa so) qR x=some (some (.ref C)):=eq_of_beq (jM (cn_ w sa so) (jT (show cnL.lookup C=some x from h)))
theorem yy11 (k:IK) (h:ikOk ft k=true):k∈ikL:=by
 cases k with
 |cls C=>
  obtain ⟨x,hx⟩:=Option.isSome_iff_exists.mp (show (ft.cn C).isSome=true from h)
  have:=jT (show cnL.lookup C=some x from hx);simp only [cnL,qC,Prod.mk.injEq,List.not_mem_nil,or_false] at this;rcases this with ⟨rfl,_⟩|⟨rfl,_⟩<;>simp [ikL]
 |_=>simp [ikL]
theorem ym10 (k:IK) (h:ikOk ft k=true) (n:Nat) (hn:n<8):kitOne (KW w sa so) (.type (tyNm n)) (zr k)=some (ikN k n):=eq_of_beq (kb1 (jM (ym15 w sa so) (yy11 k h)) hn)
theorem y512 (C:Addr) (h:(pg sa sl).isC C=true):C∈isCL:=by
 obtain ⟨k,hk,e⟩:=List.any_eq_true.mp (show (isCL.any fun k=>Nat.beq k C)=true from h)
 rw [<-Nat.eq_of_beq_eq_true e];exact hk
theorem yv6 (C:Addr) (h:(pg sa sl).isC C=true):zs (KW w sa so) C=true/\∀k,ikOk ft k=true->kitOne (KW w sa so) (.ref C) (zr k)=some (isK C k):=
 have q:=and2 (jM (yn15 w sa so) (y512 sa sl C h))
 ⟨q.1,fun k hk=>eq_of_beq (jM q.2 (yy11 k hk))⟩
theorem y011 (C:Addr) (n:Nat) (s:Str) (h:(pg sa sl).atr C n=true) (hs:jA[n]? =some s):kD (KW w sa so) C s=true:=by
 change (match atrL.lookup C with|some l=>l.any fun k=>Nat.beq k n|none=>false)=true at h;split at h
 ·rename_i l hl;obtain ⟨k,hk,e⟩:=List.any_eq_true.mp h
  have e:=Nat.eq_of_beq_eq_true e;subst e;have:=jM (jM (atr_ w sa so) (jT hl)) hk;rw [hs] at this;exact this
 ·cases h
theorem yu13 (C:Addr) (n:Nat) (s:Str) (f:Nat) (h:(pg sa sl).mth C n=some f) (hs:jA[n]? =some s):plainGet (KW w sa so) C s=true/\findIn (KW w sa so) (.ref C) s=some (some (.ref (ad f)))/\isFn (KW w sa so) (.ref (ad f))=true/\keepIn (KW w sa so) (.ref (ad f))=true:=by
 obtain ⟨l,hl,hf⟩:=Option.bind_eq_some_iff.mp (show (mthL.lookup C).bind (fun l=>l.lookup n)=some f from h)
 have:=jM (jM (mth_ w sa so) (jT hl)) (jT hf);rw [hs] at this;obtain ⟨h13,h4⟩:=and2 this
 obtain ⟨h12,h3⟩:=and2 h13
 obtain ⟨h1,h2⟩:=and2 h12
 exact ⟨h1,eq_of_beq h2,h3,h4⟩
theorem y711:bmL.all (fun q=>match jA[q.1]? with|some s=>s==yF3 q.2|none=>true)=true:=by kernel_rfl
theorem yr14 (n:Nat) (s:Str) (b:BM1) (h:(pg sa sl).bm n=some b) (hs:jA[n]? =some s):s=yF3 b:=by
 have:=jM y711 (jT (show bmL.lookup n=some b from h));rw [hs] at this;exact eq_of_beq this
theorem mc1:nsIn (KW w sa so) qR (qH "Host")=some (some (.ref 485))/\specialIn (KW w sa so) (.ref 485) "__getattribute__"=some (some (.builtin "type.__getattribute__"))/\readsIn (KW w sa so) 485 (.type "type")=true/\
 keepIn (KW w sa so) (.ref 356)=true:=⟨by kernel_rfl,by kernel_rfl,by kernel_rfl,by kernel_rfl⟩
theorem mc2:findCls (KW w sa so) (.ref 485) (.type "type") (qH "__init__")=some (.val (.ref 356)):=by kernel_rfl
theorem yR12:hdL.all (fun q=>match jA[q.1]? with|some x=>(match x.cps[0]? with|some cp=>jA[q.2]? ==some ⟨#[cp]⟩&&Nat.ble x.length 1000|none=>false)|none=>false)=true:=by kernel_rfl
theorem yb15 (n m:Nat) (h:(pg sa sl).hd n=some m):∃x cp,jA[n]? =some x/\x.cps[0]? =some cp/\jA[m]? =some ⟨#[cp]⟩/\x.length<=1000:=by
 have:=jM yR12 (jT (show hdL.lookup n=some m from h));dsimp only at this;split at this
 ·rename_i x hx;split at this
  ·rename_i cp hc;exact ⟨x,cp,hx,hc,eq_of_beq (and2 this).1,qa (and2 this).2⟩
  ·cases this
 ·cases this
theorem yv10:(List.range 163).all (fun n=>match jA[n]? with|some x=>Nat.beq x.length (lenL.getD n 0)&&Nat.ble x.length 1000000|none=>true)=true:=by kernel_rfl
theorem yj13 (n:Nat) (x:Str) (h:jA[n]? =some x):x.length=(pg sa sl).slen n/\x.length<=1000000:=by
 have:=kb1 yv10 (yx7 (n:=163) (by kernel_rfl) h);rw [h] at this;exact ⟨Nat.eq_of_beq_eq_true (and2 this).1,qa (and2 this).2⟩
theorem yN10:sinL.all (fun q=>match jA[q.1]? with|some y=>(match jA[147]? with|some x=>(!(Builtin.Str.occurrences x y 0 x.length 1).isEmpty)==q.2|none=>false)|none=>false)=true:=by kernel_rfl
theorem yM13 (k n:Nat) (r:Bool) (h:(pg sa sl).sin k n=some r):∃x y,jA[n]? =some x/\jA[k]? =some y/\(!(Builtin.Str.occurrences x y 0 x.length 1).isEmpty)=r:=by
 change (if Nat.beq n 147=true then sinL.lookup k else none)=some r at h;split at h
 ·rename_i e;have e:=Nat.eq_of_beq_eq_true e;subst e;have:=jM yN10 (jT h);dsimp only at this;split at this
  ·rename_i y hy;split at this
   ·rename_i x hx;exact ⟨x,y,hx,hy,eq_of_beq this⟩
   ·cases this
  ·cases this
 ·cases h
theorem hs1 (i:Nat) (x:Str) (h:jA[i]? =some x):kT (TW w sa so) (.str i) (qO w.params x):=kT.str (nmAt w sa so _ _ h)
theorem yK15 (μ:List Addr) (h:Heap):ErD (TW w sa so) μ h (ariE w.params) ariL:=
 (ErD.cons (hs1 w sa so 131 (qH "+") (by kernel_rfl)) (.str _ (nmAt w sa so 131 (qH "+") (by kernel_rfl))) (.bytes _ _) (ErD.cons (hs1 w sa so 111 (qH "-") (by kernel_rfl)) (.str _ (nmAt w sa so 111 (qH "-") (by kernel_rfl))) (.bytes _ _) (ErD.cons (hs1 w sa so 162 (qH "*") (by kernel_rfl)) (.str _ (nmAt w sa so 162 (qH "*") (by kernel_rfl))) (.bytes _ _) (ErD.cons (hs1 w sa so 130 (qH "/") (by kernel_rfl)) (.str _ (nmAt w sa so 130 (qH "/") (by kernel_rfl))) (.bytes _ _) (ErD.cons (hs1 w sa so 129 (qH "%") (by kernel_rfl)) (.str _ (nmAt w sa so 129 (qH "%") (by kernel_rfl))) (.bytes _ _) (ErD.cons (hs1 w sa so 128 (qH "^") (by kernel_rfl)) (.str _ (nmAt w sa so 128 (qH "^") (by kernel_rfl))) (.bytes _ _) .nil))))))
theorem yL15 (a:Addr) (l:List (AV×AV)) (h:(pg sa sl).td a=some l):∃es n,(KW w sa so).lookup a=some (j3 es n)/\(∀μ h,ErD (TW w sa so) μ h es l)/\DKey l n/\(a==sysModules)=false:=by
 change (if Nat.beq a 497=true then some ariL else none)=some l at h;split at h
 ·rename_i e;have e:=Nat.eq_of_beq_eq_true e;subst e;cases h;exact ⟨_,6,(gv3 w sa so).2,yK15 w sa so,⟨by simp [ariL],rfl⟩,by kernel_rfl⟩
 ·cases h
theorem exc_:nsIn (KW w sa so) qR (qH "LuaError")=some (some (.ref 74))/\keepIn (KW w sa so) (.ref 74)=true:=⟨by kernel_rfl,by kernel_rfl⟩
theorem ys15:∃nm q bs sn sub ab col dd k0 k1 k2 k3 k5,(KW w sa so).lookup 74=some (excClassObj nm q 74 73 bs bmE true sn sub ab col dd k0 k1 k2 k3 k5 "Exception.__new__"):=
 ⟨_,_,_,_,_,_,_,_,_,_,_,_,_,by rfl⟩
theorem yr15:nsOkIn (KW w sa so) 73=true/\nsIn (KW w sa so) 73 "__init__"=some (some (.ref 71))/\nsIn (KW w sa so) 73 "__setattr__"=some none/\nsIn (KW w sa so) 73 "value"=some none/\nsIn (KW w sa so) 73 "trace"=some none:=⟨by kernel_rfl,by kernel_rfl,by kernel_rfl,by kernel_rfl,by kernel_rfl⟩
theorem yM (P:Params) (sa:Addr) (so:Obj) (a:Addr):(KF P++[(sa,so)]).lookup a=((KF P).lookup a).or (if a=sa then some so else none):=by
 refine rz List.lookup_append ?_
 congr 1
 refine rz List.lookup_cons ?_;by_cases h:a=sa
 ·subst h;simp
 ·refine rz (beq_eq_false_iff_ne.mpr h) ?_;rw [if_neg h];rfl
theorem yA6 (hk:(KF w.params).lookup sa=none):(KW w sa so).lookup sa=some so:=by
 refine (?_:(KF w.params++[(sa,so)]).lookup sa=_);rw [yM];refine rz hk ?_;simp
theorem ym13:∃(fd:FuncData) (od:Option Addr) (osl:_) (body:List Stmt) (n1 n2 n3 a1 a2 l1 s1 s2:Pos) (args:List Arg),(KW w sa so).lookup 71=some ⟨.type "function",od,.func fd,osl⟩/\fdOf (KW w sa so) 71=some fd/\fd.body=.stmts body/\yY2 (KW w sa so) fd=true/\
 body=[.Assign [.Attribute (.Name (qH "self") n1) (qH "value") a1] (.Name (qH "value") n2) s1,.Assign [.Attribute (.Name (qH "self") n3) (qH "trace") a2] (.List [] l1) s2]/\
 fd.params=⟨[],args,none,[],[],none,[]⟩/\fd.defaults=.none/\args.map (·.arg)=[qH "self",qH "value"]/\fd.scope.names.lookup (qH "self")=some .local/\fd.scope.names.lookup (qH "value")=some .local:=
 ⟨_,_,_,_,_,_,_,_,_,_,_,_,_,by rfl,by rfl,by rfl,by kernel_rfl,by rfl,by rfl,by rfl,by rfl,by kernel_rfl,by kernel_rfl⟩
theorem lua_:∃fI fd body n1 n2 n3 a1 a2 l1 s1 s2,yu4 (TW w sa so) fI fd body/\body=[.Assign [.Attribute (.Name (qH "self") n1) (qH "value") a1] (.Name (qH "value") n2) s1,.Assign [.Attribute (.Name (qH "self") n3) (qH "trace") a2] (.List [] l1) s2]:=by
 obtain ⟨fd,od,osl,body,n1,n2,n3,a1,a2,l1,s1,s2,args,h0,h1,h2,h3,h4,h5,h6,h7,h8,h9⟩:=ym13 w sa so
 refine ⟨71,fd,body,n1,n2,n3,a1,a2,l1,s1,s2,⟨fun h X=>?_,ym (T:=TW w sa so) h1 h2 h3,⟨od,osl,h0⟩,fun a b=>?_,h8,h9⟩,h4⟩
 ·obtain ⟨nm,q,bs,sn,sub,ab,col,dd,k0,k1,k2,k3,k5,e⟩:=ys15 w sa so
  refine jK (yr15 w sa so) fun e1 e2 e3 e4 e5=>?_;have G:h.Ns 73 (h.nsMap 73):=.of_isNs (isNs_of_in X e1);exact ⟨nm,q,73,bs,sn,sub,ab,col,dd,k0,k1,k2,k3,k5,_,X _ _ e,G,zI X G e2,ns_none_of X G e3,ns_none_of X G e4,ns_none_of X G e5⟩
 ·have:=kC1 (fd:=fd) (args:=args) (df:=[]) h5 h6 (by exact rz h7 (j2 (by kernel_rfl))) (vs:=[a,b]) (by refine rz h7 ?_;rfl);rw [h7] at this;exact this
theorem ok_ (lm':Nat->Arguments->Expr->Scope->Str->Bool) (h1:∀(k:Nat) (lam:Lam),lm' k lam.params lam.body lam.scope lam.cap=true->ft.lm k lam.params lam.body lam.scope lam.cap=true)
 (h2:∀k ps body scope cap,lm' k ps body scope cap=true->∀q,lamL[k]? =some q->jA[q.1]? =some cap)
 (hk:(KF w.params).lookup sa=none) {its:List Value} {n:Nat} (hc:so.cls=.type "list") (hd:so.data=.seq ⟨its⟩ n) (he:∀μ h,ErL (TW w sa so) μ h its sl):Ok (TW w sa so) (pg sa sl) {ft0 with lm:=lm'} ad where
 TO:=to_ w sa so
 nm:=rfl
 gn f x h:=y814 w sa so f x h
 gv g x h a ha:=ya15 w sa so sl g x h a ha
 bi f:=yo14 w sa so f
 tl a l h:=by
  change (if Nat.beq a sa=true then some sl else none)=some l at h;split at h
  ·rename_i e;obtain rfl:=qq h
   have e:=Nat.eq_of_beq_eq_true e;subst e;exact ⟨so,its,n,yA6 w _ so hk,hc,hd,he⟩
  ·injection h
 td a l h:=yL15 w sa so sl a l h
 isi:=isi_ w sa so
 ik t ht:=yn8 w sa so t (List.mem_append_left ["range","enumerate"] ht)
 rg t ht:=yn8 w sa so t (List.mem_append_right ["int","bool","bytes","tuple"] ht)
 cn C x h:=yE14 w sa so C x h
 kit1 k h n hn:=ym10 w sa so k (by rcases k with _|_|_|_|_<;>exact h) n hn
 kit2 C h:=⟨(yv6 w sa so sl C h).1,fun k hk=>(yv6 w sa so sl C h).2 k (by rcases k with _|_|_|_|_<;>exact hk)⟩
 atr C n s h hs:=y011 w sa so sl C n s h hs
 mth C n s f h hs:=yu13 w sa so sl C n s f h hs
 bm n s b h hs:=yr14 sa sl n s b h hs
 mc f x name h:=by
  have:=jT (show mcL.lookup f=some (x,name) from h);simp only [mcL,qC,Prod.mk.injEq,List.not_mem_nil,or_false] at this;obtain ⟨rfl,rfl,rfl⟩:=this
  exact kJ (mc1 w sa so) fun a b c d=>⟨_,_,a,b,c,mc2 w sa so,d⟩
 hd n m h:=yb15 sa sl n m h
 slen n x h:=yj13 sa sl n x h
 sin k n r h:=yM13 sa sl k n r h
 lm k lam h:=h1 k lam h
 lmc k ps body scope cap h q hq:=h2 k ps body scope cap h q hq
 lpos k:=rfl
 exc:=exc_ w sa so
 lua:=lua_ w sa so
variable {p:Nat->Prop}
theorem lt9 (h0:p 0) (h1:p 1) (h2:p 2) (h3:p 3) (h4:p 4) (h5:p 5) (h6:p 6) (h7:p 7) (h8:p 8):n<9->p n:=
 Nat.casesOn n (fun o_=>h0) fun n=>Nat.casesOn n (fun o_=>h1) fun n=>Nat.casesOn n (fun o_=>h2) fun n=>Nat.casesOn n (fun o_=>h3) fun n=>Nat.casesOn n (fun o_=>h4) fun n=>Nat.casesOn n (fun o_=>h5) fun n=>Nat.casesOn n (fun o_=>h6) fun n=>Nat.casesOn n (fun o_=>h7) fun n=>Nat.casesOn n (fun o_=>h8) fun n h=>absurd h (Nat.not_lt.mpr (Nat.le_add_left 9 n))
variable {f:Nat}
theorem yU9 (h:f<90):chkB w sa so f=true:=by
 have:=kb1 (lt9 (p:=fun j=>(List.range 10).all (fun i=>chkB w sa so (i+10*j))=true) (yu14 w sa so) (yv14 w sa so) (yw14 w sa so) (yx14 w sa so) (yy14 w sa so) (yz14 w sa so) (yA14 w sa so) (yB14 w sa so) (yC14 w sa so) (Nat.div_lt_of_lt_mul (n:=10) (k:=9) h)) (Nat.mod_lt f (qa rfl:10>0));rw [Nat.mod_add_div] at this;exact this
theorem yA10:∃fd,fdOf (KW w sa so) (ad 87)=some fd/\fd.code=.ref 785:=⟨_,by rfl,by rfl⟩
theorem yz10:∃o vs file tf flags tg inF text tt,(KW w sa so).lookup 785=some o/\o.cls=.type "code"/\o.data=.fields vs/\vs[11]? =some (.ref 783)/\vs.getD 11 .none=.ref 783/\vs.getD 18 .none=.str file tf/\
 vs.getD 7 .none=.int flags tg/\vs.getD 9 .none=.bool inF/\vs.getD 10 .none=.int text tt:=⟨_,_,_,_,_,_,_,_,_,by rfl,by rfl,by rfl,by rfl,by rfl,by rfl,by rfl,by rfl,by rfl⟩
theorem yy10:∃o,nsIn (KW w sa so) qR (qH "__builtins__")=some (some (.ref 4))/\(KW w sa so).lookup 4=some o/\o.cls=.type "module"/\o.dict=some qd1/\o.data=.plain:=⟨_,by kernel_rfl,by rfl,by rfl,by rfl,by rfl⟩
theorem yt15 {fd:FuncData} (h:fdOf (KW w sa so) (ad 87)=some fd):∃cc,fd.code=.ref cc/\(∀h,(TW w sa so).K.In h->CodeHd h cc (TW w sa so).tab)/\qR≠(TW w sa so).tab/\∀h mg,(TW w sa so).K.In h->h.Ns qR mg->h.BuiltinsAt mg (TW w sa so).tab:=by
 refine x_EA (yA10 w sa so) fun fd' e1 e2=>?_;rw [e1] at h;obtain rfl:=qq h;refine ⟨785,e2,fun h X=>?_,(by refine (?_:qR≠783);decide),fun h mg X G=>?_⟩
 ·exact jF (yz10 w sa so) fun o vs file hz=>jF hz fun tf flags tg hz=>ks1 hz fun inF text tt a b=>kJ b fun b1 b2 b3 hz=>jK hz fun b4 b5 b6 b7 b8=>⟨o,vs,file,tf,flags,tg,inF,text,tt,X _ _ a,b1,b2,b3,b4,b5,b6,b7,b8,by refine (?_:(785:Nat)≠783);decide⟩
 ·exact yP6 (yy10 w sa so) fun o a b c d e=>⟨4,o,zI X G a,by decide,by decide,by refine (?_:(4:Nat)≠783);decide,X _ _ b,c,d,e⟩
theorem yk13:∃fd st T its,fdOf (KW w sa so) 36=some fd/\fd.body=.stmts st/\yY2 (KW w sa so) fd=true/\fd.defaults=.ref T/\(KW w sa so).lookup T=some (j9 its)/\(chkS ft kk1 fd.scope false false (.inr st)).isSome=true/\
 (∀s v,(∀o,(KW w sa so).lookup T=some o->s.heap.get? T=some o)->BindsTo s fd ⟨[v],[]⟩ (([0,1,2,3,4,5,6,7,8,9,10].map fun i=>jA.getD i ⟨#[]⟩).zip (v::its)))/\
 (∀{T:Tab} μ h,ErL T μ h its [.int 64,.int 250,.int 60,.int 200,.int 40,.int 200,.int 2000,.int 50,.int 1000000000,.int 1000000])/\
 ([0,1,2,3,4,5,6,7,8,9,10].map fun i=>jA.getD i ⟨#[]⟩).all (fun x=>fd.scope.names.lookup x==some .local)=true:=
 ⟨_,_,_,_,by rfl,by rfl,by kernel_rfl,by rfl,by rfl,by kernel_rfl,fun s v h=>.of_defaults (by rfl) (h _ (by rfl)) (by rfl) (by rfl) (by rfl),fun o_ o_=>.cons (.int _ _) (.cons (.int _ _) (.cons (.int _ _) (.cons (.int _ _) (.cons (.int _ _) (.cons (.int _ _) (.cons (.int _ _) (.cons (.int _ _) (.cons (.int _ _) (.cons (.int _ _) .nil))))))))),by kernel_rfl⟩
theorem cls_ (f:Nat) (C i:Nat) (h:calL.getD f .no=.cls C i):ad f=C/\makesIn (KW w sa so) C=true/\findIn (KW w sa so) (.ref C) "__init__"=some (some (.ref (ad i)))/\typeIn (KW w sa so) (.ref (ad i))=some (.type "function"):=by
 have hall:(List.range 90).all (fun f=>match calL.getD f .no with
  |.cls C i=>Nat.beq (ad f) C&&makesIn (KW w sa so) C&&findIn (KW w sa so) (.ref C) "__init__"==some (some (.ref (ad i)))&&typeIn (KW w sa so) (.ref (ad i))==some (.type "function")
  |_=>true)=true:=by kernel_rfl
 have hf:f<90:=by
  rcases Nat.lt_or_ge f 90 with q|q
  ·exact q
  ·have:calL.getD f .no=.no:=by
    refine rz List.getD_eq_getElem?_getD ?_;refine rz (List.getElem?_eq_none (qb (qk (by kernel_rfl)) q)) ?_;rfl
   rw [this] at h;injection h
 have:=kb1 hall hf;rw [h] at this;exact x_A (and2 this) fun h3 h4=>x_A (and2 h3) fun h2 h3=>x_A (and2 h2) fun h1 h2=>⟨Nat.eq_of_beq_eq_true h1,h2,eq_of_beq h3,eq_of_beq h4⟩
theorem yp11 (h:calL.getD f .no≠.no):f<90:=by
 rcases Nat.lt_or_ge f 90 with q|q
 ·exact q
 ·exact absurd (by refine rz List.getD_eq_getElem?_getD ?_;refine rz (List.getElem?_eq_none (qb (qk (by kernel_rfl)) q)) ?_;rfl) h
noncomputable def isD:Cal->Bool
 |.fnD .. =>true
 |_=>false
theorem yR14 (h:isD (calL.getD f .no)=true):f=0:=by
 have hall:(List.range 90).all (fun f=>Nat.beq f 0|| !isD (calL.getD f .no))=true:=by kernel_rfl
 have:=kb1 hall (yp11 (fun q=>by rw [q] at h;injection h));rw [h] at this;simp only [Bool.not_true,Bool.or_false] at this;exact Nat.eq_of_beq_eq_true this
variable {T:Tab}
theorem yf4:∀(l:List Nat),(∀n∈l,T.names[n]? =some (T.names.getD n ⟨#[]⟩))->ParL T l (l.map fun n=>T.names.getD n ⟨#[]⟩)
 |[],_=>.nil
 |n::r,h=>.cons (h n (by simp)) (yf4 r fun m hm=>h m (by simp [hm]))
variable {ns:List Nat}
theorem ParL.uniq {a b:List Str} (h:ParL T ns a) (g:ParL T ns b):a=b:=by
 induction h generalizing b with
 |nil=>cases g;rfl
 |cons h1 h2 ih=>
  cases g with
  |cons h3 h4=>exact rz (qq (h1.symm.trans h3)) (rz (ih h4) rfl)
theorem len1 {α:Type} {vs:List α} (h:vs.length=1):∃v,vs=[v]:=List.length_eq_one_iff.mp h
variable {kk cn:Nat}
theorem ye13 {e:E} (h:lamL[kk]? =some (cn,ns,e)):ParL (TW w sa so) ns (ns.map fun n=>jA.getD n ⟨#[]⟩)/\(ns.map fun n=>jA.getD n ⟨#[]⟩).Nodup:=by
 have hall:lamL.all (fun q=>(q.2.1.all fun n=>jA[n]? ==some (jA.getD n ⟨#[]⟩))&&zz (q.2.1.map fun n=>jA.getD n ⟨#[]⟩))=true:=by kernel_rfl
 exact x_A (and2 (jM hall (qD h))) fun h1 h2=>⟨yf4 (T:=TW w sa so) ns fun n hn=>eq_of_beq (jM h1 hn),j2 h2⟩
theorem yM15 (hk:(KF w.params).lookup sa=none) {its:List Value} (hc:so.cls=.type "list") (hd:so.data=.seq ⟨its⟩ n) (he:∀μ h,ErL (TW w sa so) μ h its sl):Text (TW w sa so) (pg sa sl) ft ft0 ad where
 ok:=ok_ w sa so sl ft.lm (fun o_ o_ h=>h) (fun k ps body scope cap h q hq=>by
  change lamB jA ft0 (lamL[k]?) ps body scope cap=true at h;rw [hq] at h;refine zC (yz6 (T:=TW w sa so) (lam:=⟨⟨#[]⟩,ps,body,scope,cap⟩) h) fun o_ o_ o_ L o_=>?_;exact L.cap) hk hc hd he
 ok0:=ok_ w sa so sl (fun o_ o_ o_ o_ o_=>false) (fun o_ o_ h=>by injection h) (fun o_ o_ o_ o_ o_ h=>by injection h) hk hc hd he
 fn f ps b h:=by
  have h:calL.getD f .no=.fn ps b:=h;have hf:=yp11 (f:=f) (by exact rz h Cal.noConfusion);have:=yU9 w sa so hf;unfold chkB at this;rw [h] at this;refine y69 (T:=TW w sa so) (P:=pg sa sl) rfl this fun q fd e=>?_;have q:=Nat.eq_of_beq_eq_true q;subst q;exact yt15 w sa so e
 fnD f ps d b h:=by
  have h:calL.getD f .no=.fnD ps d b:=h;have hf:=yR14 (f:=f) (by refine rz h ?_;rfl);subst hf;cases h;refine yz9 (yk13 w sa so) fun fd st T its h1 h2 hz=>zB hz fun h3 h4 h5 h6 h7 h8 h9=>⟨fd,st,_,ym (T:=TW w sa so) h1 h2 h3,fun s vs X hv=>⟨its,?_,fun μ h o_=>h8 μ h⟩,yf4 (T:=TW w sa so) _ (by intro n hn;simp only [qC,List.not_mem_nil,or_false] at hn;rcases hn with rfl|rfl|rfl|rfl|rfl|rfl|rfl|rfl|rfl|rfl|rfl<;>rfl),j2 (by kernel_rfl),fun x m=>eq_of_beq (List.all_eq_true.mp h9 x m),c_ok h6⟩;refine x_E (len1 (vs:=vs) (Nat.add_right_cancel (m:=10) hv)) fun v hz22=>?_;subst hz22;exact h7 s v (fun o ho=>X _ _ ho)
 cl f C i h:=cls_ w sa so f C i h
 la kk cn ns e h:=by
  have h:lamL[kk]? =some (cn,ns,e):=h;obtain ⟨hp,hn⟩:=ye13 w sa so h
  refine ⟨_,hp,hn,fun lam hl=>?_⟩;have hl:lamB jA ft0 (lamL[kk]?) lam.params lam.body lam.scope lam.cap=true:=hl;rw [h] at hl;refine zC (yz6 (T:=TW w sa so) hl) fun ps a o_ L F=>?_;rw [ParL.uniq a hp] at L;exact ⟨L,F⟩
theorem yg13:∃fd st args,fdOf (KW w sa so) 805=some fd/\fd.body=.stmts st/\yY2 (KW w sa so) fd=true/\fd.params=⟨[],args,none,[],[],none,[]⟩/\fd.defaults=.none/\args.map (·.arg)=[qH "script"]/\
 fd.scope.names.lookup (qH "script")=some .local/\(chkS ft yL4 fd.scope false true (.inr st)).isSome=true/\jA[155]? =some (qH "script"):=
 ⟨_,_,_,by rfl,by rfl,by kernel_rfl,by rfl,by rfl,by rfl,by kernel_rfl,by kernel_rfl,by kernel_rfl⟩
theorem yf13:nsIn (KW w sa so) qR (qH "law")=some (some (.ref 805)):=by kernel_rfl
theorem yC10:(Hd.ob w.params).all (fun o=>match o.cls with|.type t=> !(t=="list")|_=>true)=true:=by kernel_rfl
theorem y15:(Hd.ob w.params)[783]? =some (tabObj #[]):=by rfl
theorem yN8:∃o vs,(Hd.ob w.params)[785]? =some o/\o.cls=.type "code"/\o.data=.fields vs/\vs[11]? =some (.ref 783):=⟨_,_,by rfl,by rfl,by rfl,by rfl⟩
variable {o:Obj}
theorem y4 {a:Nat} {l:List Obj}:∀i,(zipK i l).lookup a=some o->a≠783/\∃j,i+j=a/\l[j]? =some o:=by induction l with
 |nil=>exact fun o_ h=>ja h
 |cons x l ih=>
  intro i;have up:(zipK (i+1) l).lookup a=some o->a≠783/\∃j,i+j=a/\(x::l)[j]? =some o:=fun h=>⟨(ih _ h).1,x_EA (ih _ h).2 fun j e q=>⟨j+1,(Nat.succ_add_eq_add_succ i j).symm.trans e,q⟩⟩;refine (?_:(bif Nat.beq i 783 then zipK (i+1) l else (i,x)::zipK (i+1) l).lookup a=some o->_);rcases q:Nat.beq i 783 with _|_
  ·refine (?_:(match a==i with|true=>some x|false=>(zipK (i+1) l).lookup a)=some o->_);rcases r:a==i with _|_
   ·exact up
   ·exact fun h=>⟨fun e=>ff (q.symm.trans (congrArg (fun n=>Nat.beq n 783) ((eq_of_beq r).symm.trans e))),0,(eq_of_beq r).symm,h⟩
  ·exact up
theorem yH10 (xs:List WData) (h:Hd.rw1.row.toRowW.pre.holds Hd.rw1.row.toRowW.records {args:=[.list xs]}=true):xs.length<=63:=by
 have l:less? (.int (63:Nat)) (.int xs.length)=some (decide ((63:Int)<(xs.length:Int))):=rfl;have e:Hd.rw1.row.toRowW.pre.holds Hd.rw1.row.toRowW.records {args:=[.list xs]}= !(decide ((63:Int)<(xs.length:Int))):=by
  unfold WTm.holds;refine (?_:(match WTm.value _ (.and (.not (.lt (.lit (.int (63:Nat))) (.len (.arg 0)))) (.lit (.bool true))) _ with|some (.bool true)=>true|_=>false)=_);simp only [WTm.value,List.getElem?_cons_zero,l,Option.map_some];rcases decide ((63:Int)<(xs.length:Int)) with _|_<;>rfl
 rw [e] at h;simp at h;lia
variable {h:Heap} {cl:Str->Option Addr}
theorem yG15 {R:WRecords} {xs:List WData}:∀{vs:List Value} {as:List Addr},WShape.hasItems R xs .int=true->ReadsAllW R cl h vs xs as->
 ∃sl:List AV,(∀v∈sl,∃i,v=.int i)/\sl.length=xs.length/\∀T μ h,ErL T μ h vs sl:=by
 induction xs with
 |nil=>intro vs as _ h;cases h;exact ⟨[],fun o_ m=>(nomatch m),rfl,fun o_ o_ o_=>.nil⟩
 |cons x xs ih=>
  intro vs as hx h;refine x_E (hasW_int (and2 hx).1) fun i hz=>?_;subst hz;cases h with
  |cons hv hr=>
   refine jR (ih (and2 hx).2 hr) fun sl h3 h5 h4=>?_;cases hv with
   |int _ t=>exact ⟨.int i::sl,fun v m=>(qC.mp m).elim (fun e=>⟨i,e⟩) (h3 v),congrArg (·+1) h5,fun T μ h=>.cons (.int _ _) (h4 T μ h)⟩
theorem yx15 (xs:List WData):Hd.rw1.row.claim.post [.list xs] (.bool true) [.list xs]=true:=by kernel_rfl
theorem yG8 {args:List WData} {vals:List Value} {as:List Addr} {G:Prop} (hpre:Hd.rw1.row.claim.pre args=true) (hrd:ReadsAllW Hd.rw1.row.records cl h vals args as)
 (k:∀(xs:List WData) (sa:Addr) (so:Obj) (its:List Value) (n:Nat) (sl:List AV),args=[.list xs]->vals=[.ref sa]->h.get? sa=some so->so.cls=.type "list"->so.data=.seq ⟨its⟩ n->(∀v∈sl,∃i,v=.int i)->sl.length<=63->(∀T μ h,ErL T μ h its sl)->G):G:=
 jp (hasAllW_cons (pre_splitW hpre).1) fun d r hz hd1 hr1=>x_EA (hasW_list hd1) fun xs hq hxs=>by
  have hr1:=hasAllW_nil hr1;subst hr1 hq hz;have hxl:=yH10 xs (pre_splitW hpre).2;cases hrd with
  |cons hv hr=>cases hr with
   |nil=>cases hv with
    |list h1 h2 h3 h4=>exact jR (yG15 hxs h4) fun sl hsl hsn her=>k _ _ _ _ _ sl rfl rfl h1 h2 h3 hsl (hsn▸hxl) her
variable {w:World} {sa:Addr} {so:Obj}
theorem yB11 (Y:Hd.YP w h) {a:Addr} (q:(KF w.params).lookup a=some o):h.get? a=some o:=x_EA (y4 0 q).2 fun j e h3=>((Nat.zero_add j).symm.trans e)▸Y j o h3
theorem yh3 (Y:Hd.YP w h) (hso:h.get? sa=some so) (hc:so.cls=.type "list"):(KF w.params).lookup sa=none:=by
 rcases q:(KF w.params).lookup sa with _|o
 ·rfl
 ·refine x_EA (y4 0 q).2 fun j o_ h3=>?_;have:=List.all_eq_true.mp (yC10 w) o (qD h3);rw [qq ((yB11 Y q).symm.trans hso),hc] at this;exact ff this
theorem K_in (Y:Hd.YP w h) (hso:h.get? sa=some so):(TW w sa so).K.In h:=fun a o q=>(Option.or_eq_some_iff.mp ((yM w.params sa so a).symm.trans q)).elim (yB11 Y) fun z=>by
 by_cases e:a=sa
 ·have:=z.2;rw [if_pos e] at this;exact e▸this▸hso
 ·have:=z.2;rw [if_neg e] at this;exact ja this
theorem n783 (Y:Hd.YP w h) (hso:h.get? sa=some so) (hc:so.cls=.type "list"):(TW w sa so).K.lookup 783=none:=(yM w.params sa so 783).trans (by
 rw [if_neg fun e=>?_]
 ·rcases q:(KF w.params).lookup 783 with _|o
  ·rfl
  ·exact absurd rfl (y4 0 q).1
 ·have e:tabObj #[]=so:=qq ((Y _ _ (y15 w)).symm.trans (e▸hso));rw [<-e] at hc;exact nomatch hc)
theorem R_0 (Y:Hd.YP w h) (hso:h.get? sa=some so) (hc:so.cls=.type "list"):RH (TW w sa so) [783] [.tab []] h where
 top:=K_in Y hso
 len:=rfl
 o i a ao h1 h2:=by
  rcases i with _|i
  ·exact qq h1▸qq h2▸⟨#[],Y _ _ (y15 w),trivial,rfl⟩
  ·exact ja h2
 nd:=(List.Pairwise.cons (fun o_ m=>nomatch m) .nil)
 kn a m:=qB.mp m▸n783 Y hso hc
 t0:=rfl
theorem yI8 (hw:∀sa sl,(∀v∈sl,∃i,v=AV.int i)->sl.length<=63->wpS (pg sa sl) (Call (pg sa sl) 300) yL4 (jw fun a H=>a=.bool true/\∃l,H[0]? =some (.tab l)) (fun o_=>False) ⟨[.tab []],[(155,.top sa)]⟩):
 WalkO Hd.vw Hd.lo (XL Hd.vw []) Hd.YP Hd.rw1.row.toRowW Hd.dl [] fun f vs=>PySem.call f vs:=fun w s₀ s₁ mg mb G Y a o pm cd doc dV kV ho hod hcd hdf hmg hgens args vals as hpre hlay hrd hwell hsys=>by
 refine yG8 hpre hrd fun xs sa so its n sl hz1 hz2 hso hsc hsd hsl hxl her=>?_;subst hz1 hz2;have TX:=yM15 w sa so sl (yh3 Y hso hsc) hsc hsd (her _);have ha:a=805:=Value.ref.inj (qq (hmg.symm.trans (zI (K_in Y hso) G.T.g (yf13 w sa so))));subst ha;refine ku (yg13 w sa so) fun fd st fargs f1 f2 hz=>zB hz fun f3 f4 f5 f6 f7 f8 f9=>?_;refine wpAny_call (codeAny_mono (yO3 (k:=300) (Q:=fun a H=>a=.bool true/\∃l,H[0]? =some (.tab l)) (X:=fun o_=>False) TX.ok.TO.toTabOk (ym f1 f2 f3) (dargs:=[]) (ns:=[155]) (ps:=fargs.map (·.arg)) (args:=[.top sa]) (fun s vs o_ hv=>⟨[],by rw [List.append_nil];exact .of_eq (kC1 f4 f5 (by rw [f6];simp) (by refine rz hv ?_;rw [f6];rfl)),fun o_ o_ o_=>.nil⟩)
  (by exact rz f6 (.cons f9 .nil)) (by refine rz f6 ?_;simp) rfl (by refine rz f6 ?_;intro x m;simp at m;subst m;exact .inl f7)
  (A:=callerA) (fr:=[]) (by refine (?_:1+300+2*301<=990/\4+8*301<=9000);decide) rfl rfl ⟨by simp,by simp [frs],by simp [frs],by simp [frs]⟩ (R_0 Y hso hsc) (.cons (.top (yA6 w sa so (yh3 Y hso hsc))) .nil) fun L c O rm he hfr hown=>?_) fun r s' hr=>?_)
 ·have C:CtxS (TW w sa so) fd.scope false true 300 c:=⟨⟨O,rm,he▸rfl,fun q=>Bool.noConfusion q⟩,⟨_,hfr⟩,⟨L,he▸rfl⟩,fun o_ a m=>by
   rw [hfr,he] at m;rw [frs,List.filterMap_cons,show (callEnvC fd L 805).frame=some L from rfl] at m;have:a=L:=by simpa using m
   refine rz hown (rz this ?_);simp⟩
  exact yo4 TX.ok (yH5 TX 300) (c_ok f8) C (hw sa sl hsl hxl)
 ·unfold y5 at hr;split at hr
  ·obtain ⟨μ',a',H',⟨evo,hos,hge⟩,R',er,rfl,l,hl⟩:=hr
   cases er;refine ⟨.inl ⟨_,_,[],rfl,fun o_=>rfl,.bool _,yx15 xs,fun o_=>⟨.nil,by simp⟩⟩,⟨fun b ob eb=>?_,fun b ob eb=>evo.th b ob eb⟩,hos,.of_eq (hge.trans hgens)⟩;by_cases hb:b=783
   ·subst hb;exact jS (yN8 w) fun oc vs e0 e1 e2 e3=>x_EA (R'.o 0 783 _ R'.t0 hl) fun ps e4 o_=>.inr (.inl ⟨⟨785,oc,vs,Y _ _ e0,e1,e2,e3⟩,qq (eb.symm.trans (Y _ _ (y15 w)))▸⟨rfl, #[],ps,rfl,by exact rz e4 (rz Array.empty_append rfl)⟩⟩)
   ·exact .inl (evo.keep b ob eb (by simpa using hb) (.inl (by simp)))
  ·exact hr.elim
  ·obtain ⟨_,_,_,_,_,x,_⟩:=hr
   exact x.elim
theorem fin_ (hw:∀sa sl,(∀v∈sl,∃i,v=AV.int i)->sl.length<=63->wpS (pg sa sl) (Call (pg sa sl) 300) yL4 (jw fun a H=>a=.bool true/\∃l,H[0]? =some (.tab l)) (fun o_=>False) ⟨[.tab []],[(155,.top sa)]⟩):PySem.Challenge.rw_pc0186_02.Holds:=Hd.tt (yI8 hw)
variable {b:Bool} {F:Prop}
theorem iT {G:Prop} (h:b=true) (k:F):match (generalizing:=false) b with|true=>F|false=>G:=by subst h;exact k
theorem iF {G:Prop} (h:b=false) (k:G):match (generalizing:=false) b with|true=>F|false=>G:=by subst h;exact k
variable {a b:Nat}
theorem dk0 (h:b<=k) (e:Nat.ble a b=true):a<=k:=qb (qa e) h
theorem dk1 (h:b<=k) (e:Nat.ble (a+1) b=true):a<=k-1:=Nat.le_sub_one_of_lt (qb (qa e) h)
theorem dk2 (h:b<=k) (e:Nat.ble (a+2) b=true):a<=k-1-1:=dk1 (dk1 h e) (Nat.ble_self_eq_true _)
theorem lt3 (a:p 0) (b:p 1) (c:p 2):n<3->p n:=Nat.casesOn n (fun o_=>a) fun n=>Nat.casesOn n (fun o_=>b) fun n=>Nat.casesOn n (fun o_=>c) fun n h=>absurd h (Nat.not_lt.mpr (Nat.le_add_left 3 n))
theorem lt4 (a:p 0) (b:p 1) (c:p 2) (d:p 3):n<4->p n:=Nat.casesOn n (fun o_=>a) fun n=>Nat.casesOn n (fun o_=>b) fun n=>Nat.casesOn n (fun o_=>c) fun n=>Nat.casesOn n (fun o_=>d) fun n h=>absurd h (Nat.not_lt.mpr (Nat.le_add_left 4 n))
theorem at3 {α:Type} (f:Nat->α) (h:n<3):[f 0,f 1,f 2][n]? =some (f n):=lt3 (p:=fun n=>[f 0,f 1,f 2][n]? =some (f n)) rfl rfl rfl h
theorem at4 {α:Type} (f:Nat->α) (h:n<4):[f 0,f 1,f 2,f 3][n]? =some (f n):=lt4 (p:=fun n=>[f 0,f 1,f 2,f 3][n]? =some (f n)) rfl rfl rfl rfl h
variable {sl:List AV} {H:List AO} {m:Loc} {Q:AV->List AO->Prop} {X:List AO->Prop}
theorem yV7 {P:Prg}:Cl P k=Call P k:=by unfold Cl;rfl
variable {as:List AV}
theorem cl_i {P:Prg} {t:CT} (hk:1<=k) (h:yL6 P (Cl P (k-1)) t as H Q X):Cl P k t as H Q X:=by
 rcases k with _|k
 ·exact absurd hk (Nat.not_succ_le_zero 0)
 ·exact yV7.symm▸(congrArg (fun Γ=>yL6 P Γ t as H Q X) yV7).mp h
theorem yh9 {d:Cal} (hk:1<=k) (hc:(pg sa sl).cal f=d) (h:calQ (pg sa sl) (Cl (pg sa sl) (k-1)) as H Q X d):Cl (pg sa sl) k (.f f) as H Q X:=cl_i hk ((congrArg (calQ (pg sa sl) (Cl (pg sa sl) (k-1)) as H Q X) hc).mpr h)
variable {ps:List Nat} {b:S}
theorem u_fn (hk:1<=k) (hc:(pg sa sl).cal f=.fn ps b) (hl:ps.length=as.length) (h:wpS (pg sa sl) (Cl (pg sa sl) (k-1)) b (jw Q) (exH X) ⟨H,ps.zip as⟩):Cl (pg sa sl) k (.f f) as H Q X:=yh9 hk hc ⟨hl,h⟩
theorem yO15 {d:List AV} (hk:1<=k) (hc:(pg sa sl).cal f=.fnD ps d b) (hl:ps.length=(as++d).length) (h:wpS (pg sa sl) (Cl (pg sa sl) (k-1)) b (jw Q) (exH X) ⟨H,ps.zip (as++d)⟩):Cl (pg sa sl) k (.f f) as H Q X:=yh9 hk hc ⟨hl,h⟩
variable {C:Nat}
theorem yq2 (hk:1<=k) (hc:(pg sa sl).cal f=.cls C i) (h:Cl (pg sa sl) (k-1) (.f i) (.ref (H.length+1)::as) (H++[.dict [],.inst C H.length]) (fun a H'=>a=.nil/\Q (.ref (H.length+1)) H') X):Cl (pg sa sl) k (.f f) as H Q X:=yh9 hk hc h
variable {v:AV}
theorem yj9 {e:E} (hk:1<=k) (hc:(pg sa sl).lam kk=some (cn,ps,e)) (hl:ps.length=as.length) (h:wp (pg sa sl) (Cl (pg sa sl) (k-1)) e (lamR Q) (exH X) ⟨H,(cn,v)::ps.zip as⟩):Cl (pg sa sl) k (.l (.clo kk v)) as H Q X:=cl_i hk (by delta yL6;exact jj (a:=(kk,v)) rfl (jj hc ⟨hl,h⟩))
variable {j:Nat}
theorem jd {F:AV->St->Prop} {l:List (AV×AV)} (h1:H[i]? =some (.inst C j)) (h2:H[j]? =some (.dict l)) (h3:dget l n=some v) (h4:(pg sa sl).atr C n=true) (q:F v ⟨H,m⟩):getQ (pg sa sl) (.ref i) n F ⟨H,m⟩:=by
 delta getQ;exact jj (a:=i) rfl (jj (yp8 h1 h2) (jj h3 ⟨h4,q⟩))
variable {F:St->Prop}
theorem zp {l:List (AV×AV)} (h1:H[i]? =some (.inst C j)) (h2:H[j]? =some (.dict l)) (h4:(pg sa sl).atr C n=true) (h5:kA l=true) (h6:(dput l n v).length<=1000) (q:F ⟨H.set j (.dict (dput l n v)),m⟩):setQ (pg sa sl) (.ref i) n v F ⟨H,m⟩:=by
 delta setQ;exact jj (a:=i) rfl (jj (yp8 h1 h2) ⟨h4,h5,h6,q⟩)
theorem jy {l:List (AV×AV)} {r:List AO} (h4:(pg sa sl).atr C n=true) (h5:kA l=true) (h6:(dput l n v).length<=1000) (q:F ⟨H++.dict (dput l n v)::.inst C H.length::r,m⟩):setQ (pg sa sl) (.ref (H.length+1)) n v F ⟨H++.dict l::.inst C H.length::r,m⟩:=by
 refine zp (C:=C) (j:=H.length) (l:=l) (by simp [qv]) (by simp [qv]) h4 h5 h6 ?_;refine rz (List.set_append_right _ _ (qm _)) ?_;rw [Nat.sub_self];exact q
theorem j1 {F:Bool->Prop} {l:List (AV×AV)} {ik:IK} (h1:H[i]? =some (.inst C j)) (h2:H[j]? =some (.dict l)) (hC:(pg sa sl).isC C=true) (q:F (isK C ik)):optQ F (isiV (pg sa sl) H (.ref i) ik):=by
 have e:isiV (pg sa sl) H (.ref i) ik=some (isK C ik):=(congrArg (fun o=>Option.bind o (AO.isi (pg sa sl) H ik)) h1).trans ((congrArg (fun o=>Option.bind o fun o_=>gd ((pg sa sl).isC C) (isK C ik)) (zb1 h2)).trans (congrArg (fun c=>gd c (isK C ik)) hC));exact jj e q
theorem jb {F:MK->Prop} {l:List (AV×AV)} (h1:H[i]? =some (.inst C j)) (h2:H[j]? =some (.dict l)) (h3:(pg sa sl).mth C n=some f) (h4:kA l=true) (h5:dget l n=none) (q:F (.fn f)):optQ F (yb1 (pg sa sl) H (.ref i) n):=by
 have e:yb1 (pg sa sl) H (.ref i) n=mkI (pg sa sl) C n l:=(congrArg (fun o=>Option.bind o (AO.mk (pg sa sl) H n)) h1).trans (congrArg (fun o=>Option.bind o (mkI (pg sa sl) C n)) (zb1 h2));refine jj (e.trans ?_) q;delta mkI;exact rz h3 (if_pos ⟨h4,h5⟩)
variable {z:Int}
theorem jo {F:AV->St->Prop} {l:List AV} (h1:H[i]? =some (.list l)) (hz:0<=z/\z<2^62) (hv:l[z.toNat]? =some v) (q:F v ⟨H,m⟩):subQ (pg sa sl) (.ref i) (.int z) F ⟨H,m⟩:=by
 delta subQ;exact yE11 h1 ⟨by exact rz (if_pos hz.1) hz.2,jj (by delta yt6;exact rz (if_pos hz.1) hv) q⟩
variable {tgt:Tgt} {a:AV} {src:Src}
theorem ys11 {Γ:Ora} {sk:SK} {b:S} {Qf:AF->St->Prop} {Xs:St->Prop} (hs:srcV H sk a=some src) (hg:good src tgt=true) (J:Nat->St->Prop) (N:Nat) (h0:J 0 ⟨H,m⟩)
 (hstep:∀n σ,J n σ->match src.item σ.H n with
  |none=>False
  |some none=>Qf .next σ
  |some (some a)=>n<N/\optQ (fun m'=>wpS (pg sa sl) Γ b (jN Qf fun σ2=>J (n+1) σ2) Xs ⟨σ.H,m'⟩) (asg tgt a σ.m)):
 optQ (fun src=>good src tgt=true/\∃(J:Nat->Nat->St->Prop) (k:Nat),J k 0 ⟨H,m⟩/\∀k n σ,J k n σ->match src.item σ.H n with
 |none=>False
 |some none=>Qf .next σ
 |some (some a)=>optQ (fun m'=>wpS (pg sa sl) Γ b (jN Qf fun σ2=>∃k',k'<k/\J k' (n+1) σ2) Xs ⟨σ.H,m'⟩) (asg tgt a σ.m)) (srcV H sk a):=by
 refine rz hs (⟨hg,fun k n σ=>k+n=N/\J n σ,N,⟨rfl,h0⟩,fun k n σ ⟨hk,hJ⟩=>?_⟩);have:=hstep n σ hJ
 revert this
 rcases src.item σ.H n with _|o
 ·exact id
 ·rcases o with _|a
  ·exact id
  ·dsimp only
   rintro ⟨hn,h⟩
   revert h
   have e:(jN Qf fun σ2=>∃k',k'<k/\k'+(n+1)=N/\J (n+1) σ2)=jN Qf fun σ2=>J (n+1) σ2:=by
    have:(fun σ2=>∃k',k'<k/\k'+(n+1)=N/\J (n+1) σ2)=fun σ2=>J (n+1) σ2:=by
     funext σ2
     exact propext ⟨fun ⟨_,_,_,h⟩=>h,fun h=>⟨k-1,by lia,by lia,h⟩⟩
    exact rz this rfl
   exact rz e (id)
variable {Γ:Ora} {Qf:AF->St->Prop} {Xs:St->Prop} {σ:St}
theorem jx {s r:S} (h:wpS (pg sa sl) Γ s (seqK (wpS (pg sa sl) Γ r Qf Xs) Qf) Xs σ):wpS (pg sa sl) Γ (.seq s r) Qf Xs σ:=h
variable {it:E}
theorem yr2 {sk:SK} {H1:List AO} {b:S} {Qf:AF->St->Prop} (hw:∀F:AV->St->Prop,F a ⟨H1,m⟩->wp (pg sa sl) Γ it F Xs ⟨H,m⟩) (hs:srcV H1 sk a=some src) (hg:good src tgt=true) (J:Nat->St->Prop) (N:Nat) (h0:J 0 ⟨H1,m⟩)
 (hstep:∀n σ,J n σ->match src.item σ.H n with
  |none=>False
  |some none=>Qf .next σ
  |some (some a)=>n<N/\optQ (fun m'=>wpS (pg sa sl) Γ b (jN Qf fun σ2=>J (n+1) σ2) Xs ⟨σ.H,m'⟩) (asg tgt a σ.m)):wpS (pg sa sl) Γ (.for tgt sk it b) Qf Xs ⟨H,m⟩:=
 hw _ (ys11 hs hg J N h0 hstep)
theorem kw1 {l:List AV} (h:H[i]? =some (.list l)):Src.item H (.enum i) n=some (l[n]?.map fun v=>.tup [.int n,v]):=congrArg (Option.map fun l=>l[n]?.map fun v=>AV.tup [.int n,v]) (jU h)
theorem ye3 {l:List AV} (h:H[i]? =some (.list l)):Src.item H (.list i) n=some l[n]? :=congrArg (Option.map fun l=>l[n]?) (jU h)
theorem y1 {l:List AV} (h:H[i]? =some (.list l)):srcV H .enum (.ref i)=some (.enum i):=congrArg (Option.map fun o_=>Src.enum i) (jU h)
theorem yo3 {l:List AV} (h:H[i]? =some (.list l)):srcV H .val (.ref i)=some (.list i):=congrArg (Option.map fun o_=>Src.list i) (jU h)
theorem ka1 {t:E} (J:Nat->St->Prop) (N:Nat) (h0:J N σ)
 (hstep:∀n σ,J n σ->wp (pg sa sl) Γ t (trQ (ifK (wpS (pg sa sl) Γ b (jN Qf fun σ2=>∃n',n'<n/\J n' σ2) Xs) (Qf .next))) Xs σ):wpS (pg sa sl) Γ (.while t b) Qf Xs σ:=⟨J,N,h0,hstep⟩
noncomputable def Obj (H:List AO) (i:Nat) (C:Addr) (l:List (AV×AV)):Prop:=∃j,H[i]? =some (.inst C j)/\H[j]? =some (.dict l)
end
inductive TV where
 |nil|bool (b:Bool)|int (i:Int)|bytes (l:List UInt8)|tab (n:Int)|fn (n:Int)
section
variable {H:List AO}
inductive Lv (H:List AO):AV->TV->Prop
 |nil:Lv H .nil .nil
 |bool (b):Lv H (.bool b) (.bool b)
 |int (i):Lv H (.int i) (.int i)
 |bytes (l):Lv H (.bytes l) (.bytes l)
 |tab {i j l n} (h1:H[i]? =some (.inst 275 j)) (h2:H[j]? =some (.dict l)) (h3:dget l 34=some (.int n)):Lv H (.ref i) (.tab n)
 |fn {i j l n} (h1:H[i]? =some (.inst 296 j)) (h2:H[j]? =some (.dict l)) (h3:dget l 34=some (.int n)):Lv H (.ref i) (.fn n)
noncomputable def TV.isNum:TV->Bool
 |.int _=>true
 |_=>false
noncomputable def TV.isFal:TV->Bool
 |.nil=>true
 |.bool b=> !b
 |_=>false
noncomputable def TV.ty:TV->List UInt8
 |.nil=>[110,105,108]
 |.bool _=>[98,111,111,108,101,97,110]
 |.int _=>[110,117,109,98,101,114]
 |.bytes _=>[115,116,114,105,110,103]
 |.tab _=>[116,97,98,108,101]
 |.fn _=>[102,117,110,99,116,105,111,110]
noncomputable def TV.eq:TV->TV->Bool
 |.nil,.nil=>true
 |.bool a,.bool b=>a==b
 |.int a,.int b=>a==b
 |.bytes a,.bytes b=>a==b
 |.tab a,.tab b=>a==b
 |.fn a,.fn b=>a==b
 |_,_=>false
variable {v v':AV} {t t':TV}
variable {sa:Addr}
variable {sl:List AV}
variable {k:Nat}
variable {Q:AV->List AO->Prop}
variable {X:List AO->Prop}
theorem j0 (hk:1<=k) (h:Lv H v t) (q:Q (.bool t.isNum) H):Cl (pg sa sl) k (.f 1) [v] H Q X:=by
 refine u_fn hk rfl rfl ?_;cases h with
 |tab h1 h2=>exact j1 h1 h2 rfl q
 |fn h1 h2=>exact j1 h1 h2 rfl q
 |_=>exact q
theorem yQ1 (hk:1<=k) (h:Lv H v t) (q:Q (.bool t.isFal) H):Cl (pg sa sl) k (.f 2) [v] H Q X:=by
 refine u_fn hk rfl rfl ?_;cases h with
 |tab h1 h2=>exact j1 h1 h2 rfl q
 |fn h1 h2=>exact j1 h1 h2 rfl q
 |_=>exact q
theorem jB (hk:1<=k) (h:Lv H v t) (q:Q (.bytes t.ty) H):Cl (pg sa sl) k (.f 23) [v] H Q X:=by
 refine u_fn hk rfl rfl ?_;cases h with
 |tab h1 h2=>
  exact j1 h1 h2 rfl (j1 h1 h2 rfl (j1 h1 h2 rfl (j1 h1 h2 rfl (q))))
 |fn h1 h2=>
  exact j1 h1 h2 rfl (j1 h1 h2 rfl (j1 h1 h2 rfl (j1 h1 h2 rfl (q))))
 |_=>exact q
noncomputable def TV.isFn:TV->Bool
 |.fn _=>true
 |_=>false
theorem zP (hk:2<=k) (h:Lv H v t) (q:Q (.bool t.isFn) H):Cl (pg sa sl) k (.f 25) [v] H Q X:=by
 refine u_fn (dk0 hk rfl) rfl rfl (jB (dk1 hk rfl) h ?_);cases h<;>exact q
theorem yL3 (hk:2<=k) (h:Lv H v t) (h':Lv H v' t') (q:Q (.bool (t.eq t')) H):Cl (pg sa sl) k (.f 24) [v,v'] H Q X:=by
 refine u_fn (dk0 hk rfl) rfl rfl (jB (dk1 hk rfl) h (jB (dk1 hk rfl) h' ?_));cases h with
 |tab h1 h2 h3=>
  cases h' with
  |tab g1 g2 g3=>
   exact jd h1 h2 h3 rfl (jd g1 g2 g3 rfl (q))
  |_=>exact q
 |fn h1 h2 h3=>
  cases h' with
  |fn g1 g2 g3=>
   exact jd h1 h2 h3 rfl (jd g1 g2 g3 rfl (q))
  |_=>exact q
 |_=>cases h'<;>exact q
noncomputable def fp (es:List (List UInt8×AV)) (b:List UInt8):Option Nat:=es.findIdx? fun e=>e.1==b
noncomputable def sndD (o:Option (List UInt8×AV)):AV:=(o.map (·.2)).getD .nil
noncomputable def tg (es:List (List UInt8×AV)) (b:List UInt8):AV:=sndD (es.find? fun e=>e.1==b)
noncomputable def fpI (es:List (List UInt8×AV)) (b:List UInt8):Int:=match fp es b with
 |some n=>n
 |none=> -1
variable {es:List (List UInt8×AV)} {b:List UInt8} {n:Nat}
theorem yS14 {e:List UInt8×AV} (h:es[n]? =some e) (q:(e.1==b)=true) (w:∀(i:Nat) (e:List UInt8×AV),i<n->es[i]? =some e->(e.1==b)=false):fp es b=some n:=
 x_E (qA.mp h) fun hlt e=>List.findIdx?_eq_some_iff_getElem.mpr ⟨hlt,e▸q,fun j hj c=>Bool.noConfusion (c.symm.trans (w j _ hj (qu (Nat.lt_trans hj hlt))))⟩
theorem yn6 (w:∀(i:Nat) (e:List UInt8×AV),es[i]? =some e->(e.1==b)=false):fp es b=none:=List.findIdx?_eq_none_iff.mpr fun e m=>x_E (List.getElem?_of_mem m) fun i he=>w i e he
theorem yT11 {o:Option Nat} (h:fp es b=o):tg es b=sndD (o.bind fun i=>es[i]?):=congrArg sndD (List.find?_eq_bind_findIdx?_getElem?.trans (congrArg (fun o:Option Nat=>o.bind fun i=>es[i]?) h))
theorem yU10 (h:fp es b=some n):(es.map (·.2))[n]? =some (tg es b):=x_E (List.findIdx?_eq_some_iff_getElem.mp h) fun hlt o_=>have e:=qu hlt
 qt.trans ((congrArg (Option.map (·.2)) e).trans (congrArg some ((yT11 h).trans (congrArg sndD e)).symm))
theorem yT10 (h:fp es b=none):tg es b=.nil:=yT11 h
noncomputable def Tb (H:List AO) (i:Nat) (n:Int) (es:List (List UInt8×AV)) (mt:AV):Prop:=
 ∃j kI vI,H[i]? =some (.inst 275 j)/\H[j]? =some (.dict [(.str 34,.int n),(.str 37,.ref kI),(.str 36,.ref vI),(.str 35,mt)])/\H[kI]? =some (.list (es.map fun e=>.bytes e.1))/\H[vI]? =some (.list (es.map (·.2)))
variable {i:Nat} {n:Int} {mt:AV}
theorem Tb.lv (T:Tb H i n es mt):Lv H (.ref i) (.tab n):=by
 exact jD T fun j kI vI h1 h2 o_ o_=>.tab h1 h2 rfl
theorem yE7 (hk:3<=k) (T:Tb H i n es mt) (q:Q (.int (fpI es b)) H):Cl (pg sa sl) k (.f 18) [.ref i,.bytes b] H Q X:=by
 refine jD T fun j kI vI h1 h2 h3 h4=>u_fn (dk0 hk rfl) rfl rfl (jx (yr2 (fun F q=>jd h1 h2 rfl rfl q) (y1 h3) rfl (fun n σ=>σ.H=H/\(σ.m=[(0,.ref i),(38,.bytes b)]\/∃x y,σ.m=[(0,.ref i),(38,.bytes b),(20,x),(39,y)])/\∀i e,i<n->es[i]? =some e->(e.1==b)=false) es.length ⟨rfl,.inl rfl,fun i e hi=>absurd hi (Nat.not_lt_zero i)⟩ fun n σ hJ=>?_));obtain ⟨H',m'⟩:=σ
 obtain ⟨rfl,hm,hb⟩:=hJ
 refine rz (kw1 h3) (rz qt ?_);rcases he:es[n]? with _|e
 ·have:fpI es b= -1:=by
   unfold fpI;exact rz (yn6 fun i e q=>hb i e (by
    have h1:=(qA.mp q).1;have h2:=qs.mp he;exact qc h1 h2) q) rfl
  rw [this] at q;rcases hm with rfl|⟨x,y,rfl⟩<;>exact q
 ·refine ⟨(qA.mp he).1,?_⟩;have nx:((TV.bytes e.1).eq (.bytes b))=false->∀i e,i<n+1->es[i]? =some e->(e.1==b)=false:=fun h i e' hi hi'=>by
   rcases Nat.lt_succ_iff_lt_or_eq.mp hi with hi|rfl
   ·exact hb i e' hi hi'
   ·rw [he] at hi';obtain rfl:=qq hi';exact h
  rcases hm with rfl|⟨x,y,rfl⟩
  all_goals
   refine yL3 (dk1 hk rfl) (.bytes _) (.bytes _) ?_;rcases hq:(TV.bytes e.1).eq (.bytes b) with _|_
   ·exact ⟨rfl,.inr ⟨_,_,rfl⟩,nx hq⟩
   ·have:fpI es b=n:=by unfold fpI;exact rz (yS14 he hq hb) rfl
    rw [this] at q;exact q
theorem yj6 (hk:4<=k) (T:Tb H i n es mt) (hn:es.length<1000) (q:Q (tg es b) H):Cl (pg sa sl) k (.f 19) [.ref i,.bytes b] H Q X:=by
 have T':=T;refine jD T' fun j kI vI h1 h2 h3 h4=>u_fn (dk0 hk rfl) rfl rfl (jb h1 h2 rfl rfl rfl (yE7 (dk1 hk rfl) T ?_));rcases w:fp es b with _|p
 ·rw [yT10 w] at q;unfold fpI;refine rz w ?_;exact q
 ·have w':=yU10 w;have hI:fpI es b=(p:Int):=by unfold fpI;exact rz w rfl
  refine rz hI (jd h1 h2 rfl rfl ?_)
  conv=>whnf
  refine jo (sa:=sa) (sl:=sl) h4 ⟨by lia,by have:=(qA.mp w').1;rw [qF] at this;lia⟩ w' ?_;exact q
structure RI where
 H0:List AO
 r:Nat
 js:Nat
 lm:Nat
 out:Nat
 fi:Nat
 tt:Nat
 gt:Nat
 fr:Nat
 jf:Nat
 cs:Nat
 ex:Nat
 sn:Nat
 fn:Int
end
namespace RI
variable (I:RI)
noncomputable def S0 (i:Nat) (o:AO):Prop:=I.H0[i]? =some o/\i≠I.js/\i≠I.jf/\i≠I.fi/\i≠I.sn
noncomputable def rD (steps made:Int):List (AV×AV):=[(.str 18,.ref I.lm),(.str 51,.bytes [108,97,119]),(.str 50,.ref I.out),(.str 9,.int steps),(.str 49,.int made),(.str 6,.ref I.fi),(.str 48,.ref I.tt),(.str 78,.ref I.gt)]
noncomputable def fD (line:Int):List (AV×AV):=[(.str 34,.int I.fn),(.str 46,.ref I.cs),(.str 47,.ref I.ex),(.str 31,.int line)]
end RI
noncomputable def limD:List (AV×AV):=[(.str 1,.int 64),(.str 2,.int 250),(.str 3,.int 60),(.str 4,.int 200),(.str 5,.int 40),(.str 6,.int 200),(.str 7,.int 2000),(.str 8,.int 50),(.str 9,.int 1000000000),(.str 10,.int 1000000)]
noncomputable def Tb0 (I:RI) (i:Nat) (n:Int) (es:List (List UInt8×AV)) (mt:AV):Prop:=
 ∃j kI vI,I.S0 i (.inst 275 j)/\I.S0 j (.dict [(.str 34,.int n),(.str 37,.ref kI),(.str 36,.ref vI),(.str 35,mt)])/\I.S0 kI (.list (es.map fun e=>.bytes e.1))/\I.S0 vI (.list (es.map (·.2)))
structure Bs (I:RI) (tx gs:List (List UInt8×AV)):Prop where
 r:I.S0 I.r (.inst 634 I.js)
 lm:∃j,I.S0 I.lm (.inst 53 j)/\I.S0 j (.dict limD)
 fr:I.S0 I.fr (.inst 338 I.jf)
 tt:Tb0 I I.tt (-60) tx .nil
 gt:Tb0 I I.gt (-80) gs .nil
 tl:tx.length<1000
 gl:gs.length<1000
 b1:I.js<I.H0.length
 b2:I.jf<I.H0.length
 b3:I.fi<I.H0.length
 b4:I.sn<I.H0.length
 n1:I.js≠I.jf
 n2:I.fi≠I.sn
structure G (I:RI) (H:List AO) (f:Nat) (fs sl:List AV):Prop where
 len:I.H0.length<=H.length
 kp:∀i o,I.S0 i o->H[i]? =some o
 js:∃steps made:Int,steps+f<=1000000000/\H[I.js]? =some (.dict (I.rD steps made))
 jf:∃line:Int,(line=0\/line=1)/\H[I.jf]? =some (.dict (I.fD line))
 fi:H[I.fi]? =some (.list (.ref I.fr::fs))
 sn:H[I.sn]? =some (.list sl)
noncomputable def Kn (I:RI) (H H':List AO):Prop:=H.length<=H'.length/\∀i o,I.H0.length<=i->H[i]? =some o->H'[i]? =some o
section
variable {I:RI} {H H' H'':List AO} {f:Nat} {fs sl':List AV} {tx gs:List (List UInt8×AV)}
theorem Kn.refl:Kn I H H:=⟨qm _,fun o_ o_ o_ h=>h⟩
theorem Kn.trans (a:Kn I H H') (b:Kn I H' H''):Kn I H H'':=⟨qb a.1 b.1,fun i o hi h=>b.2 i o hi (a.2 i o hi h)⟩
theorem Kn.push {l:List AO}:Kn I H (H++l):=⟨by simp,fun i o o_ h=>by refine rz (qw (qA.mp h).1) ?_;exact h⟩
variable {j:Nat} {o:AO}
theorem Kn.set (hj:j<I.H0.length):Kn I H (H.set j o):=⟨by simp,fun i o' hi h=>by refine rz (List.getElem?_set_ne (qf (qc hj hi))) ?_;exact h⟩
variable {i:Nat} {o':AO}
theorem jW (a:H[i]? =some o) (b:H[j]? =some o') (h:o≠o'):i≠j:=fun e=>by
 subst e;rw [a] at b;obtain rfl:=qq b;exact h rfl
theorem jv (h:H[j]? =some o):(H.set j o')[j]? =some o':=List.getElem?_set_self (qA.mp h).1
theorem je (h:H[i]? =some o) (n:i≠j):(H.set j o')[i]? =some o:=(List.getElem?_set_ne (Ne.symm n)).trans h
theorem jc {l:List AO} (h:H[i]? =some o):(H++l)[i]? =some o:=by refine rz (qw (qA.mp h).1) ?_;exact h
theorem kE {l:List AO} (h:l[i]? =some o):(H++l)[H.length+i]? =some o:=by refine rz (qv (qi _ _)) ?_;rw [Nat.add_sub_cancel_left];exact h
theorem G.push (g:G I H f fs sl') {l:List AO}:G I (H++l) f fs sl' where
 len:=qb g.len (by simp)
 kp i o h:=jc (g.kp i o h)
 js:=let ⟨s,m,a,b⟩:=g.js;⟨s,m,a,jc b⟩
 jf:=let ⟨s,a,b⟩:=g.jf;⟨s,a,jc b⟩
 fi:=jc g.fi
 sn:=jc g.sn
theorem G.setNew (B:Bs I tx gs) (g:G I H f fs sl') (hj:I.H0.length<=j):G I (H.set j o) f fs sl' where
 len:=by exact rz qy g.len
 kp i o h:=je (g.kp i o h) (by have:=(qA.mp h.1).1;exact qf (qc this hj))
 js:=let ⟨s,m,a,b⟩:=g.js;⟨s,m,a,je b (by have:=B.b1;exact qf (qc this hj))⟩
 jf:=let ⟨s,a,b⟩:=g.jf;⟨s,a,je b (by have:=B.b2;exact qf (qc this hj))⟩
 fi:=je g.fi (by have:=B.b3;exact qf (qc this hj))
 sn:=je g.sn (by have:=B.b4;exact qf (qc this hj))
variable {f':Nat}
theorem G.setJs (B:Bs I tx gs) (g:G I H f fs sl') {steps made:Int} (h:steps+f'<=1000000000):G I (H.set I.js (.dict (I.rD steps made))) f' fs sl' where
 len:=by exact rz qy g.len
 kp i o h:=je (g.kp i o h) h.2.1
 js:=let ⟨s,m,a,b⟩:=g.js;⟨steps,made,h,jv b⟩
 jf:=let ⟨s,a,b⟩:=g.jf;⟨s,a,je b (Ne.symm B.n1)⟩
 fi:=let ⟨s,m,a,b⟩:=g.js;je g.fi (jW g.fi b (by simp))
 sn:=let ⟨s,m,a,b⟩:=g.js;je g.sn (jW g.sn b (by simp))
theorem G.setJf (B:Bs I tx gs) (g:G I H f fs sl') {line:Int} (h:line=0\/line=1):G I (H.set I.jf (.dict (I.fD line))) f fs sl' where
 len:=by exact rz qy g.len
 kp i o h:=je (g.kp i o h) h.2.2.1
 js:=let ⟨s,m,a,b⟩:=g.js;⟨s,m,a,je b B.n1⟩
 jf:=let ⟨s,a,b⟩:=g.jf;⟨line,h,jv b⟩
 fi:=let ⟨s,a,b⟩:=g.jf;je g.fi (jW g.fi b (by simp))
 sn:=let ⟨s,a,b⟩:=g.jf;je g.sn (jW g.sn b (by simp))
theorem G.setFi (B:Bs I tx gs) (g:G I H f fs sl') {fs':List AV}:G I (H.set I.fi (.list (.ref I.fr::fs'))) f fs' sl' where
 len:=by exact rz qy g.len
 kp i o h:=je (g.kp i o h) h.2.2.2.1
 js:=let ⟨s,m,a,b⟩:=g.js;⟨s,m,a,je b (Ne.symm (jW g.fi b (by simp)))⟩
 jf:=let ⟨s,a,b⟩:=g.jf;⟨s,a,je b (Ne.symm (jW g.fi b (by simp)))⟩
 fi:=jv g.fi
 sn:=je g.sn (Ne.symm B.n2)
theorem G.setSn (B:Bs I tx gs) (g:G I H f fs sl') {sl'':List AV}:G I (H.set I.sn (.list sl'')) f fs sl'' where
 len:=by exact rz qy g.len
 kp i o h:=je (g.kp i o h) h.2.2.2.2
 js:=let ⟨s,m,a,b⟩:=g.js;⟨s,m,a,je b (Ne.symm (jW g.sn b (by simp)))⟩
 jf:=let ⟨s,a,b⟩:=g.jf;⟨s,a,je b (Ne.symm (jW g.sn b (by simp)))⟩
 fi:=je g.fi B.n2
 sn:=jv g.sn
variable {es:List (List UInt8×AV)} {mt:AV}
theorem Tb0.tb {n:Int} (T:Tb0 I i n es mt) (g:G I H f fs sl'):Tb H i n es mt:=
 let ⟨j,a,b,h1,h2,h3,h4⟩:=T;⟨j,a,b,g.kp _ _ h1,g.kp _ _ h2,g.kp _ _ h3,g.kp _ _ h4⟩
variable {sa:Addr} {sl:List AV} {k:Nat} {m:Loc} {Q:AV->List AO->Prop} {X:List AO->Prop} {ss:List AV}
theorem yN3 (hk:1<=k) (B:Bs I tx gs) (g:G I H (f+1) fs ss) (q:∀H',G I H' f fs ss->Kn I H H'->Q .nil H'):Cl (pg sa sl) k (.f 29) [.ref I.r] H Q X:=by
 refine jk g.js fun st md hs h2=>x_EA B.lm fun j l1 l2=>?_;have h1:=g.kp _ _ B.r;refine u_fn hk rfl rfl (jd h1 h2 rfl rfl (zp h1 h2 rfl rfl (qa rfl) ?_));have g':G I (H.set I.js (.dict (I.rD (st+1) md))) f fs ss:=g.setJs B (by lia);have q':=q _ g' (.set B.b1);have h1':=g'.kp _ _ B.r;have h2':(H.set I.js (.dict (I.rD (st+1) md)))[I.js]? =some (.dict (I.rD (st+1) md)):=jv h2;refine jd h1' h2' rfl rfl (jd h1' h2' rfl rfl (jd (g'.kp _ _ l1) (g'.kp _ _ l2) rfl rfl ?_))
 conv=>whnf
 dsimp only;exact rz (decide_eq_false (show ¬(1000000000:Int)<st+1 by lia)) (q')
theorem kg1:(H++[o]).set H.length o'=H++[o']:=by
 refine rz (List.set_append_right _ _ (qm _)) ?_;rw [Nat.sub_self];rfl
theorem jh:(H++[o])[H.length]? =some o:=by simp
variable {n:Nat}
theorem kt {F:MK->Prop} {l:List AV} {b:BM1} (h:H[i]? =some (.list l)) (hb:(pg sa sl).bm n=some b) (hb':Nat.beq b.ty 0=true) (q:F (.bm b)):optQ F (yb1 (pg sa sl) H (.ref i) n):=
 jj (((congrArg (fun o=>Option.bind o (AO.mk (pg sa sl) H n)) h).trans (congrArg (fun o:Option BM1=>o.bind fun b=>gd2 (Nat.beq b.ty 0) (MK.bm b)) hb)).trans (congrArg (fun c=>gd2 c (MK.bm b)) hb')) q
variable {F:AV->St->Prop} {v:AV}
theorem km {l:List AV} (h:H[i]? =some (.list l)) (hl:l.length<=1000000) (q:F .nil ⟨H.set i (.list (l++[v])),m⟩):bmQ .append (.ref i) [v] F ⟨H,m⟩:=by
 delta bmQ;exact jj (a:=i) rfl (jj (jU h) ⟨hl,q⟩)
theorem yg15 {l:List AV} (h:H[i]? =some (.list (l++[v]))) (hl:l.length<1000000) (q:F v ⟨H.set i (.list l),m⟩):bmQ .pop (.ref i) [] F ⟨H,m⟩:=by
 have e:(l++[v])[(l++[v]).length-1]? =some v:=by simp
 have e2:(l++[v]).eraseIdx ((l++[v]).length-1)=l:=by simp [List.eraseIdx_append_of_length_le]
 delta bmQ;exact jj (a:=i) rfl (jj (jU h) ⟨by simp;lia,jj e (by exact rz e2 q)⟩)
theorem y66 {l:List AV} (h:H[i]? =some (.list l)) (hl:l.length<=1000000) (q:F .nil ⟨H.set i (.list l.reverse),m⟩):bmQ .reverse (.ref i) [] F ⟨H,m⟩:=by
 delta bmQ;exact jj (a:=i) rfl (jj (jU h) ⟨rfl,hl,q⟩)
theorem ya3 {l:List AV} (h:H[i]? =some (.list l)) (hl:l.length<2^62) (q:F (.int l.length) ⟨H,m⟩):biQ (pg sa sl) .len [.ref i] F ⟨H,m⟩:=by
 delta biQ;exact jj (jU h) ⟨hl,q⟩
theorem yr6 {l:List AV} {bs:List UInt8} (h:H[i]? =some (.list l)) (hb:l=bs.map (fun b=>.int b.toNat)) (hl:l.length<=1000000) (q:F (.bytes bs) ⟨H,m⟩):biQ (pg sa sl) .bytes [.ref i] F ⟨H,m⟩:=by
 delta biQ;exact jj (jU h) ⟨bs,hb,hl,q⟩
variable {σ:St}
theorem yr11 {i:Int} (q:F (.int (if i<0 then-i else i)) σ):biQ (pg sa sl) .abs [.int i] F σ:=by
 delta biQ;exact q
theorem yc {l:List UInt8} (h:l.length<=1000000) (q:F (.int l.length) σ):biQ (pg sa sl) .len [.bytes l] F σ:=by
 delta biQ;exact ⟨h,q⟩
theorem y03 (q:F (.int ((pg sa sl).slen n)) σ):biQ (pg sa sl) .len [.str n] F σ:=by
 delta biQ;exact q
variable {z:Int}
theorem j4 {l:List AV} (h:0<=z/\z<2^62) (hv:l[z.toNat]? =some v) (q:F v σ):subQ (pg sa sl) (.tup l) (.int z) F σ:=by
 delta subQ;exact ⟨h,jj hv q⟩
theorem yd {l:List UInt8} (h:0<=z/\z.toNat<l.length/\l.length<=1000000) (q:F (.int (l.getD z.toNat 0).toNat) σ):subQ (pg sa sl) (.bytes l) (.int z) F σ:=by
 delta subQ;exact ⟨h,q⟩
theorem yW {v:Nat} (hv:(pg sa sl).hd n=some v) (q:F (.str v) σ):subQ (pg sa sl) (.str n) (.int 0) F σ:=by
 delta subQ;exact ⟨rfl,jj hv q⟩
variable {b:AV}
theorem jX {l:List (AV×AV)} (h1:H[i]? =some (.dict l)) (h2:dkOk l b=true) (h3:aget l b=some v) (q:F v ⟨H,m⟩):subQ (pg sa sl) (.ref i) b F ⟨H,m⟩:=by
 delta subQ;exact yC11 h1 ⟨h2,jj h3 q⟩
theorem yl8 {d:Nat} {l:List (AV×AV)} (h1:(pg sa sl).td d=some l) (h2:dkOk l b=true) (h3:aget l b=some v) (q:F v σ):subQ (pg sa sl) (.top d) b F σ:=by
 delta subQ;exact jj h1 ⟨h2,jj h3 q⟩
variable {hi:AV}
theorem y71 {l:List UInt8} {lo:AV} {x y:Option Int} (h1:kG lo=some x) (h2:kG hi=some y) (h:l.length<=1000000) (q:F (.bytes (cut l x y)) σ):cutQ (pg sa sl) (.bytes l) lo hi F σ:=by
 delta cutQ;exact jj h1 (jj h2 ⟨h,q⟩)
theorem yf8 {l l':List AV} (h1:H[i]? =some (.list l)) (h2:H[j]? =some (.list l')) (h:l.length+l'.length<=1000000) (q:F (.ref H.length) ⟨H++[.list (l++l')],m⟩):yv4 i j F ⟨H,m⟩:=by
 delta yv4;exact jj (jU h1) (jj (jU h2) ⟨h,q⟩)
theorem zQ {d:Int} {c:UInt8} (hk:1<=k) (hd:d=1/\c=49\/d=5/\c=53) (q:Q (.bytes [c]) (H++[.list [.int c.toNat]])):Cl (pg sa sl) k (.f 13) [.int d] H Q X:=by
 refine u_fn hk rfl rfl ?_;rcases hd with ⟨rfl,rfl⟩|⟨rfl,rfl⟩
 all_goals
  refine yr11 (qr (qa rfl) (qr (qa rfl) (qr rfl ?_)));refine jx (ka1 (fun n σ=>σ=_) 0 rfl fun n σ hσ=>?_);subst hσ;refine kt (b:=.append) jh rfl rfl (km (l:=[]) jh (qa rfl) (rz kg1 (kt (b:=.reverse) jh rfl rfl (y66 (l:=[_]) jh (qa rfl) (rz kg1 ?_)))))
 ·exact yr6 (bs:=[49]) jh rfl (by exact qa rfl) q
 ·exact yr6 (bs:=[53]) jh rfl (by exact qa rfl) q
theorem yP9 (hk:2<=k) (B:Bs I tx gs) (g:G I H f [] ss) (q:∀l H',l.length<=100->G I H' f [] ss->Kn I H H'->Q (.bytes l) H'):Cl (pg sa sl) k (.f 30) [.ref I.r,.int 0] H Q X:=by
 refine jk g.js fun st md hs h2=>x_EA g.jf fun ln hl f2=>?_;have h1:=g.kp _ _ B.r;have f1:=g.kp _ _ B.fr;refine u_fn (dk0 hk rfl) rfl rfl (jd h1 h2 rfl rfl (ya3 g.fi (by exact qc (by decide:1<2) (by decide)) (jd h1 h2 rfl rfl (jo (v:=.ref I.fr) g.fi ⟨by simp,by simp⟩ rfl (jd f1 f2 rfl rfl ?_)))));rcases hl with rfl|rfl
 ·exact q [] H (qn _) g .refl
 ·refine jd h1 h2 rfl rfl (qr (qa rfl) (jd h1 h2 rfl rfl (jo (v:=.ref I.fr) g.fi ⟨by simp,by simp⟩ rfl (jd f1 f2 rfl rfl (zQ (c:=49) (dk1 hk rfl) (.inl ⟨rfl,rfl⟩) (qr (qa rfl) (qr (qa rfl) ?_)))))));exact q _ _ (qa rfl) g.push .push
theorem yP1 {l:List UInt8} (hk:3<=k) (B:Bs I tx gs) (g:G I H f [] ss) (hl:l.length<=1000) (x:∀H',G I H' f [] ss->Kn I H H'->X H'):Cl (pg sa sl) k (.f 31) [.ref I.r,.bytes l] H Q X:=by
 refine jk g.js fun st md hs h2=>?_;have h1:=g.kp _ _ B.r;exact u_fn (dk0 hk rfl) rfl rfl (jb h1 h2 rfl rfl rfl (yP9 (dk1 hk rfl) B g fun l' H' h g' K=>qr (by lia) (x H' g' K)))
theorem y55 (t:TV):t.ty.length<=8:=by rcases t with _|_|_|_|_|_<;>exact qa rfl
theorem jZ {t:TV} {d n:List UInt8} (hk:4<=k) (B:Bs I tx gs) (g:G I H f [] ss) (hv:Lv H v t) (hd:d.length<=30) (hn:n.length<=100) (x:∀H',G I H' f [] ss->Kn I H H'->X H'):Cl (pg sa sl) k (.f 32) [.ref I.r,v,.bytes d,.bytes n] H Q X:=by
 refine jk g.js fun st md hs h2=>?_;have h1:=g.kp _ _ B.r;have ht:=y55 t;refine u_fn (dk0 hk rfl) rfl rfl (jB (dk1 hk rfl) hv ?_);rcases n with _|⟨c,n⟩
 ·refine jb h1 h2 rfl rfl rfl (qr (by simp;lia) (qr (by simp;lia) (qr (by simp;lia) (qr (by simp;lia) ?_))));exact yP1 (dk1 hk rfl) B g (by simp;lia) x
 ·simp only [List.length_cons] at hn;refine jb h1 h2 rfl rfl rfl (qr (by simp;lia) (qr (by simp;lia) (qr (by simp;lia) (qr (by simp;lia) (qr (by simp;lia) (qr (by simp;lia) ?_))))));exact yP1 (dk1 hk rfl) B g (by simp;lia) x
noncomputable def hdl (tx:List (List UInt8×AV)) (b:List UInt8):AV->AV->AV
 |.bytes _,_=>tg tx b
 |_,_=>.nil
variable {n:Int} {b:List UInt8}
theorem yB5 {mi:Nat} {n':Int} {ms:List (List UInt8×AV)} (hk:5<=k) (B:Bs I tx gs) (g:G I H f fs ss) (T:Tb0 I i n es (.ref mi)) (T':Tb0 I mi n' ms .nil) (hm:ms.length<1000) (q:Q (tg ms b) H):Cl (pg sa sl) k (.f 33) [.ref I.r,.ref i,.bytes b] H Q X:=by
 refine jD (T.tb g) fun j kI vI h1 h2 h3 h4=>?_;have T2:=T'.tb g;have T3:=T2;exact jD T3 fun j' kI' vI' g1 g2 g3 g4=>u_fn (dk0 hk rfl) rfl rfl (j1 h1 h2 rfl (jd h1 h2 rfl rfl (jd h1 h2 rfl rfl (jb g1 g2 rfl rfl rfl (yj6 (dk1 hk rfl) T2 hm q)))))
theorem yA5 (hk:5<=k) (B:Bs I tx gs) (g:G I H f fs ss) (T:Tb0 I i n es .nil) (q:Q .nil H):Cl (pg sa sl) k (.f 33) [.ref I.r,.ref i,.bytes b] H Q X:=by
 exact jD (T.tb g) fun j kI vI h1 h2 h3 h4=>u_fn (dk0 hk rfl) rfl rfl (j1 h1 h2 rfl (jd h1 h2 rfl rfl (q)))
theorem kD1 (hk:5<=k) (B:Bs I tx gs) (g:G I H f fs ss) (hv:match v with|.nil|.bool _|.int _|.bytes _=>True|_=>False) (q:Q (hdl tx b v .nil) H):Cl (pg sa sl) k (.f 33) [.ref I.r,v,.bytes b] H Q X:=by
 refine u_fn (dk0 hk rfl) rfl rfl ?_;rcases v with _|_|_|_|l|_|_|⟨_,_⟩|_
 ·exact q
 ·exact q
 ·exact q
 ·exact hv.elim
 ·refine jk g.js fun st md hs h2=>?_;have T2:=B.tt.tb g;have T3:=T2;exact jD T3 fun j' kI' vI' g1 g2 g3 g4=>jd (g.kp _ _ B.r) h2 rfl rfl (jb g1 g2 rfl rfl rfl (yj6 (dk1 hk rfl) T2 B.tl q))
 ·exact hv.elim
 ·exact hv.elim
 ·exact hv.elim
 ·exact hv.elim
end
inductive Fo where
 |fn (n:Nat)|tab (n:Nat)
inductive Vl where
 |nil|bool (b:Bool)|int (i:Int)|bytes (l:List UInt8)|tab (n:Nat)
structure Wo where
 rows:Nat->List (List UInt8×Vl)
 metas:Nat->Option (List (List UInt8×Fo))
 txt:Bool
noncomputable def Vl.av:Vl->AV
 |.nil=>.nil
 |.bool b=>.bool b
 |.int i=>.int i
 |.bytes l=>.bytes l
 |.tab n=>.tup [.str 74,.int n]
noncomputable def Vl.rv (T:Nat->Nat):Vl->AV
 |.nil=>.nil
 |.bool b=>.bool b
 |.int i=>.int i
 |.bytes l=>.bytes l
 |.tab n=>.ref (T n)
noncomputable def Vl.tv:Vl->TV
 |.nil=>.nil
 |.bool b=>.bool b
 |.int i=>.int i
 |.bytes l=>.bytes l
 |.tab n=>.tab (-1-n)
noncomputable def Fo.av:Fo->AV
 |.fn n=>.tup [.str 61,.int n]
 |.tab n=>.tup [.str 74,.int n]
noncomputable def Fo.rv (T F:Nat->Nat):Fo->AV
 |.fn n=>.ref (F n)
 |.tab n=>.ref (T n)
noncomputable def Fo.tv:Fo->TV
 |.fn n=>.fn (-20-n)
 |.tab n=>.tab (-1-n)
section
variable {sa:Addr} {sl:List AV} {k:Nat} {m:Loc} {Q:AV->List AO->Prop} {X:List AO->Prop} {I:RI} {H:List AO} {f:Nat} {fs ss:List AV} {tx gs:List (List UInt8×AV)}
variable {Γ:Ora} {F:AV->St->Prop} {Xs:St->Prop} {σ:St}
theorem kj {a r:E} (h:wp (pg sa sl) Γ a (k2 (fun G=>wp (pg sa sl) Γ r G Xs) (yY7 F)) Xs σ):wp (pg sa sl) Γ (.cons a r) F Xs σ:=h
theorem yl15 {l:E} (h:wp (pg sa sl) Γ l (tupQ (tupK F)) Xs σ):wp (pg sa sl) Γ (.tup l) F Xs σ:=h
variable {x:Nat}
theorem i_nm {v:AV} (e:lk σ.m x=some v) (h:F v σ):wp (pg sa sl) Γ (.nm x) F Xs σ:=by
 refine (?_:optQ _ (lk σ.m x));exact rz e h
variable {elt it:E} {j:Nat}
theorem yR13 {α:Type} (vs:List α) (p g:α->AV) {H1:List AO} (hw:∀F:AV->St->Prop,F (.ref j) ⟨H1,m⟩->wp (pg sa sl) Γ it F Xs ⟨H,m⟩) (hj:H1[j]? =some (.list (vs.map p))) (hl:vs.length<=1000000)
 (he:∀(n:Nat) (v:α),vs[n]? =some v->∀acc (F:AV->St->Prop),F (g v) ⟨H1++[.list acc],[(x,p v)]⟩->wp (pg sa sl) Γ elt F (fun o_=>False) ⟨H1++[.list acc],[(x,p v)]⟩) (q:F (.ref H1.length) ⟨H1++[.list (vs.map g)],m⟩):wp (pg sa sl) Γ (.comp elt (.one x) .val it) F Xs ⟨H,m⟩:=by
 refine hw _ ((?_:optQ _ (srcV H1 .val (.ref j))));refine rz (yo3 hj) (⟨rfl,fun k n σ=>k+n=vs.length/\σ.H=H1++[.list ((vs.take n).map g)]/\(σ.m=[]\/∃a,σ.m=[(x,a)]),vs.length,⟨rfl,rfl,.inl rfl⟩,fun k n σ hJ=>?_⟩);obtain ⟨H',m'⟩:=σ
 obtain ⟨hk,rfl,hm⟩:=hJ
 refine rz (ye3 (jc hj)) (rz qt ?_);rcases hn:vs[n]? with _|a
 ·have:=qs.mp hn;refine (?_:F (.ref H1.length) ⟨H1++[.list ((vs.take n).map g)],m⟩);exact rz (List.take_of_length_le this) (q)
 ·have hlt:=(qA.mp hn).1;have go:wp (pg sa sl) Γ elt (fun v σ2=>optQ (fun l1=>l1.length<=1000000/\∃k',k'<k/\(k'+(n+1)=vs.length/\(σ2.H.set H1.length (.list (l1++[v])))=H1++[.list ((vs.take (n+1)).map g)]/\(σ2.m=[]\/∃a,σ2.m=[(x,a)]))) (lsAt σ2.H H1.length)) (fun o_=>False) ⟨H1++[.list ((vs.take n).map g)],[(x,p a)]⟩:=by
   refine he n a hn _ _ (jj (jU jh) ⟨by simp;lia,k-1,by lia,by lia,?_,.inr ⟨_,rfl⟩⟩);refine rz kg1 (rz List.take_succ (rz hn ?_));simp
  rcases hm with rfl|⟨b,rfl⟩
  ·exact go
  ·have e:put [(x,b)] x (p a)=[(x,p a)]:=by simp [put]
   refine (?_:optQ _ (some (put [(x,b)] x (p a))));exact rz e (go)
variable {v:Vl} {T:Nat->Nat}
theorem yR (hk:1<=k) (hv:Lv H (v.rv T) v.tv) (q:Q v.av H):Cl (pg sa sl) k (.f 89) [v.rv T] H Q X:=by
 refine u_fn hk rfl rfl ?_;rcases v with _|_|_|_|n
 ·exact q
 ·exact q
 ·exact q
 ·exact q
 ·cases hv with
  |tab h1 h2 h3=>
   refine j1 h1 h2 rfl (jd h1 h2 h3 rfl (qr (qa rfl) ?_));have:(-1-(-1-(n:Int)))=n:=by lia
   exact rz this (q)
noncomputable def Vl.ok:Vl->Prop
 |.tab n=>n<4
 |_=>True
noncomputable def Fo.ok:Fo->Prop
 |.tab n=>n<4
 |.fn n=>n<3
structure Ws (I:RI) (W:Wo) (T F M:Nat->Nat) (tx:List (List UInt8×AV)):Prop where
 tab:∀n,n<4->Tb0 I (T n) (-1-n) ((W.rows n).map fun e=>(e.1,e.2.rv T)) (match W.metas n with
  |none=>.nil
  |some _=>.ref (M n))
 mta:∀n,n<4->∀es,W.metas n=some es->Tb0 I (M n) (-40-n) (es.map fun e=>(e.1,e.2.rv T F)) .nil
 fn:∀n,n<3->∃j nm,I.S0 (F n) (.inst 296 j)/\I.S0 j (.dict [(.str 34,.int (-20-n)),(.str 33,.bytes nm),(.str 42,.clo (2-n) (.ref I.sn))])
 rl:∀n,n<4->(W.rows n).length<1000
 rn:∀n,n<4->∀e∈W.rows n,e.2≠.nil/\e.2.ok
 ml:∀n,n<4->∀es,W.metas n=some es->es.length<1000/\∀e∈es,e.2.ok
 tx:tx=if W.txt then [([95,95,105,110,100,101,120],.ref (T 2))] else []
noncomputable def resL:Nat->List AV
 |0=>[.int 11]
 |1=>[]
 |_=>[.bool false,.int 1]
noncomputable def resV:Nat->Vl
 |0=>.int 11
 |1=>.nil
 |_=>.bool false
variable {W:Wo} {F M:Nat->Nat}
theorem Ws.lv (w:Ws I W T F M tx) (g:G I H f fs ss) (hv:v.ok):Lv H (v.rv T) v.tv:=by
 rcases v with _|b|i|l|n
 ·exact .nil
 ·exact .bool b
 ·exact .int i
 ·exact .bytes l
 ·exact ((w.tab n hv).tb g).lv
theorem Ws.lf (w:Ws I W T F M tx) (g:G I H f fs ss) {v:Fo} (hv:v.ok):Lv H (v.rv T F) v.tv:=by
 rcases v with n|n
 ·exact jk (w.fn n hv) fun j nm h1 h2=>.fn (g.kp _ _ h1) (g.kp _ _ h2) rfl
 ·exact ((w.tab n hv).tb g).lv
variable {n:Nat}
theorem yJ3 {vs:List Vl} (hk:2<=k) (hn:n<3) (B:Bs I tx gs) (w:Ws I W T F M tx) (g:G I H f fs ss) (hj:H[j]? =some (.list (vs.map (Vl.rv T)))) (hvs:∀v∈vs,v.ok) (hl:vs.length<=1000) (hs:ss.length<=1000)
 (q:∀H' b r,G I H' f fs (ss++[.tup [.int n,.ref b]])->Kn I H H'->I.H0.length<=b->H'[b]? =some (.list (vs.map Vl.av))->I.H0.length<=r->H'[r]? =some (.list (resL n))->Q (.ref r) H'):
 Cl (pg sa sl) k (.f 88) [.ref I.sn,.int n,.ref j] H Q X:=by
 refine u_fn (dk0 hk rfl) rfl rfl (kt (b:=.append) g.sn rfl rfl (kj (yl15 (kj (i_nm rfl (kj ?_))))));refine yR13 vs (Vl.rv T) Vl.av (by exact fun F q=>q) hj (by lia) (fun i v hv acc F hF=>?_) ?_
 ·exact yR (dk1 hk rfl) (w.lv (g.push) (hvs v (qD hv))) hF
 refine qr (qa rfl) ?_;have h1:(H++[AO.list (vs.map Vl.av)])[I.sn]? =some (AO.list ss):=jc g.sn;refine km h1 (by lia) ?_;have g1:G I ((H++[AO.list (vs.map Vl.av)]).set I.sn (AO.list (ss++[AV.tup [AV.int n,AV.ref H.length]]))) f fs (ss++[AV.tup [AV.int n,AV.ref H.length]]):=G.setSn B g.push;have k1:Kn I H ((H++[AO.list (vs.map Vl.av)]).set I.sn (AO.list (ss++[AV.tup [AV.int n,AV.ref H.length]]))):=Kn.trans .push (.set B.b4);have b1:((H++[AO.list (vs.map Vl.av)]).set I.sn (AO.list (ss++[AV.tup [AV.int n,AV.ref H.length]])))[H.length]? =some (AO.list (vs.map Vl.av)):=je jh (by have:=B.b4;have:=g.len;lia);generalize ((H++[AO.list (vs.map Vl.av)]).set I.sn (AO.list (ss++[AV.tup [AV.int n,AV.ref H.length]])))=H1 at g1 k1 b1⊢;have le:=g1.len;refine qr (qa rfl) (qr (qa rfl) (qr (qa rfl) (qr (qa rfl) ?_)));have g2:G I ((((H1++[AO.list [AV.int 11]])++[AO.list []])++[AO.list [AV.bool false,AV.int 1]])++[AO.list [AV.ref H1.length,AV.ref (H1++[AO.list [AV.int 11]]).length,AV.ref ((H1++[AO.list [AV.int 11]])++[AO.list []]).length]]) f fs (ss++[AV.tup [AV.int n,AV.ref H.length]]):=g1.push.push.push.push;have k2:=k1.trans (Kn.push.trans (Kn.push.trans (Kn.push.trans (Kn.push (I:=I) (l:=[AO.list [AV.ref H1.length,AV.ref (H1++[AO.list [AV.int 11]]).length,AV.ref ((H1++[AO.list [AV.int 11]])++[AO.list []]).length]]) (H:=(((H1++[AO.list [AV.int 11]])++[AO.list []])++[AO.list [AV.bool false,AV.int 1]]))))));have b2:=jc (l:=[AO.list [AV.ref H1.length,AV.ref (H1++[AO.list [AV.int 11]]).length,AV.ref ((H1++[AO.list [AV.int 11]])++[AO.list []]).length]]) (jc (l:=[AO.list [AV.bool false,AV.int 1]]) (jc (l:=[AO.list []]) (jc (l:=[AO.list [AV.int 11]]) b1)));have fin:∃r,[AV.ref H1.length,AV.ref (H1++[AO.list [AV.int 11]]).length,AV.ref ((H1++[AO.list [AV.int 11]])++[AO.list []]).length][n]? =some (.ref r)/\I.H0.length<=r/\((((H1++[AO.list [AV.int 11]])++[AO.list []])++[AO.list [AV.bool false,AV.int 1]])++[AO.list [AV.ref H1.length,AV.ref (H1++[AO.list [AV.int 11]]).length,AV.ref ((H1++[AO.list [AV.int 11]])++[AO.list []]).length]])[r]? =some (.list (resL n)):=
  lt3 (p:=fun n=>∃r,[AV.ref H1.length,AV.ref (H1++[AO.list [AV.int 11]]).length,AV.ref ((H1++[AO.list [AV.int 11]])++[AO.list []]).length][n]? =some (.ref r)/\I.H0.length<=r/\((((H1++[AO.list [AV.int 11]])++[AO.list []])++[AO.list [AV.bool false,AV.int 1]])++[AO.list [AV.ref H1.length,AV.ref (H1++[AO.list [AV.int 11]]).length,AV.ref ((H1++[AO.list [AV.int 11]])++[AO.list []]).length]])[r]? =some (.list (resL n)))
   ⟨_,rfl,le,jc (jc (jc jh))⟩ ⟨_,rfl,by simp;exact qh le,jc (jc jh)⟩ ⟨_,rfl,by simp;exact qh le,jc jh⟩ hn
 exact jR fin fun r e1 e2 e3=>jo (v:=.ref r) jh ⟨Int.natCast_nonneg _,by lia⟩ (by rw [Int.toNat_natCast];exact e1) (q _ _ r g2 k2 g.len b2 e2 e3)
variable {kk:Nat}
theorem yg10 {F:MK->Prop} {i C:Nat} {v:AV} {l:List (AV×AV)} (h1:H[i]? =some (.inst C j)) (h2:H[j]? =some (.dict l)) (h3:(pg sa sl).mth C n=none) (h4:dget l n=some (.clo kk v)) (h5:(pg sa sl).atr C n=true) (q:F (.clo kk v)):optQ F (yb1 (pg sa sl) H (.ref i) n):=by
 have e:yb1 (pg sa sl) H (.ref i) n=mkI (pg sa sl) C n l:=(congrArg (fun o=>Option.bind o (AO.mk (pg sa sl) H n)) h1).trans (congrArg (fun o=>Option.bind o (mkI (pg sa sl) C n)) (zb1 h2));refine jj (e.trans ?_) q;delta mkI;exact rz h3 ((congrArg (fun o=>Option.bind o fun v=>(cloO v).bind fun p=>gd2 ((pg sa sl).atr C n) (MK.clo p.1 p.2)) h4).trans (congrArg (fun c=>gd2 c (MK.clo kk v)) h5))
theorem yv11 {i:Int} {F:AV->St->Prop} (q:F (.int (-i)) σ):wp (pg sa sl) Γ (.un .USub (.int i)) F Xs σ:=q
theorem yv {F:AV->St->Prop} (q:F (.ref H.length) ⟨H++[AO.dict []],m⟩):wp (pg sa sl) Γ (.dict .nil) F Xs ⟨H,m⟩:=by
 refine qr jh ((?_:F (.ref H.length) ⟨(H++[AO.dict []]).set H.length (.dict []),m⟩));exact rz kg1 q
theorem yd10 {F:AV->St->Prop} (q:F (.ref H.length) ⟨H++[AO.list []],m⟩):wp (pg sa sl) Γ (.list .nil) F Xs ⟨H,m⟩:=qr (qn _) q
variable {c:Nat}
theorem y02 {n:Int} {e:Nat} (hk:2<=k) (q:Q (.ref (H.length+1)) (H++[.dict [(.str 34,.int n),(.str 46,.ref c),(.str 47,.ref e),(.str 31,.int 0)],.inst 338 H.length])):Cl (pg sa sl) k (.f 66) [.int n,.ref c,.ref e] H Q X:=by
 exact yq2 (dk0 hk rfl) rfl (u_fn (dk1 hk rfl) rfl rfl (jy rfl rfl (qa rfl) (jy rfl rfl (qa rfl) (jy rfl rfl (qa rfl) (jy rfl rfl (qa rfl) (⟨rfl,q⟩))))))
variable {r:Nat}
theorem yf12 {vs:List Vl} (hk:3<=k) (hn:n<3) (B:Bs I tx gs) (w:Ws I W T F M tx) (g:G I H f fs ss) (hj:H[j]? =some (.list (vs.map (Vl.rv T)))) (hvs:∀v∈vs,v.ok) (hl:vs.length<=1000) (hs:ss.length<=1000)
 (q:∀H' b r,G I H' f fs (ss++[.tup [.int n,.ref b]])->Kn I H H'->I.H0.length<=b->H'[b]? =some (.list (vs.map Vl.av))->I.H0.length<=r->H'[r]? =some (.list (resL n))->Q (.ref r) H'):
 Cl (pg sa sl) k (.l (.clo (2-n) (.ref I.sn))) [.ref r,.ref j] H Q X:=by
 match n,hn with
 |0,hn=>exact yj9 (dk0 hk rfl) rfl rfl (yJ3 (dk1 hk rfl) hn B w g hj hvs hl hs q)
 |1,hn=>exact yj9 (dk0 hk rfl) rfl rfl (yJ3 (dk1 hk rfl) hn B w g hj hvs hl hs q)
 |2,hn=>exact yj9 (dk0 hk rfl) rfl rfl (yJ3 (dk1 hk rfl) hn B w g hj hvs hl hs q)
theorem yQ4 {vs:List Vl} (hk:4<=k) (hn:n<3) (B:Bs I tx gs) (w:Ws I W T F M tx) (g:G I H (f+1) [] ss) (hj0:I.H0.length<=j) (hj:H[j]? =some (.list (vs.map (Vl.rv T)))) (hvs:∀v∈vs,v.ok) (hl:vs.length<=1000) (hs:ss.length<=1000)
 (q:∀H' b r,G I H' f [] (ss++[.tup [.int n,.ref b]])->Kn I H H'->I.H0.length<=b->H'[b]? =some (.list (vs.map Vl.av))->I.H0.length<=r->H'[r]? =some (.list (resL n))->Q (.ref r) H'):
 Cl (pg sa sl) k (.f 38) [.ref I.r,.ref (F n),.ref j] H Q X:=by
 refine u_fn (dk0 hk rfl) rfl rfl ?_;have h1:=g.kp _ _ B.r;refine jk g.js fun st md hst h2=>jb h1 h2 rfl rfl rfl (yN3 (dk1 hk rfl) B g fun H1 g1 k1=>?_);clear h1 h2 hst st md;refine kj (yv11 (kj (yv (kj (yd10 ?_)))));refine y02 (dk1 hk rfl) (jy rfl rfl (qa rfl) ?_);have g2:=g1.push (l:=[AO.dict []])|>.push (l:=[AO.list []])
 have k2:=k1.trans (Kn.push (l:=[AO.dict []])|>.trans (Kn.push (l:=[AO.list []])));generalize H1.length=c;generalize (H1++[AO.dict []]).length=e;generalize (H1++[AO.dict []])++[AO.list []]=H2 at g2 k2⊢;have g3:=g2.push (l:=[AO.dict [(.str 34,.int (-1)),(.str 46,.ref c),(.str 47,.ref e),(.str 31,.int (-1))],AO.inst 338 H2.length]);have k3:=k2.trans (Kn.push (l:=[AO.dict [(.str 34,.int (-1)),(.str 46,.ref c),(.str 47,.ref e),(.str 31,.int (-1))],AO.inst 338 H2.length]));refine (?_:wpS _ _ _ _ _ ⟨H2++[AO.dict [(.str 34,.int (-1)),(.str 46,.ref c),(.str 47,.ref e),(.str 31,.int (-1))],AO.inst 338 H2.length],[(0,.ref I.r),(61,.ref (F n)),(58,.ref j),(66,.ref (H2.length+1))]⟩);generalize H2.length+1=fr;generalize H2++[AO.dict [(.str 34,.int (-1)),(.str 46,.ref c),(.str 47,.ref e),(.str 31,.int (-1))],AO.inst 338 H2.length]=H3 at g3 k3⊢;clear g2 k2 g1 k1 g;refine jk g3.js fun st md hst h2=>jd (g3.kp _ _ B.r) h2 rfl rfl (kt (b:=.append) g3.fi rfl rfl (km g3.fi (by simp) ?_));have g4:G I (H3.set I.fi (.list [.ref I.fr,.ref fr])) f [.ref fr] ss:=g3.setFi B;have k4:=k3.trans (Kn.set (H:=H3) (o:=.list [.ref I.fr,.ref fr]) B.b3);refine jk (w.fn n hn) fun jf nm w1 w2=>yg10 (g4.kp _ _ w1) (g4.kp _ _ w2) rfl rfl rfl (yf12 (dk1 hk rfl) hn B w g4 (k4.2 _ _ hj0 hj) hvs hl hs fun H5 b r g5 k5 b1 b2 r1 r2=>jk g5.js fun st md hst h2=>jd (g5.kp _ _ B.r) h2 rfl rfl (kt (b:=.pop) g5.fi rfl rfl (yg15 (l:=[.ref I.fr]) g5.fi (by simp) ?_)));have ne:∀{i},I.H0.length<=i->i≠I.fi:=fun h=>by have:=B.b3;exact qe (qc this h)
 exact q _ b r (g5.setFi B) (k4.trans (k5.trans (.set B.b3))) b1 (je b2 (ne b1)) r1 (je r2 (ne r1))
noncomputable def lkF {α:Type} (es:List (List UInt8×α)) (b:List UInt8):Option α:=(es.find? fun e=>e.1==b).map (·.2)
theorem yc9 {α:Type} (g:α->AV) (es:List (List UInt8×α)) (b:List UInt8):tg (es.map fun e=>(e.1,g e.2)) b=match lkF es b with
 |none=>.nil
 |some x=>g x:=(congrArg sndD List.find?_map).trans (by
 refine (?_:sndD (Option.map _ (es.find? fun e=>e.1==b))=match Option.map (·.2) (es.find? fun e=>e.1==b) with
  |none=>_
  |some x=>_)
 cases es.find? fun e=>e.1==b<;>rfl)
variable {b:List UInt8}
theorem yy1 {α:Type} {es:List (List UInt8×α)} {x:α} (h:lkF es b=some x):∃e∈es,e.2=x:=om_e h fun e he hx=>⟨e,List.mem_of_find?_eq_some he,hx⟩
noncomputable def evI:List UInt8:=[95,95,105,110,100,101,120]
noncomputable def evC:List UInt8:=[95,95,99,97,108,108]
noncomputable def Wo.hd (W:Wo) (v:Vl) (b:List UInt8):Option Fo:=match v with
 |.tab n=>(W.metas n).bind fun es=>lkF es b
 |.bytes _=>if W.txt&&(evI==b) then some (.tab 2) else none
 |_=>none
noncomputable def rvO (T F:Nat->Nat):Option Fo->AV
 |none=>.nil
 |some x=>x.rv T F
noncomputable def tvO:Option Fo->TV
 |none=>.nil
 |some x=>x.tv
theorem Ws.hok (w:Ws I W T F M tx) (hv:v.ok) {x:Fo} (h:W.hd v b=some x):x.ok:=by
 unfold Wo.hd at h;split at h
 ·rename_i n;refine x_EA (Option.bind_eq_some_iff.mp h) fun es h1 h2=>?_;refine x_EA (yy1 h2) fun e he hz18=>?_;subst hz18;exact (w.ml n hv es h1).2 e he
 ·split at h
  ·obtain rfl:=qq h;refine (?_:2<4);decide
  ·injection h
 ·injection h
theorem Ws.lo (w:Ws I W T F M tx) (g:G I H f fs ss) (hv:v.ok):Lv H (rvO T F (W.hd v b)) (tvO (W.hd v b)):=by
 rcases h:W.hd v b with _|x
 ·exact .nil
 ·exact w.lf g (w.hok hv h)
theorem j8 (hk:5<=k) (B:Bs I tx gs) (w:Ws I W T F M tx) (g:G I H f fs ss) (hv:v.ok) (q:Q (rvO T F (W.hd v b)) H):Cl (pg sa sl) k (.f 33) [.ref I.r,v.rv T,.bytes b] H Q X:=by
 rcases v with _|_|_|l|n
 ·exact kD1 hk B g trivial q
 ·exact kD1 hk B g trivial q
 ·exact kD1 hk B g trivial q
 ·refine kD1 hk B g trivial ?_;have e:hdl tx b (.bytes l) .nil=rvO T F (W.hd (.bytes l) b):=by
   refine (?_:tg tx b=rvO T F (if W.txt&&(evI==b) then some (.tab 2) else none));refine rz w.tx ?_;rcases W.txt with _|_
   ·rfl
   ·refine (?_:sndD (match evI==b with|true=>some (evI,AV.ref (T 2))|false=>none)=rvO T F (if (true&&(evI==b))=true then some (.tab 2) else none));rcases evI==b with _|_<;>rfl
  refine rz (show Vl.rv T (.bytes l)=AV.bytes l from rfl) (rz e ?_);exact q
 ·have t:=w.tab n hv;change Q (rvO T F ((W.metas n).bind fun es=>lkF es b)) H at q;rcases h:W.metas n with _|es
  ·rw [h] at t q;exact yA5 hk B g t q
  ·rw [h] at t q;refine yB5 hk B g t (w.mta n hv es h) (by rw [qF];exact (w.ml n hv es h).1) ?_;rw [yc9];change Q (rvO T F (lkF es b)) H at q;cases hx:lkF es b<;>(rw [hx] at q;exact q)
noncomputable def yc6 (I:RI) (H:List AO) (f:Nat) (ss:List AV) (n:Nat) (vs:List Vl) (Q:AV->List AO->Prop):Prop:=
 ∀H' b r,G I H' f [] (ss++[.tup [.int n,.ref b]])->Kn I H H'->I.H0.length<=b->H'[b]? =some (.list (vs.map Vl.av))->I.H0.length<=r->H'[r]? =some (.list (resL n))->Q (.ref r) H'
structure AL (I:RI) (H:List AO) (T:Nat->Nat) (j:Nat) (vs:List Vl):Prop where
 n:I.H0.length<=j
 h:H[j]? =some (.list (vs.map (Vl.rv T)))
 ok:∀v∈vs,v.ok
 l:vs.length<=100
variable {H':List AO}
theorem AL.kn {vs:List Vl} (a:AL I H T j vs) (k:Kn I H H'):AL I H' T j vs:=⟨a.n,k.2 _ _ a.n a.h,a.ok,a.l⟩
variable {nm:List UInt8}
theorem yg6 {vs:List Vl} (hk:6<=k) (hn:n<3) (B:Bs I tx gs) (w:Ws I W T F M tx) (g:G I H (f+1) [] ss) (a:AL I H T j vs) (hs:ss.length<=1000) (q:yc6 I H f ss n vs Q):
 Cl (pg sa sl) k (.f 36) [.ref I.r,.ref (F n),.ref j,.bytes nm] H Q X:=by
 refine jk g.js fun st md hst h2=>?_;have h1:=g.kp _ _ B.r;exact jk (w.fn n hn) fun jf nm w1 w2=>u_fn (dk0 hk rfl) rfl rfl (jb h1 h2 rfl rfl rfl (u_fn (dk1 hk rfl) rfl rfl (j1 (g.kp _ _ w1) (g.kp _ _ w2) rfl (jb h1 h2 rfl rfl rfl (yQ4 (by lia) hn B w g a.n a.h a.ok (qb a.l (by decide)) hs q)))))
theorem yh6 {vs:List Vl} (hk:12<=k) (hv:v.ok) (hnm:nm.length<=100) (B:Bs I tx gs) (w:Ws I W T F M tx) (g:G I H (f+1) [] ss) (a:AL I H T j vs) (hl:vs.length<100) (hs:ss.length<=1000)
 (q:match W.hd v evC with
  |some (.fn n)=>yc6 I H f ss n (v::vs) Q
  |_=>∀H',G I H' (f+1) [] ss->Kn I H H'->X H'):
 Cl (pg sa sl) k (.f 36) [.ref I.r,v.rv T,.ref j,.bytes nm] H Q X:=by
 refine jk g.js fun st md hst h2=>?_;have h1:=g.kp _ _ B.r;refine u_fn (dk0 hk rfl) rfl rfl (jb h1 h2 rfl rfl rfl (u_fn (dk1 hk rfl) rfl rfl ?_));have go:wpS (pg sa sl) (Cl (pg sa sl) (k-1-1)) (.seq (.asg 60 (.meth (.nm 0) 57 (.cons (.nm 61) (.cons (.bytes [95,95,99,97,108,108]) .nil)))) (.seq (.ite (.un .Not (.call 25 (.cons (.nm 60) .nil))) (.seq (.expr (.meth (.nm 0) 63 (.cons (.nm 61) (.cons (.bytes [99,97,108,108]) (.cons (.nm 33) .nil))))) .done) .done) (.seq (.ret (.meth (.nm 0) 59 (.cons (.nm 60) (.cons (.bin .Add (.list (.cons (.nm 61) .nil)) (.nm 58)) (.cons (.bytes []) .nil))))) .done))) (jw (fun a H=>jw Q (.ret a) ⟨H,[]⟩)) (exH X) ⟨H,[(0,.ref I.r),(61,v.rv T),(58,.ref j),(33,.bytes nm)]⟩:=by
  refine jb h1 h2 rfl rfl rfl (j8 (b:=evC) (dk2 hk rfl) B w g hv (zP (by lia) (w.lo g hv) ?_));rcases hx:W.hd v evC with _|x
  ·rw [hx] at q;exact jb h1 h2 rfl rfl rfl (jZ (by lia) B g (w.lv g hv) (qa rfl) hnm q)
  ·rw [hx] at q;rcases x with n|i
   ·have hn:n<3:=w.hok hv hx;refine jb h1 h2 rfl rfl rfl (qr (qa rfl) (yf8 (l:=[v.rv T]) jh (jc a.h) (by simp;have:=a.l;lia) (yg6 (vs:=v::vs) (dk2 hk rfl) hn B w g.push.push ⟨by have:=g.len;simp;exact qh this,jh,fun x hx=>(qC.mp hx).elim (fun e=>e▸hv) (a.ok x),by simp;lia⟩ hs fun H' b r g' k'=>q H' b r g' (Kn.push.trans (Kn.push.trans k')))))
   ·exact jb h1 h2 rfl rfl rfl (jZ (by lia) B g (w.lv g hv) (qa rfl) hnm q)
 rcases v with _|_|_|_|i
 ·exact go
 ·exact go
 ·exact go
 ·exact go
 ·exact jD ((w.tab i hv).tb g) fun jt ti tj t1 t2 t3 t4=>j1 t1 t2 rfl (go)
noncomputable def Wo.cf (W:Wo) (x:Fo) (vs:List Vl):Option (Nat×List Vl):=match x with
 |.fn n=>some (n,vs)
 |.tab i=>match W.hd (.tab i) evC with
  |some (.fn n)=>some (n,.tab i::vs)
  |_=>none
noncomputable def ki1 (I:RI) (H:List AO) (f:Nat) (ss:List AV) (o:Option (Nat×List Vl)) (Q:Nat->List AO->Prop) (X:List AO->Prop):Prop:=match o with
 |some (n,us)=>n<3->∀H' b,G I H' f [] (ss++[.tup [.int n,.ref b]])->Kn I H H'->I.H0.length<=b->H'[b]? =some (.list (us.map Vl.av))->Q n H'
 |none=>∀H',G I H' (f+1) [] ss->Kn I H H'->X H'
variable {i:Nat}
theorem yh15 {F:AV->St->Prop} (hi:i<3) (hm:lk m x=some (.ref r)) (hr:H[r]? =some (.list (resL i))) (q:F ((resV i).rv T) ⟨H,m⟩):wp (pg sa sl) Γ (.ite (.cmp .Gt (.bi .len (.cons (.nm x) .nil)) (.int 0)) (.sub (.nm x) (.int 0)) .none) F Xs ⟨H,m⟩:=by
 have go:∀{F:AV->St->Prop},F (.ref r) ⟨H,m⟩->wp (pg sa sl) Γ (.nm x) F Xs ⟨H,m⟩:=fun q=>jj hm q;refine go (?_:wp (pg sa sl) Γ (.nil) _ Xs ⟨H,m⟩)
 revert q hr
 refine lt3 (p:=fun i=>H[r]? =some (.list (resL i))->F ((resV i).rv T) ⟨H,m⟩->biQ (pg sa sl) .len [.ref r] (k2 (fun G=>wp (pg sa sl) Γ (.int 0) G Xs) (cmpF (pg sa sl) .Gt (trQ (ifK (wp (pg sa sl) Γ (.sub (.nm x) (.int 0)) F Xs) (F .nil))))) ⟨H,m⟩) (fun h q=>ya3 h (qa rfl) (go (jo (v:=.int 11) h ⟨by decide,by decide⟩ rfl q))) (fun h q=>ya3 h (qa rfl) q) (fun h q=>ya3 h (qa rfl) (go (jo (v:=.bool false) h ⟨by decide,by decide⟩ rfl q))) hi
variable {Qf:AF->St->Prop}
theorem yk8 (hi:i<3) (hm:lk m x=some (.ref r)) (hr:H[r]? =some (.list (resL i))) (q:Qf (.ret ((resV i).rv T)) ⟨H,m⟩):wpS (pg sa sl) Γ (.seq (.ret (.ite (.cmp .Gt (.bi .len (.cons (.nm x) .nil)) (.int 0)) (.sub (.nm x) (.int 0)) .none)) .done) Qf Xs ⟨H,m⟩:=yh15 (F:=retK (seqK (wpS (pg sa sl) Γ .done Qf Xs) Qf)) hi hm hr q
variable {x:Fo}
theorem kd1 {vs:List Vl} (hk:13<=k) (hx:x.ok) (B:Bs I tx gs) (w:Ws I W T F M tx) (g:G I H (f+1) [] ss) (a:AL I H T j vs) (hl:vs.length<100) (hs:ss.length<=1000)
 (q:ki1 I H f ss (W.cf x vs) (fun n H'=>Q ((resV n).rv T) H') X):Cl (pg sa sl) k (.f 34) [.ref I.r,x.rv T F,.ref j] H Q X:=by
 refine jk g.js fun st md hst h2=>u_fn (dk0 hk rfl) rfl rfl (jb (g.kp _ _ B.r) h2 rfl rfl rfl ?_);have fin:∀(n:Nat) (us:List Vl),n<3->(n<3->∀H' b,G I H' f [] (ss++[AV.tup [.int n,.ref b]])->Kn I H H'->I.H0.length<=b->H'[b]? =some (AO.list (us.map Vl.av))->Q ((resV n).rv T) H')->
  yc6 I H f ss n us fun v H'=>wpS (pg sa sl) (Cl (pg sa sl) (k-1)) (.seq (.ret (.ite (.cmp .Gt (.bi .len (.cons (.nm 16) .nil)) (.int 0)) (.sub (.nm 16) (.int 0)) .none)) .done) (jw Q) (exH X) ⟨H',[(0,.ref I.r),(57,x.rv T F),(58,.ref j),(16,v)]⟩:=fun n us hn q H' b r g' k' b1 b2 r1 r2=>by
  have q:=q hn H' b g' k' b1 b2;exact yk8 (T:=T) hn rfl r2 (q)
 rcases x with n|i
 ·exact yg6 (dk1 hk rfl) hx B w g a hs (fin n vs hx q)
 ·refine yh6 (v:=.tab i) (nm:=[]) (dk1 hk rfl) hx (qn _) B w g a hl hs ?_;change ki1 I H f ss (match W.hd (.tab i) evC with
   |some (.fn n)=>some (n,.tab i::vs)
   |_=>none) (fun n H'=>Q ((resV n).rv T) H') X at q
  rcases hd:W.hd (.tab i) evC with _|y
  ·rw [hd] at q;exact q
  ·rw [hd] at q;rcases y with n|_
   ·exact fin n _ (w.hok (v:=.tab i) hx hd) q
   ·exact q
theorem yR4 {v':Vl} (hk:6<=k) (hv:v.ok) (hv':v'.ok) (B:Bs I tx gs) (w:Ws I W T F M tx) (g:G I H f fs ss) (q:Q (rvO T F ((W.hd v b).or (W.hd v' b))) H):Cl (pg sa sl) k (.f 35) [.ref I.r,v.rv T,v'.rv T,.bytes b] H Q X:=by
 refine jk g.js fun st md hst h2=>u_fn (dk0 hk rfl) rfl rfl (jb (g.kp _ _ B.r) h2 rfl rfl rfl (j8 (dk1 hk rfl) B w g hv ?_));rcases h:W.hd v b with _|x
 ·rw [h] at q;exact jb (g.kp _ _ B.r) h2 rfl rfl rfl (j8 (dk1 hk rfl) B w g hv' q)
 ·rw [h] at q;rcases x with _|_
  ·exact q
  ·exact q
noncomputable def Fo.beq:Fo->Fo->Bool
 |.fn a,.fn b=>a==b
 |.tab a,.tab b=>a==b
 |_,_=>false
theorem Fo.tv_beq (x y:Fo):x.tv.eq y.tv=x.beq y:=by
 rcases x with _|_<;>rcases y with _|_<;>first|rfl|skip
 all_goals
  rename_i a b;show (_==_)=(a==b);rw [Bool.eq_iff_iff];simp;lia
noncomputable def Wo.both (W:Wo) (a b:Vl) (e:List UInt8):Option Fo:=match W.hd a e,W.hd b e with
 |some x,some y=>if x.beq y then some x else none
 |_,_=>none
noncomputable def isY:Nat->Bool
 |0=>true
 |_=>false
theorem yj2 (h:n<3):(!(resV n).tv.isFal)=isY n:=by
 match n,h with
 |0,_=>rfl
 |1,_=>rfl
 |2,_=>rfl
theorem yI6:Lv H ((resV n).rv T) (resV n).tv:=by
 match n with
 |0=>exact .int _
 |1=>exact .nil
 |n+2=>exact .bool _
variable {a b:Vl}
theorem z8 {e:List UInt8} (hk:14<=k) (ha:a.ok) (hb:b.ok) (B:Bs I tx gs) (w:Ws I W T F M tx) (g:G I H (f+1) [] ss) (hs:ss.length<=1000)
 (q:match W.both a b e with
  |none=>∀H',G I H' (f+1) [] ss->Kn I H H'->Q .nil H'
  |some x=>ki1 I H f ss (W.cf x [a,b]) (fun n H'=>Q (.bool (isY n)) H') X):Cl (pg sa sl) k (.f 40) [.ref I.r,a.rv T,b.rv T,.bytes e] H Q X:=by
 refine jk g.js fun st md hst h2=>?_;have h1:=g.kp _ _ B.r;refine u_fn (dk0 hk rfl) rfl rfl (jb h1 h2 rfl rfl rfl (j8 (dk1 hk rfl) B w g ha ?_));unfold Wo.both at q;rcases hx:W.hd a e with _|x
 ·rw [hx] at q;exact q H g .refl
 ·have xo:=w.hok ha hx;rw [hx] at q;have step:∀(z:Bool),(x.tv.eq (tvO (W.hd b e))=z)->(z=false->∀H',G I H' (f+1) [] ss->Kn I H H'->Q .nil H')->(z=true->ki1 I H f ss (W.cf x [a,b]) (fun n H'=>Q (.bool (isY n)) H') X)->
   wpS (pg sa sl) (Cl (pg sa sl) (k-1)) (.seq (.ite (.or (.cmp .Is (.nm 60) .none) (.un .Not (.call 24 (.cons (.nm 60) (.cons (.meth (.nm 0) 57 (.cons (.nm 44) (.cons (.nm 56) .nil))) .nil))))) (.seq (.ret .none) .done) .done) (.seq (.ret (.un .Not (.call 2 (.cons (.meth (.nm 0) 68 (.cons (.nm 60) (.cons (.list (.cons (.nm 43) (.cons (.nm 44) .nil))) .nil))) .nil)))) .done)) (jw Q) (exH X) ⟨H,[(0,.ref I.r),(43,a.rv T),(44,b.rv T),(56,.bytes e),(60,x.rv T F)]⟩:=fun z hz q0 q1=>by
   have go:wp (pg sa sl) (Cl (pg sa sl) (k-1)) (.call 24 (.cons (.nm 60) (.cons (.meth (.nm 0) 57 (.cons (.nm 44) (.cons (.nm 56) .nil))) .nil))) (fun y σ1=>unQ .Not y (trQ fun x_1 σ1=>match x_1 with
    |true=>wpS (pg sa sl) (Cl (pg sa sl) (k-1)) (.seq (.ret .none) .done) (fun f σ1=>match f with
     |.next=>wpS (pg sa sl) (Cl (pg sa sl) (k-1)) (.seq (.ret (.un .Not (.call 2 (.cons (.meth (.nm 0) 68 (.cons (.nm 60) (.cons (.list (.cons (.nm 43) (.cons (.nm 44) .nil))) .nil))) .nil)))) .done) (jw Q) (exH X) σ1
     |.brk=>jw Q .brk σ1
     |.cont=>jw Q .cont σ1
     |.ret v=>jw Q (.ret v) σ1) (exH X) σ1
    |false=>wpS (pg sa sl) (Cl (pg sa sl) (k-1)) .done (fun f σ1=>match f with
     |.next=>wpS (pg sa sl) (Cl (pg sa sl) (k-1)) (.seq (.ret (.un .Not (.call 2 (.cons (.meth (.nm 0) 68 (.cons (.nm 60) (.cons (.list (.cons (.nm 43) (.cons (.nm 44) .nil))) .nil))) .nil)))) .done) (jw Q) (exH X) σ1
     |.brk=>jw Q .brk σ1
     |.cont=>jw Q .cont σ1
     |.ret v=>jw Q (.ret v) σ1) (exH X) σ1) σ1) (exH X) ⟨H,[(0,.ref I.r),(43,a.rv T),(44,b.rv T),(56,.bytes e),(60,x.rv T F)]⟩:=by
    refine kj (i_nm rfl ?_);refine jb h1 h2 rfl rfl rfl (j8 (dk1 hk rfl) B w g hb (yL3 (dk1 hk rfl) (w.lf g xo) (w.lo g hb) (rz hz ?_)));rcases z with _|_
    ·exact q0 rfl H g .refl
    ·refine jb h1 h2 rfl rfl rfl (qr (qa rfl) (kd1 (vs:=[a,b]) (dk1 hk rfl) xo B w g.push ⟨g.len,jh,by simp [ha,hb],by simp⟩ (by simp) hs ?_));have q1:=q1 rfl;rcases hc:W.cf x [a,b] with _|p
     ·rw [hc] at q1;exact fun H' g' k'=>q1 H' g' (Kn.push.trans k')
     ·rw [hc] at q1;refine fun hn H' b g' k' b1 b2=>yQ1 (dk1 hk rfl) yI6 ?_;have q2:Q (.bool (isY p.1)) H':=q1 hn H' b g' (Kn.push.trans k') b1 b2;rw [<-yj2 hn] at q2;exact q2
   rcases x with _|_<;>exact go
  rcases hy:W.hd b e with _|y
  ·rw [hy] at q step;exact step false (by rcases x with _|_<;>rfl) (fun o_=>q) (fun h=>by injection h)
  ·rw [hy] at q step;change match (if x.beq y then some x else none) with
    |none=>∀H',G I H' (f+1) [] ss->Kn I H H'->Q .nil H'
    |some x=>ki1 I H f ss (W.cf x [a,b]) (fun n H'=>Q (.bool (isY n)) H') X at q
   refine step (x.beq y) (Fo.tv_beq x y) (fun h=>?_) (fun h=>?_)
   ·rw [h] at q;exact q
   ·rw [h] at q;exact q
end
inductive Oc where
 |val (v:Vl)|call (n:Nat) (us:List Vl) (v:Vl)|bad
noncomputable def jq (I:RI) (H:List AO) (f:Nat) (ss:List AV) (o:Oc) (Q:Vl->List AO->Prop) (X:List AO->Prop):Prop:=match o with
 |.val v=>∀H',G I H' f [] ss->Kn I H H'->Q v H'
 |.call n us v=>n<3->∀H' b,G I H' f [] (ss++[.tup [.int n,.ref b]])->Kn I H H'->I.H0.length<=b->H'[b]? =some (.list (us.map Vl.av))->Q v H'
 |.bad=>∀H',G I H' f [] ss->Kn I H H'->X H'
noncomputable def Wo.run (W:Wo) (x:Fo) (vs:List Vl) (g:Nat->Vl):Oc:=match W.cf x vs with
 |some (n,us)=>.call n us (g n)
 |none=>.bad
noncomputable def Wo.cmpd (W:Wo) (a b:Vl) (e:List UInt8):Option Oc:=(W.both a b e).map fun x=>W.run x [a,b] fun n=>.bool (isY n)
noncomputable def evE:List UInt8:=[95,95,101,113]
noncomputable def evLt:List UInt8:=[95,95,108,116]
noncomputable def evLe:List UInt8:=[95,95,108,101]
noncomputable def Wo.eq (W:Wo) (a b:Vl):Oc:=if a.tv.eq b.tv then .val (.bool true) else match a,b with
 |.tab _,.tab _=>(W.cmpd a b evE).getD (.val (.bool false))
 |_,_=>.val (.bool false)
noncomputable def ltVl (a b:Vl):Option Bool:=match a,b with
 |.int i,.int j=>some (decide (i<j))
 |.bytes l,.bytes m=>some (jd1 l m)
 |_,_=>none
noncomputable def leVl (a b:Vl):Option Bool:=match a,b with
 |.int i,.int j=>some (decide (i<=j))
 |.bytes l,.bytes m=>some (!jd1 m l)
 |_,_=>none
noncomputable def Oc.neg:Oc->Oc
 |.call n us (.bool b)=>.call n us (.bool (!b))
 |o=>o
noncomputable def Wo.lt (W:Wo) (a b:Vl):Oc:=match ltVl a b with
 |some r=>.val (.bool r)
 |none=>if a.tv.ty==b.tv.ty then (W.cmpd a b evLt).getD .bad else .bad
noncomputable def Wo.le (W:Wo) (a b:Vl):Oc:=match leVl a b with
 |some r=>.val (.bool r)
 |none=>if a.tv.ty==b.tv.ty then (match W.cmpd a b evLe with
  |some o=>o
  |none=>match W.cmpd b a evLt with
   |some o=>o.neg
   |none=>.bad) else .bad
section
variable {sa:Addr} {sl:List AV} {k:Nat} {m:Loc} {Q:AV->List AO->Prop} {X:List AO->Prop} {I:RI} {H:List AO} {f:Nat} {fs ss:List AV} {tx gs:List (List UInt8×AV)} {W:Wo} {T F M:Nat->Nat}
variable {f':Nat}
theorem G.less (g:G I H f fs ss) (h:f'<=f):G I H f' fs ss:=⟨g.len,g.kp,let ⟨s,m,a,b⟩:=g.js;⟨s,m,by lia,b⟩,g.jf,g.fi,g.sn⟩
variable {o:Oc}
theorem jq.kn {H1:List AO} {Q:Vl->List AO->Prop} (k:Kn I H H1) (p:jq I H f ss o Q X):jq I H1 f ss o Q X:=by
 rcases o with v|⟨n,us,v⟩|_
 ·exact fun H' g k'=>p H' g (k.trans k')
 ·exact fun hn H' b g k'=>p hn H' b g (k.trans k')
 ·exact fun H' g k'=>p H' g (k.trans k')
variable {x:Fo}
theorem ki1.of {vs:List Vl} {g:Nat->Vl} {Q:Vl->List AO->Prop} (p:jq I H f ss (W.run x vs g) Q X):ki1 I H f ss (W.cf x vs) (fun n H'=>Q (g n) H') X:=by
 unfold Wo.run at p;rcases h:W.cf x vs with _|q
 ·rw [h] at p;exact fun H' g k=>p H' (g.less (qp f)) k
 ·rw [h] at p;exact p
variable {j:Nat}
theorem yH3 {vs:List Vl} (hk:13<=k) (hx:x.ok) (B:Bs I tx gs) (w:Ws I W T F M tx) (g:G I H (f+1) [] ss) (a:AL I H T j vs) (hl:vs.length<100) (hs:ss.length<=1000)
 (q:jq I H f ss (W.run x vs resV) (fun v H'=>Q (v.rv T) H') X):Cl (pg sa sl) k (.f 34) [.ref I.r,x.rv T F,.ref j] H Q X:=
 kd1 hk hx B w g a hl hs (ki1.of (g:=resV) (Q:=fun v H'=>Q (v.rv T) H') q)
variable {a b:Vl}
theorem k9 (hk:5<=k) (ha:a.ok) (hb:b.ok) (B:Bs I tx gs) (w:Ws I W T F M tx) (g:G I H f [] ss) (x:∀H',G I H' f [] ss->Kn I H H'->X H'):Cl (pg sa sl) k (.f 41) [.ref I.r,a.rv T,b.rv T] H Q X:=by
 refine jk g.js fun st md hst h2=>?_;have h1:=g.kp _ _ B.r;have la:=y55 a.tv;have lb:=y55 b.tv;refine u_fn (dk0 hk rfl) rfl rfl (jB (dk1 hk rfl) (w.lv g ha) (jB (dk1 hk rfl) (w.lv g hb) (qr (qa rfl) (qr rfl ?_))))
 conv=>whnf
 rcases nY a.tv.ty (.bytes b.tv.ty) with _|_
 ·refine jb h1 h2 rfl rfl rfl (qr (by simp;lia) (qr (by simp;lia) (qr (by simp;lia) ?_)));exact yP1 (dk1 hk rfl) B g (by simp;lia) x
 ·refine jb h1 h2 rfl rfl rfl (qr (by simp;lia) (qr (by simp;lia) ?_));exact yP1 (dk1 hk rfl) B g (by simp;lia) x
theorem yS10 (hk:15<=k) (ha:a.ok) (hb:b.ok) (B:Bs I tx gs) (w:Ws I W T F M tx) (g:G I H (f+1) [] ss) (hs:ss.length<=1000)
 (q:jq I H f ss (if a.tv.ty==b.tv.ty then (W.cmpd a b evLt).getD .bad else .bad) (fun v H'=>Q (v.rv T) H') X):
 wpS (pg sa sl) (Cl (pg sa sl) (k-1)) (.seq (.asg 16 .none) (.seq (.ite (.cmp .Eq (.call 23 (.cons (.nm 43) .nil)) (.call 23 (.cons (.nm 44) .nil))) (.seq (.asg 16 (.meth (.nm 0) 72 (.cons (.nm 43) (.cons (.nm 44) (.cons (.bytes [95,95,108,116]) .nil))))) .done) .done) (.seq (.ite (.cmp .Is (.nm 16) .none) (.seq (.expr (.meth (.nm 0) 71 (.cons (.nm 43) (.cons (.nm 44) .nil)))) .done) .done) (.seq (.ret (.nm 16)) .done)))) (jw Q) (exH X) ⟨H,[(0,.ref I.r),(43,a.rv T),(44,b.rv T)]⟩:=by
 refine jk g.js fun st md hst h2=>?_;have h1:=g.kp _ _ B.r;refine jB (dk1 hk rfl) (w.lv g ha) (jB (dk1 hk rfl) (w.lv g hb) ?_)
 conv=>whnf
 rcases h:nY a.tv.ty (.bytes b.tv.ty) with _|_
 ·rw [show (a.tv.ty==b.tv.ty)=false from h] at q;exact jb h1 h2 rfl rfl rfl (k9 (dk1 hk rfl) ha hb B w g fun H' g'=>q H' (g'.less (qp f)))
 ·rw [show (a.tv.ty==b.tv.ty)=true from h] at q;refine jb h1 h2 rfl rfl rfl (z8 (e:=evLt) (dk1 hk rfl) ha hb B w g hs ?_);unfold Wo.cmpd at q;rcases hx:W.both a b evLt with _|x
  ·rw [hx] at q;intro H' g' k';exact jk g'.js fun st md hst h2=>jb (g'.kp _ _ B.r) h2 rfl rfl rfl (k9 (dk1 hk rfl) ha hb B w g' fun H'' g'' k''=>q H'' (g''.less (qp f)) (k'.trans k''))
  ·rw [hx] at q;have q:=ki1.of (g:=fun n=>.bool (isY n)) (Q:=fun v H'=>Q (v.rv T) H') (show jq I H f ss (W.run x [a,b] fun n=>.bool (isY n)) _ X from q);refine (?_:ki1 I H f ss (W.cf x [a,b]) _ X);rcases hc:W.cf x [a,b] with _|p
   ·rw [hc] at q;exact q
   ·rw [hc] at q;exact q
theorem yG7 (hk:15<=k) (ha:a.ok) (hb:b.ok) (B:Bs I tx gs) (w:Ws I W T F M tx) (g:G I H (f+1) [] ss) (hs:ss.length<=1000)
 (q:jq I H f ss (W.lt a b) (fun v H'=>Q (v.rv T) H') X):Cl (pg sa sl) k (.f 42) [.ref I.r,a.rv T,b.rv T] H Q X:=by
 refine u_fn (dk0 hk rfl) rfl rfl ?_;have tail:=yS10 (sa:=sa) (sl:=sl) (Q:=Q) (X:=X) hk ha hb B w g hs;unfold Wo.lt at q;have g0:=g.less (qp f);refine j0 (dk1 hk rfl) (w.lv g ha) ?_;rcases a with _|_|i|l|n
 ·exact tail q
 ·exact tail q
 ·refine j0 (dk1 hk rfl) (w.lv g hb) ?_;rcases b with _|_|j|_|_
  ·exact tail q
  ·exact tail q
  ·exact q H g0 .refl
  ·exact tail q
  ·exact tail q
 ·rcases b with _|_|_|l'|n
  ·exact tail q
  ·exact tail q
  ·exact tail q
  ·exact q H g0 .refl
  ·exact jD ((w.tab n hb).tb g) fun jt ti tj t1 t2 t3 t4=>j1 t1 t2 rfl (tail q)
 ·exact jD ((w.tab n ha).tb g) fun jt ti tj t1 t2 t3 t4=>j1 t1 t2 rfl (tail q)
theorem yR10 (hk:15<=k) (ha:a.ok) (hb:b.ok) (B:Bs I tx gs) (w:Ws I W T F M tx) (g:G I H (f+1) [] ss) (hs:ss.length<=1000)
 (q:jq I H f ss (if a.tv.ty==b.tv.ty then (match W.cmpd a b evLe with
 |some o=>o
 |none=>match W.cmpd b a evLt with
  |some o=>o.neg
  |none=>.bad) else .bad) (fun v H'=>Q (v.rv T) H') X):
 wpS (pg sa sl) (Cl (pg sa sl) (k-1)) (.seq (.asg 16 .none) (.seq (.ite (.cmp .Eq (.call 23 (.cons (.nm 43) .nil)) (.call 23 (.cons (.nm 44) .nil))) (.seq (.asg 16 (.meth (.nm 0) 72 (.cons (.nm 43) (.cons (.nm 44) (.cons (.bytes [95,95,108,101]) .nil))))) (.seq (.ite (.cmp .Is (.nm 16) .none) (.seq (.asg 73 (.meth (.nm 0) 72 (.cons (.nm 44) (.cons (.nm 43) (.cons (.bytes [95,95,108,116]) .nil))))) (.seq (.asg 16 (.ite (.cmp .Is (.nm 73) .none) .none (.un .Not (.nm 73)))) .done)) .done) .done)) .done) (.seq (.ite (.cmp .Is (.nm 16) .none) (.seq (.expr (.meth (.nm 0) 71 (.cons (.nm 43) (.cons (.nm 44) .nil)))) .done) .done) (.seq (.ret (.nm 16)) .done)))) (jw Q) (exH X) ⟨H,[(0,.ref I.r),(43,a.rv T),(44,b.rv T)]⟩:=by
 refine jk g.js fun st md hst h2=>?_;have h1:=g.kp _ _ B.r;refine jB (dk1 hk rfl) (w.lv g ha) (jB (dk1 hk rfl) (w.lv g hb) ?_)
 conv=>whnf
 rcases h:nY a.tv.ty (.bytes b.tv.ty) with _|_
 ·rw [show (a.tv.ty==b.tv.ty)=false from h] at q;exact jb h1 h2 rfl rfl rfl (k9 (dk1 hk rfl) ha hb B w g fun H' g'=>q H' (g'.less (qp f)))
 ·rw [show (a.tv.ty==b.tv.ty)=true from h] at q;refine jb h1 h2 rfl rfl rfl (z8 (e:=evLe) (dk1 hk rfl) ha hb B w g hs ?_);unfold Wo.cmpd at q;rcases hx:W.both a b evLe with _|x
  ·rw [hx] at q;intro H' g' k';refine jk g'.js fun st md hst h2=>jb (g'.kp _ _ B.r) h2 rfl rfl rfl (z8 (e:=evLt) (dk1 hk rfl) hb ha B w g' hs ?_);rcases hy:W.both b a evLt with _|x
   ·rw [hy] at q;intro H'' g'' k'';exact jk g''.js fun st md hst h2=>jb (g''.kp _ _ B.r) h2 rfl rfl rfl (k9 (dk1 hk rfl) ha hb B w g'' fun H3 g3 k3=>q H3 (g3.less (qp f)) (k'.trans (k''.trans k3)))
   ·rw [hy] at q;have q:jq I H f ss (W.run x [b,a] fun n=>.bool (isY n)).neg (fun v H'=>Q (v.rv T) H') X:=q;unfold Wo.run at q;refine (?_:ki1 I H' f ss (W.cf x [b,a]) _ X);rcases hc:W.cf x [b,a] with _|p
    ·rw [hc] at q;exact fun H3 g3 k3=>q H3 (g3.less (qp f)) (k'.trans k3)
    ·rw [hc] at q;exact fun hn H3 b g3 k3=>q hn H3 b g3 (k'.trans k3)
  ·rw [hx] at q;have q:=ki1.of (g:=fun n=>.bool (isY n)) (Q:=fun v H'=>Q (v.rv T) H') (show jq I H f ss (W.run x [a,b] fun n=>.bool (isY n)) _ X from q);refine (?_:ki1 I H f ss (W.cf x [a,b]) _ X);rcases hc:W.cf x [a,b] with _|p
   ·rw [hc] at q;exact q
   ·rw [hc] at q;exact q
theorem yZ2 (hk:15<=k) (ha:a.ok) (hb:b.ok) (B:Bs I tx gs) (w:Ws I W T F M tx) (g:G I H (f+1) [] ss) (hs:ss.length<=1000)
 (q:jq I H f ss (W.le a b) (fun v H'=>Q (v.rv T) H') X):Cl (pg sa sl) k (.f 43) [.ref I.r,a.rv T,b.rv T] H Q X:=by
 refine u_fn (dk0 hk rfl) rfl rfl ?_;have tail:=yR10 (sa:=sa) (sl:=sl) (Q:=Q) (X:=X) hk ha hb B w g hs;unfold Wo.le at q;have g0:=g.less (qp f);refine j0 (dk1 hk rfl) (w.lv g ha) ?_;rcases a with _|_|i|l|n
 ·exact tail q
 ·exact tail q
 ·refine j0 (dk1 hk rfl) (w.lv g hb) ?_;rcases b with _|_|j|_|_
  ·exact tail q
  ·exact tail q
  ·exact q H g0 .refl
  ·exact tail q
  ·exact tail q
 ·rcases b with _|_|_|l'|n
  ·exact tail q
  ·exact tail q
  ·exact tail q
  ·exact q H g0 .refl
  ·exact jD ((w.tab n hb).tb g) fun jt ti tj t1 t2 t3 t4=>j1 t1 t2 rfl (tail q)
 ·exact jD ((w.tab n ha).tb g) fun jt ti tj t1 t2 t3 t4=>j1 t1 t2 rfl (tail q)
theorem yi6 (hk:15<=k) (ha:a.ok) (hb:b.ok) (B:Bs I tx gs) (w:Ws I W T F M tx) (g:G I H (f+1) [] ss) (hs:ss.length<=1000)
 (q:jq I H f ss (W.eq a b) (fun v H'=>Q (v.rv T) H') X):Cl (pg sa sl) k (.f 39) [.ref I.r,a.rv T,b.rv T] H Q X:=by
 refine jk g.js fun st md hst h2=>?_;have h1:=g.kp _ _ B.r;have g0:=g.less (qp f);refine u_fn (dk0 hk rfl) rfl rfl (yL3 (dk1 hk rfl) (w.lv g ha) (w.lv g hb) ?_);unfold Wo.eq at q;rcases h:a.tv.eq b.tv with _|_
 ·rw [h] at q;rcases a with _|_|_|_|n
  ·exact q H g0 .refl
  ·exact q H g0 .refl
  ·exact q H g0 .refl
  ·exact q H g0 .refl
  ·refine jD ((w.tab n ha).tb g) fun jt ti tj t1 t2 t3 t4=>j1 t1 t2 rfl ?_;rcases b with _|_|_|_|n'
   ·exact q H g0 .refl
   ·exact q H g0 .refl
   ·exact q H g0 .refl
   ·exact q H g0 .refl
   ·refine jD ((w.tab n' hb).tb g) fun jt' ti' tj' u1 u2 u3 u4=>j1 u1 u2 rfl (jb h1 h2 rfl rfl rfl (j8 (v:=.tab n) (b:=evE) (dk1 hk rfl) B w g ha ?_));have q:jq I H f ss ((W.cmpd (.tab n) (.tab n') evE).getD (.val (.bool false))) (fun v H'=>Q (v.rv T) H') X:=q;unfold Wo.cmpd Wo.both at q;rcases hx:W.hd (.tab n) evE with _|x
    ·rw [hx] at q;exact q H g0 .refl
    ·have xo:=w.hok (v:=.tab n) ha hx;rw [hx] at q;have step:∀(z:Bool),(x.tv.eq (tvO (W.hd (.tab n') evE))=z)->(z=false->Q (.bool false) H)->(z=true->jq I H f ss (W.run x [.tab n,.tab n'] fun n=>.bool (isY n)) (fun v H'=>Q (v.rv T) H') X)->
      wpS (pg sa sl) (Cl (pg sa sl) (k-1)) (.seq (.ite (.or (.cmp .Is (.nm 60) .none) (.un .Not (.call 24 (.cons (.nm 60) (.cons (.meth (.nm 0) 57 (.cons (.nm 44) (.cons (.bytes [95,95,101,113]) .nil))) .nil))))) (.seq (.ret (.bool false)) .done) .done) (.seq (.ret (.un .Not (.call 2 (.cons (.meth (.nm 0) 68 (.cons (.nm 60) (.cons (.list (.cons (.nm 43) (.cons (.nm 44) .nil))) .nil))) .nil)))) .done)) (jw Q) (exH X) ⟨H,[(0,.ref I.r),(43,.ref (T n)),(44,.ref (T n')),(60,x.rv T F)]⟩:=fun z hz q0 q1=>by
      have hi:jr (x.rv T F)=false:=by rcases x with _|_<;>rfl
      refine iF hi (kj (i_nm rfl ?_));refine jb h1 h2 rfl rfl rfl (j8 (v:=.tab n') (b:=evE) (dk1 hk rfl) B w g hb (yL3 (dk1 hk rfl) (w.lf g xo) (w.lo g (v:=.tab n') hb) (rz hz ?_)));rcases z with _|_
      ·exact q0 rfl
      ·refine jb h1 h2 rfl rfl rfl (qr (qa rfl) ?_);have hbo:∀v∈[Vl.tab n,.tab n'],v.ok:=fun v hv=>by
        rcases qC.mp hv with rfl|hv
        ·exact ha
        ·exact rz (qB.mp hv) hb
       refine kd1 (vs:=[.tab n,.tab n']) (dk1 hk rfl) xo B w g.push ⟨g.len,jh,hbo,by simp⟩ (by simp) hs ?_;have q1:=ki1.of (g:=fun n=>.bool (isY n)) (Q:=fun v H'=>Q (v.rv T) H') (q1 rfl);rcases hc:W.cf x [.tab n,.tab n'] with _|p
       ·rw [hc] at q1;exact fun H' g' k'=>q1 H' g' (Kn.push.trans k')
       ·rw [hc] at q1;refine fun hn H' b g' k' b1 b2=>yQ1 (dk1 hk rfl) yI6 ?_;have q2:Q (.bool (isY p.1)) H':=q1 hn H' b g' (Kn.push.trans k') b1 b2;rw [<-yj2 hn] at q2;exact q2
     rcases hy:W.hd (.tab n') evE with _|y
     ·rw [hy] at q step;exact step false (by rcases x with _|_<;>rfl) (fun o_=>q H g0 .refl) (fun h=>by injection h)
     ·rw [hy] at q step;refine step (x.beq y) (Fo.tv_beq x y) (fun h=>?_) (fun h=>?_)
      ·have q:jq I H f ss (((if x.beq y then some x else none).map fun x=>W.run x [.tab n,.tab n'] fun n=>.bool (isY n)).getD (.val (.bool false))) (fun v H'=>Q (v.rv T) H') X:=q;rw [h] at q;exact q H g0 .refl
      ·have q:jq I H f ss (((if x.beq y then some x else none).map fun x=>W.run x [.tab n,.tab n'] fun n=>.bool (isY n)).getD (.val (.bool false))) (fun v H'=>Q (v.rv T) H') X:=q;rw [h] at q;exact q
 ·rw [h] at q;exact q H g0 .refl
noncomputable def Wo.row (W:Wo) (o:Vl) (b:List UInt8):Option Vl:=match o with
 |.tab n=>lkF (W.rows n) b
 |_=>none
noncomputable def noO:Vl->Oc
 |.tab _=>.val .nil
 |_=>.bad
noncomputable def Wo.idx (W:Wo) (b:List UInt8):Nat->Vl->Oc
 |0,_=>.bad
 |n+1,o=>match W.row o b with
  |some v=>.val v
  |none=>match W.hd o evI with
   |none=>noO o
   |some (.fn i)=>W.run (.fn i) [o,.bytes b] resV
   |some (.tab j)=>W.idx b n (.tab j)
theorem jq.mono {Q Q':Vl->List AO->Prop} {X':List AO->Prop} (h:∀v H',Q v H'->Q' v H') (hx:∀H',X H'->X' H') (p:jq I H f ss o Q X):jq I H f ss o Q' X':=by
 rcases o with v|⟨n,us,v⟩|_
 ·exact fun H' g k'=>h _ _ (p H' g k')
 ·exact fun hn H' b g k' b1 b2=>h _ _ (p hn H' b g k' b1 b2)
 ·exact fun H' g k'=>hx _ (p H' g k')
variable {Γ:Ora} {x y:Nat} {v:AV} {Xs:St->Prop}
theorem yS12 {F:AF->St->Prop} (e:lk m y=some v) (h:F .next ⟨H,put m x v⟩):wpS (pg sa sl) Γ (.asg x (.nm y)) F Xs ⟨H,m⟩:=by
 refine (?_:optQ _ (lk m y));exact rz e h
theorem i_lk {F:AV->Prop} (e:lk m x=some v) (q:F v):optQ F (lk m x):=by exact rz e q
theorem ji {w:AV} (e:lk m y=some w) (h:y≠x):lk (put m x v) y=some w:=by rw [y63];exact rz (if_neg h) e
theorem jC:lk (put m x v) x=some v:=by rw [y63];exact rz (if_pos rfl) rfl
variable {n:Nat}
theorem yw {a:Nat}:Src.item H (.range 0 a) n=some (if n<a then some (.int n) else none):=by unfold Src.item;simp
structure IxM (I:RI) (T:Nat->Nat) (m:Loc) (o:Vl) (b nm:List UInt8):Prop where
 a0:lk m 0=some (.ref I.r)
 a38:lk m 38=some (.bytes b)
 a33:lk m 33=some (.bytes nm)
 a89:lk m 89=some (o.rv T)
variable {o:Vl} {b nm:List UInt8}
theorem IxM.put (x:IxM I T m o b nm) (h:y≠0/\y≠38/\y≠33/\y≠89):IxM I T (put m y v) o b nm:=
 ⟨ji x.a0 (Ne.symm h.1),ji x.a38 (Ne.symm h.2.1),ji x.a33 (Ne.symm h.2.2.1),ji x.a89 (Ne.symm h.2.2.2)⟩
variable {x:Fo}
theorem yk10 {Qf:AF->St->Prop} {J:St->Prop} {n:Nat} (hk:14<=k) (ho:o.ok) (hx:x.ok) (B:Bs I tx gs) (w:Ws I W T F M tx) (g:G I H (f+1) [] ss) (hs:ss.length<=1000) (hm:IxM I T m o b nm) (h60:lk m 60=some (x.rv T F))
 (q:jq I H f ss (match x with
  |.fn i=>W.run (.fn i) [o,.bytes b] resV
  |.tab j=>W.idx b n (.tab j)) (fun v H'=>Q (v.rv T) H') X)
 (hr:∀v σ,Q v σ.H->Qf (.ret v) σ) (hJ:∀m' j,x=.tab j->IxM I T m' (.tab j) b []->jq I H f ss (W.idx b n (.tab j)) (fun v H'=>Q (v.rv T) H') X->J ⟨H,m'⟩):
 wpS (pg sa sl) (Cl (pg sa sl) (k-1)) (.seq (.ite (.call 25 (.cons (.nm 60) .nil)) (.seq (.ret (.meth (.nm 0) 68 (.cons (.nm 60) (.cons (.list (.cons (.nm 89) (.cons (.nm 38) .nil))) .nil)))) .done) .done) (.seq (.asg 89 (.nm 60)) (.seq (.asg 33 (.bytes [])) .done))) (jN Qf J) (exH X) ⟨H,m⟩:=by
 refine jk g.js fun st md hst h2=>i_lk h60 (zP (dk1 hk rfl) (w.lf g hx) ?_);rcases x with i|j
 ·refine i_lk hm.a0 (jb (g.kp _ _ B.r) h2 rfl rfl rfl (i_lk h60 (i_lk hm.a89 (i_lk hm.a38 (qr (qa rfl) (yH3 (x:=.fn i) (vs:=[o,.bytes b]) (dk1 hk rfl) hx B w g.push ⟨g.len,jh,fun v hv=>?_,by simp⟩ (by simp) hs ?_))))))
  ·rcases qC.mp hv with rfl|hv
   ·exact ho
   ·refine rz (qB.mp hv) ?_;trivial
  ·exact jq.kn Kn.push (jq.mono (fun v H' h=>hr _ ⟨H',_⟩ h) (fun o_ h=>h) q)
 ·exact i_lk h60 (hJ _ j rfl ⟨ji (ji hm.a0 (by decide)) (by decide),ji (ji hm.a38 (by decide)) (by decide),jC,ji jC (by decide)⟩ q)
variable {v:Vl}
theorem Ws.rok (w:Ws I W T F M tx) (ho:o.ok) (h:W.row o b=some v):v.ok/\v≠.nil:=by
 rcases o with _|_|_|_|n
 ·injection h
 ·injection h
 ·injection h
 ·injection h
 ·refine x_EA (yy1 (show lkF (W.rows n) b=some v from h)) fun e he hz1=>?_;subst hz1;exact ⟨(w.rn n ho e he).2,(w.rn n ho e he).1⟩
theorem Ws.rg (w:Ws I W T F M tx) {o:Nat} (g:G I H f fs ss) (hk:4<=k) (ho:o<4)(q:Q (match W.row (.tab o) b with
 |some v=>v.rv T
 |none=>.nil) H):Cl (pg sa sl) k (.f 19) [.ref (T o),.bytes b] H Q X:=by
 refine yj6 hk ((w.tab o ho).tb g) (by rw [qF];exact w.rl o ho) ?_;rw [yc9];change Q (match lkF (W.rows o) b with
  |some v=>v.rv T
  |none=>.nil) H at q
 cases h:lkF (W.rows o) b<;>(rw [h] at q;exact q)
theorem yL9 (hk:15<=k) (ho:o.ok) (hnm:nm.length<=100) (B:Bs I tx gs) (w:Ws I W T F M tx) (g:G I H (f+1) [] ss) (hs:ss.length<=1000)
 (q:jq I H f ss (W.idx b 100 o) (fun v H'=>Q (v.rv T) H') X):Cl (pg sa sl) k (.f 50) [.ref I.r,o.rv T,.bytes b,.bytes nm] H Q X:=by
 refine u_fn (dk0 hk rfl) rfl rfl ?_;refine jx (yS12 rfl (jx (yr2 (a:=.int 100) (H1:=H) (src:=.range 0 100) (fun F q=>q) rfl rfl (fun n σ=>σ.H=H/\n<=100/\∃o nm,o.ok/\nm.length<=100/\IxM I T σ.m o b nm/\jq I H f ss (W.idx b (100-n) o) (fun v H'=>Q (v.rv T) H') X) 100
  ⟨rfl,qn _,o,nm,ho,hnm,⟨rfl,rfl,rfl,rfl⟩,q⟩ fun n σ hJ=>?_)))
 obtain ⟨H',m⟩:=σ
 obtain ⟨rfl,hn,o,nm,ho,hnm,hm,q⟩:=hJ
 refine rz yw ?_;by_cases hlt:n<100
 ·refine rz (if_pos hlt) (⟨hlt,?_⟩);refine jk g.js fun st md hst h2=>?_;have h1:=g.kp _ _ B.r;have hm:=hm.put (y:=88) (v:=.int n) (by decide);refine (?_:wpS _ _ _ _ _ ⟨_,put m 88 (.int n)⟩);generalize put m 88 (.int n)=m at hm⊢;obtain ⟨d,hd⟩:∃d,100-n=d+1:=⟨99-n,by lia⟩
  have hd':100-(n+1)=d:=by lia
  rw [hd] at q;unfold Wo.idx at q;have fin:∀(m:Loc) (x:Fo),x.ok->IxM I T m o b nm->lk m 60=some (x.rv T F)->jq I H' f ss (match x with
   |.fn i=>W.run (.fn i) [o,.bytes b] resV
   |.tab j=>W.idx b d (.tab j)) (fun v H'=>Q (v.rv T) H') X->wpS (pg sa sl) (Cl (pg sa sl) (k-1)) (.seq (.ite (.call 25 (.cons (.nm 60) .nil)) (.seq (.ret (.meth (.nm 0) 68 (.cons (.nm 60) (.cons (.list (.cons (.nm 89) (.cons (.nm 38) .nil))) .nil)))) .done) .done) (.seq (.asg 89 (.nm 60)) (.seq (.asg 33 (.bytes [])) .done))) (jN (fun f σ1=>match f with
    |.next=>wpS (pg sa sl) (Cl (pg sa sl) (k-1)) (.seq (.expr (.meth (.nm 0) 55 (.cons (.bytes [108,111,111,112,32,105,110,32,103,101,116,116,97,98,108,101]) .nil))) .done) (jw Q) (exH X) σ1
    |.brk=>jw Q .brk σ1
    |.cont=>jw Q .cont σ1
    |.ret v=>jw Q (.ret v) σ1) fun σ=>σ.H=H'/\n+1<=100/\∃o nm,o.ok/\nm.length<=100/\IxM I T σ.m o b nm/\jq I H' f ss (W.idx b (100-(n+1)) o) (fun v H'=>Q (v.rv T) H') X) (exH X) ⟨H',m⟩:=
   fun m x xo hm h60 q=>yk10 (dk0 hk rfl) ho xo B w g hs hm h60 q (fun v σ h=>h) fun m' j e hm' q'=>⟨rfl,hlt,.tab j,[],(by subst e;exact xo),qn _,hm',by exact rz hd' q'⟩
  refine i_lk hm.a89 ?_;rcases (show (∃i,o=.tab i)\/(W.row o b=none/\(∀F:Bool->Prop,F false->optQ F (isiV (pg sa sl) H' (o.rv T) (.cls 275)))/\noO o=.bad) from by
   rcases o with _|_|_|_|i
   ·exact .inr ⟨rfl,fun F h=>h,rfl⟩
   ·exact .inr ⟨rfl,fun F h=>h,rfl⟩
   ·exact .inr ⟨rfl,fun F h=>h,rfl⟩
   ·exact .inr ⟨rfl,fun F h=>h,rfl⟩
   ·exact .inl ⟨i,rfl⟩) with ⟨i,rfl⟩|⟨e1,e2,e3⟩
  ·refine jD ((w.tab i ho).tb g) fun jt ti tj t1 t2 t3 t4=>j1 t1 t2 rfl (i_lk hm.a89 (jb t1 t2 rfl rfl rfl (i_lk hm.a38 (w.rg (o:=i) g (dk1 hk rfl) ho ?_))));rcases hr:W.row (.tab i) b with _|v
   ·rw [hr] at q;refine i_lk jC (i_lk (ji hm.a0 (by decide)) (jb h1 h2 rfl rfl rfl (i_lk (ji hm.a89 (by decide)) (j8 (v:=.tab i) (b:=evI) (dk1 hk rfl) B w g ho ?_))));rcases hx:W.hd (.tab i) evI with _|x
    ·rw [hx] at q;exact i_lk jC (i_lk (ji jC (by decide)) (q _ (g.less (qp f)) .refl))
    ·rw [hx] at q;have hi:jr (x.rv T F)=false:=by rcases x with _|_<;>rfl
     exact i_lk jC (iF hi (fin _ x (w.hok (v:=.tab i) ho hx) ((hm.put (by decide)).put (by decide)) jC (by rcases x with _|_<;>exact q)))
   ·rw [hr] at q;have nv:=(w.rok ho hr).2;have hi:jr (v.rv T)=false:=by rcases v with _|_|_|_|_<;>first|rfl|exact (nv rfl).elim
    exact i_lk jC (iF hi (i_lk jC (i_lk (ji jC (by decide)) (q _ (g.less (qp f)) .refl))))
  ·rw [e1] at q;refine e2 _ (i_lk hm.a0 (jb h1 h2 rfl rfl rfl (i_lk hm.a89 (j8 (b:=evI) (dk1 hk rfl) B w g ho ?_))));rcases hx:W.hd o evI with _|x
   ·rw [hx] at q;have q:jq I H' f ss (noO o) (fun v H'=>Q (v.rv T) H') X:=q;rw [e3] at q;exact i_lk jC (i_lk (ji hm.a0 (by decide)) (jb h1 h2 rfl rfl rfl (i_lk (ji hm.a89 (by decide)) (i_lk (ji hm.a33 (by decide)) (jZ (dk1 hk rfl) B g (w.lv g ho) (qa rfl) hnm fun H'' g' k'=>q H'' (g'.less (qp f)) k')))))
   ·rw [hx] at q;have hi:jr (x.rv T F)=false:=by rcases x with _|_<;>rfl
    exact i_lk jC (iF hi (fin _ x (w.hok ho hx) (hm.put (by decide)) jC (by rcases x with _|_<;>exact q)))
 ·refine rz (if_neg hlt) ?_;have:100-n=0:=by lia
  rw [this] at q;exact i_lk hm.a0 (jk g.js fun st md hst h2=>jb (g.kp _ _ B.r) h2 rfl rfl rfl (yP1 (dk1 hk rfl) B g (qa rfl) fun H' g' k'=>q H' (g'.less (qp f)) k'))
noncomputable def Nd0 (I:RI) (n kd:Nat) (ps:List AV):Prop:=∃j p,I.S0 n (.inst 660 j)/\I.S0 j (.dict [(.str 45,.str kd),(.str 31,.int 1),(.str 83,.ref p)])/\I.S0 p (.list ps)
noncomputable def tn (i:Nat):List UInt8:=[116,UInt8.ofNat (48+i)]
noncomputable def Lf0 (I:RI) (n:Nat):Vl->Prop
 |.nil=>Nd0 I n 100 []
 |.int i=>Nd0 I n 34 [.int i]
 |.bytes l=>Nd0 I n 82 [.bytes l]
 |.tab i=>i<4/\Nd0 I n 84 [.bytes (tn i)]
 |.bool _=>False
theorem Lf0.ok (h:Lf0 I n v):v.ok:=by
 rcases v with _|_|_|_|i
 ·trivial
 ·trivial
 ·trivial
 ·trivial
 ·exact h.1
theorem yS4 (hk:1<=k) (B:Bs I tx gs) (g:G I H f fs ss) (hn:Nd0 I n 100 []) (q:Q .nil H):Cl (pg sa sl) k (.f 55) [.ref I.r,.ref n,.ref I.fr] H Q X:=by
 refine jp hn fun j p n1 n2 n3=>u_fn (dk0 hk rfl) rfl rfl (jd (g.kp _ _ n1) (g.kp _ _ n2) rfl rfl (jd (g.kp _ _ n1) (g.kp _ _ n2) rfl rfl (qr (qa rfl) (qr rfl ?_))));exact q
theorem yS (hk:6<=k) (B:Bs I tx gs) (hg:∀i,i<4->tg gs (tn i)=.ref (T i)) (g:G I H (f+1) [] ss) (hv:Lf0 I n v) (q:∀H',G I H' f [] ss->Kn I H H'->Q (v.rv T) H'):Cl (pg sa sl) k (.f 54) [.ref I.r,.ref n,.ref I.fr] H Q X:=by
 refine jk g.js fun st md hst h2=>u_fn (dk0 hk rfl) rfl rfl (jb (g.kp _ _ B.r) h2 rfl rfl rfl (yN3 (dk1 hk rfl) B g fun H1 g1 k1=>?_));clear h2 hst;refine jk g1.js fun st md hst h2=>?_;rcases v with _|_|i|l|i
 ·have hv':=hv;obtain ⟨j,p,n1,n2,n3⟩:=hv'
  refine jd (g1.kp _ _ n1) (g1.kp _ _ n2) rfl rfl (jd (g1.kp _ _ n1) (g1.kp _ _ n2) rfl rfl (qr (qa rfl) (qr rfl ?_)));exact jb (g1.kp _ _ B.r) h2 rfl rfl rfl (yS4 (dk1 hk rfl) B g1 hv (q H1 g1 k1))
 ·exact hv.elim
 ·obtain ⟨j,p,n1,n2,n3⟩:=hv
  refine jd (g1.kp _ _ n1) (g1.kp _ _ n2) rfl rfl (jd (g1.kp _ _ n1) (g1.kp _ _ n2) rfl rfl (qr (qa rfl) (qr rfl ?_)));exact jo (v:=.int i) (g1.kp _ _ n3) ⟨by decide,by decide⟩ rfl (q H1 g1 k1)
 ·obtain ⟨j,p,n1,n2,n3⟩:=hv
  refine jd (g1.kp _ _ n1) (g1.kp _ _ n2) rfl rfl (jd (g1.kp _ _ n1) (g1.kp _ _ n2) rfl rfl (qr (qa rfl) (qr rfl ?_)));exact jo (v:=.bytes l) (g1.kp _ _ n3) ⟨by decide,by decide⟩ rfl (q H1 g1 k1)
 ·refine ys4 hv fun hi j p n1 n2 n3=>jd (g1.kp _ _ n1) (g1.kp _ _ n2) rfl rfl (jd (g1.kp _ _ n1) (g1.kp _ _ n2) rfl rfl (qr (qa rfl) (qr rfl ?_)));refine jd (g1.kp _ _ n1) (g1.kp _ _ n2) rfl rfl (x_EA g1.jf fun ln hl f2=>zp (g1.kp _ _ B.fr) f2 rfl rfl (qa rfl) ?_);have g2:G I (H1.set I.jf (.dict (I.fD 1))) f [] ss:=g1.setJf B (.inr rfl);have k2:=k1.trans (Kn.set (H:=H1) (o:=.dict (I.fD 1)) B.b2);exact jk g2.js fun st md hst h2=>jd (g2.kp _ _ B.r) h2 rfl rfl (jD (B.gt.tb g2) fun jt ti tj t1 t2 t3 t4=>jb t1 t2 rfl rfl rfl (jo (v:=.bytes (tn i)) (g2.kp _ _ n3) ⟨by decide,by decide⟩ rfl (yj6 (dk1 hk rfl) (B.gt.tb g2) B.gl (rz (hg i hi) (q _ g2 k2)))))
variable {ps:List AV}
theorem yT4 {kd:Nat} (hk:1<=k) (g:G I H f fs ss) (hn:Nd0 I n kd ps) (h1:(kd==87)=false) (h2:(kd==85)=false) (q:Q (.int (-1)) H):Cl (pg sa sl) k (.f 61) [.ref n,.ref I.fr] H Q X:=by
 refine jp hn fun j p n1 n2 n3=>u_fn (dk0 hk rfl) rfl rfl (jx (ka1 (fun n σ=>σ=_) 0 rfl fun n σ hσ=>?_));subst hσ;refine jd (g.kp _ _ n1) (g.kp _ _ n2) rfl rfl (iF h1 (jd (g.kp _ _ n1) (g.kp _ _ n2) rfl rfl ?_));refine (?_:(match (!(kd==85)) with
  |true=>_
  |false=>_))
 refine rz h2 (rz (show nS kd (AV.str 85)=false from h2) ?_);exact q
theorem Lf0.nd (h:Lf0 I n v):∃kd ps,Nd0 I n kd ps/\(kd==87)=false/\(kd==85)=false/\(59==kd)=false/\(93==kd)=false/\(95==kd)=false:=by
 rcases v with _|_|_|_|i
 ·exact ⟨_,_,h,rfl,rfl,rfl,rfl,rfl⟩
 ·exact h.elim
 ·exact ⟨_,_,h,rfl,rfl,rfl,rfl,rfl⟩
 ·exact ⟨_,_,h,rfl,rfl,rfl,rfl,rfl⟩
 ·exact ⟨_,_,h.2,rfl,rfl,rfl,rfl,rfl⟩
theorem z9 (hk:1<=k) (g:G I H f fs ss) (hv:Lf0 I n v) (q:∀l,l.length<=100->Q (.bytes l) H):Cl (pg sa sl) k (.f 49) [.ref I.r,.ref n,.ref I.fr] H Q X:=by
 refine u_fn (dk0 hk rfl) rfl rfl ?_;rcases v with _|_|i|i|i
 ·refine jp hv fun j p n1 n2 n3=>jd (g.kp _ _ n1) (g.kp _ _ n2) rfl rfl (jx (ka1 (fun n σ=>σ=_) 0 rfl fun n σ hσ=>?_));subst hσ;exact q [] (qn _)
 ·exact hv.elim
 ·obtain ⟨j,p,n1,n2,n3⟩:=hv
  refine jd (g.kp _ _ n1) (g.kp _ _ n2) rfl rfl (jx (ka1 (fun n σ=>σ=_) 0 rfl fun n σ hσ=>?_));subst hσ;exact q [] (qn _)
 ·obtain ⟨j,p,n1,n2,n3⟩:=hv
  refine jd (g.kp _ _ n1) (g.kp _ _ n2) rfl rfl (jx (ka1 (fun n σ=>σ=_) 0 rfl fun n σ hσ=>?_));subst hσ;exact q [] (qn _)
 ·refine ys4 hv fun hi j p n1 n2 n3=>jd (g.kp _ _ n1) (g.kp _ _ n2) rfl rfl (jx (ka1 (fun n σ=>σ=_) 0 rfl fun n σ hσ=>?_));subst hσ;refine jd (g.kp _ _ n1) (g.kp _ _ n2) rfl rfl (jo (v:=.bytes (tn i)) (g.kp _ _ n3) ⟨by decide,by decide⟩ rfl (qr (qa rfl) (qr (qa rfl) ?_)));exact q _ (qa rfl)
theorem Kn.setNew {H1:List AO} (K:Kn I H H1) {o:AO} (h:H.length<=j):Kn I H (H1.set j o):=
 ⟨by exact rz qy K.1,fun i o' hi hh=>je (K.2 i o' hi hh) (by have:=(qA.mp hh).1;exact qf (qc this h))⟩
variable {v:AV}
theorem yH7 {o:Int} (hk:2<=k) (q:Q (.ref (H.length+1)) (H++[.dict [(.str 11,v),(.str 77,.int o)],.inst 515 H.length])):Cl (pg sa sl) k (.f 67) [v,.int o] H Q X:=by
 exact yq2 (dk0 hk rfl) rfl (u_fn (dk1 hk rfl) rfl rfl (jy rfl rfl (qa rfl) (jy rfl rfl (qa rfl) (⟨rfl,q⟩))))
noncomputable def Ce (I:RI) (H:List AO) (c:Nat) (v:AV):Prop:=∃j,I.H0.length<=c/\I.H0.length<=j/\H[c]? =some (.inst 515 j)/\H[j]? =some (.dict [(.str 11,v),(.str 77,.int (-1))])
variable {H':List AO} {c:Nat}
theorem Ce.kn (a:Ce I H c v) (k:Kn I H H'):Ce I H' c v:=let ⟨j,a1,a2,a3,a4⟩:=a;⟨j,a1,a2,k.2 _ _ a1 a3,k.2 _ _ a2 a4⟩
variable {v:Vl}
theorem yI3 (hk:7<=k) (B:Bs I tx gs) (hg:∀i,i<4->tg gs (tn i)=.ref (T i)) (g:G I H (f+1) [] ss) (hv:Lf0 I n v) (q:∀H' c,G I H' f [] ss->Kn I H H'->Ce I H' c (v.rv T)->Q (.ref c) H'):Cl (pg sa sl) k (.f 53) [.ref I.r,.ref n,.ref I.fr] H Q X:=by
 refine jk g.js fun st md hst h2=>jS hv.nd fun kd ps hn e1 e2 o_=>u_fn (dk0 hk rfl) rfl rfl (yT4 (dk1 hk rfl) g hn e1 e2 (jb (g.kp _ _ B.r) h2 rfl rfl rfl (yS (dk1 hk rfl) B hg g hv fun H1 g1 k1=>yH7 (dk1 hk rfl) (q _ _ g1.push (k1.trans .push) ⟨H1.length,Nat.le_succ_of_le g1.len,g1.len,by simp,by simp⟩))))
variable {p:Nat}
theorem yJ7 (hk:7<=k) (B:Bs I tx gs) (hg:∀i,i<4->tg gs (tn i)=.ref (T i)) (g:G I H (f+1) [] ss) (hp:I.S0 p (.list [.ref n])) (hv:Lf0 I n v) (q:∀H' j,G I H' f [] ss->Kn I H H'->AL I H' T j [v]->Q (.ref j) H'):Cl (pg sa sl) k (.f 51) [.ref I.r,.ref p,.ref I.fr] H Q X:=by
 refine jk hv.nd fun kd ps hn hz=>jK hz fun e1 e2 e3 e4 e5=>u_fn (dk0 hk rfl) rfl rfl (qr (qa rfl) ?_);have g0:G I (H++[AO.list []]) (f+1) [] ss:=g.push;refine jx (yr2 (a:=.ref p) (fun F q=>q) (y1 (g0.kp _ _ hp)) rfl (fun i σ=>(i=0/\σ=⟨H++[AO.list []],[(0,.ref I.r),(90,.ref p),(66,.ref I.fr),(16,.ref H.length)]⟩)\/
  (i=1/\∃H' x y,σ=⟨H',[(0,.ref I.r),(90,.ref p),(66,.ref I.fr),(16,.ref H.length),(20,x),(79,y)]⟩/\G I H' f [] ss/\Kn I H H'/\AL I H' T H.length [v])) 1 (.inl ⟨rfl,rfl⟩) fun i σ hJ=>?_)
 rcases hJ with ⟨rfl,rfl⟩|⟨rfl,H',x,y,rfl,g',k',a'⟩
 ·refine rz (kw1 (g0.kp _ _ hp)) (⟨by decide,?_⟩);refine jp hn fun j pp n1 n2 n3=>ya3 (g0.kp _ _ hp) (by exact qc (by decide:1<2) (by decide)) (jd (g0.kp _ _ n1) (g0.kp _ _ n2) rfl rfl ?_);refine (?_:(match ((59==kd)||((93==kd)||((95==kd)||false))) with
   |true=>_
   |false=>_))
  refine rz e3 (rz e4 (rz e5 ?_));refine kt (b:=.append) jh rfl rfl (jk g0.js fun st md hst h2=>jb (g0.kp _ _ B.r) h2 rfl rfl rfl (yS (dk1 hk rfl) B hg g0 hv fun H1 g1 k1=>?_));have hl:=k1.2 _ _ g.len (jh (H:=H) (o:=.list []));exact km hl (qn _) (.inr ⟨rfl,_,_,_,rfl,g1.setNew B g.len,(Kn.push.trans k1).setNew (qm _),⟨g.len,jv hl,fun x hx=>by exact rz (qB.mp hx) hv.ok,by simp⟩⟩)
 ·exact rz (kw1 (g'.kp _ _ hp)) (q _ _ g' k' a')
theorem yK7 (hk:1<=k) (q:Q (.int 10) H):Cl (pg sa sl) k (.f 3) [.int 10,.int 64] H Q X:=by
 exact u_fn hk rfl rfl (qr (by decide) (qr (by decide) (q)))
theorem yL7 (hk:1<=k) (q:Q (.int (-5)) H):Cl (pg sa sl) k (.f 3) [.int (-5),.int 64] H Q X:=by
 exact u_fn hk rfl rfl (qr (by decide) (qr (by decide) (qr (by decide) (q))))
theorem yd12 (hk:2<=k) (q:Q (.int 0) H):Cl (pg sa sl) k (.f 9) [.bytes [115],.int 0] H Q X:=by
 refine u_fn (dk0 hk rfl) rfl rfl (jx (ka1 (fun n σ=>σ=_) 0 rfl fun n σ hσ=>?_));subst hσ;exact yc (qa rfl) (yd ⟨by decide,by decide,qa rfl⟩ (u_fn (dk1 hk rfl) rfl rfl (q)))
theorem yK9 (hk:1<=k) (q:Q (.int 28) H):Cl (pg sa sl) k (.f 7) [.int 115] H Q X:=by
 exact u_fn (dk0 hk rfl) rfl rfl (q)
theorem yc12 (hk:2<=k) (q:Q (.tup [.int 0,.int 0]) H):Cl (pg sa sl) k (.f 8) [.bytes [115],.int 0,.int 10] H Q X:=by
 refine u_fn (dk0 hk rfl) rfl rfl (jx (ka1 (fun n σ=>σ=_) 0 rfl fun n σ hσ=>?_));subst hσ;exact yc (qa rfl) (yd ⟨by decide,by decide,qa rfl⟩ (yK9 (dk1 hk rfl) (qr (qa rfl) q)))
theorem yM9 {l:Nat} (hk:4<=k) (q:Q .nil H):Cl (pg sa sl) k (.f 10) [.bytes [115],.ref l] H Q X:=by
 refine u_fn (dk0 hk rfl) rfl rfl (u_fn (dk1 hk rfl) rfl rfl (yd12 (dk2 hk rfl) (qr (qa rfl) (qr rfl ?_))));exact yc (qa rfl) (yd ⟨by decide,by decide,qa rfl⟩ (yc (qa rfl) (yc12 (dk2 hk rfl) (qr rfl (q)))))
noncomputable def Th:Vl->Prop
 |.tab i=>i<4
 |.int i=>i=5
 |.bytes l=>l=[115]
 |.nil=>True
 |.bool _=>False
theorem Th.ok (h:Th v):v.ok:=by rcases v with _|_|_|_|_<;>first|exact h|trivial
noncomputable def numV:Vl->AV
 |.int i=>.int i
 |_=>.nil
theorem zn {l:Nat} (hk:5<=k) (w:Ws I W T F M tx) (g:G I H f fs ss) (hv:Th v) (q:Q (numV v) H):Cl (pg sa sl) k (.f 12) [v.rv T,.ref l] H Q X:=by
 refine u_fn (dk0 hk rfl) rfl rfl (j0 (dk1 hk rfl) (w.lv g hv.ok) ?_);rcases v with _|_|i|l|i
 ·exact q
 ·exact hv.elim
 ·exact q
 ·subst hv;exact yM9 (dk1 hk rfl) q
 ·exact jD ((w.tab i hv).tb g) fun jt ti tj t1 t2 t3 t4=>j1 t1 t2 rfl (q)
noncomputable def txtV:Vl->AV
 |.int _=>.bytes [53]
 |.bytes l=>.bytes l
 |_=>.nil
theorem y12 (hk:2<=k) (w:Ws I W T F M tx) (g:G I H f fs ss) (hv:Th v) (q:∀H',G I H' f fs ss->Kn I H H'->Q (txtV v) H'):Cl (pg sa sl) k (.f 14) [v.rv T] H Q X:=by
 refine u_fn (dk0 hk rfl) rfl rfl ?_;rcases v with _|_|i|l|i
 ·exact j0 (dk1 hk rfl) .nil (q H g .refl)
 ·exact hv.elim
 ·subst hv;exact j0 (dk1 hk rfl) (.int _) (zQ (c:=53) (dk1 hk rfl) (.inr ⟨rfl,rfl⟩) (q _ g.push .push))
 ·exact q H g .refl
 ·exact jD ((w.tab i hv).tb g) fun jt ti tj t1 t2 t3 t4=>j1 t1 t2 rfl (j0 (dk1 hk rfl) (w.lv g (v:=.tab i) hv) (q H g .refl))
noncomputable def evA:List UInt8:=[95,95,97,100,100]
noncomputable def evN:List UInt8:=[95,95,99,111,110,99,97,116]
noncomputable def evU:List UInt8:=[95,95,117,110,109]
noncomputable def Wo.bin (W:Wo) (a b:Vl) (e:List UInt8):Oc:=match (W.hd a e).or (W.hd b e) with
 |some x=>W.run x [a,b] resV
 |none=>.bad
noncomputable def Wo.ad (W:Wo) (a b:Vl):Oc:=match a,b with
 |.int _,.int _=>.val (.int 10)
 |_,_=>W.bin a b evA
noncomputable def Wo.cat (W:Wo) (a b:Vl):Oc:=match txtV a,txtV b with
 |.bytes l,.bytes m=>.val (.bytes (l++m))
 |_,_=>W.bin a b evN
noncomputable def Wo.unm (W:Wo) (a:Vl):Oc:=match a with
 |.int _=>.val (.int (-5))
 |_=>match W.hd a evU with
  |some x=>W.run x [a,a] resV
  |none=>.bad
variable {i:Nat}
theorem yO5 {F:List AV->St->Prop} {l:List AV} (h:H[i]? =some (.list l)) (q:F l ⟨H,m⟩):unpQ false F (.ref i) ⟨H,m⟩:=⟨rfl,jj (jU h) q⟩
variable {b:Vl}
theorem yO11 (w:Ws I W T F M tx) {e:List UInt8} (ha:a.ok) (hb:b.ok) (h:(W.hd a e).or (W.hd b e)=some x):x.ok:=by
 rcases hx:W.hd a e with _|y
 ·rw [hx] at h;exact w.hok hb h
 ·rw [hx] at h;obtain rfl:=qq h;exact w.hok ha hx
theorem y45 (ha:a.ok) (hb:b.ok):∀v∈[a,b],v.ok:=fun v hv=>by
 rcases qC.mp hv with rfl|hv
 ·exact ha
 ·exact rz (qB.mp hv) hb
variable {rt:Nat}
theorem yE5 {lf:Nat} (hk:14<=k) (B:Bs I tx gs) (w:Ws I W T F M tx) (g:G I H (f+1) [] ss) (hs:ss.length<=1000) (hn:Nd0 I n 98 [.str 131,.ref lf,.ref rt]) (hl:Lf0 I lf a) (hr:Lf0 I rt b) (ha:Th a) (hb:Th b)
 (q:jq I H f ss (W.ad a b) (fun v H'=>Q (v.rv T) H') X):Cl (pg sa sl) k (.f 59) [.ref I.r,.str 131,a.rv T,b.rv T,.ref n,.ref I.fr] H Q X:=by
 refine jk g.js fun st md hst h2=>?_;have h1:=g.kp _ _ B.r;refine x_EA B.lm fun jl l1 l2=>jp hn fun jn pn n1 n2 n3=>u_fn (dk0 hk rfl) rfl rfl (jd h1 h2 rfl rfl (zn (dk1 hk rfl) w g ha (jd h1 h2 rfl rfl (zn (dk1 hk rfl) w g hb (qr (qa rfl) (qr rfl ?_))))));refine yl8 (l:=ariL) (v:=.bytes [97,100,100]) rfl rfl rfl ?_;have tail:jq I H f ss (W.bin a b evA) (fun v H'=>Q (v.rv T) H') X->wpS (pg sa sl) (Cl (pg sa sl) (k-1)) (.seq (.asg 60 (.meth (.nm 0) 127 (.cons (.nm 43) (.cons (.nm 44) (.cons (.bin .Add (.bytes [95,95]) (.nm 56)) .nil))))) (.seq (.ite (.cmp .IsNot (.nm 60) .none) (.seq (.ret (.meth (.nm 0) 68 (.cons (.nm 60) (.cons (.list (.cons (.nm 43) (.cons (.nm 44) .nil))) .nil)))) .done) .done) (.seq (.ite (.cmp .Is (.nm 14) .none) (.seq (.expr (.meth (.nm 0) 63 (.cons (.nm 43) (.cons (.bytes [112,101,114,102,111,114,109,32,97,114,105,116,104,109,101,116,105,99,32,111,110]) (.cons (.meth (.nm 0) 94 (.cons (.sub (.attr (.nm 79) 83) (.int 1)) (.cons (.nm 66) .nil))) .nil))))) .done) .done) (.seq (.expr (.meth (.nm 0) 63 (.cons (.nm 44) (.cons (.bytes [112,101,114,102,111,114,109,32,97,114,105,116,104,109,101,116,105,99,32,111,110]) (.cons (.meth (.nm 0) 94 (.cons (.sub (.attr (.nm 79) 83) (.int 2)) (.cons (.nm 66) .nil))) .nil))))) .done)))) (jw Q) (exH X) ⟨H,[(0,.ref I.r),(86,.str 131),(43,a.rv T),(44,b.rv T),(79,.ref n),(66,.ref I.fr),(15,numV b),(14,numV a),(56,.bytes [97,100,100])]⟩:=fun q=>by
  refine jb h1 h2 rfl rfl rfl (qr (qa rfl) (yR4 (b:=evA) (dk1 hk rfl) ha.ok hb.ok B w g ?_));unfold Wo.bin at q;rcases hx:(W.hd a evA).or (W.hd b evA) with _|x
  ·rw [hx] at q;have q':∀H',G I H' (f+1) [] ss->Kn I H H'->X H':=fun H' g' k'=>q H' (g'.less (qp f)) k';refine (?_:(match jr (numV a) with
    |true=>_
    |false=>_))
   rcases jr (numV a) with _|_
   ·exact jb h1 h2 rfl rfl rfl (jb h1 h2 rfl rfl rfl (jd (g.kp _ _ n1) (g.kp _ _ n2) rfl rfl (jo (v:=.ref rt) (g.kp _ _ n3) ⟨by decide,by decide⟩ rfl (z9 (dk1 hk rfl) g hr fun l hll=>jZ (dk1 hk rfl) B g (w.lv g hb.ok) (qa rfl) hll q'))))
   ·exact jb h1 h2 rfl rfl rfl (jb h1 h2 rfl rfl rfl (jd (g.kp _ _ n1) (g.kp _ _ n2) rfl rfl (jo (v:=.ref lf) (g.kp _ _ n3) ⟨by decide,by decide⟩ rfl (z9 (dk1 hk rfl) g hl fun l hll=>jZ (dk1 hk rfl) B g (w.lv g ha.ok) (qa rfl) hll q'))))
  ·rw [hx] at q;have hi:jr (x.rv T F)=false:=by rcases x with _|_<;>rfl
   refine (?_:(match !jr (x.rv T F) with
    |true=>_
    |false=>_))
   exact rz hi (jb h1 h2 rfl rfl rfl (qr (qa rfl) (yH3 (vs:=[a,b]) (dk1 hk rfl) (yO11 w ha.ok hb.ok hx) B w g.push ⟨g.len,jh,y45 ha.ok hb.ok,by simp⟩ (by simp) hs (jq.kn Kn.push q))))
 rcases (show (a=.int 5/\b=.int 5)\/((jr (numV a)=true\/jr (numV b)=true)/\W.ad a b=W.bin a b evA) from by
  rcases a with _|_|i|_|_
  ·exact .inr ⟨.inl rfl,rfl⟩
  ·exact .inr ⟨.inl rfl,rfl⟩
  ·rcases b with _|_|j|_|_
   ·exact .inr ⟨.inr rfl,rfl⟩
   ·exact .inr ⟨.inr rfl,rfl⟩
   ·exact .inl ⟨congrArg _ ha,congrArg _ hb⟩
   ·exact .inr ⟨.inr rfl,rfl⟩
   ·exact .inr ⟨.inr rfl,rfl⟩
  ·exact .inr ⟨.inl rfl,rfl⟩
  ·exact .inr ⟨.inl rfl,rfl⟩) with ⟨rfl,rfl⟩|⟨hi,e⟩
 ·exact jd h1 h2 rfl rfl (u_fn (dk1 hk rfl) rfl rfl (jd (g.kp _ _ l1) (g.kp _ _ l2) rfl rfl (yK7 (dk2 hk rfl) (q H (g.less (qp f)) .refl))))
 ·rw [e] at q;refine (?_:(match !jr (numV a) with
   |true=>_
   |false=>_))
  rcases ha':jr (numV a) with _|_
  ·rcases hi with hi|hi
   ·rw [hi] at ha';injection ha'
   ·refine (?_:(match !jr (numV b) with
     |true=>_
     |false=>_))
    exact rz hi (tail q)
  ·exact tail q
theorem yF7 {lf:Nat} {wd:AV} (hk:14<=k) (B:Bs I tx gs) (w:Ws I W T F M tx) (g:G I H (f+1) [] ss) (hs:ss.length<=1000) (hn:Nd0 I n 98 [wd,.ref lf,.ref rt]) (hl:Lf0 I lf a) (hr:Lf0 I rt b) (ha:Th a) (hb:Th b)
 (q:jq I H f ss (W.cat a b) (fun v H'=>Q (v.rv T) H') X):Cl (pg sa sl) k (.f 60) [.ref I.r,a.rv T,b.rv T,.ref n,.ref I.fr] H Q X:=by
 refine x_EA B.lm fun jl l1 l2=>jp hn fun jn pn n1 n2 n3=>u_fn (dk0 hk rfl) rfl rfl (y12 (dk1 hk rfl) w g ha fun H1 g1 k1=>y12 (dk1 hk rfl) w g1 hb fun H2 g2 k2=>?_);have q:=jq.kn (k1.trans k2) q;clear g k1 k2 g1;refine jk g2.js fun st md hst h2=>?_;have h1:=g2.kp _ _ B.r;refine qr (qa rfl) (qr rfl ?_);have tail:jq I H2 f ss (W.bin a b evN) (fun v H'=>Q (v.rv T) H') X->wpS (pg sa sl) (Cl (pg sa sl) (k-1)) (.seq (.asg 60 (.meth (.nm 0) 127 (.cons (.nm 43) (.cons (.nm 44) (.cons (.bytes [95,95,99,111,110,99,97,116]) .nil))))) (.seq (.ite (.cmp .IsNot (.nm 60) .none) (.seq (.ret (.meth (.nm 0) 68 (.cons (.nm 60) (.cons (.list (.cons (.nm 43) (.cons (.nm 44) .nil))) .nil)))) .done) .done) (.seq (.ite (.cmp .Is (.nm 14) .none) (.seq (.expr (.meth (.nm 0) 63 (.cons (.nm 43) (.cons (.bytes [99,111,110,99,97,116,101,110,97,116,101]) (.cons (.meth (.nm 0) 94 (.cons (.sub (.attr (.nm 79) 83) (.int 1)) (.cons (.nm 66) .nil))) .nil))))) .done) .done) (.seq (.expr (.meth (.nm 0) 63 (.cons (.nm 44) (.cons (.bytes [99,111,110,99,97,116,101,110,97,116,101]) (.cons (.meth (.nm 0) 94 (.cons (.sub (.attr (.nm 79) 83) (.int 2)) (.cons (.nm 66) .nil))) .nil))))) .done)))) (jw Q) (exH X) ⟨H2,[(0,.ref I.r),(43,a.rv T),(44,b.rv T),(79,.ref n),(66,.ref I.fr),(15,txtV b),(14,txtV a)]⟩:=fun q=>by
  refine jb h1 h2 rfl rfl rfl (yR4 (b:=evN) (dk1 hk rfl) ha.ok hb.ok B w g2 ?_);unfold Wo.bin at q;rcases hx:(W.hd a evN).or (W.hd b evN) with _|x
  ·rw [hx] at q;have q':∀H',G I H' (f+1) [] ss->Kn I H2 H'->X H':=fun H' g' k'=>q H' (g'.less (qp f)) k';refine (?_:(match jr (txtV a) with
    |true=>_
    |false=>_))
   rcases jr (txtV a) with _|_
   ·exact jb h1 h2 rfl rfl rfl (jb h1 h2 rfl rfl rfl (jd (g2.kp _ _ n1) (g2.kp _ _ n2) rfl rfl (jo (v:=.ref rt) (g2.kp _ _ n3) ⟨by decide,by decide⟩ rfl (z9 (dk1 hk rfl) g2 hr fun l hll=>jZ (dk1 hk rfl) B g2 (w.lv g2 hb.ok) (qa rfl) hll q'))))
   ·exact jb h1 h2 rfl rfl rfl (jb h1 h2 rfl rfl rfl (jd (g2.kp _ _ n1) (g2.kp _ _ n2) rfl rfl (jo (v:=.ref lf) (g2.kp _ _ n3) ⟨by decide,by decide⟩ rfl (z9 (dk1 hk rfl) g2 hl fun l hll=>jZ (dk1 hk rfl) B g2 (w.lv g2 ha.ok) (qa rfl) hll q'))))
  ·rw [hx] at q;have hi:jr (x.rv T F)=false:=by rcases x with _|_<;>rfl
   refine (?_:(match !jr (x.rv T F) with
    |true=>_
    |false=>_))
   exact rz hi (jb h1 h2 rfl rfl rfl (qr (qa rfl) (yH3 (vs:=[a,b]) (dk1 hk rfl) (yO11 w ha.ok hb.ok hx) B w g2.push ⟨g2.len,jh,y45 ha.ok hb.ok,by simp⟩ (by simp) hs (jq.kn Kn.push q))))
 rcases (show (∃l m,l.length=1/\m.length=1/\txtV a=.bytes l/\txtV b=.bytes m)\/((jr (txtV a)=true\/jr (txtV b)=true)/\W.cat a b=W.bin a b evN) from by
  have one:∀{v:Vl},Th v->jr (txtV v)=true\/∃l,l.length=1/\txtV v=.bytes l:=fun {v} hv=>by
   rcases v with _|_|i|l|_
   ·exact .inl rfl
   ·exact .inl rfl
   ·exact .inr ⟨[53],rfl,rfl⟩
   ·subst hv;exact .inr ⟨[115],rfl,rfl⟩
   ·exact .inl rfl
  unfold Wo.cat;rcases one ha with h|⟨l,hl,e⟩
  ·refine .inr ⟨.inl h,?_⟩;rcases a with _|_|_|_|_<;>first|rfl|injection h
  ·rcases one hb with h|⟨m,hm,e'⟩
   ·refine .inr ⟨.inr h,?_⟩;refine rz e ?_;rcases b with _|_|_|_|_<;>first|rfl|injection h
   ·exact .inl ⟨l,m,hl,hm,e,e'⟩) with ⟨l,m,hl1,hm1,e,e'⟩|⟨hi,e⟩
 ·unfold Wo.cat at q;rw [e,e'] at q;refine (?_:wpS _ _ _ _ _ ⟨H2,[(0,.ref I.r),(43,a.rv T),(44,b.rv T),(79,.ref n),(66,.ref I.fr),(15,txtV b),(14,txtV a)]⟩);refine rz e (rz e' ?_);refine yc (by lia) (yc (by lia) ?_);refine rz hl1 (rz hm1 ?_);exact jd h1 h2 rfl rfl (jd (g2.kp _ _ l1) (g2.kp _ _ l2) rfl rfl (qr (by lia) (q H2 (g2.less (qp f)) .refl)))
 ·rw [e] at q;refine (?_:(match !jr (txtV a) with
   |true=>_
   |false=>_))
  rcases ha':jr (txtV a) with _|_
  ·rcases hi with hi|hi
   ·rw [hi] at ha';injection ha'
   ·refine (?_:(match !jr (txtV b) with
     |true=>_
     |false=>_))
    exact rz hi (tail q)
  ·exact tail q
variable {op:Nat}
theorem yN9 (hk:14<=k) (B:Bs I tx gs) (hg:∀i,i<4->tg gs (tn i)=.ref (T i)) (w:Ws I W T F M tx) (g:G I H (f+2) [] ss) (hs:ss.length<=1000) (hn:Nd0 I n 103 [.str 111,.ref op]) (hl:Lf0 I op a) (ha:Th a)
 (q:jq I H f ss (W.unm a) (fun v H'=>Q (v.rv T) H') X):Cl (pg sa sl) k (.f 57) [.ref I.r,.ref n,.ref I.fr] H Q X:=by
 refine jk g.js fun st md hst h2=>?_;have h1:=g.kp _ _ B.r;refine x_EA B.lm fun jl l1 l2=>jp hn fun jn pn n1 n2 n3=>u_fn (dk0 hk rfl) rfl rfl (jd (g.kp _ _ n1) (g.kp _ _ n2) rfl rfl (yO5 (g.kp _ _ n3) (qr rfl (jb h1 h2 rfl rfl rfl (yS (dk1 hk rfl) B hg g hl fun H1 g1 k1=>?_)))));have q:=jq.kn k1 q;refine jd (g1.kp _ _ n1) (g1.kp _ _ n2) rfl rfl (x_EA g1.jf fun ln hln f2=>zp (g1.kp _ _ B.fr) f2 rfl rfl (qa rfl) ?_);have g2:G I (H1.set I.jf (.dict (I.fD 1))) (f+1) [] ss:=g1.setJf B (.inr rfl);have q:=jq.kn (Kn.set (H:=H1) (o:=.dict (I.fD 1)) B.b2) q;refine (?_:wpS _ _ _ _ _ ⟨H1.set I.jf (.dict (I.fD 1)),[(0,.ref I.r),(79,.ref n),(66,.ref I.fr),(86,.str 111),(109,.ref op),(11,a.rv T)]⟩);generalize H1.set I.jf (.dict (I.fD 1))=H2 at g2 q⊢;clear g h1 h2 hst k1 g1 f2;refine jk g2.js fun st md hst h2=>?_;have h1:=g2.kp _ _ B.r;refine jd h1 h2 rfl rfl (zn (dk1 hk rfl) w g2 ha ?_);rcases (show (a=.int 5)\/(jr (numV a)=true/\W.unm a=match W.hd a evU with
  |some x=>W.run x [a,a] resV
  |none=>.bad) from by
  rcases a with _|_|i|_|_
  ·exact .inr ⟨rfl,rfl⟩
  ·exact .inr ⟨rfl,rfl⟩
  ·exact .inl (congrArg _ ha)
  ·exact .inr ⟨rfl,rfl⟩
  ·exact .inr ⟨rfl,rfl⟩) with rfl|⟨hi,e⟩
 ·exact jd h1 h2 rfl rfl (u_fn (dk1 hk rfl) rfl rfl (jd (g2.kp _ _ l1) (g2.kp _ _ l2) rfl rfl (yL7 (dk2 hk rfl) (q H2 (g2.less (qp f)) .refl))))
 ·rw [e] at q;refine (?_:(match !jr (numV a) with
   |true=>_
   |false=>_))
  refine rz hi (jb h1 h2 rfl rfl rfl (j8 (b:=evU) (dk1 hk rfl) B w g2 ha.ok ?_));rcases hx:W.hd a evU with _|x
  ·rw [hx] at q;exact jb h1 h2 rfl rfl rfl (jb h1 h2 rfl rfl rfl (z9 (dk1 hk rfl) g2 hl fun l hll=>jZ (dk1 hk rfl) B g2 (w.lv g2 ha.ok) (qa rfl) hll fun H' g' k'=>q H' (g'.less (qp f)) k'))
  ·rw [hx] at q;have hi:jr (x.rv T F)=false:=by rcases x with _|_<;>rfl
   refine (?_:(match !jr (x.rv T F) with
    |true=>_
    |false=>_))
   exact rz hi (jb h1 h2 rfl rfl rfl (qr (qa rfl) (yH3 (vs:=[a,a]) (dk1 hk rfl) (w.hok ha.ok hx) B w g2.push ⟨g2.len,jh,y45 ha.ok ha.ok,by simp⟩ (by simp) hs (jq.kn Kn.push q))))
noncomputable def Oc.inv:Oc->Oc
 |.val (.bool b)=>.val (.bool (!b))
 |.call n us (.bool b)=>.call n us (.bool (!b))
 |o=>o
noncomputable def IsB:Oc->Prop
 |.val v=>∃r,v=.bool r
 |.call _ _ v=>∃r,v=.bool r
 |.bad=>True
noncomputable def Wo.word (W:Wo) (wd:Nat) (a b:Vl):Oc:=match wd with
 |119=>W.eq a b
 |118=>(W.eq a b).inv
 |115=>W.lt a b
 |132=>W.le a b
 |114=>W.lt b a
 |117=>W.le b a
 |123=>W.cat a b
 |_=>W.ad a b
theorem yy15 {vs:List Vl} {g:Nat->Bool}:IsB (W.run x vs fun n=>.bool (g n)):=by
 unfold Wo.run;rcases W.cf x vs with _|p
 ·trivial
 ·exact ⟨_,rfl⟩
theorem eq_b:IsB (W.eq a b):=by
 unfold Wo.eq;split
 ·exact ⟨_,rfl⟩
 ·split
  ·unfold Wo.cmpd;rename_i i j _;rcases W.both (.tab i) (.tab j) evE with _|x
   ·exact ⟨_,rfl⟩
   ·exact yy15
  ·exact ⟨_,rfl⟩
variable {wd:Nat}
theorem kB1 {lf:Nat} (hk:16<=k) (hw:(wd==126)=false/\(wd==125)=false/\(wd==123)=false) (B:Bs I tx gs) (hg:∀i,i<4->tg gs (tn i)=.ref (T i)) (g:G I H (f+2) [] ss) (hn:Nd0 I n 98 [.str wd,.ref lf,.ref rt]) (hl:Lf0 I lf a) (hr:Lf0 I rt b)
 (q:∀H' c d,G I H' f [] ss->Kn I H H'->Ce I H' c (a.rv T)->Ce I H' d (b.rv T)->wpS (pg sa sl) (Cl (pg sa sl) (k-1)) (.seq (.ite (.cmp .In (.nm 86) (.gv 3)) (.seq (.ret (.meth (.nm 0) 121 (.cons (.nm 86) (.cons (.attr (.nm 43) 11) (.cons (.attr (.nm 44) 11) (.cons (.nm 79) (.cons (.nm 66) .nil))))))) .done) .done) (.seq (.ite (.or (.cmp .Eq (.nm 86) (.str 119)) (.cmp .Eq (.nm 86) (.str 118))) (.seq (.ret (.cmp .Eq (.meth (.nm 0) 120 (.cons (.attr (.nm 43) 11) (.cons (.attr (.nm 44) 11) .nil))) (.cmp .Eq (.nm 86) (.str 119)))) .done) .done) (.seq (.ite (.or (.cmp .Eq (.nm 86) (.str 114)) (.cmp .Eq (.nm 86) (.str 117))) (.seq (.asgT true [43,44] (.tup (.cons (.nm 44) (.cons (.nm 43) .nil)))) .done) .done) (.seq (.ite (.or (.cmp .Eq (.nm 86) (.str 115)) (.cmp .Eq (.nm 86) (.str 114))) (.seq (.ret (.meth (.nm 0) 116 (.cons (.attr (.nm 43) 11) (.cons (.attr (.nm 44) 11) .nil)))) .done) .done) (.seq (.ret (.meth (.nm 0) 113 (.cons (.attr (.nm 43) 11) (.cons (.attr (.nm 44) 11) .nil)))) .done))))) (jw Q) (exH X) ⟨H',[(0,.ref I.r),(79,.ref n),(66,.ref I.fr),(86,.str wd),(28,.ref lf),(122,.ref rt),(43,.ref c),(44,.ref d)]⟩):
 Cl (pg sa sl) k (.f 58) [.ref I.r,.ref n,.ref I.fr] H Q X:=by
 refine jk g.js fun st md hst h2=>?_;have h1:=g.kp _ _ B.r;refine jp hn fun jn pn n1 n2 n3=>u_fn (dk0 hk rfl) rfl rfl (jd (g.kp _ _ n1) (g.kp _ _ n2) rfl rfl (yO5 (g.kp _ _ n3) (qr rfl (iF hw.1 (iF hw.2.1 (iF hw.2.2 (jb h1 h2 rfl rfl rfl (yI3 (dk1 hk rfl) B hg g hl fun H1 c g1 k1 c1=>jk g1.js fun st md hst h2=>jb (g1.kp _ _ B.r) h2 rfl rfl rfl (yI3 (dk1 hk rfl) B hg g1 hr fun H2 d g2 k2 d2=>?_)))))))));have c2:=c1.kn k2;refine jd (g2.kp _ _ n1) (g2.kp _ _ n2) rfl rfl (x_EA g2.jf fun ln hln f2=>zp (g2.kp _ _ B.fr) f2 rfl rfl (qa rfl) ?_);have k3:=Kn.set (H:=H2) (o:=.dict (I.fD 1)) B.b2;exact q _ c d (g2.setJf B (.inr rfl)) (k1.trans (k2.trans k3)) (c2.kn k3) (d2.kn k3)
theorem yD7 {lf:Nat} (hk:17<=k) (hw:wd∈[119,118,115,132,114,117,123,131]) (B:Bs I tx gs) (hg:∀i,i<4->tg gs (tn i)=.ref (T i)) (w:Ws I W T F M tx) (g:G I H (f+3) [] ss) (hs:ss.length<=1000) (hn:Nd0 I n 98 [.str wd,.ref lf,.ref rt]) (hl:Lf0 I lf a) (hr:Lf0 I rt b) (ha:Th a) (hb:Th b)
 (q:jq I H f ss (W.word wd a b) (fun v H'=>Q (v.rv T) H') X):Cl (pg sa sl) k (.f 58) [.ref I.r,.ref n,.ref I.fr] H Q X:=by
 simp only [qC,List.not_mem_nil,or_false] at hw;rcases hw with rfl|rfl|rfl|rfl|rfl|rfl|rfl|rfl
 ·refine kB1 (f:=f+1) (dk0 hk rfl) ⟨rfl,rfl,rfl⟩ B hg g hn hl hr fun H1 c d g1 k1 ⟨cj,c1,c2,c3,c4⟩ ⟨dj,d1,d2,d3,d4⟩=>?_;have q:=jq.kn k1 q;refine jk g1.js fun st md hst h2=>jb (g1.kp _ _ B.r) h2 rfl rfl rfl (jd c3 c4 rfl rfl (jd d3 d4 rfl rfl (yi6 (dk1 hk rfl) ha.ok hb.ok B w g1 hs ?_)));have e:=eq_b (W:=W) (a:=a) (b:=b);change jq I H1 f ss (W.eq a b) (fun v H'=>Q (v.rv T) H') X at q;rcases ho:W.eq a b with v|⟨n,us,v⟩|_
  ·rw [ho] at e q;obtain ⟨r,rfl⟩:=e;intro H' g' k';have:=q H' g' k';rcases r with _|_<;>exact this
  ·rw [ho] at e q;obtain ⟨r,rfl⟩:=e;intro hn H' b g' k' b1 b2;have:=q hn H' b g' k' b1 b2;rcases r with _|_<;>exact this
  ·rw [ho] at q;exact q
 ·refine kB1 (f:=f+1) (dk0 hk rfl) ⟨rfl,rfl,rfl⟩ B hg g hn hl hr fun H1 c d g1 k1 ⟨cj,c1,c2,c3,c4⟩ ⟨dj,d1,d2,d3,d4⟩=>?_;have q:=jq.kn k1 q;obtain ⟨st,md,hst,h2⟩:=g1.js
  refine jb (g1.kp _ _ B.r) h2 rfl rfl rfl (jd c3 c4 rfl rfl (jd d3 d4 rfl rfl (yi6 (dk1 hk rfl) ha.ok hb.ok B w g1 hs ?_)));have e:=eq_b (W:=W) (a:=a) (b:=b);change jq I H1 f ss (W.eq a b).inv (fun v H'=>Q (v.rv T) H') X at q;rcases ho:W.eq a b with v|⟨n,us,v⟩|_
  ·rw [ho] at e q;obtain ⟨r,rfl⟩:=e;intro H' g' k';have:=q H' g' k';rcases r with _|_<;>exact this
  ·rw [ho] at e q;obtain ⟨r,rfl⟩:=e;intro hn H' b g' k' b1 b2;have:=q hn H' b g' k' b1 b2;rcases r with _|_<;>exact this
  ·rw [ho] at q;exact q
 ·refine kB1 (f:=f+1) (dk0 hk rfl) ⟨rfl,rfl,rfl⟩ B hg g hn hl hr fun H1 c d g1 k1 ⟨cj,c1,c2,c3,c4⟩ ⟨dj,d1,d2,d3,d4⟩=>?_;obtain ⟨st,md,hst,h2⟩:=g1.js
  exact jb (g1.kp _ _ B.r) h2 rfl rfl rfl (jd c3 c4 rfl rfl (jd d3 d4 rfl rfl (yG7 (dk1 hk rfl) ha.ok hb.ok B w g1 hs (jq.kn k1 q))))
 ·exact kB1 (f:=f+1) (dk0 hk rfl) ⟨rfl,rfl,rfl⟩ B hg g hn hl hr fun H1 c d g1 k1 ⟨cj,c1,c2,c3,c4⟩ ⟨dj,d1,d2,d3,d4⟩=>jk g1.js fun st md hst h2=>jb (g1.kp _ _ B.r) h2 rfl rfl rfl (jd c3 c4 rfl rfl (jd d3 d4 rfl rfl (yZ2 (dk1 hk rfl) ha.ok hb.ok B w g1 hs (jq.kn k1 q))))
 ·refine kB1 (f:=f+1) (dk0 hk rfl) ⟨rfl,rfl,rfl⟩ B hg g hn hl hr fun H1 c d g1 k1 ⟨cj,c1,c2,c3,c4⟩ ⟨dj,d1,d2,d3,d4⟩=>jk g1.js fun st md hst h2=>qr (qa rfl) (qr rfl ?_);exact jb (g1.kp _ _ B.r) h2 rfl rfl rfl (jd d3 d4 rfl rfl (jd c3 c4 rfl rfl (yG7 (dk1 hk rfl) hb.ok ha.ok B w g1 hs (jq.kn k1 q))))
 ·refine kB1 (f:=f+1) (dk0 hk rfl) ⟨rfl,rfl,rfl⟩ B hg g hn hl hr fun H1 c d g1 k1 ⟨cj,c1,c2,c3,c4⟩ ⟨dj,d1,d2,d3,d4⟩=>jk g1.js fun st md hst h2=>qr (qa rfl) (qr rfl ?_);exact jb (g1.kp _ _ B.r) h2 rfl rfl rfl (jd d3 d4 rfl rfl (jd c3 c4 rfl rfl (yZ2 (dk1 hk rfl) hb.ok ha.ok B w g1 hs (jq.kn k1 q))))
 ·have h1:=g.kp _ _ B.r;refine jk g.js fun st md hst h2=>?_;have hn':=hn;refine jp hn' fun jn pn n1 n2 n3=>u_fn (dk0 hk rfl) rfl rfl (jd (g.kp _ _ n1) (g.kp _ _ n2) rfl rfl (yO5 (g.kp _ _ n3) (qr rfl (jb h1 h2 rfl rfl rfl (yS (dk1 hk rfl) B hg g hl fun H1 g1 k1=>jk g1.js fun st md hst h2=>jb (g1.kp _ _ B.r) h2 rfl rfl rfl (yS (dk1 hk rfl) B hg g1 hr fun H2 g2 k2=>jd (g2.kp _ _ n1) (g2.kp _ _ n2) rfl rfl (x_EA g2.jf fun ln hln f2=>zp (g2.kp _ _ B.fr) f2 rfl rfl (qa rfl) ?_)))))));have k3:=Kn.set (H:=H2) (o:=.dict (I.fD 1)) B.b2;have g3:G I (H2.set I.jf (.dict (I.fD 1))) (f+1) [] ss:=g2.setJf B (.inr rfl);exact jk g3.js fun st md hst h2=>jb (g3.kp _ _ B.r) h2 rfl rfl rfl (yF7 (dk1 hk rfl) B w g3 hs hn hl hr ha hb (jq.kn (k1.trans (k2.trans k3)) q))
 ·exact kB1 (f:=f+1) (dk0 hk rfl) ⟨rfl,rfl,rfl⟩ B hg g hn hl hr fun H1 c d g1 k1 ⟨cj,c1,c2,c3,c4⟩ ⟨dj,d1,d2,d3,d4⟩=>jk g1.js fun st md hst h2=>jb (g1.kp _ _ B.r) h2 rfl rfl rfl (jd c3 c4 rfl rfl (jd d3 d4 rfl rfl (yE5 (dk1 hk rfl) B w g1 hs hn hl hr ha hb (jq.kn k1 q))))
noncomputable def Wo.cv (W:Wo) (v:Vl) (vs:List Vl):Oc:=match W.hd v evC with
 |some (.fn n)=>.call n (v::vs) (resV n)
 |_=>.bad
theorem yb12 {x:Nat} (hk:14<=k) (B:Bs I tx gs) (hg:∀i,i<4->tg gs (tn i)=.ref (T i)) (w:Ws I W T F M tx) (g:G I H (f+4) [] ss) (hs:ss.length<=1000) (hn:Nd0 I n 59 [.ref c,.ref p]) (hl:Lf0 I c a) (hp:I.S0 p (.list [.ref x])) (hx:Lf0 I x b)
 (q:match W.hd a evC with
  |some (.fn i)=>yc6 I H f ss i [a,b] Q
  |_=>∀H',G I H' f [] ss->Kn I H H'->X H'):Cl (pg sa sl) k (.f 52) [.ref I.r,.ref n,.ref I.fr] H Q X:=by
 refine jk g.js fun st md hst h2=>jp hn fun jn pn n1 n2 n3=>u_fn (dk0 hk rfl) rfl rfl (jb (g.kp _ _ B.r) h2 rfl rfl rfl (yN3 (dk1 hk rfl) B g fun H1 g1 k1=>jd (g1.kp _ _ n1) (g1.kp _ _ n2) rfl rfl (jd (g1.kp _ _ n1) (g1.kp _ _ n2) rfl rfl ?_)));clear h2 hst;refine jk g1.js fun st md hst h2=>jb (g1.kp _ _ B.r) h2 rfl rfl rfl (jd (g1.kp _ _ n1) (g1.kp _ _ n2) rfl rfl (jo (v:=.ref c) (g1.kp _ _ n3) ⟨by decide,by decide⟩ rfl (yS (dk1 hk rfl) B hg g1 hl fun H2 g2 k2=>?_)));clear h2 hst;refine jk g2.js fun st md hst h2=>jb (g2.kp _ _ B.r) h2 rfl rfl rfl (jd (g2.kp _ _ n1) (g2.kp _ _ n2) rfl rfl (jo (v:=.ref p) (g2.kp _ _ n3) ⟨by decide,by decide⟩ rfl (yJ7 (dk1 hk rfl) B hg g2 hp hx fun H3 j g3 k3 a3=>?_)));clear h2 hst;refine jk g3.js fun st md hst h2=>jb (g3.kp _ _ B.r) h2 rfl rfl rfl (jd (g3.kp _ _ n1) (g3.kp _ _ n2) rfl rfl (jo (v:=.ref c) (g3.kp _ _ n3) ⟨by decide,by decide⟩ rfl (z9 (dk1 hk rfl) g3 hl fun l hll=>jd (g3.kp _ _ n1) (g3.kp _ _ n2) rfl rfl (x_EA g3.jf fun ln hln f2=>zp (g3.kp _ _ B.fr) f2 rfl rfl (qa rfl) ?_))));have k4:=Kn.set (H:=H3) (o:=.dict (I.fD 1)) B.b2;have g4:G I (H3.set I.jf (.dict (I.fD 1))) (f+1) [] ss:=g3.setJf B (.inr rfl);have k5:=k1.trans (k2.trans (k3.trans k4));clear h2 hst;refine jk g4.js fun st md hst h2=>jb (g4.kp _ _ B.r) h2 rfl rfl rfl (yh6 (v:=a) (nm:=l) (dk1 hk rfl) hl.ok hll B w g4 (a3.kn k4) (by simp) hs ?_);rcases ho:W.hd a evC with _|y
 ·rw [ho] at q;exact fun H' g' k'=>q H' (g'.less (qp f)) (k5.trans k')
 ·rw [ho] at q;rcases y with i|_
  ·exact fun H' b r g' k'=>q H' b r g' (k5.trans k')
  ·exact fun H' g' k'=>q H' (g'.less (qp f)) (k5.trans k')
end
inductive Nk where
 |index (o:Vl) (key:List UInt8)|call (a b:Vl)|unm (a:Vl)|word (wd:Nat) (a b:Vl)
noncomputable def Tn0 (I:RI) (n:Nat):Nk->Prop
 |.index o key=>∃x y,Nd0 I n 81 [.ref x,.ref y]/\Lf0 I x o/\Nd0 I y 82 [.bytes key]/\Th o
 |.call a b=>∃c p x,Nd0 I n 59 [.ref c,.ref p]/\Lf0 I c a/\I.S0 p (.list [.ref x])/\Lf0 I x b/\Th a/\Th b
 |.unm a=>∃x,Nd0 I n 103 [.str 111,.ref x]/\Lf0 I x a/\Th a
 |.word wd a b=>∃x y,Nd0 I n 98 [.str wd,.ref x,.ref y]/\Lf0 I x a/\Lf0 I y b/\Th a/\Th b/\wd∈[119,118,115,132,114,117,123,131]
noncomputable def Wo.nk (W:Wo):Nk->Oc
 |.index o key=>W.idx key 100 o
 |.call a b=>W.cv a [b]
 |.unm a=>W.unm a
 |.word wd a b=>W.word wd a b
section
variable {sa:Addr}
variable {sl:List AV}
variable {k:Nat}
variable {Q:AV->List AO->Prop}
variable {X:List AO->Prop}
variable {I:RI}
variable {H:List AO}
variable {f:Nat}
variable {ss:List AV}
variable {tx:List (List UInt8×AV)}
variable {gs:List (List UInt8×AV)}
variable {W:Wo}
variable {T:Nat->Nat}
variable {F:Nat->Nat}
variable {M:Nat->Nat}
variable {n:Nat}
theorem yK3 {op:Nat} {a:Vl} (hk:15<=k) (B:Bs I tx gs) (hg:∀i,i<4->tg gs (tn i)=.ref (T i)) (w:Ws I W T F M tx) (g:G I H (f+2) [] ss) (hs:ss.length<=1000) (hn:Nd0 I n 103 [.str 111,.ref op]) (hl:Lf0 I op a) (ha:Th a)
 (q:jq I H f ss (W.unm a) (fun v H'=>Q (v.rv T) H') X):Cl (pg sa sl) k (.f 55) [.ref I.r,.ref n,.ref I.fr] H Q X:=by
 refine jk g.js fun st md hst h2=>?_;have hn':=hn;refine jp hn' fun j p n1 n2 n3=>u_fn (dk0 hk rfl) rfl rfl (jd (g.kp _ _ n1) (g.kp _ _ n2) rfl rfl (jd (g.kp _ _ n1) (g.kp _ _ n2) rfl rfl (qr (qa rfl) (qr rfl ?_))));exact jb (g.kp _ _ B.r) h2 rfl rfl rfl (yN9 (dk1 hk rfl) B hg w g hs hn hl ha q)
variable {t:Nk}
theorem yO9 (hk:18<=k) (B:Bs I tx gs) (hg:∀i,i<4->tg gs (tn i)=.ref (T i)) (w:Ws I W T F M tx) (g:G I H (f+5) [] ss) (hs:ss.length<=1000) (ht:Tn0 I n t)
 (q:jq I H f ss (W.nk t) (fun v H'=>Q (v.rv T) H') X):Cl (pg sa sl) k (.f 54) [.ref I.r,.ref n,.ref I.fr] H Q X:=by
 refine jk g.js fun st md hst h2=>u_fn (dk0 hk rfl) rfl rfl (jb (g.kp _ _ B.r) h2 rfl rfl rfl (yN3 (dk1 hk rfl) B g fun H1 g1 k1=>?_));have q:=jq.kn k1 q;clear h2 hst g k1;refine jk g1.js fun st md hst h2=>?_;rcases t with ⟨o,key⟩|⟨a,b⟩|a|⟨wd,a,b⟩
 ·refine jS ht fun x y hy2 hx hy ho=>?_;obtain ⟨j,p,n1,n2,n3⟩:=hy2;refine jd (g1.kp _ _ n1) (g1.kp _ _ n2) rfl rfl (jd (g1.kp _ _ n1) (g1.kp _ _ n2) rfl rfl (qr (qa rfl) (qr rfl ?_)));refine jb (g1.kp _ _ B.r) h2 rfl rfl rfl (jo (v:=.ref x) (g1.kp _ _ n3) ⟨by decide,by decide⟩ rfl (yI3 (dk1 hk rfl) B hg g1 hx fun H2 c g2 k2 c2=>?_));clear h2 hst;refine jk g2.js fun st md hst h2=>jb (g2.kp _ _ B.r) h2 rfl rfl rfl (jo (v:=.ref y) (g2.kp _ _ n3) ⟨by decide,by decide⟩ rfl (yI3 (v:=.bytes key) (dk1 hk rfl) B hg g2 hy fun H3 d g3 k3 d3=>jd (g3.kp _ _ n1) (g3.kp _ _ n2) rfl rfl (x_EA g3.jf fun ln hln f2=>zp (g3.kp _ _ B.fr) f2 rfl rfl (qa rfl) ?_)));have k4:=Kn.set (H:=H3) (o:=.dict (I.fD 1)) B.b2;have g4:G I (H3.set I.jf (.dict (I.fD 1))) (f+2) [] ss:=g3.setJf B (.inr rfl);refine zC ((c2.kn k3).kn k4) fun cj u1 u2 u3 u4=>zC (d3.kn k4) fun dj v1 v2 v3 v4=>?_;clear h2 hst;exact jk g4.js fun st md hst h2=>jb (g4.kp _ _ B.r) h2 rfl rfl rfl (jd u3 u4 rfl rfl (jd v3 v4 rfl rfl (jb (g4.kp _ _ B.r) h2 rfl rfl rfl (jo (v:=.ref x) (g4.kp _ _ n3) ⟨by decide,by decide⟩ rfl (z9 (dk1 hk rfl) g4 hx fun l hll=>yL9 (dk1 hk rfl) hx.ok hll B w (g4.less (Nat.add_le_add (qm _) (qa rfl))) hs (jq.kn (k2.trans (k3.trans k4)) q))))))
 ·refine ks1 ht fun c pp x hn hz=>jK hz fun hc hp hx ha hb=>?_;have hn':=hn;refine jp hn' fun j p n1 n2 n3=>jd (g1.kp _ _ n1) (g1.kp _ _ n2) rfl rfl (jd (g1.kp _ _ n1) (g1.kp _ _ n2) rfl rfl (qr (qa rfl) (qr rfl ?_)));refine jb (g1.kp _ _ B.r) h2 rfl rfl rfl (yb12 (dk1 hk rfl) B hg w g1 hs hn hc hp hx ?_);change jq I H1 f ss (W.cv a [b]) (fun v H'=>Q (v.rv T) H') X at q;unfold Wo.cv at q;rcases ho:W.hd a evC with _|y
  ·rw [ho] at q;exact q
  ·rw [ho] at q;rcases y with i|_
   ·have hi:i<3:=w.hok hc.ok ho;intro H' b r g' k' b1 b2 r1 r2;have q:=q hi H' b g' k' b1 b2;refine (?_:wpS (pg sa sl) (Cl (pg sa sl) (k-1)) (.seq (.ret _) .done) _ _ ⟨H',put _ 16 (.ref r)⟩);exact yk8 (T:=T) hi jC r2 (q)
   ·exact q
 ·obtain ⟨x,hn,hx,ha⟩:=ht
  have hn':=hn;refine jp hn' fun j p n1 n2 n3=>jd (g1.kp _ _ n1) (g1.kp _ _ n2) rfl rfl (jd (g1.kp _ _ n1) (g1.kp _ _ n2) rfl rfl (qr (qa rfl) (qr rfl ?_)));exact jb (g1.kp _ _ B.r) h2 rfl rfl rfl (yK3 (dk1 hk rfl) B hg w (g1.less (Nat.add_le_add (qm _) (qa rfl))) hs hn hx ha q)
 ·refine jk ht fun x y hn hz=>jK hz fun hx hy ha hb hw=>?_;have hn':=hn;refine jp hn' fun j p n1 n2 n3=>jd (g1.kp _ _ n1) (g1.kp _ _ n2) rfl rfl (jd (g1.kp _ _ n1) (g1.kp _ _ n2) rfl rfl (qr (qa rfl) (qr rfl ?_)));exact jb (g1.kp _ _ B.r) h2 rfl rfl rfl (yD7 (dk1 hk rfl) hw B hg w (g1.less (Nat.add_le_add (qm _) (qa rfl))) hs hn hx hy ha hb q)
structure LI where
 r:Nat
 js:Nat
 lm:Nat
 out:Nat
 tt:Nat
 gt:Nat
 sn:Nat
end
namespace LI
variable (L:LI)
noncomputable def rD (steps made:Int) (fo:Nat):List (AV×AV):=[(.str 18,.ref L.lm),(.str 51,.bytes [108,97,119]),(.str 50,.ref L.out),(.str 9,.int steps),(.str 49,.int made),(.str 6,.ref fo),(.str 48,.ref L.tt),(.str 78,.ref L.gt)]
noncomputable def St (H:List AO) (i:Nat) (o:AO):Prop:=H[i]? =some o/\i≠L.js/\i≠L.sn
structure Ext (H:List AO) (I:RI):Prop where
 s:∀i o,L.St H i o->I.S0 i o
 r:I.r=L.r
 js:I.js=L.js
 lm:I.lm=L.lm
 out:I.out=L.out
 tt:I.tt=L.tt
 gt:I.gt=L.gt
 sn:I.sn=L.sn
structure Rs (H:List AO) (f:Nat) (ss:List AV):Prop where
 r:L.St H L.r (.inst 634 L.js)
 js:∃(steps made:Int) (fo:Nat),steps+f<=1000000000/\H[L.js]? =some (.dict (L.rD steps made fo))
 sn:H[L.sn]? =some (.list ss)
end LI
noncomputable def yi14 (L:LI) (H:List AO) (f:Nat) (ss:List AV) (o:Oc) (Q:Vl->List AO->Prop) (X:List AO->Prop):Prop:=match o with
 |.val v=>∀H',L.Rs H' f ss->H.length<=H'.length->(∀i o,L.St H i o->L.St H' i o)->Q v H'
 |.call n us v=>n<3->∀H' b,L.Rs H' f (ss++[.tup [.int n,.ref b]])->H.length<=H'.length->(∀i o,L.St H i o->L.St H' i o)->H.length<=b->L.St H' b (.list (us.map Vl.av))->Q v H'
 |.bad=>∀H',L.Rs H' f ss->H.length<=H'.length->(∀i o,L.St H i o->L.St H' i o)->X H'
section
variable {sa:Addr} {sl:List AV} {k:Nat} {m:Loc} {Q:AV->List AO->Prop} {X:List AO->Prop} {I:RI} {L:LI} {H:List AO} {f:Nat} {fs ss:List AV} {tx gs:List (List UInt8×AV)} {W:Wo} {T F M:Nat->Nat}
variable {n:Nat} {t:Nk}
theorem yQ9 {ex:Nat} (hk:20<=k) (R:L.Rs H (f+5) ss) (hs:ss.length<=1000) (hg:∀i,i<4->tg gs (tn i)=.ref (T i)) (tl:tx.length<1000) (gl:gs.length<1000)
 (hb:∀I,L.Ext H I->(∃j,I.S0 L.lm (.inst 53 j)/\I.S0 j (.dict limD))/\Tb0 I L.tt (-60) tx .nil/\Tb0 I L.gt (-80) gs .nil/\Ws I W T F M tx/\Tn0 I n t)
 (q:yi14 L H f ss (W.nk t) (fun v H'=>Q (v.rv T) H') X):Cl (pg sa sl) k (.f 47) [.ref L.r,.ref n,.ref ex] H Q X:=by
 refine ks1 R.js fun st md fo hst h2=>?_;have h1:=R.r.1;refine u_fn (dk0 hk rfl) rfl rfl (jb h1 h2 rfl rfl rfl (u_fn (dk1 hk rfl) rfl rfl (jd h1 h2 rfl rfl (zp h1 h2 rfl rfl (qa rfl) ?_))));have e1:(H.set L.js (.dict (L.rD st (md+1) fo)))[L.r]? =some (.inst 634 L.js):=je h1 R.r.2.1;have e2:(H.set L.js (.dict (L.rD st (md+1) fo)))[L.js]? =some (.dict (L.rD st (md+1) fo)):=jv h2;have e3:∀i o,L.St H i o->(H.set L.js (.dict (L.rD st (md+1) fo)))[i]? =some o:=fun i o h=>je h.1 h.2.1;have e4:(H.set L.js (.dict (L.rD st (md+1) fo)))[L.sn]? =some (.list ss):=je R.sn (jW R.sn h2 (by simp));have e5:(H.set L.js (.dict (L.rD st (md+1) fo))).length=H.length:=by simp
 have hls:L.js<H.length:=(qA.mp h2).1;have hln:L.sn<H.length:=(qA.mp R.sn).1;have hlr:∀i o,L.St H i o->i<H.length:=fun i o h=>(qA.mp h.1).1;have njs:L.js≠L.sn:=Ne.symm (jW R.sn h2 (by simp));refine jd e1 e2 rfl rfl ((?_:wp _ _ (.cons (.dict .nil) _) _ _ ⟨H.set L.js (.dict (L.rD st (md+1) fo)),_⟩));generalize H.set L.js (.dict (L.rD st (md+1) fo))=H1 at e1 e2 e3 e4 e5⊢;refine kj (yv (kj (i_nm rfl ?_)));refine y02 (dk1 hk rfl) (qr (qa rfl) ?_);generalize hA:H1++[AO.dict []]=A;have lA:A.length=H1.length+1:=by refine rz (Eq.symm hA) ?_;simp
 have iA:∀i o,H1[i]? =some o->A[i]? =some o:=fun i o h=>by exact rz (Eq.symm hA) (jc h)
 clear hA;refine (?_:setQ _ _ _ _ _ ⟨(A++[AO.dict [(.str 34,.int (md+1)),(.str 46,.ref H1.length),(.str 47,.ref ex),(.str 31,.int 0)],AO.inst 338 A.length])++[AO.list [.ref (A.length+1)]],[(0,.ref L.r),(79,.ref n),(47,.ref ex),(66,.ref (A.length+1))]⟩);generalize hB:A++[AO.dict [(.str 34,.int (md+1)),(.str 46,.ref H1.length),(.str 47,.ref ex),(.str 31,.int 0)],AO.inst 338 A.length]=B;have lB:B.length=A.length+2:=by refine rz (Eq.symm hB) ?_;simp
 have iB:∀i o,A[i]? =some o->B[i]? =some o:=fun i o h=>by exact rz (Eq.symm hB) (jc h)
 have bf:B[A.length]? =some (AO.dict [(.str 34,.int (md+1)),(.str 46,.ref H1.length),(.str 47,.ref ex),(.str 31,.int 0)]):=by refine rz (Eq.symm hB) ?_;simp
 have bi:B[A.length+1]? =some (AO.inst 338 A.length):=by refine rz (Eq.symm hB) ?_;simp
 clear hB;have c1:∀i o,B[i]? =some o->(B++[AO.list [AV.ref (A.length+1)]])[i]? =some o:=fun i o h=>jc h;refine zp (c1 _ _ (iB _ _ (iA _ _ e1))) (c1 _ _ (iB _ _ (iA _ _ e2))) rfl rfl (qa rfl) ((?_:wpS _ _ _ _ _ ⟨(B++[AO.list [AV.ref (A.length+1)]]).set L.js (.dict (L.rD st (md+1) B.length)),[(0,.ref L.r),(79,.ref n),(47,.ref ex),(66,.ref (A.length+1))]⟩));have d0:∀i o,i≠L.js->(B++[AO.list [AV.ref (A.length+1)]])[i]? =some o->((B++[AO.list [AV.ref (A.length+1)]]).set L.js (.dict (L.rD st (md+1) B.length)))[i]? =some o:=fun i o hi h=>je h hi;have dj:((B++[AO.list [AV.ref (A.length+1)]]).set L.js (.dict (L.rD st (md+1) B.length)))[L.js]? =some (.dict (L.rD st (md+1) B.length)):=jv (c1 _ _ (iB _ _ (iA _ _ e2)));have di:(B++[AO.list [AV.ref (A.length+1)]])[B.length]? =some (.list [AV.ref (A.length+1)]):=jh;have lD:((B++[AO.list [AV.ref (A.length+1)]]).set L.js (.dict (L.rD st (md+1) B.length))).length=B.length+1:=by simp
 generalize (B++[AO.list [AV.ref (A.length+1)]]).set L.js (.dict (L.rD st (md+1) B.length))=D at d0 dj lD⊢;generalize hI:(⟨D,L.r,L.js,L.lm,L.out,B.length,L.tt,L.gt,A.length+1,A.length,H1.length,ex,L.sn,md+1⟩:RI)=I;have xt:L.Ext H I:=by
  subst hI;refine ⟨fun i o h=>⟨d0 i o h.2.1 (c1 _ _ (iB _ _ (iA _ _ (e3 i o h)))),h.2.1,?_,?_,h.2.2⟩,rfl,rfl,rfl,rfl,rfl,rfl,rfl⟩
  ·have:=hlr i o h;refine (?_:i≠A.length);exact qf (qc (qj (qb (ql this) (qk e5.symm))) (qk lA.symm))
  ·have:=hlr i o h;refine (?_:i≠B.length);exact qf (qc (qd (qb (qh (qb (ql this) (qk e5.symm))) (qk lA.symm)) (qg (qa rfl))) (qk lB.symm))
 refine jK (hb I xt) fun b1 b2 b3 w ht=>?_;have hH0:I.H0=D:=by exact rz (Eq.symm hI) rfl
 have B0:Bs I tx gs:=by
  subst hI;exact ⟨xt.s _ _ R.r,b1,⟨d0 (A.length+1) _ (qe (qj (qb (qh (qb (ql hls) (qk e5.symm))) (qk lA.symm)))) (c1 _ _ bi),by refine (?_:A.length+1≠L.js);exact qe (qj (qb (qh (qb (ql hls) (qk e5.symm))) (qk lA.symm))),by refine (?_:A.length+1≠A.length);exact qe (qj (qm _)),by refine (?_:A.length+1≠B.length);exact qf (qc (Nat.add_lt_add_of_le_of_lt (qm _) (qa rfl)) (qk lB.symm)),by refine (?_:A.length+1≠L.sn);exact qe (qj (qb (qh (qb (ql hln) (qk e5.symm))) (qk lA.symm)))⟩,b2,b3,tl,gl,by refine (?_:L.js<D.length);lia,by refine (?_:A.length<D.length);exact qc (qj (qb (qi _ _) (qk lB.symm))) (qk lD.symm),by refine (?_:B.length<D.length);exact qc (qj (qm _)) (qk lD.symm),by refine (?_:L.sn<D.length);lia,by refine (?_:L.js≠A.length);exact qf (qc (qj (qb (ql hls) (qk e5.symm))) (qk lA.symm)),by refine (?_:B.length≠L.sn);exact qe (qc (qd (qb (qh (qb (ql hln) (qk e5.symm))) (qk lA.symm)) (qg (qa rfl))) (qk lB.symm))⟩
 have g:G I D (f+5) [] ss:=by
  subst hI;exact ⟨qm _,fun i o h=>h.1,⟨st,md+1,hst,dj⟩,⟨0,.inl rfl,d0 A.length _ (qe (qc (qj (qb (ql hls) (qk e5.symm))) (qk lA.symm))) (c1 _ _ bf)⟩,d0 B.length _ (qe (qc (qd (qb (qh (qb (ql hls) (qk e5.symm))) (qk lA.symm)) (qg (qa rfl))) (qk lB.symm))) di,d0 _ _ (Ne.symm njs) (c1 _ _ (iB _ _ (iA _ _ e4)))⟩
 have fin:∀{H' f' ss'},G I H' f' [] ss'->L.Rs H' f' ss'/\H.length<=H'.length/\(∀i o,L.St H i o->L.St H' i o):=fun {H' f' ss'} g'=>by
  have hk:∀i o,L.St H i o->L.St H' i o:=fun i o h=>⟨g'.kp _ _ (xt.s i o h),h.2⟩;refine ⟨⟨hk _ _ R.r,?_,?_⟩,?_,hk⟩
  ·refine jk g'.js fun s' m' a b=>?_;subst hI;exact ⟨s',m',_,a,b⟩
  ·have:=g'.sn;rw [xt.sn] at this;exact this
  ·have:=g'.len;rw [hH0] at this;lia
 refine jk g.js fun st' md' hst' h2'=>?_;have r1:=g.kp _ _ B0.r;rw [xt.r,xt.js] at r1;refine jb r1 dj rfl rfl rfl ?_;have hfr:I.fr=A.length+1:=by exact rz (Eq.symm hI) rfl
 have cv:=yO9 (sa:=sa) (sl:=sl) (k:=k-1) (Q:=Q) (X:=X) (n:=n) (t:=t) (dk1 hk rfl) B0 hg w g hs ht (by
  rcases ho:W.nk t with v|⟨i,us,v⟩|_
  ·rw [ho] at q;intro H' g' _;exact x_AA (fin g') fun z1 z2 z3=>q H' z1 z2 z3
  ·rw [ho] at q;intro hn H' b g' _ hb hb';refine x_AA (fin g') fun z1 z2 z3=>?_;rw [hH0] at hb;exact q hn H' b z1 z2 z3 (by lia) ⟨hb',by lia,by lia⟩
  ·rw [ho] at q;intro H' g' _;refine x_AA (fin g') fun z1 z2 z3=>?_;exact q H' z1 z2 z3)
 rw [xt.r,hfr] at cv;exact cv
structure Bx (H:List AO) (b0 b1:Nat) (f:Nat):Prop where
 h0:∃(n c:Int),0<=n/\n+f<=1000000/\H[b0]? =some (.list [.ref b1,.int n,.int c])
 h1:∃ns:List Int,ns.length<=1000/\H[b1]? =some (.list (ns.map .int))
variable {F:St->Prop} {i:Nat} {z:Int} {v:AV}
theorem y112 {l:List AV} (h:H[i]? =some (.list l)) (hz:0<=z/\z.toNat<l.length/\l.length<=1000000) (q:F ⟨H.set i (.list (l.set z.toNat v)),m⟩):yk2 (.ref i) (.int z) v F ⟨H,m⟩:=by
 delta yk2;exact jj (a:=i) rfl (yE11 h (jj rfl ⟨hz,q⟩))
variable {a:AV}
theorem zq {l:List (AV×AV)} (h:H[i]? =some (.dict l)) (ho:dkOk l a=true) (hl:l.length<=1000) (q:F ⟨H.set i (.dict (aset l a v)),m⟩):yk2 (.ref i) a v F ⟨H,m⟩:=by
 delta yk2;exact jj (a:=i) rfl (yC11 h ⟨ho,hl,q⟩)
variable {F:AV->St->Prop}
theorem y012 {y:AV} {r:List AV} (h:H[i]? =some (.list (y::r))) (hl:r.length<1000000) (q:F y ⟨H.set i (.list r),m⟩):bmQ .pop (.ref i) [.int 0] F ⟨H,m⟩:=by
 delta bmQ;exact jj (a:=i) rfl (jj (jU h) ⟨rfl,rfl,hl,q⟩)
variable {b0 b1:Nat}
theorem ye12 {w:Int} (hk:1<=k) (hw:0<w) (b:Bx H b0 b1 (f+1)) (q:∀H' (r:Nat),(r:Int)<w->Bx H' b0 b1 f->H.length<=H'.length->(∀i o,H[i]? =some o->i≠b0->i≠b1->H'[i]? =some o)->Q (.int r) H'):Cl (pg sa sl) k (.f 72) [.ref b0,.int w] H Q X:=by
 refine jp b.h0 fun n c hn hf h0=>x_EA b.h1 fun ns hl h1=>?_;have ne:b1≠b0:=fun e=>by
  subst e;rw [h0] at h1;have:=qq h1;rcases ns with _|⟨x,r⟩
  ·cases this
  ·injection this with e;cases e
 refine u_fn hk rfl rfl (jo (v:=.int n) h0 ⟨by decide,by decide⟩ rfl (y112 h0 ⟨by decide,qa rfl,qa rfl⟩ ?_));have e0:(H.set b0 (.list [.ref b1,.int (n+1),.int c]))[b0]? =some (.list [.ref b1,.int (n+1),.int c]):=jv h0;have e1:(H.set b0 (.list [.ref b1,.int (n+1),.int c]))[b1]? =some (.list (ns.map .int)):=je h1 ne;have e2:∀i o,H[i]? =some o->i≠b0->(H.set b0 (.list [.ref b1,.int (n+1),.int c]))[i]? =some o:=fun i o h hi=>je h hi;have e3:(H.set b0 (.list [.ref b1,.int (n+1),.int c])).length=H.length:=by simp
 refine (?_:wpS _ _ _ _ _ ⟨H.set b0 (.list [.ref b1,.int (n+1),.int c]),_⟩);generalize H.set b0 (.list [.ref b1,.int (n+1),.int c])=H1 at e0 e1 e2 e3⊢;have fin:∀(i:Int) H',H'[b0]? =some (AO.list [.ref b1,.int (n+1),.int c])->(∃ns:List Int,ns.length<=1000/\H'[b1]? =some (.list (ns.map .int)))->H.length<=H'.length->(∀i o,H[i]? =some o->i≠b0->i≠b1->H'[i]? =some o)->Q (.int (i.fmod w)) H':=fun i H' a0 a1 a2 a3=>by
  have h1:0<=i.fmod w:=Int.fmod_nonneg_of_pos i hw;have h2:i.fmod w<w:=Int.fmod_lt_of_pos i hw;have e:((i.fmod w).toNat:Int)=i.fmod w:=Int.toNat_of_nonneg h1;exact rz (Eq.symm e) (q H' _ (by exact rz e h2) ⟨⟨n+1,c,by lia,by lia,a0⟩,a1⟩ a2 a3)
 refine jo (v:=.ref b1) e0 ⟨by decide,by decide⟩ rfl (ya3 e1 (by rw [qF];exact qd hl (by decide)) ?_);rcases ns with _|⟨x,r⟩
 ·refine jo (v:=.int (n+1)) e0 ⟨by decide,by decide⟩ rfl (qr (by decide) (jo (v:=.int (n+1)) e0 ⟨by decide,by decide⟩ rfl (jo (v:=.int (n+1)) e0 ⟨by decide,by decide⟩ rfl (qr (by lia) (qr (by decide) (qr (by decide) ?_))))));exact jo (v:=.int c) e0 ⟨by decide,by decide⟩ rfl (qr (by lia) (fin _ _ e0 ⟨[],by simp,e1⟩ (qk e3.symm) fun i o h h1 o_=>e2 i o h h1))
 ·have hpos:decide ((0:Int)<((List.map AV.int (x::r)).length:Int))=true:=by simp
  exact iT hpos (jo (v:=.ref b1) e0 ⟨by decide,by decide⟩ rfl (kt (b:=.pop) e1 rfl rfl (y012 (y:=.int x) (r:=r.map .int) e1 (by rw [qF];simp at hl;lia) (yr11 (qr (by lia) (fin _ _ (je e0 (Ne.symm ne)) ⟨r,by simp at hl;lia,jv e1⟩ (by exact rz qy (qk e3.symm)) fun i o h h1 h2=>je (e2 i o h h1) h2))))))
structure WI where
 wd:Nat
 ro:Nat
 me:Nat
 cl:Nat
 tx:Nat
 rw:Nat->Nat
 mt:Nat->Nat
noncomputable def WI.wD (V:WI) (wr:Bool):List (AV×AV):=[(.str 137,.ref V.ro),(.str 136,.ref V.me),(.str 139,.ref V.cl),(.str 138,.bool wr),(.str 48,.ref V.tx)]
noncomputable def mAV (V:WI) (W:Wo) (i:Nat):AV:=match W.metas i with
 |none=>.nil
 |some _=>.ref (V.mt i)
end
structure Ld (V:WI) (W:Wo) (H:List AO) (wr:Bool) (cs:List AV):Prop where
 wd:H[V.wd]? =some (.dict (V.wD wr))
 ro:H[V.ro]? =some (.list [.ref (V.rw 0),.ref (V.rw 1),.ref (V.rw 2),.ref (V.rw 3)])
 me:H[V.me]? =some (.list [mAV V W 0,mAV V W 1,mAV V W 2,mAV V W 3])
 rw:∀i,i<4->H[V.rw i]? =some (.dict ((W.rows i).map fun e=>(.bytes e.1,e.2.av)))
 mt:∀i,i<4->∀es,W.metas i=some es->H[V.mt i]? =some (.dict (es.map fun e=>(.bytes e.1,e.2.av)))
 tx:H[V.tx]? =some (.dict (if W.txt then [(.bytes evI,.tup [.str 74,.int 2])] else []))
 cl:H[V.cl]? =some (.list cs)
theorem zk {α:Type} (g:α->AV) (es:List (List UInt8×α)) (b:List UInt8):aget (es.map fun e=>(.bytes e.1,g e.2)) (.bytes b)=(lkF es b).map g:=by
 delta aget lkF;refine rz List.find?_map ?_;refine (?_:Option.map _ (Option.map _ (es.find? fun e=>e.1==b))=Option.map g (Option.map _ (es.find? fun e=>e.1==b)));cases es.find? fun e=>e.1==b<;>rfl
theorem jI {α:Type} (g:α->AV):∀(es:List (List UInt8×α)),zl (es.map fun e=>(.bytes e.1,g e.2))=true
 |[]=>rfl
 |(a,v)::r=>jI g r
noncomputable def avO:Option Fo->AV
 |none=>.nil
 |some x=>x.av
section
variable {sa:Addr} {sl:List AV} {k:Nat} {m:Loc} {Q:AV->List AO->Prop} {X:List AO->Prop} {H:List AO} {f:Nat} {V:WI} {W:Wo} {wr:Bool} {cs:List AV}
variable {i:Nat} {a:AV}
theorem yh8 {F:AV->St->Prop} {l:List (AV×AV)} (h:H[i]? =some (.dict l)) (ho:dkOk l a=true) (q:F ((aget l a).getD .nil) ⟨H,m⟩):bmQ .get (.ref i) [a] F ⟨H,m⟩:=by
 delta bmQ;exact jj (a:=i) rfl (jj (zb1 h) ⟨ho,q⟩)
variable {n:Nat}
theorem ys6 {F:MK->Prop} {l:List (AV×AV)} (h:H[i]? =some (.dict l)) (hb:(pg sa sl).bm n=some .get) (q:F (.bm .get)):optQ F (yb1 (pg sa sl) H (.ref i) n):=jj ((congrArg (fun o=>Option.bind o (AO.mk (pg sa sl) H n)) h).trans (congrArg (fun o:Option BM1=>Option.bind o fun b=>gd2 (Nat.beq b.ty 1) (MK.bm b)) hb)) q
theorem Ld.meAt (d:Ld V W H wr cs) (hi:i<4):[mAV V W 0,mAV V W 1,mAV V W 2,mAV V W 3][i]? =some (mAV V W i):=at4 (mAV V W) hi
variable {v:Vl}
theorem kQ {b:List UInt8} (hk:1<=k) (d:Ld V W H wr cs) (hv:v.ok) (q:Q (avO (W.hd v b)) H):Cl (pg sa sl) k (.f 77) [.ref V.wd,v.av,.bytes b] H Q X:=by
 refine u_fn hk rfl rfl ?_;rcases v with _|_|_|l|i
 ·exact q
 ·exact q
 ·exact q
 ·refine jX d.wd rfl rfl (ys6 d.tx rfl (yh8 d.tx (by rcases W.txt with _|_<;>rfl) ?_));have e:((aget (if W.txt then [(AV.bytes evI,AV.tup [.str 74,.int 2])] else []) (.bytes b)).getD .nil)=avO (W.hd (.bytes l) b):=by
   refine (?_:_=avO (if W.txt&&(evI==b) then some (.tab 2) else none));rcases W.txt with _|_
   ·rfl
   ·refine (?_:((Option.map (·.2) (match evI==b with|true=>some (AV.bytes evI,AV.tup [.str 74,.int 2])|false=>none)).getD .nil)=avO (if (true&&(evI==b))=true then some (.tab 2) else none));rcases evI==b with _|_<;>rfl
  exact rz e (q)
 ·have hi:i<4:=hv;have z:(0:Int)<=(i:Int)/\(i:Int)<2^62:=⟨by lia,by lia⟩;refine j4 (v:=.str 74) ⟨by decide,by decide⟩ rfl (jX d.wd rfl rfl (j4 (v:=.int i) ⟨by decide,by decide⟩ rfl (jo (v:=mAV V W i) d.me z (by rw [Int.toNat_natCast];exact d.meAt hi) ?_)));change Q (avO ((W.metas i).bind fun es=>lkF es b)) H at q;rcases hm:W.metas i with _|es
  ·rw [hm] at q;have e:mAV V W i=.nil:=by unfold mAV;exact rz hm rfl
   refine (?_:(match jr (mAV V W i) with
    |true=>_
    |false=>_))
   exact rz e (q)
  ·rw [hm] at q;have e:mAV V W i=.ref (V.mt i):=by unfold mAV;exact rz hm rfl
   refine (?_:(match jr (mAV V W i) with
    |true=>_
    |false=>_))
   refine rz e (jX d.wd rfl rfl (j4 (v:=.int i) ⟨by decide,by decide⟩ rfl (jo (v:=mAV V W i) d.me z (by rw [Int.toNat_natCast];exact d.meAt hi) (rz e (ys6 (d.mt i hi es hm) rfl (yh8 (d.mt i hi es hm) (jI _ es) ?_))))));rw [zk];change Q (avO (lkF es b)) H at q;cases hx:lkF es b<;>(rw [hx] at q;exact q)
structure Kl (V:WI) (N:Nat) (H H':List AO):Prop where
 len:H.length<=H'.length
 kp:∀i o,H[i]? =some o->i≠V.wd->i≠V.cl->H'[i]? =some o
end
structure Lw (V:WI) (W:Wo) (N:Nat) (H:List AO) (wr:Bool) (cs:List AV):Prop extends Ld V W H wr cs where
 n:N<=H.length
 n1:V.wd<N
 n2:V.cl<N
 ne:V.ro≠V.cl/\V.me≠V.cl
noncomputable def j7 (V:WI) (W:Wo) (N:Nat) (H:List AO) (wr:Bool) (cs:List AV) (o:Oc) (Q:AV->List AO->Prop):Prop:=match o with
 |.val v=>∀H',Lw V W N H' wr cs->Kl V N H H'->Q v.av H'
 |.call n us v=>n<3->∀H' b,Lw V W N H' wr (cs++[.tup [.int n,.ref b]])->Kl V N H H'->N<=b->H'[b]? =some (.list (us.map Vl.av))->Q v.av H'
 |.bad=>∀H',Lw V W N H' true cs->Kl V N H H'->Q .nil H'
section
variable {sa:Addr} {sl:List AV} {k:Nat} {m:Loc} {Q:AV->List AO->Prop} {X:List AO->Prop} {H H':List AO} {f N:Nat} {V:WI} {W:Wo} {wr:Bool} {cs:List AV}
theorem Kl.refl:Kl V N H H:=⟨qm _,fun o_ o_ h o_ o_=>h⟩
variable {H'':List AO}
theorem Kl.trans (a:Kl V N H H') (b:Kl V N H' H''):Kl V N H H'':=⟨qb a.len b.len,fun i o h h1 h2=>b.kp i o (a.kp i o h h1 h2) h1 h2⟩
theorem Kl.push {l:List AO}:Kl V N H (H++l):=⟨by simp,fun i o h o_ o_=>jc h⟩
variable {wr':Bool} {cs':List AV}
theorem Ld.map (d:Ld V W H wr cs) (h1:H'[V.wd]? =some (.dict (V.wD wr'))) (h2:H'[V.cl]? =some (.list cs')) (ne:V.ro≠V.cl/\V.me≠V.cl) (hk:∀i o,H[i]? =some o->i≠V.wd->i≠V.cl->H'[i]? =some o):Ld V W H' wr' cs' where
 wd:=h1
 ro:=hk _ _ d.ro (jW d.ro d.wd (by simp)) ne.1
 me:=hk _ _ d.me (jW d.me d.wd (by simp)) ne.2
 rw i hi:=hk _ _ (d.rw i hi) (jW (d.rw i hi) d.wd (by
  intro e;cases h:W.rows i<;>(rw [h] at e;simp [WI.wD] at e))) (jW (d.rw i hi) d.cl (by simp))
 mt i hi es hm:=hk _ _ (d.mt i hi es hm) (jW (d.mt i hi es hm) d.wd (by
  intro e;rcases es with _|_<;>simp [WI.wD] at e)) (jW (d.mt i hi es hm) d.cl (by simp))
 tx:=hk _ _ d.tx (jW d.tx d.wd (by rcases W.txt with _|_<;>simp [WI.wD])) (jW d.tx d.cl (by simp))
 cl:=h2
theorem Lw.push (w:Lw V W N H wr cs) {l:List AO}:Lw V W N (H++l) wr cs:=⟨w.toLd.map (jc w.wd) (jc w.cl) w.ne fun i o h o_ o_=>jc h,qb w.n (by simp),w.n1,w.n2,w.ne⟩
theorem kR (hk:1<=k) (w:Lw V W N H wr cs) (q:∀H',Lw V W N H' true cs->Kl V N H H'->Q .nil H'):Cl (pg sa sl) k (.f 76) [.ref V.wd] H Q X:=by
 refine u_fn hk rfl rfl (zq w.wd rfl (qa rfl) ?_);have hk:∀i o,H[i]? =some o->i≠V.wd->(H.set V.wd (.dict (V.wD true)))[i]? =some o:=fun i o h h1=>je h h1;exact q (H.set V.wd (.dict (V.wD true))) ⟨w.toLd.map (jv w.wd) (hk _ _ w.cl (jW w.cl w.wd (by simp))) w.ne fun i o h h1 o_=>hk i o h h1,by exact rz qy w.n,w.n1,w.n2,w.ne⟩ ⟨by simp,fun i o h h1 o_=>hk i o h h1⟩
structure LL (N:Nat) (H:List AO) (j:Nat) (vs:List Vl):Prop where
 n:N<=j
 h:H[j]? =some (.list (vs.map Vl.av))
theorem Lw.setCl (w:Lw V W N H wr cs):Lw V W N (H.set V.cl (.list cs')) wr cs':=
 ⟨w.toLd.map (je w.wd (Ne.symm (jW w.cl w.wd (by simp)))) (jv w.cl) w.ne fun i o h o_ h2=>je h h2,by exact rz qy w.n,w.n1,w.n2,w.ne⟩
theorem Kl.setCl {o:AO}:Kl V N H (H.set V.cl o):=⟨by simp,fun i o h o_ h2=>je h h2⟩
variable {j:Nat}
theorem LL.ne (w:Lw V W N H wr cs) {vs:List Vl} (a:LL N H j vs):j≠V.wd/\j≠V.cl:=⟨by have:=a.n;have:=w.n1;lia,by have:=a.n;have:=w.n2;lia⟩
variable {n:Nat}
theorem yF8 {vs:List Vl} {r:Loc} (hn:n<3) (w:Lw V W N H wr cs) (hc:cs.length<=1000) (a:LL N H j vs) (q:j7 V W N H wr cs (.call n vs (resV n)) Q):
 wpS (pg sa sl) (Cl (pg sa sl) k) (.seq (.expr (.meth (.sub (.nm 135) (.str 139)) 27 (.cons (.tup (.cons (.sub (.nm 11) (.int 1)) (.cons (.nm 141) .nil))) .nil))) (.seq (.ret (.sub (.list (.cons (.int 11) (.cons .none (.cons (.bool false) .nil)))) (.sub (.nm 11) (.int 1)))) .done)) (jw Q) (exH X) ⟨H,(135,.ref V.wd)::(11,.tup [.str 61,.int n])::(141,.ref j)::r⟩:=by
 refine jX (b:=.str 139) (v:=.ref V.cl) w.wd rfl rfl (kt (b:=.append) w.cl rfl rfl (j4 (v:=.int n) ⟨by decide,by decide⟩ rfl (qr (qa rfl) (km w.cl (by lia) (qr (qa rfl) (j4 (v:=.int n) ⟨by decide,by decide⟩ rfl ?_))))));have w1:Lw V W N ((H.set V.cl (.list (cs++[.tup [.int n,.ref j]])))++[AO.list [.int 11,.nil,.bool false]]) wr (cs++[.tup [.int n,.ref j]]):=w.setCl.push;have q:=q hn _ j w1 (Kl.setCl.trans .push) a.n (jc (je a.h (a.ne w).2));exact jo (v:=(resV n).av) jh ⟨Int.natCast_nonneg n,by lia⟩ (at3 (fun n=>(resV n).av) hn) q
theorem yo10 {vs:List Vl} (hk:1<=k) (hn:n<3) (w:Lw V W N H wr cs) (hc:cs.length<=1000) (a:LL N H j vs) (q:j7 V W N H wr cs (.call n vs (resV n)) Q):Cl (pg sa sl) k (.f 78) [.ref V.wd,.tup [.str 61,.int n],.ref j] H Q X:=by
 exact u_fn hk rfl rfl (j4 (l:=[.str 61,.int n]) (z:=0) (v:=.str 61) ⟨by decide,by decide⟩ rfl (yF8 (r:=[]) hn w hc a q))
variable {v:Vl}
theorem yw6 {vs:List Vl} (hk:2<=k) (hv:v.ok) (w:Lw V W N H wr cs) (hc:cs.length<=1000) (ho:∀x,W.hd v evC=some x->x.ok) (hl:vs.length<=100) (a:LL N H j vs) (q:j7 V W N H wr cs (W.cv v vs) Q):Cl (pg sa sl) k (.f 78) [.ref V.wd,v.av,.ref j] H Q X:=by
 refine u_fn (dk0 hk rfl) rfl rfl ?_;have go:wpS (pg sa sl) (Cl (pg sa sl) (k-1)) (.seq (.asg 60 (.call 77 (.cons (.nm 135) (.cons (.nm 11) (.cons (.bytes [95,95,99,97,108,108]) .nil))))) (.seq (.ite (.or (.cmp .Is (.nm 60) .none) (.cmp .NotEq (.sub (.nm 60) (.int 0)) (.str 61))) (.seq (.ret (.call 76 (.cons (.nm 135) .nil))) .done) .done) (.seq (.asgT true [11,141] (.tup (.cons (.nm 60) (.cons (.bin .Add (.list (.cons (.nm 11) .nil)) (.nm 141)) .nil)))) .done))) (fun f σ1=>match f with
  |.next=>wpS (pg sa sl) (Cl (pg sa sl) (k-1)) (.seq (.expr (.meth (.sub (.nm 135) (.str 139)) 27 (.cons (.tup (.cons (.sub (.nm 11) (.int 1)) (.cons (.nm 141) .nil))) .nil))) (.seq (.ret (.sub (.list (.cons (.int 11) (.cons .none (.cons (.bool false) .nil)))) (.sub (.nm 11) (.int 1)))) .done)) (jw Q) (exH X) σ1
  |.brk=>jw Q .brk σ1
  |.cont=>jw Q .cont σ1
  |.ret v=>jw Q (.ret v) σ1) (exH X) ⟨H,[(135,.ref V.wd),(11,v.av),(141,.ref j)]⟩:=by
  refine kQ (b:=evC) (dk1 hk rfl) w.toLd hv ?_;unfold Wo.cv at q;rcases hx:W.hd v evC with _|x
  ·rw [hx] at q;exact kR (dk1 hk rfl) w q
  ·rw [hx] at q;rcases x with n|i
   ·have hn:n<3:=ho _ hx;refine j4 (l:=[.str 61,.int n]) (z:=0) (v:=.str 61) ⟨by decide,by decide⟩ rfl (qr (qa rfl) (yf8 (l:=[v.av]) jh (jc a.h) (by simp;lia) (qr (qa rfl) (qr rfl ?_))));exact yF8 (vs:=v::vs) hn w.push.push hc ⟨qb w.n (by simp),jh⟩ (fun hn H' b w' k'=>q hn H' b w' ((Kl.push.trans Kl.push).trans k'))
   ·exact j4 (l:=[.str 74,.int i]) (z:=0) (v:=.str 74) ⟨by decide,by decide⟩ rfl (kR (dk1 hk rfl) w q)
 rcases v with _|_|_|_|i
 ·exact go
 ·exact go
 ·exact go
 ·exact go
 ·exact j4 (l:=[.str 74,.int i]) (z:=0) (v:=.str 74) ⟨by decide,by decide⟩ rfl (go)
noncomputable def kAV:Vl->AV
 |.tab _=>.str 74
 |v=>.bytes v.tv.ty
theorem kf1 (hk:2<=k) (q:Q (kAV v) H):Cl (pg sa sl) k (.f 80) [v.av] H Q X:=by
 refine u_fn (dk0 hk rfl) rfl rfl ?_;rcases v with _|b|i|l|i
 ·exact jB (t:=.nil) (dk1 hk rfl) .nil q
 ·exact jB (t:=.bool b) (dk1 hk rfl) (.bool b) q
 ·exact jB (t:=.int i) (dk1 hk rfl) (.int i) q
 ·exact jB (t:=.bytes l) (dk1 hk rfl) (.bytes l) q
 ·exact j4 (l:=[.str 74,.int i]) (z:=0) (v:=.str 74) ⟨by decide,by decide⟩ rfl q
theorem yf5 (hk:1<=k) (hv:∀i,v≠.tab i) (q:Q (.bool (!v.tv.isFal)) H):Cl (pg sa sl) k (.f 81) [v.av] H Q X:=by
 refine u_fn (dk0 hk rfl) rfl rfl ?_;rcases v with _|b|i|l|i
 ·exact q
 ·rcases b with _|_<;>exact q
 ·exact q
 ·exact q
 ·exact absurd rfl (hv i)
theorem Fo.av_eq (x y:Fo):eqV H 8 x.av y.av=some (x.beq y):=by
 rcases x with _|_<;>rcases y with _|_<;>first|rfl|skip
 all_goals
  rename_i a b;refine (?_:some ((true&&(((a:Int)==(b:Int))&&true))&&true)=some (a==b))
  congr 1
  rw [Bool.eq_iff_iff];simp;lia
theorem yx {x:Fo} {vs:List Vl} (hk:2<=k) (hx:x.ok) (w:Lw V W N H wr cs) (hc:cs.length<=1000) (ho:∀v y,v.ok->W.hd v evC=some y->y.ok) (hl:vs.length<=100) (a:LL N H j vs) (q:j7 V W N H wr cs (W.run x vs resV) Q):Cl (pg sa sl) k (.f 78) [.ref V.wd,x.av,.ref j] H Q X:=by
 rcases x with n|i
 ·exact yo10 (dk0 hk rfl) hx w hc a q
 ·refine yw6 (v:=.tab i) hk hx w hc (fun y h=>ho (.tab i) y hx h) hl a ?_;have q:j7 V W N H wr cs (match (match W.hd (.tab i) evC with
   |some (.fn n)=>some (n,.tab i::vs)
   |_=>none) with
   |some (n,us)=>Oc.call n us (resV n)
   |none=>.bad) Q:=q
  unfold Wo.cv;rcases h:W.hd (.tab i) evC with _|y
  ·rw [h] at q;exact q
  ·rw [h] at q;rcases y with n|_
   ·exact q
   ·exact q
noncomputable def yu7 (V:WI) (W:Wo) (N:Nat) (H:List AO) (wr:Bool) (cs:List AV) (o:Option Oc) (Q:AV->List AO->Prop):Prop:=match o with
 |none=>∀H',Lw V W N H' wr cs->Kl V N H H'->Q .nil H'
 |some (.val v)=>∀H',Lw V W N H' wr cs->Kl V N H H'->Q v.av H'
 |some (.call n us v)=>n<3->∀H' b,Lw V W N H' wr (cs++[.tup [.int n,.ref b]])->Kl V N H H'->N<=b->H'[b]? =some (.list (us.map Vl.av))->Q v.av H'
 |some .bad=>∀H',Lw V W N H' true cs->Kl V N H H'->Q (.bool false) H'
variable {F:AV->St->Prop} {r:Bool}
theorem yf15 {a b:AV} (h:eqV H 8 a b=some r) (q:F (.bool (!r)) ⟨H,m⟩):cmpQ (pg sa sl) .NotEq a b F ⟨H,m⟩:=jj (congrArg (Option.map (!·)) h) q
theorem y53 {a b:Vl} {e:List UInt8} (hk:3<=k) (ha:a.ok) (hb:b.ok) (w:Lw V W N H wr cs) (hc:cs.length<=1000) (ho:∀v c y,v.ok->W.hd v c=some y->y.ok) (q:yu7 V W N H wr cs (W.cmpd a b e) Q):Cl (pg sa sl) k (.f 82) [.ref V.wd,.bytes e,a.av,b.av] H Q X:=by
 refine u_fn (dk0 hk rfl) rfl rfl (kQ (b:=e) (dk1 hk rfl) w.toLd ha ?_);unfold Wo.cmpd Wo.both at q;rcases hx:W.hd a e with _|x
 ·rw [hx] at q;exact q H w .refl
 ·rw [hx] at q;have hi:jr x.av=false:=by rcases x with _|_<;>rfl
  refine iF hi (kQ (b:=e) (dk1 hk rfl) w.toLd hb ?_);rcases hy:W.hd b e with _|y
  ·rw [hy] at q;rcases x with _|_<;>exact q H w .refl
  ·rw [hy] at q;have q:yu7 V W N H wr cs ((if x.beq y then some x else none).map fun x=>W.run x [a,b] fun n=>.bool (isY n)) Q:=q;refine yf15 (Fo.av_eq x y) ?_;rcases hz:x.beq y with _|_
   ·rw [hz] at q;exact q H w .refl
   ·rw [hz] at q;have q:yu7 V W N H wr cs (some (W.run x [a,b] fun n=>.bool (isY n))) Q:=q;refine qr (qa rfl) (yx (vs:=[a,b]) (dk1 hk rfl) (ho a e x ha hx) w.push hc (fun v y hv h=>ho v _ y hv h) (by simp) ⟨w.n,jh⟩ ?_);unfold Wo.run at q⊢;rcases hc':W.cf x [a,b] with _|p
    ·rw [hc'] at q;intro H' w' k';exact yf5 (v:=.nil) (dk1 hk rfl) (fun i h=>by injection h) (q H' w' (Kl.push.trans k'))
    ·rw [hc'] at q;intro hn H' b w' k' b1 b2;have q2:Q (.bool (isY p.1)) H':=q hn H' b w' (Kl.push.trans k') b1 b2;rw [<-yj2 hn] at q2;exact yf5 (v:=resV p.1) (dk1 hk rfl) (fun i h=>by
      obtain ⟨n,us⟩:=p
      match n,hn,h with
      |0,_,h=>injection h
      |1,_,h=>injection h
      |2,_,h=>injection h) q2
structure FxM (V:WI) (m:Loc) (o:Vl) (b:List UInt8):Prop where
 a0:lk m 135=some (.ref V.wd)
 a1:lk m 77=some o.av
 a2:lk m 38=some (.bytes b)
variable {b:List UInt8}
theorem FxM.put {o:Vl} (x:FxM V m o b) {y:Nat} {v:AV} (h:y≠135/\y≠77/\y≠38):FxM V (put m y v) o b:=
 ⟨ji x.a0 (Ne.symm h.1),ji x.a1 (Ne.symm h.2.1),ji x.a2 (Ne.symm h.2.2)⟩
variable {o:Oc}
theorem j7.kl {H1:List AO} (k:Kl V N H H1) (p:j7 V W N H wr cs o Q):j7 V W N H1 wr cs o Q:=by
 rcases o with v|⟨n,us,v⟩|_
 ·exact fun H' w k'=>p H' w (k.trans k')
 ·exact fun hn H' b w k'=>p hn H' b w (k.trans k')
 ·exact fun H' w k'=>p H' w (k.trans k')
variable {Q':AV->List AO->Prop}
theorem j7.mono (h:∀v H',Q v H'->Q' v H') (p:j7 V W N H wr cs o Q):j7 V W N H wr cs o Q':=by
 rcases o with v|⟨n,us,v⟩|_
 ·exact fun H' w k'=>h _ _ (p H' w k')
 ·exact fun hn H' b w k' b1 b2=>h _ _ (p hn H' b w k' b1 b2)
 ·exact fun H' w k'=>h _ _ (p H' w k')
variable {i:Nat} {a:AV}
theorem yt11 {l:List (AV×AV)} (h:H[i]? =some (.dict l)) (ho:dkOk l a=true) (hr:(aget l a).isSome=r) (q:F (.bool r) ⟨H,m⟩):cmpQ (pg sa sl) .In a (.ref i) F ⟨H,m⟩:=jj ((congrArg (fun o=>Option.bind o fun l=>gd (dkOk l a) (aget l a).isSome) (zb1 h)).trans ((congrArg (fun c=>gd c (aget l a).isSome) ho).trans (congrArg some hr))) q
theorem y38 (hi:i<4):[AV.ref (V.rw 0),.ref (V.rw 1),.ref (V.rw 2),.ref (V.rw 3)][i]? =some (.ref (V.rw i)):=by
 match i,hi with
 |0,_=>rfl
 |1,_=>rfl
 |2,_=>rfl
 |3,_=>rfl
variable {o:Vl}
theorem yp6 {Qf:AF->St->Prop} {J:St->Prop} {d:Nat} {hr:Bool} (hk:3<=k) (hv:o.ok) (w:Lw V W N H wr cs) (hc:cs.length<=1000) (ho:∀v c y,v.ok->W.hd v c=some y->y.ok) (hm:FxM V m o b) (h143:lk m 143=some (.bool hr)) (hno:noO o=if hr then .val .nil else .bad)
 (q:j7 V W N H wr cs (match W.hd o evI with
  |none=>noO o
  |some (.fn i)=>W.run (.fn i) [o,.bytes b] resV
  |some (.tab j)=>W.idx b d (.tab j)) Q)
 (hr':∀v σ,Q v σ.H->Qf (.ret v) σ) (hJ:∀m' j,Vl.ok (.tab j)->FxM V m' (.tab j) b->j7 V W N H wr cs (W.idx b d (.tab j)) Q->J ⟨H,m'⟩):
 wpS (pg sa sl) (Cl (pg sa sl) (k-1)) (.seq (.asg 60 (.call 77 (.cons (.nm 135) (.cons (.nm 77) (.cons (.bytes [95,95,105,110,100,101,120]) .nil))))) (.seq (.ite (.cmp .Is (.nm 60) .none) (.seq (.ret (.ite (.nm 143) .none (.call 76 (.cons (.nm 135) .nil)))) .done) .done) (.seq (.ite (.cmp .Eq (.sub (.nm 60) (.int 0)) (.str 61)) (.seq (.ret (.call 78 (.cons (.nm 135) (.cons (.nm 60) (.cons (.list (.cons (.nm 77) (.cons (.nm 38) .nil))) .nil))))) .done) .done) (.seq (.asg 77 (.nm 60)) .done)))) (jN Qf J) (exH X) ⟨H,m⟩:=by
 refine i_lk hm.a0 (i_lk hm.a1 (kQ (b:=evI) (dk1 hk rfl) w.toLd hv ?_));rcases hx:W.hd o evI with _|x
 ·rw [hx] at q;have q:j7 V W N H wr cs (noO o) Q:=q;rw [hno] at q;refine i_lk jC (i_lk (ji h143 (by decide)) ?_);rcases hr with _|_
  ·exact i_lk (ji hm.a0 (by decide)) (kR (dk1 hk rfl) w fun H' w' k'=>hr' _ ⟨H',_⟩ (q H' w' k'))
  ·exact hr' _ _ (q H w .refl)
 ·have xo:=ho o evI x hv hx;rw [hx] at q;have hi:jr x.av=false:=by rcases x with _|_<;>rfl
  refine i_lk jC (iF hi (i_lk jC ?_));rcases x with i|j
  ·exact j4 (l:=[.str 61,.int i]) (z:=0) (v:=.str 61) ⟨by decide,by decide⟩ rfl (i_lk (ji hm.a0 (by decide)) (i_lk jC (i_lk (ji hm.a1 (by decide)) (i_lk (ji hm.a2 (by decide)) (qr (qa rfl) (yx (x:=.fn i) (vs:=[o,.bytes b]) (dk1 hk rfl) xo w.push hc (fun v y hv h=>ho v _ y hv h) (by simp) ⟨w.n,jh⟩ (j7.kl .push (j7.mono (fun v H' h=>hr' v ⟨H',_⟩ h) q))))))))
  ·exact j4 (l:=[.str 74,.int j]) (z:=0) (v:=.str 74) ⟨by decide,by decide⟩ rfl (i_lk jC (hJ _ j xo ⟨ji (ji hm.a0 (by decide)) (by decide),jC,ji (ji hm.a2 (by decide)) (by decide)⟩ q))
theorem yp10 (hk:3<=k) (hv:o.ok) (w:Lw V W N H wr cs) (hc:cs.length<=1000) (ho:∀v c y,v.ok->W.hd v c=some y->y.ok) (q:j7 V W N H wr cs (W.idx b 100 o) Q):Cl (pg sa sl) k (.f 79) [.ref V.wd,o.av,.bytes b] H Q X:=by
 refine u_fn (dk0 hk rfl) rfl rfl ?_;refine jx (yr2 (a:=.int 100) (H1:=H) (src:=.range 0 100) (fun F q=>q) rfl rfl (fun n σ=>σ.H=H/\n<=100/\∃o,o.ok/\FxM V σ.m o b/\j7 V W N H wr cs (W.idx b (100-n) o) Q) 100
  ⟨rfl,qn _,o,hv,⟨rfl,rfl,rfl⟩,q⟩ fun n σ hJ=>?_)
 obtain ⟨H',m⟩:=σ
 obtain ⟨rfl,hn,o,hv,hm,q⟩:=hJ
 refine rz yw ?_;by_cases hlt:n<100
 ·refine rz (if_pos hlt) (⟨hlt,?_⟩);have hm:=hm.put (y:=142) (v:=.int n) (by decide);refine (?_:wpS _ _ _ _ _ ⟨_,put m 142 (.int n)⟩);generalize put m 142 (.int n)=m at hm⊢;obtain ⟨d,hd⟩:∃d,100-n=d+1:=⟨99-n,by lia⟩
  have hd':100-(n+1)=d:=by lia
  rw [hd] at q;unfold Wo.idx at q;refine i_lk hm.a1 ?_;rcases (show (∃i,o=.tab i)\/(W.row o b=none/\(∀F:Bool->Prop,F false->optQ F (isiV (pg sa sl) H' o.av .tuple))/\noO o=.bad) from by
   rcases o with _|_|_|_|i
   ·exact .inr ⟨rfl,fun F h=>h,rfl⟩
   ·exact .inr ⟨rfl,fun F h=>h,rfl⟩
   ·exact .inr ⟨rfl,fun F h=>h,rfl⟩
   ·exact .inr ⟨rfl,fun F h=>h,rfl⟩
   ·exact .inl ⟨i,rfl⟩) with ⟨i,rfl⟩|⟨e1,e2,e3⟩
  ·have hi:i<4:=hv;have z:(0:Int)<=(i:Int)/\(i:Int)<2^62:=⟨by lia,by lia⟩;refine i_lk hm.a1 (j4 (l:=[.str 74,.int i]) (z:=0) (v:=.str 74) ⟨by decide,by decide⟩ rfl ?_);have hm:=hm.put (y:=143) (v:=.bool true) (by decide);have h143:lk (put m 143 (.bool true)) 143=some (.bool true):=jC;refine (?_:wpS _ _ _ _ _ ⟨_,put m 143 (.bool true)⟩);generalize put m 143 (.bool true)=m at hm h143⊢;refine i_lk h143 (i_lk hm.a2 (i_lk hm.a0 (jX (b:=.str 137) (v:=.ref V.ro) w.wd rfl rfl (i_lk hm.a1 (j4 (l:=[.str 74,.int i]) (z:=1) (v:=.int i) ⟨by decide,by decide⟩ rfl (jo (v:=.ref (V.rw i)) w.ro z (by rw [Int.toNat_natCast];exact y38 hi) ?_))))));rcases hr:W.row (.tab i) b with _|v
   ·rw [hr] at q;have ha:aget ((W.rows i).map fun e=>(.bytes e.1,e.2.av)) (.bytes b)=none:=by rw [zk];exact congrArg _ hr
    refine yt11 (w.rw i hi) (jI _ _) (r:=false) (by refine rz ha ?_;rfl) ?_;exact yp6 (o:=.tab i) (hr:=true) hk hv w hc ho hm h143 rfl q (fun v σ h=>h) fun m' j oj hm' q'=>⟨rfl,hlt,.tab j,oj,hm',by exact rz hd' q'⟩
   ·rw [hr] at q;have ha:aget ((W.rows i).map fun e=>(.bytes e.1,e.2.av)) (.bytes b)=some v.av:=by rw [zk];exact congrArg _ hr
    refine yt11 (w.rw i hi) (jI _ _) (r:=true) (by refine rz ha ?_;rfl) ?_;exact i_lk hm.a0 (jX (b:=.str 137) (v:=.ref V.ro) w.wd rfl rfl (i_lk hm.a1 (j4 (l:=[.str 74,.int i]) (z:=1) (v:=.int i) ⟨by decide,by decide⟩ rfl (jo (v:=.ref (V.rw i)) w.ro z (by rw [Int.toNat_natCast];exact y38 hi) (i_lk hm.a2 (jX (w.rw i hi) (jI _ _) ha (q H' w .refl)))))))
  ·refine e2 _ ?_;have hm:=hm.put (y:=143) (v:=.bool false) (by decide);have h143:lk (put m 143 (.bool false)) 143=some (.bool false):=jC;refine (?_:wpS _ _ _ _ _ ⟨_,put m 143 (.bool false)⟩);generalize put m 143 (.bool false)=m at hm h143⊢;refine i_lk h143 ?_;rw [e1] at q;exact yp6 (hr:=false) hk hv w hc ho hm h143 e3 q (fun v σ h=>h) fun m' j oj hm' q'=>⟨rfl,hlt,.tab j,oj,hm',by exact rz hd' q'⟩
 ·refine rz (if_neg hlt) ?_;have:100-n=0:=by lia
  rw [this] at q;exact i_lk hm.a0 (kR (dk1 hk rfl) w q)
noncomputable def jV (V:WI) (W:Wo) (N:Nat) (H:List AO) (wr:Bool) (cs:List AV) (o:Oc) (Q:AV->List AO->Prop):Prop:=match o with
 |.val v=>∀H',Lw V W N H' wr cs->Kl V N H H'->Q v.av H'
 |.call n us v=>n<3->∀H' b,Lw V W N H' wr (cs++[.tup [.int n,.ref b]])->Kl V N H H'->N<=b->H'[b]? =some (.list (us.map Vl.av))->Q v.av H'
 |.bad=>∀H' r,Lw V W N H' true cs->Kl V N H H'->Q r H'
variable {o:Oc}
theorem jV.l (p:jV V W N H wr cs o Q):j7 V W N H wr cs o Q:=by
 rcases o with v|⟨n,us,v⟩|_
 ·exact p
 ·exact p
 ·exact fun H' w k'=>p H' _ w k'
theorem jV.kl {H1:List AO} (k:Kl V N H H1) (p:jV V W N H wr cs o Q):jV V W N H1 wr cs o Q:=by
 rcases o with v|⟨n,us,v⟩|_
 ·exact fun H' w k'=>p H' w (k.trans k')
 ·exact fun hn H' b w k'=>p hn H' b w (k.trans k')
 ·exact fun H' r w k'=>p H' r w (k.trans k')
theorem jV.mono (h:∀v H',Q v H'->Q' v H') (p:jV V W N H wr cs o Q):jV V W N H wr cs o Q':=by
 rcases o with v|⟨n,us,v⟩|_
 ·exact fun H' w k'=>h _ _ (p H' w k')
 ·exact fun hn H' b w k' b1 b2=>h _ _ (p hn H' b w k' b1 b2)
 ·exact fun H' r w k'=>h _ _ (p H' r w k')
variable {op:CmpOp}
theorem kO {b:AV} (h:cmpV (pg sa sl) H op a b=some r) (q:F (.bool r) ⟨H,m⟩):cmpQ (pg sa sl) op a b F ⟨H,m⟩:=jj h q
theorem k_in (a b:Vl):cmpV (pg sa sl) H .In (.tup [kAV a,kAV b]) (.tup [.tup [.bytes [110,117,109,98,101,114],.bytes [110,117,109,98,101,114]],.tup [.bytes [115,116,114,105,110,103],.bytes [115,116,114,105,110,103]]])=some (ltVl a b).isSome:=by
 rcases a with _|_|_|_|_<;>rcases b with _|_|_|_|_<;>rfl
theorem k_eq (a b:Vl):cmpV (pg sa sl) H .Eq (kAV a) (kAV b)=some (a.tv.ty==b.tv.ty):=by
 rcases a with _|_|_|_|_<;>rcases b with _|_|_|_|_<;>rfl
variable {a b:Vl}
theorem yT1 {e:List UInt8} (h:W.cmpd a b e=some o):o=.bad\/∃n us r,o=.call n us (.bool r):=by
 unfold Wo.cmpd at h;rcases hx:W.both a b e with _|x
 ·rw [hx] at h;injection h
 ·rw [hx] at h;have h:=qq h;change W.run x [a,b] _=o at h;unfold Wo.run at h;rcases hc:W.cf x [a,b] with _|p
  ·rw [hc] at h;exact .inl h.symm
  ·rw [hc] at h;exact .inr ⟨_,_,_,h.symm⟩
theorem yg9:(∃i j,a=.int i/\b=.int j)\/(∃l l',a=.bytes l/\b=.bytes l')\/(ltVl a b=none/\leVl a b=none):=by
 rcases a with _|_|_|_|_<;>rcases b with _|_|_|_|_<;>first|exact .inl ⟨_,_,rfl,rfl⟩|exact .inr (.inl ⟨_,_,rfl,rfl⟩)|exact .inr (.inr ⟨rfl,rfl⟩)
theorem yx1 {st:Bool} (hk:4<=k) (ha:a.ok) (hb:b.ok) (w:Lw V W N H wr cs) (hc:cs.length<=1000) (ho:∀v c y,v.ok->W.hd v c=some y->y.ok) (q:jV V W N H wr cs (if st then W.lt a b else W.le a b) Q):Cl (pg sa sl) k (.f 83) [.ref V.wd,a.av,b.av,.bool st] H Q X:=by
 refine u_fn (dk0 hk rfl) rfl rfl (kf1 (v:=a) (dk1 hk rfl) (kf1 (v:=b) (dk1 hk rfl) (qr (qa rfl) (qr (qa rfl) (qr (qa rfl) (qr (qa rfl) ?_))))));refine kO (k_in a b) ?_;rcases yg9 (a:=a) (b:=b) with ⟨i,j,rfl,rfl⟩|⟨l,l',rfl,rfl⟩|⟨h1,h2⟩
 ·rcases st with _|_<;>exact q H w .refl
 ·rcases st with _|_<;>exact q H w .refl
 ·refine rz h1 (j4 (l:=[kAV a,kAV b]) (z:=0) (v:=kAV a) ⟨by decide,by decide⟩ rfl (j4 (l:=[kAV a,kAV b]) (z:=1) (v:=kAV b) ⟨by decide,by decide⟩ rfl (kO (k_eq a b) ?_)));rcases st with _|_
  ·have q:jV V W N H wr cs (W.le a b) Q:=q;unfold Wo.le at q;rw [h2] at q;rcases h:(a.tv.ty==b.tv.ty) with _|_
   ·rw [h] at q;exact kR (dk1 hk rfl) w fun H' w' k'=>q H' _ w' k'
   ·rw [h] at q;have q:jV V W N H wr cs (match W.cmpd a b evLe with
     |some o=>o
     |none=>match W.cmpd b a evLt with
      |some o=>o.neg
      |none=>.bad) Q:=q
    refine y53 (e:=evLe) (dk1 hk rfl) ha hb w hc ho ?_;rcases hx:W.cmpd a b evLe with _|o
    ·rw [hx] at q;intro H' w' k';refine y53 (e:=evLt) (dk1 hk rfl) hb ha w' hc ho ?_;have q:jV V W N H wr cs (match W.cmpd b a evLt with
      |some o=>o.neg
      |none=>.bad) Q:=q
     rcases hy:W.cmpd b a evLt with _|o
     ·rw [hy] at q;intro H'' w'' k'';exact kR (dk1 hk rfl) w'' fun H3 w3 k3=>q H3 _ w3 (k'.trans (k''.trans k3))
     ·rw [hy] at q;rcases yT1 hy with rfl|⟨n,us,r,rfl⟩
      ·exact fun H'' w'' k''=>q H'' _ w'' (k'.trans k'')
      ·exact fun hn H'' b' w'' k'' b1 b2=>q hn H'' b' w'' (k'.trans k'') b1 b2
    ·rw [hx] at q;rcases yT1 hx with rfl|⟨n,us,r,rfl⟩
     ·exact fun H' w' k'=>q H' _ w' k'
     ·exact fun hn H' b' w' k' b1 b2=>q hn H' b' w' k' b1 b2
  ·have q:jV V W N H wr cs (W.lt a b) Q:=q;unfold Wo.lt at q;rw [h1] at q;rcases h:(a.tv.ty==b.tv.ty) with _|_
   ·rw [h] at q;exact kR (dk1 hk rfl) w fun H' w' k'=>q H' _ w' k'
   ·rw [h] at q;have q:jV V W N H wr cs ((W.cmpd a b evLt).getD .bad) Q:=q;refine y53 (e:=evLt) (dk1 hk rfl) ha hb w hc ho ?_;rcases hx:W.cmpd a b evLt with _|o
    ·rw [hx] at q;intro H' w' k';exact kR (dk1 hk rfl) w' fun H'' w'' k''=>q H'' _ w'' (k'.trans k'')
    ·rw [hx] at q;rcases yT1 hx with rfl|⟨n,us,r,rfl⟩
     ·exact fun H' w' k'=>q H' _ w' k'
     ·exact fun hn H' b' w' k' b1 b2=>q hn H' b' w' k' b1 b2
noncomputable def Oc.mp (g:Bool->Bool):Oc->Oc
 |.val (.bool b)=>.val (.bool (g b))
 |.call n us (.bool b)=>.call n us (.bool (g b))
 |o=>o
theorem Oc.mp_id:∀o:Oc,o.mp (fun r=>r==true)=o
 |.val (.bool b)=>by rcases b with _|_<;>rfl
 |.val .nil=>rfl
 |.val (.int _)=>rfl
 |.val (.bytes _)=>rfl
 |.val (.tab _)=>rfl
 |.call _ _ (.bool b)=>by rcases b with _|_<;>rfl
 |.call _ _ .nil=>rfl
 |.call _ _ (.int _)=>rfl
 |.call _ _ (.bytes _)=>rfl
 |.call _ _ (.tab _)=>rfl
 |.bad=>rfl
theorem Oc.mp_inv:∀o:Oc,o.mp (fun r=>r==false)=o.inv
 |.val (.bool b)=>by rcases b with _|_<;>rfl
 |.val .nil=>rfl
 |.val (.int _)=>rfl
 |.val (.bytes _)=>rfl
 |.val (.tab _)=>rfl
 |.call _ _ (.bool b)=>by rcases b with _|_<;>rfl
 |.call _ _ .nil=>rfl
 |.call _ _ (.int _)=>rfl
 |.call _ _ (.bytes _)=>rfl
 |.call _ _ (.tab _)=>rfl
 |.bad=>rfl
noncomputable def Vl.isT:Vl->Bool
 |.tab _=>true
 |_=>false
variable {Γ:Ora} {Xs:St->Prop} {σ:St}
theorem yw11 (q:F (.str n) σ):wp (pg sa sl) Γ (.str n) F Xs σ:=q
theorem i_tr {b:Bool} {F:Bool->St->Prop} (q:F b σ):trQ F (.bool b) σ:=q
theorem yA11 (a:Vl):cmpV (pg sa sl) H .Eq (kAV a) (.str 74)=some a.isT:=by rcases a with _|_|_|_|_<;>rfl
theorem av_eq (h:(a.tv.ty==b.tv.ty)=true):cmpV (pg sa sl) H .Eq a.av b.av=some (a.tv.eq b.tv):=by
 rcases a with _|_|_|_|_<;>rcases b with _|_|_|_|_<;>first|rfl|injection h|skip
 rename_i a b;refine (?_:some ((true&&(((a:Int)==(b:Int))&&true))&&true)=some ((-1-(a:Int))==(-1-(b:Int))))
 congr 1
 rw [Bool.eq_iff_iff];simp
theorem yN15 (h:(a.tv.ty==b.tv.ty)=false):a.tv.eq b.tv=false:=by
 rcases a with _|_|_|_|_<;>rcases b with _|_|_|_|_<;>first|rfl|injection h
theorem yW10:(∃i j,a=.tab i/\b=.tab j)\/((a.isT=false\/b.isT=false)/\W.eq a b=.val (.bool (a.tv.eq b.tv))):=by
 unfold Wo.eq;rcases h:a.tv.eq b.tv with _|_
 ·rcases a with _|_|_|_|_<;>rcases b with _|_|_|_|_<;>first|exact .inl ⟨_,_,rfl,rfl⟩|exact .inr ⟨.inl rfl,rfl⟩|exact .inr ⟨.inr rfl,rfl⟩
 ·rcases a with _|_|_|_|_<;>rcases b with _|_|_|_|_<;>first|exact .inl ⟨_,_,rfl,rfl⟩|exact .inr ⟨.inl rfl,rfl⟩|exact .inr ⟨.inr rfl,rfl⟩
variable {wd:Nat}
theorem yA8 (hk:5<=k) (hw:((119==wd)||((118==wd)||false))=true) (ha:a.ok) (hb:b.ok) (w:Lw V W N H wr cs) (hc:cs.length<=1000) (ho:∀v c y,v.ok->W.hd v c=some y->y.ok) (q:jV V W N H wr cs ((W.eq a b).mp fun r=>r==(wd==119)) Q):Cl (pg sa sl) k (.f 84) [.ref V.wd,.str wd,a.av,b.av] H Q X:=by
 refine u_fn (dk0 hk rfl) rfl rfl (qr (qa rfl) (kO (r:=true) (congrArg some hw) (kf1 (v:=a) (dk1 hk rfl) (kf1 (v:=b) (dk1 hk rfl) (kO (k_eq a b) ?_)))));have step:wpS (pg sa sl) (Cl (pg sa sl) (k-1)) (.seq (.ite (.and (.un .Not (.nm 16)) (.and (.cmp .Eq (.call 80 (.cons (.nm 43) .nil)) (.str 74)) (.cmp .Eq (.call 80 (.cons (.nm 44) .nil)) (.str 74)))) (.seq (.asg 16 (.cmp .Eq (.call 82 (.cons (.nm 135) (.cons (.bytes [95,95,101,113]) (.cons (.nm 43) (.cons (.nm 44) .nil))))) (.bool true))) .done) .done) (.seq (.ret (.cmp .Eq (.nm 16) (.cmp .Eq (.nm 86) (.str 119)))) .done)) (jw Q) (exH X) ⟨H,[(135,.ref V.wd),(86,.str wd),(43,a.av),(44,b.av),(16,.bool (a.tv.eq b.tv))]⟩:=by
  rcases yW10 (W:=W) (a:=a) (b:=b) with ⟨i,j,rfl,rfl⟩|⟨h,e⟩
  ·unfold Wo.eq at q;rcases hz:(Vl.tab i).tv.eq (Vl.tab j).tv with _|_
   ·rw [hz] at q;refine kf1 (v:=.tab i) (dk1 hk rfl) (kf1 (v:=.tab j) (dk1 hk rfl) (y53 (e:=evE) (a:=.tab i) (b:=.tab j) (dk1 hk rfl) ha hb w hc ho ?_));have q:jV V W N H wr cs (((W.cmpd (.tab i) (.tab j) evE).getD (.val (.bool false))).mp fun r=>r==(wd==119)) Q:=q;rcases hx:W.cmpd (.tab i) (.tab j) evE with _|o
    ·rw [hx] at q;exact fun H' w' k'=>q H' w' k'
    ·rw [hx] at q;rcases yT1 hx with rfl|⟨n,us,r,rfl⟩
     ·exact fun H' w' k'=>q H' _ w' k'
     ·intro hn H' b' w' k' b1 b2;have q:=q hn H' b' w' k' b1 b2;rcases r with _|_<;>exact q
   ·rw [hz] at q;exact q H w .refl
  ·rw [e] at q;have q:=q H w .refl;rcases hz:a.tv.eq b.tv with _|_
   ·rw [hz] at q;refine kf1 (v:=a) (dk1 hk rfl) (kO (yA11 a) ?_);rcases ht:a.isT with _|_
    ·exact q
    ·refine kf1 (v:=b) (dk1 hk rfl) (kO (yA11 b) ?_);rcases h with h|h
     ·rw [h] at ht;injection ht
     ·exact rz h q
   ·rw [hz] at q;exact q
 rcases h:(a.tv.ty==b.tv.ty) with _|_
 ·rw [yN15 h] at step;exact step
 ·exact i_tr (kO (av_eq h) (step))
theorem y43 (hk:5<=k) (hw:wd=115\/wd=132\/wd=114\/wd=117) (ha:a.ok) (hb:b.ok) (w:Lw V W N H wr cs) (hc:cs.length<=1000) (ho:∀v c y,v.ok->W.hd v c=some y->y.ok) (q:jV V W N H wr cs (W.word wd a b) Q):Cl (pg sa sl) k (.f 84) [.ref V.wd,.str wd,a.av,b.av] H Q X:=by
 refine u_fn (dk0 hk rfl) rfl rfl (qr (qa rfl) ?_);rcases hw with rfl|rfl|rfl|rfl
 ·exact qr (qa rfl) (yW (v:=115) rfl (y03 (yx1 (st:=true) (dk1 hk rfl) ha hb w hc ho q)))
 ·exact qr (qa rfl) (yW (v:=115) rfl (y03 (yx1 (st:=false) (dk1 hk rfl) ha hb w hc ho q)))
 ·refine qr (qa rfl) (qr (qa rfl) (qr rfl ?_));exact yW (v:=114) rfl (y03 (yx1 (st:=true) (dk1 hk rfl) hb ha w hc ho q))
 ·refine qr (qa rfl) (qr (qa rfl) (qr rfl ?_));exact yW (v:=114) rfl (y03 (yx1 (st:=false) (dk1 hk rfl) hb ha w hc ho q))
variable {F:AF->St->Prop}
theorem yZ3 (q:F .next σ):wpS (pg sa sl) Γ .done F Xs σ:=q
theorem yM5 {x:Nat} {e:E} (q:wp (pg sa sl) Γ e (asgK x (F .next)) Xs σ):wpS (pg sa sl) Γ (.asgC x e) F Xs σ:=q
theorem i_k2 {R:(AV->St->Prop)->St->Prop} {F:AV->AV->St->Prop} {x:AV} (q:R (F x) σ):k2 R F x σ:=q
variable {A B:St->Prop}
theorem yi8 (q:B σ):ifK A B false σ:=q
theorem yd15 (q:A σ):ifK A B true σ:=q
theorem i_sq {R:St->Prop} (q:R σ):seqK R F .next σ:=q
theorem yb5 {l:List AV}:Src.item H (.tup l) n=some l[n]? :=rfl
variable {elt it:E} {F:AV->St->Prop}
theorem yN6 {x:Nat} {α:Type} (vs:List α) (p g:α->AV) (hw:∀F:AV->St->Prop,F (.tup (vs.map p)) ⟨H,m⟩->wp (pg sa sl) Γ it F Xs ⟨H,m⟩) (hl:vs.length<=1000000)
 (he:∀(n:Nat) (v:α),vs[n]? =some v->∀acc (F:AV->St->Prop),F (g v) ⟨H++[.list acc],[(x,p v)]⟩->wp (pg sa sl) Γ elt F (fun o_=>False) ⟨H++[.list acc],[(x,p v)]⟩) (q:F (.ref H.length) ⟨H++[.list (vs.map g)],m⟩):wp (pg sa sl) Γ (.comp elt (.one x) .val it) F Xs ⟨H,m⟩:=by
 refine hw _ ((?_:optQ _ (some (Src.tup (vs.map p)))));refine ⟨rfl,fun k n σ=>k+n=vs.length/\σ.H=H++[.list ((vs.take n).map g)]/\(σ.m=[]\/∃a,σ.m=[(x,a)]),vs.length,⟨rfl,rfl,.inl rfl⟩,fun k n σ hJ=>?_⟩;obtain ⟨H',m'⟩:=σ
 obtain ⟨hk,rfl,hm⟩:=hJ
 refine rz yb5 (rz qt ?_);rcases hn:vs[n]? with _|a
 ·have:=qs.mp hn;refine (?_:F (.ref H.length) ⟨H++[.list ((vs.take n).map g)],m⟩);exact rz (List.take_of_length_le this) (q)
 ·have hlt:=(qA.mp hn).1;have go:wp (pg sa sl) Γ elt (fun v σ2=>optQ (fun l1=>l1.length<=1000000/\∃k',k'<k/\(k'+(n+1)=vs.length/\(σ2.H.set H.length (.list (l1++[v])))=H++[.list ((vs.take (n+1)).map g)]/\(σ2.m=[]\/∃a,σ2.m=[(x,a)]))) (lsAt σ2.H H.length)) (fun o_=>False) ⟨H++[.list ((vs.take n).map g)],[(x,p a)]⟩:=by
   refine he n a hn _ _ (jj (jU jh) ⟨by simp;lia,k-1,by lia,by lia,?_,.inr ⟨_,rfl⟩⟩);refine rz kg1 (rz List.take_succ (rz hn ?_));simp
  rcases hm with rfl|⟨b,rfl⟩
  ·exact go
  ·have e:put [(x,b)] x (p a)=[(x,p a)]:=by simp [put]
   refine (?_:optQ _ (some (put [(x,b)] x (p a))));exact rz e (go)
noncomputable def kN:AV:=.bytes [110,117,109,98,101,114]
noncomputable def kS:AV:=.bytes [115,116,114,105,110,103]
noncomputable def Vl.isI:Vl->Bool
 |.int _=>true
 |_=>false
theorem y75 {l r:List AV} (h1:H[i]? =some (.list l)) (h2:H[j]? =some (.list r)):eqV H (n+1) (.ref i) (.ref j)=if l.length=r.length then eqL (eqV H n) l r else some false:=(congrArg (fun o:Option (List AV)=>o.bind fun l=>(lsAt H j).bind fun m=>if l.length=m.length then eqL (eqV H n) l m else some false) (jU h1)).trans (congrArg (fun o:Option (List AV)=>o.bind fun m=>if l.length=m.length then eqL (eqV H n) l m else some false) (jU h2))
theorem y62 {f:AV->AV->Option Bool} {a b:AV} {l m:List AV} (h1:f a b=some true) (h2:eqL f l m=some true):eqL f (a::l) (b::m)=some true:=(congrArg (fun o:Option Bool=>o.bind fun x=>(eqL f l m).map (x&&·)) h1).trans (congrArg (Option.map (true&&·)) h2)
theorem k_nn (h1:H[i]? =some (.list [kAV a,kAV b])) (h2:H[j]? =some (.list [kN,kN])):cmpV (pg sa sl) H .Eq (.ref i) (.ref j)=some (a.isI&&b.isI):=by
 refine (?_:eqV H 8 (.ref i) (.ref j)=_);refine rz (y75 h1 h2) ?_;rcases a with _|_|_|_|_<;>rcases b with _|_|_|_|_<;>rfl
noncomputable def Vl.isX:Vl->Bool
 |.int _=>true
 |.bytes _=>true
 |_=>false
theorem k_x:cmpV (pg sa sl) H .In (kAV a) (.tup [kN,kS])=some a.isX:=by
 rcases a with _|_|_|_|_<;>rfl
theorem yk6 (h:a.isX=false\/b.isX=false):W.cat a b=W.bin a b evN:=by
 rcases a with _|_|_|_|_<;>rcases b with _|_|_|_|_<;>first|rfl|(rcases h with h|h<;>injection h)
theorem yD8 {e:List UInt8} {x:AV} (hk:5<=k) (hw:(131==wd,e)=(true,evA)\/(131==wd,e)=(false,evN)) (ha:a.ok) (hb:b.ok) (w:Lw V W N H wr cs) (hc:cs.length<=1000) (ho:∀v c y,v.ok->W.hd v c=some y->y.ok) (q:jV V W N H wr cs (W.bin a b e) Q):
 wpS (pg sa sl) (Cl (pg sa sl) (k-1)) (.seq (.asg 60 (.call 77 (.cons (.nm 135) (.cons (.nm 43) (.cons (.nm 56) .nil))))) (.seq (.asg 60 (.ite (.cmp .Is (.nm 60) .none) (.call 77 (.cons (.nm 135) (.cons (.nm 44) (.cons (.nm 56) .nil)))) (.nm 60))) (.seq (.ret (.ite (.cmp .IsNot (.nm 60) .none) (.call 78 (.cons (.nm 135) (.cons (.nm 60) (.cons (.list (.cons (.nm 43) (.cons (.nm 44) .nil))) .nil)))) (.call 76 (.cons (.nm 135) .nil)))) .done))) (jw Q) (exH X) ⟨H,[(135,.ref V.wd),(86,.str wd),(43,a.av),(44,b.av),(145,x),(56,.bytes e)]⟩:=by
 unfold Wo.bin at q;refine kQ (b:=e) (dk1 hk rfl) w.toLd ha ?_;have fin:∀x:Fo,x.ok->jV V W N H wr cs (W.run x [a,b] resV) Q->∀z,wpS (pg sa sl) (Cl (pg sa sl) (k-1)) (.seq (.ret (.ite (.cmp .IsNot (.nm 60) .none) (.call 78 (.cons (.nm 135) (.cons (.nm 60) (.cons (.list (.cons (.nm 43) (.cons (.nm 44) .nil))) .nil)))) (.call 76 (.cons (.nm 135) .nil)))) .done) (jw Q) (exH X) ⟨H,[(135,.ref V.wd),(86,.str wd),(43,a.av),(44,b.av),(145,z),(56,.bytes e),(60,x.av)]⟩:=fun x xo q z=>by
  have hi:jr x.av=false:=by rcases x with _|_<;>rfl
  refine (?_:(match !jr x.av with
   |true=>_
   |false=>_))
  exact rz hi (qr (qa rfl) (yx (x:=x) (vs:=[a,b]) (dk1 hk rfl) xo w.push hc (fun v y hv h=>ho v _ y hv h) (by simp) ⟨w.n,jh⟩ (j7.kl .push q.l)))
 rcases hx:W.hd a e with _|x
 ·rw [hx] at q;refine kQ (b:=e) (dk1 hk rfl) w.toLd hb ?_;rcases hy:W.hd b e with _|x
  ·rw [hy] at q;exact kR (dk1 hk rfl) w fun H' w' k'=>q H' _ w' k'
  ·rw [hy] at q;exact fin x (ho b e x hb hy) q _
 ·rw [hx] at q;have hi:jr x.av=false:=by rcases x with _|_<;>rfl
  exact iF hi (fin x (ho a e x ha hx) q _)
theorem yx6 (hk:5<=k) (q:F (.ref H.length) ⟨H++[.list [kAV a,kAV b]],[(135,.ref V.wd),(86,.str wd),(43,a.av),(44,b.av)]⟩):wp (pg sa sl) (Cl (pg sa sl) (k-1)) (.comp (.call 80 (.cons (.nm 11) .nil)) (.one 11) .val (.tup (.cons (.nm 43) (.cons (.nm 44) .nil)))) F Xs ⟨H,[(135,.ref V.wd),(86,.str wd),(43,a.av),(44,b.av)]⟩:=by
 refine yN6 [a,b] Vl.av kAV (by exact fun F q=>⟨qa rfl,q⟩) (by simp) (fun n v hv acc F hF=>?_) q;exact kf1 (v:=v) (dk1 hk rfl) hF
theorem y912 (hk:5<=k) (ha:Th a) (hb:Th b) (w:Lw V W N H wr cs) (hc:cs.length<=1000) (ho:∀v c y,v.ok->W.hd v c=some y->y.ok) (q:jV V W N H wr cs (W.ad a b) Q):Cl (pg sa sl) k (.f 84) [.ref V.wd,.str 131,a.av,b.av] H Q X:=by
 refine u_fn (dk0 hk rfl) rfl rfl (qr (qa rfl) (qr (qa rfl) (yW (v:=131) rfl (i_k2 (yw11 ?_)))));refine kO (r:=false) rfl (i_tr (yi8 (yZ3 (i_sq ?_))));refine jx (yM5 (yx6 (a:=a) (b:=b) (wd:=131) (V:=V) hk ?_));have w1:=w.push (l:=[.list [kAV a,kAV b]]);have q:=jV.kl (Kl.push (l:=[.list [kAV a,kAV b]])) q;have h1:(H++[AO.list [kAV a,kAV b]])[H.length]? =some (.list [kAV a,kAV b]):=jh;refine (?_:wpS _ _ _ _ _ ⟨_,[(135,.ref V.wd),(86,.str 131),(43,a.av),(44,b.av),(145,.ref H.length)]⟩);generalize H.length=i at h1⊢;generalize H++[AO.list [kAV a,kAV b]]=H1 at w1 q h1⊢;refine qr (qa rfl) ?_;have w2:=w1.push (l:=[.list [kN,kN]]);have q:=jV.kl (Kl.push (l:=[.list [kN,kN]])) q;refine kO (k_nn (jc h1) (jh (o:=.list [kN,kN]))) ?_;rcases (show (a.isI=true/\b.isI=true/\a=.int 5/\b=.int 5)\/((a.isI&&b.isI)=false/\W.ad a b=W.bin a b evA) from by
  rcases a with _|_|_|_|_<;>rcases b with _|_|_|_|_<;>first|exact .inr ⟨rfl,rfl⟩|exact .inl ⟨rfl,rfl,congrArg _ ha,congrArg _ hb⟩) with ⟨e1,e2,rfl,rfl⟩|⟨e1,e2⟩
 ·exact q _ w2 .refl
 ·refine rz e1 ?_;rw [e2] at q;exact yD8 (wd:=131) (e:=evA) hk (.inl rfl) ha.ok hb.ok w2 hc ho q
theorem yq15 {acc:List AV} {l:List UInt8} (h:txtV a=.bytes l) (q:F (.bytes l) ⟨H++[.list acc],[(11,a.av)]⟩):wp (pg sa sl) (Cl (pg sa sl) (k-1)) (.ite (.isi (.nm 11) .bytes) (.nm 11) (.bytes [53])) F Xs ⟨H++[.list acc],[(11,a.av)]⟩:=by
 rcases a with _|_|i|l'|_
 ·injection h
 ·injection h
 ·injection h with hz;subst hz;exact q
 ·injection h with hz;subst hz;exact q
 ·injection h
theorem yX12 {x y:List UInt8} (h:H[j]? =some (.list [.bytes x,.bytes y])) (hl:x.length+y.length<=1000000) (q:F (.bytes (x++y)) ⟨H,m⟩):bmQ .join (.bytes []) [.ref j] F ⟨H,m⟩:=by
 delta bmQ;exact ⟨rfl,jj (jU h) ⟨x,y,rfl,hl,q⟩⟩
theorem yi15 {e:E} {F:AF->St->Prop} (q:wp (pg sa sl) Γ e (retK F) Xs σ):wpS (pg sa sl) Γ (.ret e) F Xs σ:=q
theorem yf10 {l:E} (q:wp (pg sa sl) Γ l (tupQ fun as σ2=>bmQ .join (.bytes []) as F σ2) Xs σ):wp (pg sa sl) Γ (.meth (.bytes []) 146 l) F Xs σ:=q
theorem yb13 {l l':List UInt8} (hk:5<=k) (el:txtV a=.bytes l) (el':txtV b=.bytes l') (hl:l.length+l'.length<=1000000) (q:F (.bytes (l++l')) ⟨H++[.list [.bytes l,.bytes l']],[(135,.ref V.wd),(86,.str 123),(43,a.av),(44,b.av),(145,.ref i)]⟩):wp (pg sa sl) (Cl (pg sa sl) (k-1)) (.meth (.bytes []) 146 (.cons (.comp (.ite (.isi (.nm 11) .bytes) (.nm 11) (.bytes [53])) (.one 11) .val (.tup (.cons (.nm 43) (.cons (.nm 44) .nil)))) .nil)) F Xs ⟨H,[(135,.ref V.wd),(86,.str 123),(43,a.av),(44,b.av),(145,.ref i)]⟩:=by
 refine yf10 (kj (yN6 [(a,l),(b,l')] (fun p=>p.1.av) (fun p=>.bytes p.2) (by exact fun F q=>⟨qa rfl,q⟩) (by simp) (fun n v hv acc F hF=>?_) ?_))
 ·have:txtV v.1=.bytes v.2:=by
   rcases qC.mp (qD hv) with rfl|h
   ·exact el
   ·exact rz (qB.mp h) el'
  exact yq15 this hF
 ·exact yX12 (x:=l) (y:=l') jh hl (q)
theorem ya13 (hk:5<=k) (ha:Th a) (hb:Th b) (w:Lw V W N H wr cs) (hc:cs.length<=1000) (ho:∀v c y,v.ok->W.hd v c=some y->y.ok) (q:jV V W N H wr cs (W.cat a b) Q):Cl (pg sa sl) k (.f 84) [.ref V.wd,.str 123,a.av,b.av] H Q X:=by
 refine u_fn (dk0 hk rfl) rfl rfl (qr (qa rfl) (qr (qa rfl) (yW (v:=161) rfl (i_k2 (yw11 ?_)))));refine kO (r:=false) rfl (i_tr (yi8 (yZ3 (i_sq ?_))));refine jx (yM5 (yx6 (a:=a) (b:=b) (wd:=123) (V:=V) hk ?_));have w1:=w.push (l:=[.list [kAV a,kAV b]]);have q:=jV.kl (Kl.push (l:=[.list [kAV a,kAV b]])) q;have h1:(H++[AO.list [kAV a,kAV b]])[H.length]? =some (.list [kAV a,kAV b]):=jh;refine (?_:wpS _ _ _ _ _ ⟨_,[(135,.ref V.wd),(86,.str 123),(43,a.av),(44,b.av),(145,.ref H.length)]⟩);generalize H.length=i at h1⊢;generalize H++[AO.list [kAV a,kAV b]]=H1 at w1 q h1⊢;refine jo (v:=kAV a) h1 ⟨by decide,by decide⟩ rfl (qr (qa rfl) (kO (k_x (a:=a)) ?_));have tail:W.cat a b=W.bin a b evN->wpS (pg sa sl) (Cl (pg sa sl) (k-1)) (.seq (.asg 60 (.call 77 (.cons (.nm 135) (.cons (.nm 43) (.cons (.nm 56) .nil))))) (.seq (.asg 60 (.ite (.cmp .Is (.nm 60) .none) (.call 77 (.cons (.nm 135) (.cons (.nm 44) (.cons (.nm 56) .nil)))) (.nm 60))) (.seq (.ret (.ite (.cmp .IsNot (.nm 60) .none) (.call 78 (.cons (.nm 135) (.cons (.nm 60) (.cons (.list (.cons (.nm 43) (.cons (.nm 44) .nil))) .nil)))) (.call 76 (.cons (.nm 135) .nil)))) .done))) (jw Q) (exH X) ⟨H1,[(135,.ref V.wd),(86,.str 123),(43,a.av),(44,b.av),(145,.ref i),(56,.bytes evN)]⟩:=fun e=>by
  rw [e] at q;exact yD8 (wd:=123) (e:=evN) hk (.inr rfl) ha.ok hb.ok w1 hc ho q
 rcases hx:a.isX with _|_
 ·exact tail (yk6 (.inl hx))
 ·refine i_tr (jo (v:=kAV b) h1 ⟨by decide,by decide⟩ rfl (qr (qa rfl) (kO (k_x (a:=b)) ?_)));rcases hy:b.isX with _|_
  ·exact tail (yk6 (.inr hy))
  ·obtain ⟨l,el,ll⟩:∃l,txtV a=.bytes l/\l.length=1:=by
    rcases a with _|_|_|_|_<;>first|(injection hx;done)|exact ⟨_,rfl,rfl⟩|skip
    rename_i l;subst ha;exact ⟨_,rfl,rfl⟩
   obtain ⟨l',el',ll'⟩:∃l,txtV b=.bytes l/\l.length=1:=by
    rcases b with _|_|_|_|_<;>first|(injection hy;done)|exact ⟨_,rfl,rfl⟩|skip
    rename_i l;subst hb;exact ⟨_,rfl,rfl⟩
   unfold Wo.cat at q;rw [el,el'] at q;exact i_tr (jx (yi15 (yb13 hk el el' (by lia) (q _ w1.push .push))))
noncomputable def Sn (N:Nat) (H:List AO) (i:Nat) (o:AO):Prop:=N<=i/\H[i]? =some o
noncomputable def Nd (N:Nat) (H:List AO) (n kd:Nat) (ps:List AV):Prop:=∃j p,Sn N H n (.inst 660 j)/\Sn N H j (.dict [(.str 45,.str kd),(.str 31,.int 1),(.str 83,.ref p)])/\Sn N H p (.list ps)
noncomputable def Lf (N:Nat) (H:List AO) (n:Nat):Vl->Prop
 |.nil=>Nd N H n 100 []
 |.int i=>Nd N H n 34 [.int i]
 |.bytes l=>Nd N H n 82 [.bytes l]
 |.tab i=>i<4/\Nd N H n 84 [.bytes (tn i)]
 |.bool _=>False
noncomputable def Tn (N:Nat) (H:List AO) (n:Nat):Nk->Prop
 |.index o key=>∃x y,Nd N H n 81 [.ref x,.ref y]/\Lf N H x o/\Nd N H y 82 [.bytes key]/\Th o
 |.call a b=>∃c p x,Nd N H n 59 [.ref c,.ref p]/\Lf N H c a/\Sn N H p (.list [.ref x])/\Lf N H x b/\Th a/\Th b
 |.unm a=>∃x,Nd N H n 103 [.str 111,.ref x]/\Lf N H x a/\Th a
 |.word wd a b=>∃x y,Nd N H n 98 [.str wd,.ref x,.ref y]/\Lf N H x a/\Lf N H y b/\Th a/\Th b/\wd∈[119,118,115,132,114,117,123,131]
noncomputable def Ks (N:Nat) (H H':List AO):Prop:=∀i o,N<=i->H[i]? =some o->H'[i]? =some o
variable {I:RI}
theorem Ks.push {l:List AO}:Ks N H (H++l):=fun o_ o_ o_ h=>jc h
theorem Kl.ks (w:Lw V W N H wr cs) (a:Kl V N H H'):Ks N H H':=fun i o h e=>a.kp i o e (by have:=w.n1;exact qe (qc this h)) (by have:=w.n2;exact qe (qc this h))
theorem Sn.ks {o:AO} (a:Sn N H i o) (k:Ks N H H'):Sn N H' i o:=⟨a.1,k _ _ a.1 a.2⟩
variable {ps:List AV}
theorem Nd.ks {kd:Nat} (a:Nd N H n kd ps) (k:Ks N H H'):Nd N H' n kd ps:=let ⟨j,p,a1,a2,a3⟩:=a;⟨j,p,a1.ks k,a2.ks k,a3.ks k⟩
theorem Lf.ks (a:Lf N H n v) (k:Ks N H H'):Lf N H' n v:=by
 rcases v with _|_|i|l|i
 ·exact Nd.ks a k
 ·exact a
 ·exact Nd.ks a k
 ·exact Nd.ks a k
 ·exact ⟨a.1,Nd.ks a.2 k⟩
variable {t:Nk}
theorem Tn.ks (a:Tn N H n t) (k:Ks N H H'):Tn N H' n t:=by
 rcases t with ⟨o,key⟩|⟨a,b⟩|a|⟨wd,a,b⟩
 ·exact jS a fun x y a1 a2 a3 a4=>⟨x,y,a1.ks k,a2.ks k,a3.ks k,a4⟩
 ·exact jF a fun c p x hz=>jK hz fun a1 a2 a3 a4 a5=>⟨c,p,x,a1.ks k,a2.ks k,a3.ks k,a4.ks k,a5⟩
 ·exact jR a fun x a1 a2 a3=>⟨x,a1.ks k,a2.ks k,a3⟩
 ·exact jS a fun x y a1 a2 a3 a4=>⟨x,y,a1.ks k,a2.ks k,a3.ks k,a4⟩
theorem Nd.s0 {kd:Nat} (h:∀i o,Sn N H i o->I.S0 i o) (a:Nd N H n kd ps):Nd0 I n kd ps:=let ⟨j,p,a1,a2,a3⟩:=a;⟨j,p,h _ _ a1,h _ _ a2,h _ _ a3⟩
theorem Lf.s0 (h:∀i o,Sn N H i o->I.S0 i o) (a:Lf N H n v):Lf0 I n v:=by
 rcases v with _|_|i|l|i
 ·exact Nd.s0 h a
 ·exact a
 ·exact Nd.s0 h a
 ·exact Nd.s0 h a
 ·exact ⟨a.1,Nd.s0 h a.2⟩
theorem Tn.s0 (h:∀i o,Sn N H i o->I.S0 i o) (a:Tn N H n t):Tn0 I n t:=by
 rcases t with ⟨o,key⟩|⟨a,b⟩|a|⟨wd,a,b⟩
 ·exact jS a fun x y a1 a2 a3 a4=>⟨x,y,a1.s0 h,a2.s0 h,a3.s0 h,a4⟩
 ·exact jF a fun c p x hz=>jK hz fun a1 a2 a3 a4 a5=>⟨c,p,x,a1.s0 h,a2.s0 h,h _ _ a3,a4.s0 h,a5⟩
 ·exact jR a fun x a1 a2 a3=>⟨x,a1.s0 h,a2.s0 h,a3⟩
 ·exact jS a fun x y a1 a2 a3 a4=>⟨x,y,a1.s0 h,a2.s0 h,a3.s0 h,a4⟩
theorem yB8 (hk:5<=k) (hw:wd∈[119,118,115,132,114,117,123,131]) (ha:Th a) (hb:Th b) (w:Lw V W N H wr cs) (hc:cs.length<=1000) (ho:∀v c y,v.ok->W.hd v c=some y->y.ok) (q:jV V W N H wr cs (W.word wd a b) Q):Cl (pg sa sl) k (.f 84) [.ref V.wd,.str wd,a.av,b.av] H Q X:=by
 simp only [qC,List.not_mem_nil,or_false] at hw;rcases hw with rfl|rfl|rfl|rfl|rfl|rfl|rfl|rfl
 ·exact yA8 hk rfl ha.ok hb.ok w hc ho ((Oc.mp_id (W.eq a b)).symm▸q)
 ·exact yA8 hk rfl ha.ok hb.ok w hc ho ((Oc.mp_inv (W.eq a b)).symm▸q)
 ·exact y43 hk (.inl rfl) ha.ok hb.ok w hc ho q
 ·exact y43 hk (.inr (.inl rfl)) ha.ok hb.ok w hc ho q
 ·exact y43 hk (.inr (.inr (.inl rfl))) ha.ok hb.ok w hc ho q
 ·exact y43 hk (.inr (.inr (.inr rfl))) ha.ok hb.ok w hc ho q
 ·exact ya13 hk ha hb w hc ho q
 ·exact y912 hk ha hb w hc ho q
theorem yI7 {kd p:Nat} (hk:2<=k) (q:Q (.ref (H.length+1)) (H++[.dict [(.str 45,.str kd),(.str 31,.int 1),(.str 83,.ref p)],.inst 660 H.length])):Cl (pg sa sl) k (.f 69) [.str kd,.int 1,.ref p] H Q X:=by
 exact yq2 (dk0 hk rfl) rfl (u_fn (dk1 hk rfl) rfl rfl (jy rfl rfl (qa rfl) (jy rfl rfl (qa rfl) (jy rfl rfl (qa rfl) (⟨rfl,q⟩)))))
theorem kW {kd:Nat} (hk:2<=k) (hN:N<=H.length) (q:∀n l,Nd N (H++l) n kd ps->Q (.ref n) (H++l)):Cl (pg sa sl) k (.f 69) [.str kd,.int 1,.ref H.length] (H++[.list ps]) Q X:=by
 refine yI7 hk ?_;have e:(H++[AO.list ps]).length=H.length+1:=by simp
 rw [List.append_assoc];refine rz e ?_;refine q _ _ ⟨H.length+1,H.length,⟨(qh (qh hN)),kE (i:=2) rfl⟩,⟨(qh hN),kE (i:=1) rfl⟩,⟨hN,kE (i:=0) rfl⟩⟩
theorem yX (hk:3<=k) (hv:Th v) (hN:N<=H.length) (q:∀n l,Lf N (H++l) n v->Q (.ref n) (H++l)):Cl (pg sa sl) k (.f 85) [v.av] H Q X:=by
 refine u_fn (dk0 hk rfl) rfl rfl ?_;rcases v with _|_|i|l|i
 ·exact qr (qa rfl) (kW (dk1 hk rfl) hN q)
 ·exact hv.elim
 ·exact qr (qa rfl) (kW (dk1 hk rfl) hN q)
 ·exact qr (qa rfl) (kW (dk1 hk rfl) hN q)
 ·refine j4 (l:=[.str 74,.int i]) (z:=1) (v:=.int i) ⟨by decide,by decide⟩ rfl (j4 (l:=[.str 74,.int i]) (z:=1) (v:=.int i) ⟨by decide,by decide⟩ rfl (y71 (x:=some (i:Int)) (y:=some ((i:Int)+1)) rfl rfl (qa rfl) ?_))
  match i,hv with
  |0,hv=>
   refine qr (qa rfl) (qr (qa rfl) ?_);exact kW (dk1 hk rfl) hN fun n l h=>q n l ⟨hv,h⟩
  |1,hv=>
   refine qr (qa rfl) (qr (qa rfl) ?_);exact kW (dk1 hk rfl) hN fun n l h=>q n l ⟨hv,h⟩
  |2,hv=>
   refine qr (qa rfl) (qr (qa rfl) ?_);exact kW (dk1 hk rfl) hN fun n l h=>q n l ⟨hv,h⟩
  |3,hv=>
   refine qr (qa rfl) (qr (qa rfl) ?_);exact kW (dk1 hk rfl) hN fun n l h=>q n l ⟨hv,h⟩
structure Ka (b0 b1:Nat) (H H':List AO):Prop where
 len:H.length<=H'.length
 kp:∀i o,H[i]? =some o->i≠b0->i≠b1->H'[i]? =some o
end
structure Ad (V:WI) (W:Wo) (b0 b1 sn n0 n1 N:Nat):Prop where
 l0:b0<n0
 l1:b1<n0
 ls:sn<n0
 d01:b0≠b1
 d0s:b0≠sn
 d1s:b1≠sn
 wd:n0<=V.wd/\V.wd<n1
 ro:n0<=V.ro/\V.ro<n1
 me:n0<=V.me/\V.me<n1
 cl:n0<=V.cl/\V.cl<n1
 tx:n0<=V.tx/\V.tx<n1
 rw:∀i,i<4->n0<=V.rw i/\V.rw i<n1
 mt:∀i,i<4->∀es,W.metas i=some es->n0<=V.mt i/\V.mt i<n1
 n:n1<=N
section
variable {sa:Addr} {sl:List AV} {k:Nat} {m:Loc} {Q:AV->List AO->Prop} {X:List AO->Prop} {H H' H'':List AO} {f N n0 n1 b0 b1 sn:Nat} {V:WI} {W:Wo} {wr:Bool} {cs:List AV} {I:RI}
theorem Ka.trans (a:Ka b0 b1 H H') (b:Ka b0 b1 H' H''):Ka b0 b1 H H'':=⟨qb a.len b.len,fun i o h h1 h2=>b.kp i o (a.kp i o h h1 h2) h1 h2⟩
theorem Ka.push {l:List AO}:Ka b0 b1 H (H++l):=⟨by simp,fun i o h o_ o_=>jc h⟩
theorem Bx.push (b:Bx H b0 b1 f) {l:List AO}:Bx (H++l) b0 b1 f:=⟨let ⟨n,c,a1,a2,a3⟩:=b.h0;⟨n,c,a1,a2,jc a3⟩,let ⟨ns,a1,a2⟩:=b.h1;⟨ns,a1,jc a2⟩⟩
variable {f':Nat}
theorem Bx.less (b:Bx H b0 b1 f) (h:f'<=f):Bx H b0 b1 f':=⟨let ⟨n,c,a1,a2,a3⟩:=b.h0;⟨n,c,a1,by lia,a3⟩,b.h1⟩
theorem Ld.stay (A:Ad V W b0 b1 sn n0 n1 N) (d:Ld V W H wr cs) (h:∀i o,n0<=i->i<n1->H[i]? =some o->H'[i]? =some o):Ld V W H' wr cs where
 wd:=h _ _ A.wd.1 A.wd.2 d.wd
 ro:=h _ _ A.ro.1 A.ro.2 d.ro
 me:=h _ _ A.me.1 A.me.2 d.me
 rw i hi:=h _ _ (A.rw i hi).1 (A.rw i hi).2 (d.rw i hi)
 mt i hi es hm:=h _ _ (A.mt i hi es hm).1 (A.mt i hi es hm).2 (d.mt i hi es hm)
 tx:=h _ _ A.tx.1 A.tx.2 d.tx
 cl:=h _ _ A.cl.1 A.cl.2 d.cl
theorem Lw.ka (A:Ad V W b0 b1 sn n0 n1 N) (w:Lw V W N H wr cs) (k:Ka b0 b1 H H'):Lw V W N H' wr cs:=
 ⟨w.toLd.stay A fun i o h o_ e=>k.kp i o e (by have:=A.l0;exact qe (qc this h)) (by have:=A.l1;exact qe (qc this h)),qb w.n k.len,w.n1,w.n2,w.ne⟩
theorem Ad.le (A:Ad V W b0 b1 sn n0 n1 N):n0<=N:=by have:=A.wd;have:=A.n;lia
theorem kX {w:Int} (hk:1<=k) (hw:0<w) (b:Bx H b0 b1 (f+1)) (q:∀H' (r:Nat),(r:Int)<w->Bx H' b0 b1 f->Ka b0 b1 H H'->Q (.int r) H'):Cl (pg sa sl) k (.f 72) [.ref b0,.int w] H Q X:=
 ye12 hk hw b fun H' r h1 h2 h3 h4=>q H' r h1 h2 ⟨h3,h4⟩
theorem yy6 (hk:2<=k) (hb0:b0<H.length) (hb1:b1<H.length) (b:Bx H b0 b1 (f+1)) (q:∀H' v,Th v->Bx H' b0 b1 f->Ka b0 b1 H H'->Q v.av H'):Cl (pg sa sl) k (.f 75) [.ref b0] H Q X:=by
 refine u_fn (dk0 hk rfl) rfl rfl (kX (dk1 hk rfl) (by decide) b fun H1 r hr b1 k1=>?_);by_cases h4:r<4
 ·exact iT (show decide ((r:Int)<4)=true from decide_eq_true (by lia)) (qr (qa rfl) (q H1 (.tab r) h4 b1 k1))
 ·refine iF (show decide ((r:Int)<4)=false from decide_eq_false (by lia)) (qr (qa rfl) ?_);have g:∀v:Vl,Th v->Q v.av (H1++[.list [.int 5,.bytes [115],.nil]]):=fun v hv=>q _ v hv b1.push (k1.trans .push);rcases (show r=4\/r=5\/r=6 by lia) with rfl|rfl|rfl
  ·exact jo (v:=.int 5) jh ⟨by decide,by decide⟩ rfl (g (.int 5) rfl)
  ·exact jo (v:=.bytes [115]) jh ⟨by decide,by decide⟩ rfl (g (.bytes [115]) rfl)
  ·exact jo (v:=.nil) jh ⟨by decide,by decide⟩ rfl (g .nil trivial)
noncomputable def yg14 (V:WI) (W:Wo) (b0 b1 N:Nat) (H:List AO) (f:Nat) (wr:Bool) (cs:List AV) (Q:AV->List AO->Prop):Prop:=
 ∀t n H1,Lw V W N H1 wr cs->Bx H1 b0 b1 f->Tn N H1 n t->Ka b0 b1 H H1->jV V W N H1 wr cs (W.nk t) fun r H'=>Q (.tup [.ref n,r]) H'
noncomputable def wdL:List Nat:=[119,118,115,132,114,117,123,131]
theorem yq10 (hk:1<=k) (q:Q (.ref H.length) (H++[.list (wdL.map .str)])):Cl (pg sa sl) k (.f 71) [] H Q X:=by
 exact u_fn (dk0 hk rfl) rfl rfl (qr (qa rfl) q)
theorem five {a:Vl} (h:Th a):cmpV (pg sa sl) H .Eq a.av (.int 5)=some a.isI:=by
 rcases a with _|_|_|_|_<;>first|rfl|(cases h<;>rfl)
variable {Γ:Ora} {Xs:St->Prop} {σ:St}
theorem yu11 {t:E} {b o:S} {F:AF->St->Prop} (q:wp (pg sa sl) Γ t (trQ (ifK (wpS (pg sa sl) Γ b F Xs) (wpS (pg sa sl) Γ o F Xs))) Xs σ):wpS (pg sa sl) Γ (.ite t b o) F Xs σ:=q
variable {op:CmpOp} {x:Nat} {a:AV}
theorem yV12 {j:Int} {r:Bool} {F:AV->St->Prop} (ha:lk m x=some a) (h:cmpV (pg sa sl) H op a (.int j)=some r) (q:F (.bool r) ⟨H,m⟩):wp (pg sa sl) Γ (.cmp op (.nm x) (.int j)) F Xs ⟨H,m⟩:=by
 refine (?_:optQ _ (lk m x));refine rz ha ?_;exact kO h q
theorem yn10 (hk:10<=k) (A:Ad V W b0 b1 sn n0 n1 N) (w:Lw V W N H wr cs) (hc:cs.length<=1000) (ho:∀v c y,v.ok->W.hd v c=some y->y.ok) (b:Bx H b0 b1 (f+4)) (q:yg14 V W b0 b1 N H f wr cs Q):Cl (pg sa sl) k (.f 86) [.ref b0,.ref V.wd] H Q X:=by
 have hb0:b0<N:=by have:=A.l0;have:=A.le;lia
 have hb1:b1<N:=by have:=A.l1;have:=A.le;lia
 refine u_fn (dk0 hk rfl) rfl rfl (kX (dk1 hk rfl) (by decide) b fun H1 r hr x1 k1=>?_);have w1:=w.ka A k1;refine yy6 (dk1 hk rfl) (show b0<H1.length by have:=w1.n;exact qc hb0 this) (show b1<H1.length by have:=w1.n;exact qc hb1 this) x1 fun H2 a ha x2 k2=>?_;have w2:=w1.ka A k2;refine yy6 (dk1 hk rfl) (show b0<H2.length by have:=w2.n;exact qc hb0 this) (show b1<H2.length by have:=w2.n;exact qc hb1 this) x2 fun H3 c hc' x3 k3=>?_;have w3:=w2.ka A k3;have k3:=k1.trans (k2.trans k3);refine qr (qa rfl) (qr rfl ?_);clear w1 w2 k1 k2 x1 x2;by_cases h2:r<2
 ·refine iT (show decide ((r:Int)<2)=true from decide_eq_true (by lia)) (qr (qa rfl) (kX (dk1 hk rfl) (by decide) x3.push fun H4 r' hr' x4 k4=>?_));have w4:=w3.push.ka A k4;obtain ⟨key,hkey⟩:∃key,[AV.bytes [120],.bytes [121],.bytes [122]][r']? =some (.bytes key):=by
   rcases (show r'=0\/r'=1\/r'=2 by lia) with rfl|rfl|rfl
   ·exact ⟨_,rfl⟩
   ·exact ⟨_,rfl⟩
   ·exact ⟨_,rfl⟩
  refine jo (v:=.bytes key) (k4.kp _ _ jh (show H3.length≠b0 by have:=w3.n;exact qe (qc hb0 this)) (show H3.length≠b1 by have:=w3.n;exact qe (qc hb1 this))) ⟨by lia,by lia⟩ (by rw [Int.toNat_natCast];exact hkey) (yX (N:=N) (v:=a) (dk1 hk rfl) ha w4.n fun n l hl=>qr (qa rfl) ?_);have w5:=w4.push (l:=l);refine kW (N:=N) (dk1 hk rfl) w5.n fun n' l' hl'=>qr (qa rfl) ?_;have w6:=w5.push (l:=l');refine kW (N:=N) (dk1 hk rfl) w6.n fun n2 l2 hl2=>?_;have w7:=w6.push (l:=l2);have k7:Ka b0 b1 H (((H4++l)++l')++l2):=k3.trans (Ka.push.trans (k4.trans (Ka.push.trans (Ka.push.trans .push))));have t:Tn N (((H4++l)++l')++l2) n2 (.index a key):=⟨n,n',hl2,(hl.ks .push).ks .push,hl'.ks .push,ha⟩;exact yp10 (o:=a) (b:=key) (dk1 hk rfl) ha.ok w7 hc ho (j7.mono (fun v H' h=>⟨qa rfl,h⟩) (q _ n2 _ w7 ((x4.push.push).push.less (qm _)) t k7).l)
 ·refine iF (show decide ((r:Int)<2)=false from decide_eq_false (by lia)) ?_;by_cases e2:r=2
  ·refine (?_:(match ((r:Int)==2) with
    |true=>_
    |false=>_))
   refine rz (show ((r:Int)==2)=true from (by subst e2;rfl)) (yX (N:=N) (v:=a) (dk1 hk rfl) ha w3.n fun n l hl=>?_);have w4:=w3.push (l:=l);refine yX (N:=N) (v:=c) (dk1 hk rfl) hc' w4.n fun n' l' hl'=>?_;have w5:=w4.push (l:=l');refine qr (qa rfl) (qr (qa rfl) ?_);have w6:=w5.push (l:=[.list [.ref n']]);refine kW (N:=N) (dk1 hk rfl) w6.n fun n2 l2 hl2=>?_;have w7:=w6.push (l:=l2);have p:Sn N (((H3++l)++l')++[.list [.ref n']]) ((H3++l)++l').length (.list [.ref n']):=⟨w5.n,jh⟩;have t:Tn N ((((H3++l)++l')++[.list [.ref n']])++l2) n2 (.call a c):=⟨n,_,n',hl2,((hl.ks .push).ks .push).ks .push,p.ks .push,(hl'.ks .push).ks .push,ha,hc'⟩;have w8:=w7.push (l:=[.list [c.av]]);have k8:Ka b0 b1 H (((((H3++l)++l')++[.list [.ref n']])++l2)++[.list [c.av]]):=k3.trans (Ka.push.trans (Ka.push.trans (Ka.push.trans (Ka.push.trans .push))));exact qr (qa rfl) (yw6 (v:=a) (vs:=[c]) (dk1 hk rfl) ha.ok w8 hc (fun x h=>ho a evC x ha.ok h) (by simp) ⟨w7.n,jh⟩ (j7.mono (fun v H' h=>⟨qa rfl,h⟩) (q _ n2 _ w8 (x3.push.push.push.push.push.less (qi _ _)) (t.ks .push) k8).l))
  ·refine (?_:(match ((r:Int)==2) with
    |true=>_
    |false=>_))
   refine rz (show ((r:Int)==2)=false from (by simp;lia)) ?_;by_cases e3:r=3
   ·refine (?_:(match ((r:Int)==3) with
     |true=>_
     |false=>_))
    refine rz (show ((r:Int)==3)=true from (by subst e3;rfl)) (yX (N:=N) (v:=a) (dk1 hk rfl) ha w3.n fun n l hl=>qr (qa rfl) ?_);have w4:=w3.push (l:=l);refine kW (N:=N) (dk1 hk rfl) w4.n fun n2 l2 hl2=>?_;have w5:=w4.push (l:=l2);have x5:=(x3.push (l:=l)).push (l:=l2);have t:Tn N ((H3++l)++l2) n2 (.unm a):=⟨n,hl2,hl.ks .push,ha⟩;have k5:Ka b0 b1 H ((H3++l)++l2):=k3.trans (Ka.push.trans .push);refine kQ (b:=evU) (dk1 hk rfl) w5.toLd ha.ok (qr (qa rfl) (qr rfl ?_));have q:=q _ n2 _ w5 (x5.less (qi _ _)) t k5;refine (?_:wpS _ _ _ _ _ ⟨(H3++l)++l2,[(133,.ref b0),(135,.ref V.wd),(44,c.av),(43,a.av),(140,.int r),(60,avO (W.hd a evU)),(79,.ref n2)]⟩);generalize (H3++l)++l2=H5 at w5 q⊢;refine jx (yu11 ?_);refine yV12 rfl (five ha) ?_;rcases (show (a=.int 5)\/(a.isI=false/\W.unm a=match W.hd a evU with
     |some x=>W.run x [a,a] resV
     |none=>.bad) from by
     rcases a with _|_|i|_|_
     ·exact .inr ⟨rfl,rfl⟩
     ·exact .inr ⟨rfl,rfl⟩
     ·exact .inl (congrArg _ ha)
     ·exact .inr ⟨rfl,rfl⟩
     ·exact .inr ⟨rfl,rfl⟩) with rfl|⟨hi,e⟩
    ·exact qr (qa rfl) (q H5 w5 .refl)
    ·refine rz hi ?_;change jV V W N H5 wr cs (W.unm a) (fun r H'=>Q (.tup [.ref n2,r]) H') at q;rw [e] at q;rcases hx:W.hd a evU with _|x
     ·rw [hx] at q;exact kR (dk1 hk rfl) w5 fun H' w' k'=>qr (qa rfl) (q H' _ w' k')
     ·rw [hx] at q;have hn:jr x.av=false:=by rcases x with _|_<;>rfl
      refine (?_:(match !jr x.av with
       |true=>_
       |false=>_))
      exact rz hn (qr (qa rfl) (yx (x:=x) (vs:=[a,a]) (dk1 hk rfl) (ho a evU x ha.ok hx) w5.push hc (fun v y hv h=>ho v _ y hv h) (by simp) ⟨w5.n,jh⟩ (j7.kl .push (j7.mono (fun v H' h=>⟨qa rfl,h⟩) q.l))))
   ·refine (?_:(match ((r:Int)==3) with
     |true=>_
     |false=>_))
    refine rz (show ((r:Int)==3)=false from (by simp;lia)) (yq10 (dk1 hk rfl) ?_);have w4:=w3.push (l:=[.list (wdL.map .str)]);refine kX (dk1 hk rfl) (by decide) x3.push fun H4 r' hr' x4 k4=>?_;have w5:=w4.ka A k4;obtain ⟨wd,hm,hwd⟩:∃wd,wd∈wdL/\(wdL.map AV.str)[r']? =some (.str wd):=by
     have:r'<wdL.length:=by refine (?_:r'<8);lia
     exact ⟨wdL[r'],List.getElem_mem _,by refine rz qt ?_;refine rz (qu this) ?_;rfl⟩
    refine jo (v:=.str wd) (k4.kp _ _ jh (show H3.length≠b0 by have:=w3.n;exact qe (qc hb0 this)) (show H3.length≠b1 by have:=w3.n;exact qe (qc hb1 this))) ⟨by lia,by lia⟩ (by rw [Int.toNat_natCast];exact hwd) (yX (N:=N) (v:=a) (dk1 hk rfl) ha w5.n fun n l hl=>?_);have w6:=w5.push (l:=l);refine yX (N:=N) (v:=c) (dk1 hk rfl) hc' w6.n fun n' l' hl'=>?_;have w7:=w6.push (l:=l');refine qr (qa rfl) (kW (N:=N) (dk1 hk rfl) w7.n fun n2 l2 hl2=>?_);have w8:=w7.push (l:=l2);have k8:Ka b0 b1 H (((H4++l)++l')++l2):=k3.trans (Ka.push.trans (k4.trans (Ka.push.trans (Ka.push.trans .push))));have t:Tn N (((H4++l)++l')++l2) n2 (.word wd a c):=⟨n,n',hl2,(hl.ks .push).ks .push,hl'.ks .push,ha,hc',hm⟩;exact yB8 (wd:=wd) (dk1 hk rfl) hm ha hc' w8 hc ho (jV.mono (fun v H' h=>⟨qa rfl,h⟩) (q _ n2 _ w8 (x4.push.push.push) t k8))
noncomputable def evL:List (List UInt8):=[[95,95,105,110,100,101,120],[95,95,99,97,108,108],[95,95,101,113],[95,95,108,116],[95,95,108,101],[95,95,99,111,110,99,97,116],[95,95,97,100,100],[95,95,117,110,109]]
variable {α:Type} {es:List (List UInt8×α)} {ks:List (List UInt8)} {n:Nat} {b:List UInt8}
theorem y88 (h:(es.map (·.1)).Sublist (ks.take n)):(es.map (·.1)).Sublist (ks.take (n+1)):=h.trans (List.take_sublist_take_left (qp n))
theorem yo5 (h:(es.map (·.1)).Sublist (ks.take n)) (hb:ks[n]? =some b) (v:α):((es++[(b,v)]).map (·.1)).Sublist (ks.take (n+1)):=by
 refine rz List.take_succ (rz hb (rz List.map_append ?_));exact h.append (List.Sublist.refl _)
theorem yp4 (h:(es.map (·.1)).Sublist (ks.take n)) (hb:ks[n]? =some b) (nd:ks.Nodup):∀e∈es,(e.1==b)=false:=fun e he=>by
 have m:e.1∈ks.take n:=h.subset (List.mem_map_of_mem he);obtain ⟨i,hi,e1⟩:=List.mem_iff_getElem.mp m
 rw [beq_eq_false_iff_ne];intro eq;rw [List.getElem_take] at e1;obtain ⟨hn,e2⟩:=qA.mp hb
 have:i=n:=(List.getElem_inj nd).mp (by exact rz e1 (rz e2 (rz eq rfl)));rw [List.length_take] at hi;lia
theorem yM6 (h:(es.map (·.1)).Sublist (ks.take n)):es.length<=n:=by
 have:=h.length_le;rw [qF,List.length_take] at this;lia
theorem yx4 (g:α->AV) (v:α) {es:List (List UInt8×α)} (h:∀e∈es,(e.1==b)=false):aset (es.map fun e=>(.bytes e.1,g e.2)) (.bytes b) (g v)=(es++[(b,v)]).map fun e=>(.bytes e.1,g e.2):=by
 refine (if_neg fun q=>?_).trans (List.map_append (l₁:=es) (l₂:=[(b,v)]) (f:=fun e:List UInt8×α=>(AV.bytes e.1,g e.2))).symm;refine x_EA (List.any_eq_true.mp q) fun p m hp=>x_EA (List.mem_map.mp m) fun e me he=>?_;rw [<-he] at hp;exact ff ((h e me).symm.trans hp)
theorem y92 {e:E} {F:AF->St->Prop} (q:wp (pg sa sl) Γ e (asgK x (F .next)) Xs σ):wpS (pg sa sl) Γ (.asg x e) F Xs σ:=q
noncomputable def ForQ (P:Prg) (Γ:Ora) (tgt:Tgt) (b:S) (Qf:AF->St->Prop) (Xs:St->Prop) (src:Src) (σ1:St):Prop:=good src tgt=true/\∃(J:Nat->Nat->St->Prop) (k:Nat),J k 0 σ1/\∀k n σ,J k n σ->match src.item σ.H n with
 |none=>False
 |some none=>Qf .next σ
 |some (some a)=>optQ (fun m'=>wpS P Γ b (jN Qf fun σ2=>∃k',k'<k/\J k' (n+1) σ2) Xs ⟨σ.H,m'⟩) (asg tgt a σ.m)
variable {tgt:Tgt} {it:E} {b:S} {Qf:AF->St->Prop}
theorem yi9 {sk:SK} (h:wp (pg sa sl) Γ it (fun a σ1=>optQ (fun src=>ForQ (pg sa sl) Γ tgt b Qf Xs src σ1) (srcV σ1.H sk a)) Xs σ):wpS (pg sa sl) Γ (.for tgt sk it b) Qf Xs σ:=h
variable {src:Src}
theorem yg8 {Γ:Ora} {sk:SK} {b:S} {Qf:AF->St->Prop} {Xs:St->Prop} (hs:srcV H sk a=some src) (hg:good src tgt=true) (J:Nat->St->Prop) (N:Nat) (h0:J 0 ⟨H,m⟩)
 (hstep:∀n σ,J n σ->match src.item σ.H n with
  |none=>False
  |some none=>Qf .next σ
  |some (some a)=>n<N/\optQ (fun m'=>wpS (pg sa sl) Γ b (jN Qf fun σ2=>J (n+1) σ2) Xs ⟨σ.H,m'⟩) (asg tgt a σ.m)):optQ (fun src=>ForQ (pg sa sl) Γ tgt b Qf Xs src ⟨H,m⟩) (srcV H sk a):=ys11 hs hg J N h0 hstep
theorem yC8 (hk:1<=k) (q:Q (.ref H.length) (H++[.list (evL.map .bytes)])):Cl (pg sa sl) k (.f 70) [] H Q X:=by
 exact u_fn (dk0 hk rfl) rfl rfl (qr (qa rfl) q)
noncomputable def Dk (g:α->AV) (H:List AO) (d:Nat) (es:List (List UInt8×α)):Prop:=H[d]? =some (.dict (es.map fun e=>(.bytes e.1,g e.2)))
variable {j:Nat} {o:AO}
theorem Ka.setD (k:Ka b0 b1 H H') (h:H.length<=j):Ka b0 b1 H (H'.set j o):=
 ⟨by exact rz qy k.len,fun i o' e h1 h2=>je (k.kp i o' e h1 h2) (by have:=(qA.mp e).1;exact qf (qc this h))⟩
theorem Bx.setD (b:Bx H b0 b1 f) (h0:b0≠j) (h1:b1≠j):Bx (H.set j o) b0 b1 f:=⟨let ⟨n,c,a1,a2,a3⟩:=b.h0;⟨n,c,a1,a2,je a3 h0⟩,let ⟨ns,a1,a2⟩:=b.h1;⟨ns,a1,je a2 h1⟩⟩
structure MtM (m:Loc) (b0 at_ d:Nat):Prop where
 a0:lk m 133=some (.ref b0)
 a1:lk m 20=some (.int at_)
 a2:lk m 16=some (.ref d)
variable {at_ d y:Nat} {v:AV}
theorem MtM.put (x:MtM m b0 at_ d) (h:y≠133/\y≠20/\y≠16):MtM (put m y v) b0 at_ d:=
 ⟨ji x.a0 (Ne.symm h.1),ji x.a1 (Ne.symm h.2.1),ji x.a2 (Ne.symm h.2.2)⟩
theorem yd13 (hk:2<=k) (ha:at_<4) (hb0:b0<H.length) (hb1:b1<H.length) (b:Bx H b0 b1 (f+16)) (q:∀H' d es,Bx H' b0 b1 f->Ka b0 b1 H H'->H.length<=d->Dk Fo.av H' d es->(es.map (·.1)).Sublist evL->(∀e∈es,e.2.ok)->Q (.ref d) H'):Cl (pg sa sl) k (.f 74) [.ref b0,.int at_] H Q X:=by
 refine u_fn (dk0 hk rfl) rfl rfl (jx (y92 (yv ?_)));refine jx (yi9 ?_);refine yC8 (dk1 hk rfl) ?_;have d0:Dk Fo.av ((H++[AO.dict []])++[.list (evL.map .bytes)]) H.length []:=jc jh;have e0:((H++[AO.dict []])++[.list (evL.map .bytes)])[(H++[AO.dict []]).length]? =some (.list (evL.map .bytes)):=jh;have x0:=(b.push (l:=[.dict []])).push (l:=[.list (evL.map .bytes)]);have k0:Ka b0 b1 H ((H++[AO.dict []])++[.list (evL.map .bytes)]):=Ka.push.trans .push;have le:H.length<(H++[AO.dict []]).length:=by simp
 generalize (H++[AO.dict []]).length=ev at e0 le⊢;generalize (H++[AO.dict []])++[.list (evL.map .bytes)]=H1 at d0 e0 x0 k0⊢;refine yg8 (yo3 e0) rfl (fun n σ=>∃es:List (List UInt8×Fo),MtM σ.m b0 at_ H.length/\Bx σ.H b0 b1 (f+2*(8-n))/\Ka b0 b1 H σ.H/\σ.H[ev]? =some (.list (evL.map .bytes))/\Dk Fo.av σ.H H.length es/\(es.map (·.1)).Sublist (evL.take n)/\(∀e∈es,e.2.ok)) 8 ⟨[],⟨rfl,rfl,rfl⟩,x0,k0,e0,d0,List.nil_sublist _,fun o_ h=>nomatch h⟩ fun n σ hJ=>?_;obtain ⟨H2,m2⟩:=σ
 refine jR hJ fun es hm x hz=>jK hz fun kk e d hs hok=>?_;refine rz (ye3 e) (rz qt ?_);rcases hn:evL[n]? with _|key
 ·have:8<=n:=qs.mp hn;exact i_lk hm.a2 (q H2 _ es (x.less (by lia)) kk (qm _) d (hs.trans (List.take_sublist _ _)) hok)
 ·have hlt:n<8:=(qA.mp hn).1;refine ⟨hlt,?_⟩;have hm:=hm.put (y:=56) (v:=.bytes key) (by decide);have h56:lk (put m2 56 (.bytes key)) 56=some (.bytes key):=jC;refine (?_:wpS _ _ _ _ _ ⟨_,put m2 56 (.bytes key)⟩);generalize put m2 56 (.bytes key)=m2 at hm h56⊢;obtain ⟨c,hc⟩:∃c,f+2*(8-n)=c+1+1:=⟨f+2*(8-n)-2,by lia⟩
  rw [hc] at x;refine i_lk hm.a0 (kX (dk1 hk rfl) (by decide) x fun H3 r hr x3 k3=>?_);have kk3:=kk.trans k3;have nb0:b0≠H.length:=(qf hb0);have nb1:b1≠H.length:=(qf hb1);have e3:∀{H':List AO},Ka b0 b1 H2 H'->H'[ev]? =some (.list (evL.map .bytes)):=fun k=>k.kp _ _ e (qe (qd (ql hb0) le)) (qe (qd (ql hb1) le));have d3:∀{H':List AO},Ka b0 b1 H2 H'->Dk Fo.av H' H.length es:=fun k=>k.kp _ _ d (Ne.symm nb0) (Ne.symm nb1);have hm:=hm.put (y:=140) (v:=.int r) (by decide);have h56:lk (put m2 140 (.int r)) 56=some (.bytes key):=ji h56 (by decide);have h140:lk (put m2 140 (.int r)) 140=some (.int r):=jC;refine (?_:wpS _ _ _ _ _ ⟨_,put m2 140 (.int r)⟩);generalize put m2 140 (.int r)=m2 at hm h56 h140⊢;have fin:∀H4 fo,Fo.ok fo->Bx H4 b0 b1 c->Ka b0 b1 H2 H4->∀m,MtM m b0 at_ H.length->(fun σ:St=>∃es:List (List UInt8×Fo),MtM σ.m b0 at_ H.length/\Bx σ.H b0 b1 (f+2*(8-(n+1)))/\Ka b0 b1 H σ.H/\σ.H[ev]? =some (.list (evL.map .bytes))/\Dk Fo.av σ.H H.length es/\(es.map (·.1)).Sublist (evL.take (n+1))/\(∀e∈es,e.2.ok)) ⟨H4.set H.length (.dict (aset (es.map fun e=>(.bytes e.1,e.2.av)) (.bytes key) fo.av)),m⟩:=fun H4 fo fok x4 k4 m hm=>by
   refine ⟨es++[(key,fo)],hm,(x4.less (by lia)).setD nb0 nb1,(kk.trans k4).setD (qm _),je (e3 k4) (qe le),?_,yo5 hs hn fo,fun e he=>?_⟩
   ·exact rz (yx4 Fo.av fo (yp4 hs hn (by decide))) (jv (d3 k4))
   ·rcases qz.mp he with he|he
    ·exact hok e he
    ·exact rz (qB.mp he) fok
  have len:(List.map (fun e:List UInt8×Fo=>(AV.bytes e.1,e.2.av)) es).length<=1000:=by rw [qF];have:=yM6 hs;lia
  have skip:Bx H3 b0 b1 (c+1)->∀m,MtM m b0 at_ H.length->(fun σ:St=>∃es:List (List UInt8×Fo),MtM σ.m b0 at_ H.length/\Bx σ.H b0 b1 (f+2*(8-(n+1)))/\Ka b0 b1 H σ.H/\σ.H[ev]? =some (.list (evL.map .bytes))/\Dk Fo.av σ.H H.length es/\(es.map (·.1)).Sublist (evL.take (n+1))/\(∀e∈es,e.2.ok)) ⟨H3,m⟩:=fun x3 m hm=>
   ⟨es,hm,x3.less (by lia),kk3,e3 k3,d3 k3,y88 hs,hok⟩
  refine i_lk h140 ?_;by_cases h2:r<2
  ·refine iT (show decide ((r:Int)<2)=true from decide_eq_true (by lia)) (i_lk hm.a0 (kX (dk1 hk rfl) (by decide) x3 fun H4 r' hr' x4 k4=>qr (qa rfl) (i_lk hm.a2 (i_lk h56 (zq (d3 (k3.trans k4)) (jI _ _) len (i_lk h140 ?_))))));refine (?_:(match ((r:Int)==2) with
    |true=>_
    |false=>_))
   have g2:((r:Int)==2)=false:=by simp;lia
   refine rz g2 (rz (show nI (r:Int) (AV.int 2)=false from g2) ?_);exact fin H4 (.fn r') (show r'<3 by lia) x4 (k3.trans k4) _ hm
  ·refine iF (show decide ((r:Int)<2)=false from decide_eq_false (by lia)) (i_lk h140 ?_);by_cases e2:r=2
   ·refine (?_:(match ((r:Int)==2) with
     |true=>_
     |false=>_))
    refine rz (show ((r:Int)==2)=true from (by subst e2;rfl)) (i_lk hm.a1 ?_);by_cases h3:at_<3
    ·exact iT (show decide ((at_:Int)<3)=true from decide_eq_true (by lia)) (i_lk hm.a1 (i_lk hm.a0 (i_lk hm.a1 (kX (dk1 hk rfl) (by lia) x3 fun H4 r' hr' x4 k4=>qr (qa rfl) (i_lk hm.a2 (i_lk h56 (zq (d3 (k3.trans k4)) (jI _ _) len (fin H4 (.tab (at_+1+r')) (show at_+1+r'<4 by lia) x4 (k3.trans k4) _ hm))))))))
    ·exact iF (show decide ((at_:Int)<3)=false from decide_eq_false (by lia)) (skip x3 _ hm)
   ·refine (?_:(match ((r:Int)==2) with
     |true=>_
     |false=>_))
    have g2:((r:Int)==2)=false:=by simp;lia
    refine rz g2 (rz (show nI (r:Int) (AV.int 2)=false from g2) ?_);exact skip x3 _ hm
noncomputable def Rv (v:Vl):Prop:=v≠.nil/\v.ok/\v.isT=false
structure yF1 (L:Nat) (H:List AO) (p:Nat×List (List UInt8×Vl)):Prop where
 n:L<=p.1
 d:Dk Vl.av H p.1 p.2
 s:(p.2.map (·.1)).Sublist [[120],[121]]
 ok:∀e∈p.2,Rv e.2
structure yW2 (L:Nat) (H:List AO) (p:Nat×List (List UInt8×Fo)):Prop where
 n:L<=p.1
 d:Dk Fo.av H p.1 p.2
 s:(p.2.map (·.1)).Sublist evL
 ok:∀e∈p.2,e.2.ok
noncomputable def mref:Option (Nat×List (List UInt8×Fo))->AV
 |none=>.nil
 |some p=>.ref p.1
noncomputable def Kd (L:Nat) (H H':List AO):Prop:=∀i es,L<=i->H[i]? =some (.dict es)->H'[i]? =some (.dict es)
variable {L:Nat}
theorem Kd.ka (h0:b0<L) (h1:b1<L) (k:Ka b0 b1 H H'):Kd L H H':=fun i es h e=>k.kp i _ e (qe (qc h0 h)) (qe (qc h1 h))
theorem Kd.setL {l:List AV} (h:H[j]? =some (.list l)):Kd L H (H.set j o):=fun i es o_ e=>je e (jW e h (by simp))
theorem yF1.kd {p:Nat×List (List UInt8×Vl)} (a:yF1 L H p) (k:Kd L H H'):yF1 L H' p:=⟨a.n,k _ _ a.n a.d,a.s,a.ok⟩
theorem yW2.kd {p:Nat×List (List UInt8×Fo)} (a:yW2 L H p) (k:Kd L H H'):yW2 L H' p:=⟨a.n,k _ _ a.n a.d,a.s,a.ok⟩
variable {F:AV->St->Prop} {z:Int}
theorem yW12 {l:List AV} (hz:0<=z) (hl:l.length<=1000) (q:F (.tup (l.take z.toNat)) σ):cutQ (pg sa sl) (.tup l) .nil (.int z) F σ:=by
 delta cutQ;exact ⟨⟨hz,hl⟩,q⟩
structure WrM (m:Loc) (b0 wd:Nat):Prop where
 a0:lk m 133=some (.ref b0)
 a1:lk m 135=some (.ref wd)
variable {wd:Nat}
theorem WrM.put (x:WrM m b0 wd) (h:y≠133/\y≠135):WrM (put m y v) b0 wd:=
 ⟨ji x.a0 (Ne.symm h.1),ji x.a1 (Ne.symm h.2)⟩
theorem yp15 (hk:2<=k) (hb0:b0<H.length) (hb1:b1<H.length) (b:Bx H b0 b1 (f+3)) (hm:WrM m b0 wd) (h20:lk m 20=some (.int at_))
 (q:∀H' m' es,Bx H' b0 b1 f->Ka b0 b1 H H'->yF1 H.length H' (H.length,es)->WrM m' b0 wd->lk m' 20=some (.int at_)->lk m' 137=some (.ref H.length)->Qf .next ⟨H',m'⟩):
 wpS (pg sa sl) (Cl (pg sa sl) (k-1)) (.for (.one 38) .val (.slice (.tup (.cons (.bytes [120]) (.cons (.bytes [121]) .nil))) .none (.call 72 (.cons (.nm 133) (.cons (.int 3) .nil)))) (.seq (.setsub (.nm 137) (.nm 38) (.sub (.list (.cons (.int 7) (.cons (.bytes [115]) (.cons (.bool true) .nil)))) (.call 72 (.cons (.nm 133) (.cons (.int 3) .nil))))) .done)) Qf Xs ⟨H++[.dict []],put m 137 (.ref H.length)⟩:=by
 have hm:=hm.put (y:=137) (v:=.ref H.length) (by decide);have h20:lk (put m 137 (.ref H.length)) 20=some (.int at_):=ji h20 (by decide);have h137:lk (put m 137 (.ref H.length)) 137=some (.ref H.length):=jC;generalize put m 137 (.ref H.length)=m at hm h20 h137⊢;refine yi9 (qr (qa rfl) (i_lk hm.a0 (kX (dk1 hk rfl) (by decide) b.push fun H1 r hr x1 k1=>yW12 (by lia) (qa rfl) ?_)));rw [show List.take (r:Int).toNat [AV.bytes [120],AV.bytes [121]]=([[120],[121]].take r).map AV.bytes from by rw [Int.toNat_natCast];refine rz List.map_take ?_;rfl];have hsub:(([[120],[121]]:List (List UInt8)).take r).Sublist [[120],[121]]:=List.take_sublist _ _;have hnd:(([[120],[121]]:List (List UInt8)).take r).Nodup:=hsub.nodup (by decide);have hlen:(([[120],[121]]:List (List UInt8)).take r).length<=2:=hsub.length_le;generalize ([[120],[121]]:List (List UInt8)).take r=ks at hsub hnd hlen⊢;have d1:Dk Vl.av H1 H.length []:=k1.kp _ _ jh (qe hb0) (qe hb1);have kk:Ka b0 b1 H H1:=Ka.push.trans k1;refine yg8 (src:=.tup (ks.map .bytes)) rfl rfl (fun n σ=>∃es:List (List UInt8×Vl),WrM σ.m b0 wd/\lk σ.m 20=some (.int at_)/\lk σ.m 137=some (.ref H.length)/\Bx σ.H b0 b1 (f+(2-n))/\Ka b0 b1 H σ.H/\Dk Vl.av σ.H H.length es/\(es.map (·.1)).Sublist (ks.take n)/\(∀e∈es,Rv e.2)) 2 ⟨[],hm,h20,h137,x1,kk,d1,List.nil_sublist _,fun o_ h=>nomatch h⟩ fun n σ hJ=>?_;obtain ⟨H2,m2⟩:=σ
 refine zC hJ fun es hm h20 h137 hz=>jK hz fun x kk d hs hok=>?_;refine rz yb5 (rz qt ?_);rcases hn:ks[n]? with _|key
 ·exact q H2 _ es (x.less (by lia)) kk ⟨qm _,d,(hs.trans (List.take_sublist _ _)).trans hsub,hok⟩ hm h20 h137
 ·have hlt:n<2:=by have:=(qA.mp hn).1;exact qc this hlen
  refine ⟨hlt,?_⟩;have hm:=hm.put (y:=38) (v:=.bytes key) (by decide);have h20:lk (put m2 38 (.bytes key)) 20=some (.int at_):=ji h20 (by decide);have h137:lk (put m2 38 (.bytes key)) 137=some (.ref H.length):=ji h137 (by decide);have h38:lk (put m2 38 (.bytes key)) 38=some (.bytes key):=jC;refine (?_:wpS _ _ _ _ _ ⟨_,put m2 38 (.bytes key)⟩);generalize put m2 38 (.bytes key)=m2 at hm h20 h137 h38⊢;obtain ⟨c,hc⟩:∃c,f+(2-n)=c+1:=⟨f+(2-n)-1,by lia⟩
  rw [hc] at x;refine qr (qa rfl) (i_lk hm.a0 (kX (dk1 hk rfl) (by decide) (x.push (l:=[.list [.int 7,.bytes [115],.bool true]])) fun H3 r hr x3 k3=>?_));have l2:H.length<=H2.length:=kk.len;obtain ⟨v,hv1,hv⟩:∃v:Vl,Rv v/\[AV.int 7,.bytes [115],.bool true][r]? =some v.av:=by
   rcases (show r=0\/r=1\/r=2 by lia) with rfl|rfl|rfl
   ·exact ⟨.int 7,⟨(fun h=>by injection h),trivial,rfl⟩,rfl⟩
   ·exact ⟨.bytes [115],⟨(fun h=>by injection h),trivial,rfl⟩,rfl⟩
   ·exact ⟨.bool true,⟨(fun h=>by injection h),trivial,rfl⟩,rfl⟩
  refine jo (v:=v.av) (k3.kp _ _ jh (show H2.length≠b0 by lia) (show H2.length≠b1 by lia)) ⟨by lia,by lia⟩ (by rw [Int.toNat_natCast];exact hv) (i_lk h137 (i_lk h38 ?_));have d3:Dk Vl.av H3 H.length es:=(Ka.push.trans k3).kp _ _ d (qe hb0) (qe hb1);refine zq d3 (jI _ _) (by rw [qF];have:=yM6 hs;lia) (⟨es++[(key,v)],hm,h20,h137,(x3.less (by lia)).setD (qf hb0) (qf hb1),(kk.trans (Ka.push.trans k3)).setD (qm _),?_,yo5 hs hn v,fun e he=>?_⟩)
  ·refine (?_:Dk Vl.av (H3.set H.length (.dict (aset (es.map fun e=>(.bytes e.1,e.2.av)) (.bytes key) v.av))) _ _);exact rz (yx4 Vl.av v (yp4 hs hn hnd)) (jv d3)
  ·rcases qz.mp he with he|he
   ·exact hok e he
   ·exact rz (qB.mp he) hv1
end
structure WOk (W:Wo):Prop where
 rs:∀i,i<4->((W.rows i).map (·.1)).Sublist [[120],[121]]
 rk:∀i,i<4->∀e∈W.rows i,Rv e.2
 ms:∀i,i<4->∀es,W.metas i=some es->(es.map (·.1)).Nodup/\es.length<=9
 mo:∀i,i<4->∀es,W.metas i=some es->∀e∈es,e.2.ok
structure AdV (V:WI) (W:Wo) (n0 n1:Nat):Prop where
 wd:n0<=V.wd/\V.wd<n1
 ro:n0<=V.ro/\V.ro<n1
 me:n0<=V.me/\V.me<n1
 cl:n0<=V.cl/\V.cl<n1
 tx:n0<=V.tx/\V.tx<n1
 rw:∀i,i<4->n0<=V.rw i/\V.rw i<n1
 mt:∀i,i<4->∀es,W.metas i=some es->n0<=V.mt i/\V.mt i<n1
 ne:V.ro≠V.cl/\V.me≠V.cl
structure AdD (V:WI) (W:Wo):Prop where
 rw:∀es,W.metas 3=some es->∀i,i<4->V.rw i≠V.mt 3
 mt:∀es,W.metas 3=some es->∀i,i<3->∀es',W.metas i=some es'->V.mt i≠V.mt 3
 tx:∀es,W.metas 3=some es->V.tx≠V.mt 3
 l:∀es,W.metas 3=some es->es.length<=8
noncomputable def Lm (rs:List (Nat×List (List UInt8×Vl))) (ms:List (Option (Nat×List (List UInt8×Fo)))):Prop:=∀q,ms.getLast? =some (some q)->(∀p∈rs,p.1<q.1)/\∀p,some p∈ms.dropLast->p.1<q.1
section
variable {sa:Addr} {sl:List AV} {k:Nat} {m:Loc} {Q:AV->List AO->Prop} {X:List AO->Prop} {H H' H'':List AO} {f N n0 n1 b0 b1 sn L:Nat}
noncomputable def wD4 (L:Nat):List (AV×AV):=[(.str 137,.ref (L+1)),(.str 136,.ref (L+2)),(.str 139,.ref (L+3)),(.str 138,.bool false)]
variable {Γ:Ora} {F:AV->St->Prop} {Xs:St->Prop}
theorem yh10 (q:F (.ref H.length) ⟨H++[.dict (wD4 H.length),.list [],.list [],.list []],m⟩):wp (pg sa sl) Γ (.dict (.pcons (.str 137) (.list .nil) (.pcons (.str 136) (.list .nil) (.pcons (.str 139) (.list .nil) (.pcons (.str 138) (.bool false) .nil))))) F Xs ⟨H,m⟩:=by
 refine qr (qn _) (qr (qn _) (qr (qn _) ?_));refine qr (jc (jc (jc jh))) ((?_:F (.ref H.length) ⟨((((H++[AO.dict []])++[AO.list []])++[AO.list []])++[AO.list []]).set H.length (.dict [(.str 137,.ref (H++[AO.dict []]).length),(.str 136,.ref ((H++[AO.dict []])++[AO.list []]).length),(.str 139,.ref (((H++[AO.dict []])++[AO.list []])++[AO.list []]).length),(.str 138,.bool false)]),m⟩));have e:∀d,((((H++[AO.dict []])++[AO.list []])++[AO.list []])++[AO.list []]).set H.length d=H++[d,.list [],.list [],.list []]:=fun d=>by simp
 have e1:(H++[AO.dict []]).length=H.length+1:=by simp
 have e2:((H++[AO.dict []])++[AO.list []]).length=H.length+2:=by simp
 have e3:(((H++[AO.dict []])++[AO.list []])++[AO.list []]).length=H.length+3:=by simp
 rw [e,e1,e2];refine rz e3 ?_;exact q
theorem yc10 (q:F (.ref H.length) ⟨H++[.dict [(.bytes evI,.tup [.str 74,.int 2])]],m⟩):wp (pg sa sl) Γ (.dict (.pcons (.bytes [95,95,105,110,100,101,120]) (.tup (.cons (.str 74) (.cons (.int 2) .nil))) .nil)) F Xs ⟨H,m⟩:=by
 refine qr (qa rfl) (qr jh ?_);refine (?_:F (.ref H.length) ⟨(H++[AO.dict []]).set H.length (.dict [(.bytes evI,.tup [.str 74,.int 2])]),m⟩);exact rz kg1 (q)
theorem ym11 {α:Type} {g:α->AV} {d:Nat} {es:List (List UInt8×α)} (h:Dk g H d es) (w:H[L]? =some (.dict (wD4 L))):d≠L:=jW h w (by
 intro e;rcases es with _|_<;>simp [wD4] at e)
structure Wf (L:Nat) (H:List AO) (rs:List (Nat×List (List UInt8×Vl))) (ms:List (Option (Nat×List (List UInt8×Fo)))):Prop where
 wd:H[L]? =some (.dict (wD4 L))
 ro:H[L+1]? =some (.list (rs.map fun p=>.ref p.1))
 me:H[L+2]? =some (.list (ms.map mref))
 cl:H[L+3]? =some (.list [])
 rok:∀p∈rs,yF1 L H p
 mok:∀p,some p∈ms->yW2 L H p
theorem Wf.ka (h0:b0<L) (h1:b1<L) {rs ms} (w:Wf L H rs ms) (k:Ka b0 b1 H H'):Wf L H' rs ms:=
 ⟨k.kp _ _ w.wd (qe h0) (qe h1),k.kp _ _ w.ro (qe (qj (ql h0))) (qe (qj (ql h1))),k.kp _ _ w.me (qe (qd (ql h0) (qg (qa rfl)))) (qe (qd (ql h1) (qg (qa rfl)))),k.kp _ _ w.cl (qe (qd (ql h0) (qg (qa rfl)))) (qe (qd (ql h1) (qg (qa rfl)))),fun p m=>(w.rok p m).kd (.ka h0 h1 k),fun p m=>(w.mok p m).kd (.ka h0 h1 k)⟩
theorem Wf.addR {rs ms} (w:Wf L H rs ms) {p:Nat×List (List UInt8×Vl)} (r:yF1 L H p):Wf L (H.set (L+1) (.list (rs.map (fun p=>.ref p.1)++[.ref p.1]))) (rs++[p]) ms:=
 ⟨je w.wd (qf (qj (qm _))),by exact rz List.map_append (jv w.ro),je w.me (qe (Nat.add_lt_add_of_le_of_lt (qm _) (qa rfl))),je w.cl (qe (Nat.add_lt_add_of_le_of_lt (qm _) (qa rfl))),fun p' m=>(by
  rcases qz.mp m with m|m
  ·exact (w.rok p' m).kd (.setL w.ro)
  ·exact rz (qB.mp m) (r.kd (.setL w.ro))),fun p m=>(w.mok p m).kd (.setL w.ro)⟩
theorem Wf.addM {rs ms} (w:Wf L H rs ms) {p:Option (Nat×List (List UInt8×Fo))} (r:∀q,p=some q->yW2 L H q):Wf L (H.set (L+2) (.list (ms.map mref++[mref p]))) rs (ms++[p]):=
 ⟨je w.wd (qf (qg (qa rfl))),je w.ro (qf (Nat.add_lt_add_of_le_of_lt (qm _) (qa rfl))),by exact rz List.map_append (jv w.me),je w.cl (by lia),fun p' m=>(w.rok p' m).kd (.setL w.me),fun p' m=>(by
  rcases qz.mp m with m|m
  ·exact (w.mok p' m).kd (.setL w.me)
  ·exact (r p' (qB.mp m).symm).kd (.setL w.me))⟩
noncomputable def WJ (H:List AO) (b0 b1 f:Nat) (n:Nat) (σ:St):Prop:=∃rs ms,rs.length=n/\ms.length=n/\WrM σ.m b0 H.length/\Bx σ.H b0 b1 (f+1+30*(4-n))/\Ka b0 b1 H σ.H/\Wf H.length σ.H rs ms/\Lm rs ms
variable {n:Nat} {Qf:AF->St->Prop} {σ:St} {J:St->Prop}
theorem ya11 (hk:3<=k) (hn:n<4) (hb0:b0<H.length) (hb1:b1<H.length) (h:WJ H b0 b1 f n σ) (hJ:∀σ,WJ H b0 b1 f (n+1) σ->J σ):
 wpS (pg sa sl) (Cl (pg sa sl) (k-1)) (.seq (.asg 137 (.dict .nil)) (.seq (.for (.one 38) .val (.slice (.tup (.cons (.bytes [120]) (.cons (.bytes [121]) .nil))) .none (.call 72 (.cons (.nm 133) (.cons (.int 3) .nil)))) (.seq (.setsub (.nm 137) (.nm 38) (.sub (.list (.cons (.int 7) (.cons (.bytes [115]) (.cons (.bool true) .nil)))) (.call 72 (.cons (.nm 133) (.cons (.int 3) .nil))))) .done)) (.seq (.expr (.meth (.sub (.nm 135) (.str 137)) 27 (.cons (.nm 137) .nil))) (.seq (.expr (.meth (.sub (.nm 135) (.str 136)) 27 (.cons (.ite (.cmp .Gt (.call 72 (.cons (.nm 133) (.cons (.int 4) .nil))) (.int 0)) (.call 74 (.cons (.nm 133) (.cons (.nm 20) .nil))) .none) .nil))) .done)))) (jN Qf J) Xs ⟨σ.H,put σ.m 20 (.int n)⟩:=by
 obtain ⟨H2,m⟩:=σ
 obtain ⟨rs,ms,hr,hms,hm,x,kk,w,_⟩:=h
 have le2:H.length<=H2.length:=kk.len;have hm:=hm.put (y:=20) (v:=.int n) (by decide);have h20:lk (put m 20 (.int n)) 20=some (.int n):=jC;refine (?_:wpS _ _ _ _ _ ⟨H2,put m 20 (.int n)⟩);generalize put m 20 (.int n)=m at hm h20⊢;obtain ⟨c,hc⟩:∃c,30*(4-n)=c+30/\c=30*(4-(n+1)):=⟨30*(4-(n+1)),by lia,rfl⟩
 have x:=x.less (f':=((f+1+c)+16+1)+3) (by lia);refine jx (y92 (yv ?_));refine jx (yp15 (by lia) (show b0<H2.length by lia) (show b1<H2.length by lia) x hm h20 fun H3 m es x3 k3 r3 hm h20 h137=>?_);have r3:yF1 H.length H3 (H2.length,es):=⟨le2,r3.d,r3.s,r3.ok⟩;have w3:=w.ka hb0 hb1 k3;refine jx (i_lk hm.a1 (jX (b:=.str 137) (v:=.ref (H.length+1)) w3.wd rfl rfl (kt (b:=.append) w3.ro rfl rfl (i_lk h137 (km w3.ro (by rw [qF];lia) ?_)))));have w4:=w3.addR r3;have k4:Ka b0 b1 H (H3.set (H.length+1) (.list (rs.map (fun p=>.ref p.1)++[.ref H2.length]))):=(kk.trans k3).setD (qi _ _);have x4:Bx (H3.set (H.length+1) (.list (rs.map (fun p=>.ref p.1)++[.ref H2.length]))) b0 b1 _:=x3.setD (qf (qj (ql hb0))) (qf (qj (ql hb1)));refine (?_:wpS _ _ _ _ _ ⟨H3.set (H.length+1) (.list (rs.map (fun p=>.ref p.1)++[.ref H2.length])),m⟩);generalize H3.set (H.length+1) (.list (rs.map (fun p=>.ref p.1)++[.ref H2.length]))=H4 at w4 k4 x4⊢;have le4:H.length<=H4.length:=k4.len;refine i_lk hm.a1 (jX (b:=.str 136) (v:=.ref (H.length+2)) w4.wd rfl rfl (kt (b:=.append) w4.me rfl rfl (i_lk hm.a0 (kX (dk1 hk rfl) (by decide) x4 fun H5 r hr' x5 k5=>?_))));have le5:H4.length<=H5.length:=k5.len;have w5:=w4.ka hb0 hb1 k5;have k5:=k4.trans k5;by_cases h0:0<r
 ·refine iT (show decide ((0:Int)<(r:Int))=true from decide_eq_true (by lia)) (i_lk hm.a0 (i_lk h20 (yd13 (dk1 hk rfl) hn (show b0<H5.length by lia) (show b1<H5.length by lia) x5 fun H6 d es' x6 k6 hd dk hs hok=>?_)));have w6:=w5.ka hb0 hb1 k6;refine km w6.me (by rw [qF];lia) (hJ _ ⟨rs++[(H2.length,es)],ms++[some (d,es')],by simp [hr],by simp [hms],hm,(x6.setD (qf (qd (ql hb0) (qg (qa rfl)))) (qf (qd (ql hb1) (qg (qa rfl))))).less (by lia),(k5.trans k6).setD (qi _ _),w6.addM (p:=some (d,es')) fun q e=>?_,fun q e=>?_⟩)
  ·obtain rfl:=qq e
   have hd:H5.length<=d:=hd;exact ⟨by refine (?_:H.length<=d);exact qb (qb le4 le5) hd,dk,hs,hok⟩
  ·have hd:H5.length<=d:=hd;rw [List.getLast?_concat] at e;cases e;exact rz List.dropLast_concat (⟨fun p m=>qc (qA.mp (w5.rok p m).d).1 hd,fun p m=>qc (qA.mp (w5.mok p m).d).1 hd⟩)
 ·exact iF (show decide ((0:Int)<(r:Int))=false from decide_eq_false (by lia)) (km w5.me (by rw [qF];lia) (hJ _ ⟨rs++[(H2.length,es)],ms++[none],by simp [hr],by simp [hms],hm,(x5.setD (qf (qd (ql hb0) (qg (qa rfl)))) (qf (qd (ql hb1) (qg (qa rfl))))).less (by lia),k5.setD (qi _ _),w5.addM (p:=none) (fun q e=>by injection e),fun q e=>by rw [List.getLast?_concat] at e;cases e⟩))
theorem ys10 (hk:4<=k) (hb0:b0<H.length) (hb1:b1<H.length) (b:Bx H b0 b1 (f+121)) (q:∀H' V W,Bx H' b0 b1 f->Ka b0 b1 H H'->Ld V W H' false []->AdV V W H.length H'.length->AdD V W->WOk W->Q (.ref V.wd) H'):Cl (pg sa sl) k (.f 73) [.ref b0] H Q X:=by
 refine u_fn (dk0 hk rfl) rfl rfl (jx (y92 (yh10 ?_)));have w0:Wf H.length (H++[.dict (wD4 H.length),.list [],.list [],.list []]) [] []:=⟨kE (i:=0) rfl,kE (i:=1) rfl,kE (i:=2) rfl,kE (i:=3) rfl,(fun o_ h=>nomatch h),fun o_ h=>nomatch h⟩;have x0:Bx (H++[.dict (wD4 H.length),.list [],.list [],.list []]) b0 b1 (f+1+30*(4-0)):=b.push;have k0:Ka b0 b1 H (H++[.dict (wD4 H.length),.list [],.list [],.list []]):=.push;refine (?_:wpS _ _ _ _ _ ⟨H++[.dict (wD4 H.length),.list [],.list [],.list []],[(133,.ref b0),(135,.ref H.length)]⟩);generalize H++[.dict (wD4 H.length),.list [],.list [],.list []]=H1 at w0 x0 k0⊢;refine jx (yr2 (a:=.int 4) (H1:=H1) (src:=.range 0 4) (fun F q=>q) rfl rfl (fun n σ=>n<=4/\WJ H b0 b1 f n σ) 4 ⟨qn _,[],[],rfl,rfl,⟨rfl,rfl⟩,x0,k0,w0,fun q e=>by injection e⟩ fun n σ hJ=>?_);refine rz yw ?_;by_cases hlt:n<4
 ·refine rz (if_pos hlt) (⟨hlt,?_⟩);exact ya11 (by lia) hlt hb0 hb1 hJ.2 fun σ h=>⟨hlt,h⟩
 ·refine rz (if_neg hlt) ?_;obtain ⟨H2,m⟩:=σ
  obtain ⟨hn,rs,ms,hr,hms,hm,x,kk,w,hlm⟩:=hJ
  have hn4:n=4:=by lia
  subst hn4;refine jx (i_lk hm.a0 (kX (dk1 hk rfl) (by decide) (x.less (f':=f+1) (qm _)) fun H3 r hr' x3 k3=>?_));have w3:=w.ka hb0 hb1 k3;have k3:=kk.trans k3;have fin:∀(tx:Bool) (t:AO),t=.dict (if tx then [(.bytes evI,.tup [.str 74,.int 2])] else [])->wpS (pg sa sl) (Cl (pg sa sl) (k-1)) (.seq (.ret (.nm 135)) .done) (jw Q) (exH X) ⟨(H3++[t]).set H.length (.dict (aset (wD4 H.length) (.str 48) (.ref H3.length))),m⟩:=fun tx t ht=>by
   refine i_lk hm.a1 ?_;have le3:H.length<=H3.length:=k3.len;have w4:Wf H.length (H3++[t]) rs ms:=w3.ka hb0 hb1 .push;have k4:Ka b0 b1 H (H3++[t]):=k3.trans .push;have t4:(H3++[t])[H3.length]? =some t:=jh;have x4:Bx (H3++[t]) b0 b1 f:=x3.push;have lt3:H.length<H3.length:=(qA.mp w3.wd).1;have lt4:(H3++[t]).length=H3.length+1:=by simp
   refine (?_:Q (.ref H.length) ((H3++[t]).set H.length (.dict (aset (wD4 H.length) (.str 48) (.ref H3.length)))));generalize H3++[t]=H4 at w4 k4 t4 x4 lt4⊢;have hl:∀{i:Nat} {o:AO},H4[i]? =some o->i<H4.length:=fun h=>(qA.mp h).1;have sn:∀{i:Nat} {o:AO},H4[i]? =some o->i≠H.length->(H4.set H.length (.dict (aset (wD4 H.length) (.str 48) (.ref H3.length))))[i]? =some o:=fun h n=>je h n
   match rs,hr,ms,hms,w4,hlm with
   |[r0,r1,r2,r3],_,[m0,m1,m2,m3],_,w4,hlm=>
    have mr:∀i,i<4->[r0,r1,r2,r3].getD i (0,[])∈[r0,r1,r2,r3]:=fun i hi=>by
     match i,hi with
     |0,_=>exact .head _
     |1,_=>exact .tail _ (.head _)
     |2,_=>exact .tail _ (.tail _ (.head _))
     |3,_=>exact .tail _ (.tail _ (.tail _ (.head _)))
    have mm:∀i,i<4->[m0,m1,m2,m3].getD i none∈[m0,m1,m2,m3]:=fun i hi=>by
     match i,hi with
     |0,_=>exact .head _
     |1,_=>exact .tail _ (.head _)
     |2,_=>exact .tail _ (.tail _ (.head _))
     |3,_=>exact .tail _ (.tail _ (.tail _ (.head _)))
    have ms':∀i,i<4->∀es,([m0,m1,m2,m3].getD i none).map (·.2)=some es->∃d,(([m0,m1,m2,m3].getD i none).map (·.1)).getD 0=d/\yW2 H.length H4 (d,es):=fun i hi es he=>by
     have m:=mm i hi;rcases hz:[m0,m1,m2,m3].getD i none with _|p
     ·rw [hz] at he;injection he
     ·rw [hz] at he m;obtain rfl:=qq he;exact ⟨p.1,rfl,w4.mok p m⟩
    have len:(H4.set H.length (.dict (aset (wD4 H.length) (.str 48) (.ref H3.length)))).length=H4.length:=qy ..;refine q _ ⟨H.length,H.length+1,H.length+2,H.length+3,H3.length,fun i=>([r0,r1,r2,r3].getD i (0,[])).1,fun i=>(([m0,m1,m2,m3].getD i none).map (·.1)).getD 0⟩ ⟨fun i=>([r0,r1,r2,r3].getD i (0,[])).2,fun i=>([m0,m1,m2,m3].getD i none).map (·.2),tx⟩ (x4.setD (by lia) (by lia)) (k4.setD (qm _)) ⟨jv w4.wd,sn w4.ro (show H.length+1≠H.length by lia),?_,fun i hi=>?_,fun i hi es he=>?_,?_,sn w4.cl (show H.length+3≠H.length by lia)⟩ ⟨?_,?_,?_,?_,?_,fun i hi=>?_,fun i hi es he=>?_,?_⟩ ⟨fun es he i hi=>?_,fun es he i hi es' he'=>?_,fun es he=>?_,fun es he=>?_⟩ ⟨fun i hi=>(w4.rok _ (mr i hi)).s,fun i hi=>(w4.rok _ (mr i hi)).ok,fun i hi es he=>?_,fun i hi es he=>?_⟩
    ·have e:=sn w4.me (qe (qg (qa rfl)));have:∀m:Option (Nat×List (List UInt8×Fo)),mref m=match m.map (·.2) with
      |none=>AV.nil
      |some _=>.ref ((m.map (·.1)).getD 0):=fun m=>by rcases m with _|_<;>rfl
     simp only [List.map_cons,List.map_nil,this] at e;exact e
    ·have r:=(w4.rok _ (mr i hi)).d;exact sn r (ym11 r w4.wd)
    ·obtain ⟨d,e1,r⟩:=ms' i hi es he
     show _[(([m0,m1,m2,m3].getD i none).map (·.1)).getD 0]? =_;exact rz e1 (sn r.d (ym11 r.d w4.wd))
    ·rw [ht] at t4;exact sn t4 (by refine (?_:H3.length≠H.length);exact qe lt3)
    ·exact ⟨qm _,by exact rz len (hl w4.wd)⟩
    ·exact ⟨by refine (?_:H.length<=H.length+1);exact qi _ _,by exact rz len (hl w4.ro)⟩
    ·exact ⟨by refine (?_:H.length<=H.length+2);exact qi _ _,by exact rz len (hl w4.me)⟩
    ·exact ⟨by refine (?_:H.length<=H.length+3);exact qi _ _,by exact rz len (hl w4.cl)⟩
    ·exact ⟨le3,by exact rz len (hl t4)⟩
    ·exact ⟨(w4.rok _ (mr i hi)).n,by exact rz len (hl (w4.rok _ (mr i hi)).d)⟩
    ·obtain ⟨d,e1,r⟩:=ms' i hi es he
     refine (?_:H.length<=(([m0,m1,m2,m3].getD i none).map (·.1)).getD 0/\(([m0,m1,m2,m3].getD i none).map (·.1)).getD 0<_);refine rz e1 (rz len ?_);exact ⟨r.n,hl r.d⟩
    ·exact ⟨by refine (?_:H.length+1≠H.length+3);exact qf (Nat.add_lt_add_of_le_of_lt (qm _) (qa rfl)),by refine (?_:H.length+2≠H.length+3);exact qf (Nat.add_lt_add_of_le_of_lt (qm _) (qa rfl))⟩
    ·obtain ⟨p,hp,rfl⟩:=Option.map_eq_some_iff.mp he
     have hp:m3=some p:=hp;subst hp;exact qf ((hlm p rfl).1 _ (mr i hi))
    ·obtain ⟨p,hp,rfl⟩:=Option.map_eq_some_iff.mp he
     have hp:m3=some p:=hp;subst hp;have h:=(hlm p rfl).2
     match i,hi with
     |0,_=>
      obtain ⟨p',hp',_⟩:=Option.map_eq_some_iff.mp he'
      have hp':m0=some p':=hp';subst hp';exact qf (h p' (.head _))
     |1,_=>
      obtain ⟨p',hp',_⟩:=Option.map_eq_some_iff.mp he'
      have hp':m1=some p':=hp';subst hp';exact qf (h p' (.tail _ (.head _)))
     |2,_=>
      obtain ⟨p',hp',_⟩:=Option.map_eq_some_iff.mp he'
      have hp':m2=some p':=hp';subst hp';exact qf (h p' (.tail _ (.tail _ (.head _))))
    ·obtain ⟨p,hp,rfl⟩:=Option.map_eq_some_iff.mp he
     have hp:m3=some p:=hp;subst hp;have:=(qA.mp (w3.mok p (.tail _ (.tail _ (.tail _ (.head _))))).d).1;exact Ne.symm (qf this)
    ·obtain ⟨d,e1,r⟩:=ms' 3 (by decide) es he
     have s:(es.map (·.1)).Sublist evL:=r.s;have:=s.length_le;rw [qF] at this;exact this
    ·obtain ⟨d,e1,r⟩:=ms' i hi es he
     have s:(es.map (·.1)).Sublist evL:=r.s;have:=s.length_le;rw [qF] at this;exact ⟨s.nodup (by decide),qb this (by decide)⟩
    ·obtain ⟨d,e1,r⟩:=ms' i hi es he
     exact r.ok
  by_cases h0:r=0
  ·refine (?_:(match ((r:Int)==0) with
    |true=>_
    |false=>_))
   exact rz (show ((r:Int)==0)=true from (by subst h0;rfl)) (yc10 (i_lk hm.a1 (zq (jc w3.wd) rfl (qa rfl) (fin true _ rfl))))
  ·refine (?_:(match ((r:Int)==0) with
    |true=>_
    |false=>_))
   exact rz (show ((r:Int)==0)=false from (by simp;exact h0)) (yv (i_lk hm.a1 (zq (jc w3.wd) rfl (qa rfl) (fin false _ rfl))))
structure TbA (H:List AO) (a:Nat) (n:Int) (es:List (List UInt8×AV)) (mt:AV):Prop where
 d:H[a]? =some (.dict [(.str 34,.int n),(.str 37,.ref (a+2)),(.str 36,.ref (a+3)),(.str 35,mt)])
 i:H[a+1]? =some (.inst 275 a)
 k:H[a+2]? =some (.list (es.map fun e=>.bytes e.1))
 v:H[a+3]? =some (.list (es.map (·.2)))
noncomputable def newT (L:Nat) (n:Int):List AO:=[.dict [(.str 34,.int n),(.str 37,.ref (L+2)),(.str 36,.ref (L+3)),(.str 35,.nil)],.inst 275 L,.list [],.list []]
noncomputable def FrA (a:Nat) (H H':List AO):Prop:=H'.length=H.length/\∀i,i<a\/a+4<=i->H'[i]? =H[i]?
variable {a:Nat} {z:Int} {es:List (List UInt8×AV)} {mt:AV}
theorem TbA.tb (t:TbA H a z es mt):Tb H (a+1) z es mt:=⟨a,a+2,a+3,t.i,t.d,t.k,t.v⟩
theorem TbA.fr {b:Nat} (t:TbA H a z es mt) (f:FrA b H H') (h:a+4<=b\/b+4<=a):TbA H' a z es mt:=
 ⟨by exact rz (f.2 _ (by lia)) t.d,by exact rz (f.2 _ (by lia)) t.i,by exact rz (f.2 _ (by lia)) t.k,by exact rz (f.2 _ (by lia)) t.v⟩
theorem TbA.push (t:TbA H a z es mt) {l:List AO}:TbA (H++l) a z es mt:=⟨jc t.d,jc t.i,jc t.k,jc t.v⟩
variable {o:AO}
theorem TbA.set {j:Nat} (t:TbA H a z es mt) (h:j<a\/a+4<=j):TbA (H.set j o) a z es mt:=⟨je t.d (by lia),je t.i (by lia),je t.k (by lia),je t.v (by lia)⟩
theorem TbA.lt (t:TbA H a z es mt):a+4<=H.length:=(qA.mp t.v).1
theorem FrA.refl:FrA a H H:=⟨rfl,fun o_ o_=>rfl⟩
theorem FrA.trans (f:FrA a H H') (g:FrA a H' H''):FrA a H H'':=⟨g.1.trans f.1,fun i h=>(g.2 i h).trans (f.2 i h)⟩
theorem yC6:TbA (H++newT H.length z) H.length z [] .nil:=⟨kE (i:=0) rfl,kE (i:=1) rfl,kE (i:=2) rfl,kE (i:=3) rfl⟩
theorem yT (hk:2<=k) (q:Q (.ref (H.length+1)) (H++newT H.length z)):Cl (pg sa sl) k (.f 64) [.int z] H Q X:=by
 refine yq2 (dk0 hk rfl) rfl (u_fn (dk1 hk rfl) rfl rfl (jy rfl rfl (qa rfl) (qr (qn _) ?_)));have e1:∀(d i o:AO),(H++[d,i])++[o]=H++d::i::[o]:=fun d i o=>by simp
 have e2:∀(d i o o':AO),(H++d::i::[o])++[o']=H++d::i::[o,o']:=fun d i o o'=>by simp
 have l1:∀(d i:AO),(H++[d,i]).length=H.length+2:=fun d i=>by simp
 have l2:∀(d i o:AO),(H++d::i::[o]).length=H.length+3:=fun d i o=>by simp
 refine (?_:setQ _ _ _ _ _ ⟨(H++[AO.dict [(.str 34,.int z)],AO.inst 275 H.length])++[AO.list []],_⟩);rw [e1,l1];refine jy rfl rfl (qa rfl) (qr (qn _) ((?_:setQ _ _ _ _ _ ⟨(H++AO.dict [(.str 34,.int z),(.str 37,.ref (H.length+2))]::AO.inst 275 H.length::[AO.list []])++[AO.list []],_⟩)));rw [e2,l2];exact jy rfl rfl (qa rfl) (jy rfl rfl (qa rfl) (⟨rfl,q⟩))
variable {b:List UInt8}
theorem yc8 (h:∀e∈es,(e.1==b)=false):fpI es b= -1:=by
 unfold fpI;exact rz (yn6 fun i e he=>h e (qD he)) rfl
variable {v:AV}
theorem yM3 (hk:5<=k) (t:TbA H a z es mt) (hb:∀e∈es,(e.1==b)=false) (hv:jr v=false) (hl:es.length<=1000) (q:∀H',TbA H' a z (es++[(b,v)]) mt->FrA a H H'->Q .nil H'):Cl (pg sa sl) k (.f 20) [.ref (a+1),.bytes b,v] H Q X:=by
 refine u_fn (dk0 hk rfl) rfl rfl (jb t.i t.d rfl rfl rfl (yE7 (dk1 hk rfl) t.tb (rz (yc8 hb) ?_)));refine (?_:(match !jr v with
  |true=>_
  |false=>_))
 refine rz hv (jd t.i t.d rfl rfl (kt (b:=.append) t.k rfl rfl (km t.k (by rw [qF];lia) ?_)));have d1:(H.set (a+2) (.list (es.map (fun e=>.bytes e.1)++[.bytes b])))[a]? =some (.dict [(.str 34,.int z),(.str 37,.ref (a+2)),(.str 36,.ref (a+3)),(.str 35,mt)]):=je t.d (qf (qg (qa rfl)));have i1:(H.set (a+2) (.list (es.map (fun e=>.bytes e.1)++[.bytes b])))[a+1]? =some (.inst 275 a):=je t.i (qf (Nat.add_lt_add_of_le_of_lt (qm _) (qa rfl)));have k1:(H.set (a+2) (.list (es.map (fun e=>.bytes e.1)++[.bytes b])))[a+2]? =some (.list ((es++[(b,v)]).map fun e=>.bytes e.1)):=by exact rz List.map_append (jv t.k)
 have v1:(H.set (a+2) (.list (es.map (fun e=>.bytes e.1)++[.bytes b])))[a+3]? =some (.list (es.map (·.2))):=je t.v (qe (Nat.add_lt_add_of_le_of_lt (qm _) (qa rfl)));have f1:FrA a H (H.set (a+2) (.list (es.map (fun e=>.bytes e.1)++[.bytes b]))):=⟨by simp,fun i h=>List.getElem?_set_ne (by lia)⟩;refine (?_:wpS _ _ _ _ _ ⟨H.set (a+2) (.list (es.map (fun e=>.bytes e.1)++[.bytes b])),_⟩);generalize H.set (a+2) (.list (es.map (fun e=>.bytes e.1)++[.bytes b]))=H1 at d1 i1 k1 v1 f1⊢;refine jd i1 d1 rfl rfl (kt (b:=.append) v1 rfl rfl (km v1 (by rw [qF];lia) (q _ ⟨je d1 (qf (qg (qa rfl))),je i1 (qf (Nat.add_lt_add_of_le_of_lt (qm _) (qa rfl))),je k1 (qf (Nat.add_lt_add_of_le_of_lt (qm _) (qa rfl))),by exact rz List.map_append (jv v1)⟩ (f1.trans ⟨by simp,fun i h=>List.getElem?_set_ne (by lia)⟩))))
theorem yC5 (hk:2<=k) (q:Q (.ref (H.length+1)) (H++[.dict limD,.inst 53 H.length])):Cl (pg sa sl) k (.f 63) [] H Q X:=by
 exact yq2 (dk0 hk rfl) rfl (yO15 (dk1 hk rfl) rfl rfl (jy rfl rfl (qa rfl) (jy rfl rfl (qa rfl) (jy rfl rfl (qa rfl) (jy rfl rfl (qa rfl) (jy rfl rfl (qa rfl) (jy rfl rfl (qa rfl) (jy rfl rfl (qa rfl) (jy rfl rfl (qa rfl) (jy rfl rfl (qa rfl) (jy rfl rfl (qa rfl) (⟨rfl,q⟩))))))))))))
theorem yJ9 (hk:1<=k) (q:Q (.bytes [61,108,97,119]) H):Cl (pg sa sl) k (.f 15) [.bytes [61,108,97,119]] H Q X:=by
 refine u_fn (dk0 hk rfl) rfl rfl (jx (ka1 (fun n σ=>∃i:Nat,i<=4/\n=4-i/\σ=⟨H,[(10,.bytes [61,108,97,119]),(20,.int i)]⟩) 4 ⟨0,(qa rfl),rfl,rfl⟩ fun n σ hσ=>?_));obtain ⟨i,hi,rfl,rfl⟩:=hσ
 refine yc (qa rfl) ?_;rcases (show i=0\/i=1\/i=2\/i=3\/i=4 by lia) with rfl|rfl|rfl|rfl|rfl
 ·exact yd ⟨by decide,by decide,qa rfl⟩ (⟨3,by decide,1,by decide,rfl,rfl⟩)
 ·exact yd ⟨by decide,by decide,qa rfl⟩ (⟨2,by decide,2,by decide,rfl,rfl⟩)
 ·exact yd ⟨by decide,by decide,qa rfl⟩ (⟨1,by decide,3,by decide,rfl,rfl⟩)
 ·exact yd ⟨by decide,by decide,qa rfl⟩ (⟨0,by decide,4,by decide,rfl,rfl⟩)
 ·exact y71 (x:=none) (y:=some 4) rfl rfl (qa rfl) (q)
theorem yI9 (hk:2<=k) (q:Q (.bytes [108,97,119]) H):Cl (pg sa sl) k (.f 16) [.bytes [61,108,97,119],.int 60] H Q X:=by
 exact u_fn (dk0 hk rfl) rfl rfl (yJ9 (dk1 hk rfl) (y71 (x:=none) (y:=some 1) rfl rfl (qa rfl) (y71 (x:=some 1) (y:=some 60) rfl rfl (qa rfl) (q))))
noncomputable def rnL (D lm:Nat):List AO:=.dict [(.str 18,.ref lm),(.str 51,.bytes [108,97,119]),(.str 50,.ref (D+2)),(.str 9,.int 0),(.str 49,.int 0),(.str 6,.ref (D+3)),(.str 48,.ref (D+5)),(.str 78,.ref (D+9))]::.inst 634 D::([.list [],.list []]++newT (D+4) (-60)++newT (D+8) (-80))
variable {lm:Nat}
theorem yR1 {d i:AO} {r:List AO} (hk:2<=k) (q:Q (.ref (H.length+r.length+3)) (H++d::i::(r++newT (H.length+r.length+2) z))):Cl (pg sa sl) k (.f 64) [.int z] (H++d::i::r) Q X:=by
 refine yT hk ?_;have ln:(H++d::i::r).length=H.length+r.length+2:=by simp;lia
 have ap:∀l,(H++d::i::r)++l=H++d::i::(r++l):=fun l=>by simp
 rw [ap];refine rz ln ?_;exact q
theorem yD5 (hk:5<=k) (q:Q (.ref (H.length+1)) (H++rnL H.length lm)):Cl (pg sa sl) k (.f 68) [.ref lm,.bytes [61,108,97,119]] H Q X:=by
 have ap:∀(d i:AO) (r l:List AO),(H++d::i::r)++l=H++d::i::(r++l):=fun d i r l=>by simp
 have ln:∀(d i:AO) (r:List AO),(H++d::i::r).length=H.length+(r.length+2):=fun d i r=>by simp
 refine yq2 (dk0 hk rfl) rfl (u_fn (dk1 hk rfl) rfl rfl (u_fn (dk2 hk rfl) rfl rfl (jy rfl rfl (qa rfl) (yI9 (by lia) (jy rfl rfl (qa rfl) (qr (qn _) ((?_:setQ _ _ _ _ _ ⟨(H++AO.dict [(.str 18,.ref lm),(.str 51,.bytes [108,97,119])]::AO.inst 634 H.length::[])++[AO.list []],_⟩))))))));rw [ap,ln];refine jy rfl rfl (qa rfl) (jy rfl rfl (qa rfl) (jy rfl rfl (qa rfl) (qr (qn _) ((?_:setQ _ _ _ _ _ ⟨(H++AO.dict [(.str 18,.ref lm),(.str 51,.bytes [108,97,119]),(.str 50,.ref (H.length+2)),(.str 9,.int 0),(.str 49,.int 0)]::AO.inst 634 H.length::[AO.list []])++[AO.list []],_⟩)))));rw [ap,ln];exact jy rfl rfl (qa rfl) (yR1 (r:=[AO.list [],AO.list []]) (z:= -60) (by lia) (jy rfl rfl (qa rfl) (yR1 (r:=[AO.list [],AO.list []]++newT (H.length+4) (-60)) (z:= -80) (by lia) (jy rfl rfl (qa rfl) (⟨rfl,q⟩)))))
variable {it:E} {i:Nat}
theorem y65 {x:Nat} {b:S} {H1:List AO} {l:List (AV×AV)} (hw:∀F:AV->St->Prop,F (.ref i) ⟨H1,m⟩->wp (pg sa sl) Γ it F Xs ⟨H,m⟩) (h1:H1[i]? =some (.dict l)) (hb:zl l=true) (J:Nat->St->Prop) (h0:J 0 ⟨H1,m⟩)
 (hstep:∀n σ,J n σ->σ.H[i]? =some (.dict l)/\match l[n]? with
  |none=>Qf .next σ
  |some q=>wpS (pg sa sl) Γ b (jN Qf fun σ2=>J (n+1) σ2) Xs ⟨σ.H,put σ.m x q.1⟩):wpS (pg sa sl) Γ (.forD x it b) Qf Xs ⟨H,m⟩:=by
 refine hw _ (jj (a:=i) rfl (jj (zb1 h1) ⟨hb,fun k n σ=>k+n=l.length/\J n σ,l.length,⟨rfl,h0⟩,fun k n σ ⟨hk,hJ⟩=>?_⟩));refine x_A (hstep n σ hJ) fun a h=>⟨a,?_⟩
 revert h
 rcases hn:l[n]? with _|q
 ·exact id
 ·dsimp only;have hlt:=(qA.mp hn).1;have e:(jN Qf fun σ2=>∃k',k'<k/\k'+(n+1)=l.length/\J (n+1) σ2)=jN Qf fun σ2=>J (n+1) σ2:=by
   have:(fun σ2=>∃k',k'<k/\k'+(n+1)=l.length/\J (n+1) σ2)=fun σ2=>J (n+1) σ2:=by
    funext σ2
    exact propext ⟨fun ⟨_,_,_,h⟩=>h,fun h=>⟨k-1,by lia,by lia,h⟩⟩
   exact rz this rfl
  exact rz e (id)
theorem yb10 {elt:E} {x:Nat} {sk:SK} {a:AV} {src:Src} (hw:∀F:AV->St->Prop,F a ⟨H,m⟩->wp (pg sa sl) Γ it F Xs ⟨H,m⟩) (hs:srcV H sk a=some src)
 (h:good src (.one x)=true/\∃(J:Nat->Nat->St->Prop) (k:Nat),J k 0 ⟨H++[.list []],[]⟩/\yX7 (wp (pg sa sl) Γ elt) H.length src (.one x) (fun σ'=>F (.ref H.length) ⟨σ'.H,m⟩) J):wp (pg sa sl) Γ (.comp elt (.one x) sk it) F Xs ⟨H,m⟩:=by
 refine hw _ ((?_:optQ _ (srcV H sk a)));exact rz hs (h)
theorem yE8 (hk:2<=k) (q:∀H':List AO,H'.length=H.length+17->(∀(i:Nat) (o:AO),H[i]? =some o->H'[i]? =some o)->H'[H.length]? =some (.list [.ref (H.length+2),.ref (H.length+6),.ref (H.length+10),.ref (H.length+14)])->(∀i,i<4->TbA H' (H.length+1+4*i) (-1-i) [] .nil)->F (.ref H.length) ⟨H',m⟩):
 wp (pg sa sl) (Cl (pg sa sl) k) (.comp (.call 64 (.cons (.bin .Sub (.bin .Sub (.int 0) (.int 1)) (.nm 20)) .nil)) (.one 20) .range (.int 4)) F Xs ⟨H,m⟩:=by
 refine yb10 (a:=.int 4) (src:=.range 0 4) (fun F q=>q) rfl ⟨rfl,fun k n σ=>k+n=4/\σ.H.length=H.length+1+4*n/\(∀(i:Nat) (o:AO),H[i]? =some o->σ.H[i]? =some o)/\σ.H[H.length]? =some (.list ((List.range n).map fun i=>.ref (H.length+2+4*i)))/\(∀i,i<n->TbA σ.H (H.length+1+4*i) (-1-i) [] .nil)/\(σ.m=[]\/∃a,σ.m=[(20,a)]),4,⟨rfl,by simp,fun i o h=>jc h,jh,(fun i h=>absurd h (Nat.not_lt_zero i)),.inl rfl⟩,fun k n σ hJ=>?_⟩;obtain ⟨H2,m2⟩:=σ
 obtain ⟨hk',hl,hkp,hlist,ht,hm⟩:=hJ
 refine rz yw ?_;by_cases hlt:n<4
 ·refine rz (if_pos hlt) ?_;have hl:H2.length=H.length+1+4*n:=hl;have go:∀m',m'=[(20,AV.int n)]->wp (pg sa sl) (Cl (pg sa sl) _) (.call 64 (.cons (.bin .Sub (.bin .Sub (.int 0) (.int 1)) (.nm 20)) .nil)) (fun v σ2=>optQ (fun l=>l.length<=1000000/\∃k',k'<k/\(k'+(n+1)=4/\(σ2.H.set H.length (.list (l++[v]))).length=H.length+1+4*(n+1)/\(∀(i:Nat) (o:AO),H[i]? =some o->(σ2.H.set H.length (.list (l++[v])))[i]? =some o)/\(σ2.H.set H.length (.list (l++[v])))[H.length]? =some (.list ((List.range (n+1)).map fun i=>.ref (H.length+2+4*i)))/\(∀i,i<n+1->TbA (σ2.H.set H.length (.list (l++[v]))) (H.length+1+4*i) (-1-i) [] .nil)/\(σ2.m=[]\/∃a,σ2.m=[(20,a)]))) (lsAt σ2.H H.length)) (fun o_=>False) ⟨H2,m'⟩:=fun m' e=>by
   subst e;refine yT (z:=0-1-n) hk ?_;have e0:(H2++newT H2.length (0-1-n))[H.length]? =some (.list ((List.range n).map fun i=>.ref (H.length+2+4*i))):=jc hlist;refine jj (jU e0) (⟨by simp;lia,k-1,by lia,by lia,?_,fun i o h=>je (jc (hkp i o h)) (by have:=(qA.mp h).1;exact qf this),?_,fun i hi=>?_,.inr ⟨_,rfl⟩⟩)
   ·refine rz qy (rz List.length_append ?_);refine (?_:H2.length+4=_);lia
   ·have:(.ref (H2.length+1):AV)=.ref (H.length+2+4*n):=by refine rz hl ?_;congr 1;lia
    refine (?_:((H2++newT H2.length (0-1-n)).set H.length (.list ((List.range n).map (fun i=>.ref (H.length+2+4*i))++[.ref (H2.length+1)])))[H.length]? =_);refine rz List.range_succ (rz List.map_append (rz this ?_));exact jv e0
   ·refine TbA.set ?_ (by lia);rcases Nat.lt_succ_iff_lt_or_eq.mp hi with hi|rfl
    ·exact (ht i hi).push
    ·have:=yC6 (H:=H2) (z:=0-1-i);have e:((0:Int)-1-i)= -1-i:=by lia
     have e2:H2.length=H.length+1+4*i:=hl;rw [e] at this;refine (?_:TbA (H2++newT H2.length (0-1-i)) _ _ _ _);refine rz e (rz (Eq.symm e2) ?_);exact this
  rcases hm with hm|⟨b,hm⟩
  ·have hm:m2=[]:=hm;subst hm;refine (?_:optQ _ (some [(20,AV.int n)]));exact go _ rfl
  ·have hm:m2=[(20,b)]:=hm;subst hm;refine (?_:optQ _ (some (put [(20,b)] 20 (AV.int n))));exact go _ (by simp [put])
 ·refine rz (if_neg hlt) ?_;have:n=4:=by lia
  subst this;exact q H2 hl hkp hlist ht
structure FnA (H:List AO) (a n sn:Nat):Prop where
 d:∃nm,H[a]? =some (.dict [(.str 34,.int (-20-n)),(.str 33,.bytes nm),(.str 42,.clo (2-n) (.ref sn))])
 i:H[a+1]? =some (.inst 296 a)
theorem FnA.push (f:FnA H a n sn) {l:List AO}:FnA (H++l) a n sn:=⟨let ⟨x,h⟩:=f.d;⟨x,jc h⟩,jc f.i⟩
variable {nm:List UInt8}
theorem yt14 (hk:2<=k) (q:Q (.ref (H.length+1)) (H++[.dict [(.str 34,.int z),(.str 33,.bytes nm),(.str 42,v)],.inst 296 H.length])):Cl (pg sa sl) k (.f 65) [.int z,.bytes nm,v] H Q X:=by
 exact yq2 (dk0 hk rfl) rfl (u_fn (dk1 hk rfl) rfl rfl (jy rfl rfl (qa rfl) (jy rfl rfl (qa rfl) (jy rfl rfl (qa rfl) (⟨rfl,q⟩)))))
theorem yT12 {l:E} (q:wp (pg sa sl) Γ l (tupQ (yO7 Γ (.f f) F Xs)) Xs σ):wp (pg sa sl) Γ (.call f l) F Xs σ:=q
theorem yc15 {l:List UInt8} (q:F (.bytes l) σ):wp (pg sa sl) Γ (.bytes l) F Xs σ:=q
theorem yY12 {l:E} (q:wp (pg sa sl) Γ l (tupQ (yG11 F)) Xs σ):wp (pg sa sl) Γ (.list l) F Xs σ:=q
variable {kk:Nat}
theorem ye15 {l:List (Int×Int)} {q0:Nat×List Nat×E} (h0:H[(0:Nat)]? =some (.tab l)) (hq:(pg sa sl).lam kk=some q0) (hv:lk m q0.1=some v) (hn:(pg sa sl).lpos kk∉l) (q:F (.clo kk v) ⟨H.set 0 (.tab (l++[(pg sa sl).lpos kk])),m⟩):wp (pg sa sl) Γ (.lam kk) F Xs ⟨H,m⟩:=jj hq (jj (yQ13 h0) (jj hv ⟨hn,q⟩))
theorem ya6 {l:List (Int×Int)} {r:E} (hk:2<=k) (hkk:kk=2-n) (h0:H[(0:Nat)]? =some (.tab l)) (hL:0<H.length) (hn:(pg sa sl).lpos kk∉l) (h3:kk<3) (hm:lk m 149=some (.ref sn)) (hz: -z= -20-n)
 (q:∀H':List AO,H'.length=H.length+2->(∀(i:Nat) (o:AO),i≠0->H[i]? =some o->H'[i]? =some o)->H'[(0:Nat)]? =some (.tab (l++[(pg sa sl).lpos kk]))->FnA H' H.length n sn->wp (pg sa sl) (Cl (pg sa sl) k) r (tupQ (yb9 (.ref (H.length+1)) F)) Xs ⟨H',m⟩):
 wp (pg sa sl) (Cl (pg sa sl) k) (.cons (.call 65 (.cons (.un .USub (.int z)) (.cons (.bytes nm) (.cons (.lam kk) .nil)))) r) F Xs ⟨H,m⟩:=by
 refine kj ?_;have go:∀q0,(pg sa sl).lam kk=some q0->lk m q0.1=some (.ref sn)->wp (pg sa sl) (Cl (pg sa sl) k) (.call 65 (.cons (.un .USub (.int z)) (.cons (.bytes nm) (.cons (.lam kk) .nil)))) (k2 (fun G=>wp (pg sa sl) (Cl (pg sa sl) k) r G Xs) (yY7 F)) Xs ⟨H,m⟩:=fun q0 hq hv=>by
  refine yT12 (kj (yv11 (kj (yc15 (kj (ye15 h0 hq hv hn ?_))))));refine rz hz (yt14 hk ?_);have e1:(H.set 0 (AO.tab (l++[(pg sa sl).lpos kk]))).length=H.length:=qy ..;refine (?_:wp _ _ r _ _ ⟨H.set 0 (AO.tab (l++[(pg sa sl).lpos kk]))++[.dict [(.str 34,.int (-20-n)),(.str 33,.bytes nm),(.str 42,.clo kk (.ref sn))],.inst 296 (H.set 0 (AO.tab (l++[(pg sa sl).lpos kk]))).length],m⟩);refine rz e1 ?_;have e2:∀{i:Nat} {o:AO},[AO.dict [(.str 34,.int (-20-n)),(.str 33,.bytes nm),(.str 42,.clo kk (.ref sn))],AO.inst 296 H.length][i]? =some o->(H.set 0 (AO.tab (l++[(pg sa sl).lpos kk]))++[AO.dict [(.str 34,.int (-20-n)),(.str 33,.bytes nm),(.str 42,.clo kk (.ref sn))],AO.inst 296 H.length])[H.length+i]? =some o:=fun {i o} h=>by
   have:=kE (H:=H.set 0 (AO.tab (l++[(pg sa sl).lpos kk]))) h;rw [e1] at this;exact this
  have:=q (H.set 0 (AO.tab (l++[(pg sa sl).lpos kk]))++[AO.dict [(.str 34,.int (-20-n)),(.str 33,.bytes nm),(.str 42,.clo kk (.ref sn))],AO.inst 296 H.length]) (by simp) (fun i o hi h=>jc (je h hi)) (jc (jv h0)) ⟨⟨nm,by exact rz (Eq.symm hkk) (e2 (i:=0) rfl)⟩,e2 (i:=1) rfl⟩;exact this
 rcases (show kk=0\/kk=1\/kk=2 by lia) with rfl|rfl|rfl
 ·exact go _ rfl hm
 ·exact go _ rfl hm
 ·exact go _ rfl hm
theorem yr10 (hk:2<=k) (h0:H[(0:Nat)]? =some (.tab [])) (hm:lk m 149=some (.ref sn))
 (q:∀H':List AO,H'.length=H.length+7->(∀(i:Nat) (o:AO),i≠0->H[i]? =some o->H'[i]? =some o)->(∃l,H'[(0:Nat)]? =some (.tab l))->H'[H.length+6]? =some (.list [.ref (H.length+1),.ref (H.length+3),.ref (H.length+5)])->(∀i,i<3->FnA H' (H.length+2*i) i sn)->F (.ref (H.length+6)) ⟨H',m⟩):
 wp (pg sa sl) (Cl (pg sa sl) k) (.list (.cons (.call 65 (.cons (.un .USub (.int 20)) (.cons (.bytes [102]) (.cons (.lam 2) .nil)))) (.cons (.call 65 (.cons (.un .USub (.int 21)) (.cons (.bytes [103]) (.cons (.lam 1) .nil)))) (.cons (.call 65 (.cons (.un .USub (.int 22)) (.cons (.bytes [104]) (.cons (.lam 0) .nil)))) .nil)))) F Xs ⟨H,m⟩:=by
 have L0:0<H.length:=(qA.mp h0).1;refine yY12 (ya6 (n:=0) (sn:=sn) hk rfl h0 L0 (by simp) (by decide) hm (by decide) fun H1 l1 k1 t1 f1=>ya6 (n:=1) (sn:=sn) hk rfl t1 (qc (qd (ql L0) (qg (qa rfl))) (qk l1.symm)) (show ((710,0):Int×Int)∉[((709:Int),(0:Int))] by decide) (by decide) hm (by decide) fun H2 l2 k2 t2 f2=>ya6 (n:=2) (sn:=sn) hk rfl t2 (qc (qd (qn _) (qg (qa rfl))) (qk l2.symm)) (show ((711,0):Int×Int)∉[((709:Int),(0:Int)),(710,0)] by decide) (by decide) hm (by decide) fun H3 l3 k3 t3 f3=>qr (qa rfl) ((?_:F (.ref H3.length) ⟨H3++[AO.list [.ref (H.length+1),.ref (H1.length+1),.ref (H2.length+1)]],m⟩)));refine rz (show H1.length+1=H.length+3 by lia) (rz (show H2.length+1=H.length+5 by lia) (rz (show H3.length=H.length+6 by lia) ?_));rw [l1] at f2;rw [l2,l1] at f3;have e:(H3++[AO.list [.ref (H.length+1),.ref (H.length+3),.ref (H.length+5)]])[H.length+6]? =some (.list [.ref (H.length+1),.ref (H.length+3),.ref (H.length+5)]):=by
  have:=jh (H:=H3) (o:=AO.list [.ref (H.length+1),.ref (H.length+3),.ref (H.length+5)]);rw [show H3.length=H.length+6 by lia] at this;exact this
 have kf:∀{H H':List AO} {a n:Nat},FnA H a n sn->(∀(i:Nat) (o:AO),i≠0->H[i]? =some o->H'[i]? =some o)->a≠0->FnA H' a n sn:=fun f k h=>⟨let ⟨x,e⟩:=f.d;⟨x,k _ _ h e⟩,k _ _ (qe (qj (qn _))) f.i⟩;refine q _ (by simp;lia) (fun i o hi h=>jc (k3 i o hi (k2 i o hi (k1 i o hi h)))) ⟨_,jc t3⟩ e fun i hi=>?_;rcases (show i=0\/i=1\/i=2 by lia) with rfl|rfl|rfl
 ·exact (kf (kf f1 k2 (qe L0)) k3 (qe L0)).push
 ·exact (kf f2 k3 (qe (qd (ql L0) (qg (qa rfl))))).push
 ·exact f3.push
theorem yZ12 {b:Nat} (ha:lk m 150=some (.ref a)) (hb:lk m 152=some (.ref b)) (q:F (.ref H.length) ⟨H++[.dict [(.str 74,.ref a),(.str 61,.ref b)]],m⟩):wp (pg sa sl) Γ (.dict (.pcons (.str 74) (.nm 150) (.pcons (.str 61) (.nm 152) .nil))) F Xs ⟨H,m⟩:=by
 refine i_lk ha (i_lk hb (qr jh ((?_:F (.ref H.length) ⟨(H++[AO.dict []]).set H.length (.dict [(.str 74,.ref a),(.str 61,.ref b)]),m⟩))));exact rz kg1 (q)
variable {p:Nat}
theorem yQ8 {α:Type} {l:List (List UInt8×α)} (nd:(l.map (·.1)).Nodup) {e:List UInt8×α} (h:l[p]? =some e):∀x∈l.take p,(x.1==e.1)=false:=by
 have h1:(l.map (·.1))[p]? =some e.1:=by refine rz qt ?_;refine rz h ?_;rfl
 exact yp4 (es:=l.take p) (ks:=l.map (·.1)) (n:=p) (b:=e.1) (by exact rz (Eq.symm List.map_take) (List.Sublist.refl _)) h1 nd
theorem yL8 {α:Type} {l:List (List UInt8×α)} (nd:(l.map (·.1)).Nodup) {e:List UInt8×α} (h:l[p]? =some e):lkF l e.1=some e.2:=by
 refine x_E (qA.mp h) fun hp he=>?_;refine congrArg (Option.map (·.2)) (?_:l.find? (fun x=>x.1==e.1)=some e);refine List.find?_eq_some_iff_getElem.mpr ⟨beq_self_eq_true e.1,p,hp,he,fun j hj=>?_⟩;have:=List.pairwise_iff_getElem.mp nd j p (by rw [qF];exact Nat.lt_trans hj hp) (by rw [qF];exact hp) hj;rw [List.getElem_map,List.getElem_map,he] at this;refine rz (beq_eq_false_iff_ne.mpr this) ?_;rfl
theorem yq5 {α:Type} {l:List α} {e:α} (h:l[p]? =some e):l.take (p+1)=l.take p++[e]:=by refine rz List.take_succ (rz h ?_);rfl
noncomputable def Kz (G tB Z:Nat) (H H':List AO):Prop:=H.length<=H'.length/\∀i,i<Z->(i<G\/G+4<=i)->(i<tB\/tB+16<=i)->H'[i]? =H[i]?
structure Zb (V:WI) (W:Wo) (L:LI) (n0 n1 G tl tB fB wl lo Z:Nat):Prop where
 v:AdV V W n0 n1
 g:n1<=G
 js:L.js<G
 r:L.r<G
 gt:L.gt=G+1
 htl:G+4<=tl
 htb:tl<tB
 hfb:tB+16<=fB
 hwl:tB+16<=wl
 hlo:tB+16<=lo
 wz:wl<Z
 lz:lo<Z
structure Mz (V:WI) (W:Wo) (L:LI) (tl tB fB wl lo Z:Nat) (H:List AO):Prop where
 ld:Ld V W H false []
 r:H[L.r]? =some (.inst 634 L.js)
 js:∃(steps made:Int) (fo:Nat),H[L.js]? =some (.dict (L.rD steps made fo))
 mtl:H[tl]? =some (.list [.ref (tB+1),.ref (tB+5),.ref (tB+9),.ref (tB+13)])
 mwl:H[wl]? =some (.list [.ref (fB+1),.ref (fB+3),.ref (fB+5)])
 mlo:H[lo]? =some (.dict [(.str 74,.ref tl),(.str 61,.ref wl)])
 z:Z<=H.length
variable {G tl tB fB wl lo Z:Nat} {V:WI} {W:Wo} {L:LI}
theorem Kz.refl:Kz G tB Z H H:=⟨qm _,fun o_ o_ o_ o_=>rfl⟩
theorem Kz.trans (a:Kz G tB Z H H') (b:Kz G tB Z H' H''):Kz G tB Z H H'':=⟨qb a.1 b.1,fun i h1 h2 h3=>(b.2 i h1 h2 h3).trans (a.2 i h1 h2 h3)⟩
theorem Kz.fr (f:FrA a H H') (h:a=G\/(tB<=a/\a+4<=tB+16)\/Z<=a):Kz G tB Z H H':=⟨qk f.1.symm,fun i h1 h2 h3=>f.2 i (by lia)⟩
theorem Kz.push (h:Z<=H.length) {l:List AO}:Kz G tB Z H (H++l):=⟨by simp,fun i h1 o_ o_=>qw (qc h1 h)⟩
theorem Kz.set (h:(tB<=a/\a<tB+16)\/Z<=a):Kz G tB Z H (H.set a o):=⟨by simp,fun i h1 o_ h3=>List.getElem?_set_ne (by lia)⟩
theorem Mz.kz (B:Zb V W L n0 n1 G tl tB fB wl lo Z) (z:Mz V W L tl tB fB wl lo Z H) (k:Kz G tB Z H H'):Mz V W L tl tB fB wl lo Z H':=by
 have b1:=B.g;have b2:=B.js;have b3:=B.r;have b5:=B.htl;have b6:=B.htb;have b8:=B.hwl;have b9:=B.hlo;have b10:=B.wz;have b11:=B.lz;have kv:∀{i:Nat} {o:AO},n0<=i/\i<n1->H[i]? =some o->H'[i]? =some o:=fun {i o} h e=>by exact rz (k.2 i (by lia) (.inl (qc h.2 b1)) (.inl (qd (qb (qh (qb (ql h.2) b1)) b5) b6))) e
 exact ⟨⟨kv B.v.wd z.ld.wd,kv B.v.ro z.ld.ro,kv B.v.me z.ld.me,fun i hi=>kv (B.v.rw i hi) (z.ld.rw i hi),fun i hi es he=>kv (B.v.mt i hi es he) (z.ld.mt i hi es he),kv B.v.tx z.ld.tx,kv B.v.cl z.ld.cl⟩,
  by exact rz (k.2 _ (by lia) (.inl b3) (.inl (qd (qb (qh (ql b3)) b5) b6))) z.r,let ⟨s,md,fo,e⟩:=z.js;⟨s,md,fo,by exact rz (k.2 _ (by lia) (.inl b2) (.inl (qd (qb (qh (ql b2)) b5) b6))) e⟩,by exact rz (k.2 _ (qd (qb (qh (ql b6)) b8) b10) (.inr b5) (.inl b6)) z.mtl,by exact rz (k.2 _ (b10) (.inr (qb (Nat.add_le_add (ql (qd (qb (qi _ _) b5) b6)) (qa rfl)) b8)) (.inr b8)) z.mwl,by exact rz (k.2 _ (b11) (.inr (qb (Nat.add_le_add (ql (qd (qb (qi _ _) b5) b6)) (qa rfl)) b9)) (.inr b9)) z.mlo,qb z.z k.1⟩
noncomputable def rE (W:Wo) (tB i:Nat):List (List UInt8×AV):=(W.rows i).map fun e=>(e.1,e.2.rv fun i=>tB+4*i+1)
noncomputable def mE (tB fB:Nat) (es:List (List UInt8×Fo)):List (List UInt8×AV):=es.map fun e=>(e.1,e.2.rv (fun i=>tB+4*i+1) fun n=>fB+2*n+1)
structure MaM (m:Loc) (L:LI) (V:WI) (lo tl:Nat) (n tb:Nat):Prop where
 a148:lk m 148=some (.ref L.r)
 a135:lk m 135=some (.ref V.wd)
 a151:lk m 151=some (.ref lo)
 a150:lk m 150=some (.ref tl)
 a20:lk m 20=some (.int n)
 a16:lk m 16=some (.ref tb)
variable {y:Nat}
theorem MaM.put {tb:Nat} (x:MaM m L V lo tl n tb) (h:y≠148/\y≠135/\y≠151/\y≠150/\y≠20/\y≠16):MaM (put m y v) L V lo tl n tb:=
 ⟨ji x.a148 (Ne.symm h.1),ji x.a135 (Ne.symm h.2.1),ji x.a151 (Ne.symm h.2.2.1),ji x.a150 (Ne.symm h.2.2.2.1),ji x.a20 (Ne.symm h.2.2.2.2.1),ji x.a16 (Ne.symm h.2.2.2.2.2)⟩
theorem yJ8 {wr cs} (d:Ld V W H wr cs) (hn:n<4) (h135:lk m 135=some (.ref V.wd)) (h20:lk m 20=some (.int n)) (q:F (.ref (V.rw n)) ⟨H,m⟩):wp (pg sa sl) Γ (.sub (.sub (.nm 135) (.str 137)) (.nm 20)) F Xs ⟨H,m⟩:=by
 exact i_lk h135 (jX (b:=.str 137) (v:=.ref V.ro) d.wd rfl rfl (i_lk h20 (jo (v:=.ref (V.rw n)) d.ro ⟨by lia,by lia⟩ (by rw [Int.toNat_natCast];exact y38 hn) q)))
theorem yP5 {wr cs} (d:Ld V W H wr cs) (hn:n<4) (h135:lk m 135=some (.ref V.wd)) (h20:lk m 20=some (.int n)) (q:F (mAV V W n) ⟨H,m⟩):wp (pg sa sl) Γ (.sub (.sub (.nm 135) (.str 136)) (.nm 20)) F Xs ⟨H,m⟩:=by
 exact i_lk h135 (jX (b:=.str 136) (v:=.ref V.me) d.wd rfl rfl (i_lk h20 (jo (v:=mAV V W n) d.me ⟨by lia,by lia⟩ (by rw [Int.toNat_natCast];exact d.meAt hn) q)))
variable {T:Nat->Nat}
theorem yz15 {v:Vl} (h:Rv v):v.av=v.rv T/\jr (v.rv T)=false:=by
 refine x_AA h fun h1 o_ h3=>?_;rcases v with _|b|b|b|i
 ·exact absurd rfl h1
 ·exact ⟨rfl,rfl⟩
 ·exact ⟨rfl,rfl⟩
 ·exact ⟨rfl,rfl⟩
 ·injection h3
theorem yo13 (hk:5<=k) (hn:n<4) (B:Zb V W L n0 n1 G tl tB fB wl lo Z) (wo:WOk W) (z:Mz V W L tl tB fB wl lo Z H) (hm:MaM m L V lo tl n (tB+4*n+1)) (t:TbA H (tB+4*n) (-1-n) [] .nil)
 (q:∀H' m',TbA H' (tB+4*n) (-1-n) (rE W tB n) .nil->FrA (tB+4*n) H H'->MaM m' L V lo tl n (tB+4*n+1)->Qf .next ⟨H',m'⟩):
 wpS (pg sa sl) (Cl (pg sa sl) k) (.forD 38 (.sub (.sub (.nm 135) (.str 137)) (.nm 20)) (.seq (.expr (.meth (.nm 16) 76 (.cons (.nm 38) (.cons (.sub (.sub (.sub (.nm 135) (.str 137)) (.nm 20)) (.nm 38)) .nil)))) .done)) Qf Xs ⟨H,m⟩:=by
 have nd:((W.rows n).map (·.1)).Nodup:=(wo.rs n hn).nodup (by decide);have len:(W.rows n).length<=2:=by have:=(wo.rs n hn).length_le;rw [qF] at this;exact this
 refine y65 (H1:=H) (i:=V.rw n) (fun F q=>yJ8 z.ld hn hm.a135 hm.a20 q) (z.ld.rw n hn) (jI _ _) (fun p σ=>TbA σ.H (tB+4*n) (-1-n) ((rE W tB n).take p) .nil/\FrA (tB+4*n) H σ.H/\MaM σ.m L V lo tl n (tB+4*n+1)) ⟨t,.refl,hm⟩ fun p σ hJ=>?_;obtain ⟨H2,m2⟩:=σ
 refine x_AA hJ fun t2 f2 hm=>?_;have z2:=z.kz B (.fr f2 (.inr (.inl (by lia))));refine ⟨z2.ld.rw n hn,?_⟩;refine rz qt ?_;rcases he:(W.rows n)[p]? with _|e
 ·have:(rE W tB n).take p=rE W tB n:=List.take_of_length_le (by unfold rE;rw [qF];exact qs.mp he);rw [this] at t2;exact q H2 m2 t2 f2 hm
 ·have hm:=hm.put (y:=38) (v:=.bytes e.1) (by decide);have h38:lk (put m2 38 (.bytes e.1)) 38=some (.bytes e.1):=jC;refine (?_:wpS _ _ _ _ _ ⟨_,put m2 38 (.bytes e.1)⟩);generalize put m2 38 (.bytes e.1)=m2 at hm h38⊢;have he':(rE W tB n)[p]? =some (e.1,e.2.rv fun i=>tB+4*i+1):=by unfold rE;refine rz qt ?_;refine rz he ?_;rfl
  refine x_A (yz15 (T:=fun i=>tB+4*i+1) (wo.rk n hn e (qD he))) fun r1 r2=>i_lk hm.a16 (jb t2.i t2.d rfl rfl rfl (i_lk h38 (yJ8 z2.ld hn hm.a135 hm.a20 (i_lk h38 (jX (z2.ld.rw n hn) (jI _ _) (v:=e.2.av) (by rw [zk];refine rz (yL8 nd he) ?_;rfl) ?_)))));refine rz r1 (yM3 (dk0 hk rfl) t2 (fun x hx=>yQ8 (l:=rE W tB n) (by unfold rE;rw [List.map_map];exact nd) he' x hx) r2 (by rw [List.length_take];unfold rE;rw [qF];lia) fun H3 t3 f3=>⟨?_,f2.trans f3,hm⟩);exact rz (yq5 he') (t3)
noncomputable def gsL (tB n:Nat):List (List UInt8×AV):=(List.range n).map fun i=>(tn i,.ref (tB+4*i+1))
theorem yN5 {xs:List Nat} {e:E} {F:AF->St->Prop} (q:wp (pg sa sl) Γ e (unpQ false (yl11 false xs (F .next))) Xs σ):wpS (pg sa sl) Γ (.asgT false xs e) F Xs σ:=q
theorem yw10 {mb:Nat} {es:List (List UInt8×Fo)} (hk:5<=k) (hn:n<4) (hes:W.metas n=some es) (B:Zb V W L n0 n1 G tl tB fB wl lo Z) (wo:WOk W) (z:Mz V W L tl tB fB wl lo Z H) (hm:MaM m L V lo tl n (tB+4*n+1)) (t0:TbA H (tB+4*n) (-1-n) (rE W tB n) (.ref (mb+1))) (hmb:Z<=mb) (t:TbA H mb (-40-n) [] .nil)
 (q:∀H' m',TbA H' mb (-40-n) (mE tB fB es) .nil->FrA mb H H'->MaM m' L V lo tl n (tB+4*n+1)->Qf .next ⟨H',m'⟩):
 wpS (pg sa sl) (Cl (pg sa sl) k) (.forD 56 (.sub (.sub (.nm 135) (.str 136)) (.nm 20)) (.seq (.asgT false [45,34] (.sub (.sub (.sub (.nm 135) (.str 136)) (.nm 20)) (.nm 56))) (.seq (.expr (.meth (.attr (.nm 16) 35) 76 (.cons (.nm 56) (.cons (.sub (.sub (.nm 151) (.nm 45)) (.nm 34)) .nil)))) .done))) Qf Xs ⟨H,m⟩:=by
 refine x_A (wo.ms n hn es hes) fun nd len=>?_;have hfo:=wo.mo n hn es hes;have hz:tB+16<=Z:=by have:=B.hwl;have:=B.wz;lia
 have em:mAV V W n=.ref (V.mt n):=by unfold mAV;exact rz hes rfl
 refine y65 (H1:=H) (i:=V.mt n) (fun F q=>yP5 z.ld hn hm.a135 hm.a20 (by exact rz em q)) (z.ld.mt n hn es hes) (jI _ _) (fun p σ=>TbA σ.H mb (-40-n) ((mE tB fB es).take p) .nil/\FrA mb H σ.H/\MaM σ.m L V lo tl n (tB+4*n+1)) ⟨t,.refl,hm⟩ fun p σ hJ=>?_;obtain ⟨H2,m2⟩:=σ
 refine x_AA hJ fun t2 f2 hm=>?_;have z2:=z.kz B (.fr f2 (.inr (.inr hmb)));have t0:TbA H2 (tB+4*n) (-1-n) (rE W tB n) (.ref (mb+1)):=t0.fr f2 (by lia);refine ⟨z2.ld.mt n hn es hes,?_⟩;refine rz qt ?_;rcases he:es[p]? with _|e
 ·have:(mE tB fB es).take p=mE tB fB es:=List.take_of_length_le (by unfold mE;rw [qF];exact qs.mp he);rw [this] at t2;exact q H2 m2 t2 f2 hm
 ·have hm:=hm.put (y:=56) (v:=.bytes e.1) (by decide);have h56:lk (put m2 56 (.bytes e.1)) 56=some (.bytes e.1):=jC;refine (?_:wpS _ _ _ _ _ ⟨_,put m2 56 (.bytes e.1)⟩);generalize put m2 56 (.bytes e.1)=m2 at hm h56⊢;have he':(mE tB fB es)[p]? =some (e.1,e.2.rv (fun i=>tB+4*i+1) fun n=>fB+2*n+1):=by unfold mE;refine rz qt ?_;refine rz he ?_;rfl
  have hok:=hfo e (qD he);have nd':((mE tB fB es).map (·.1)).Nodup:=by unfold mE;exact rz List.map_map nd
  have len':((mE tB fB es).take p).length<=1000:=by rw [List.length_take];unfold mE;rw [qF];lia
  refine jx (yN5 (yP5 z2.ld hn hm.a135 hm.a20 (rz em (i_lk h56 (jX (z2.ld.mt n hn es hes) (jI _ _) (v:=e.2.av) (by rw [zk];refine rz (yL8 nd he) ?_;rfl) ?_)))));have step:∀(kd i v:Nat) (m':Loc),(∀F:AV->St->Prop,F (.ref v) ⟨H2,m'⟩->wp (pg sa sl) (Cl (pg sa sl) k) (.sub (.sub (.nm 151) (.nm 45)) (.nm 34)) F Xs ⟨H2,m'⟩)->MaM m' L V lo tl n (tB+4*n+1)->lk m' 56=some (.bytes e.1)->e.2.rv (fun i=>tB+4*i+1) (fun n=>fB+2*n+1)=.ref v->
   wpS (pg sa sl) (Cl (pg sa sl) k) (.seq (.expr (.meth (.attr (.nm 16) 35) 76 (.cons (.nm 56) (.cons (.sub (.sub (.nm 151) (.nm 45)) (.nm 34)) .nil)))) .done) (jN Qf fun σ=>TbA σ.H mb (-40-n) ((mE tB fB es).take (p+1)) .nil/\FrA mb H σ.H/\MaM σ.m L V lo tl n (tB+4*n+1)) Xs ⟨H2,m'⟩:=fun kd i v m' hw hm h56 hv=>by
   refine i_lk hm.a16 (jd t0.i t0.d rfl rfl (jb t2.i t2.d rfl rfl rfl (i_lk h56 (kj (hw _ ?_)))));rw [hv] at he';refine yM3 hk t2 (fun x hx=>yQ8 nd' he' x hx) rfl len' fun H3 t3 f3=>⟨?_,f2.trans f3,hm⟩;exact rz (yq5 he') (t3)
  obtain ⟨key,fo⟩:=e
  rcases fo with i|i
  ·have hi:i<3:=hok;refine qr rfl (step 61 i (fB+2*i+1) (put (put m2 45 (.str 61)) 34 (.int i)) (fun F q=>?_) ((hm.put (by decide)).put (by decide)) (ji (ji h56 (by decide)) (by decide)) rfl);refine i_lk (ji (ji hm.a151 (by decide)) (by decide)) (i_lk (ji jC (by decide)) (jX (b:=.str 61) (v:=.ref wl) z2.mlo rfl rfl (i_lk jC (jo (v:=.ref (fB+2*i+1)) z2.mwl ⟨by lia,by lia⟩ ?_ q))));rw [Int.toNat_natCast];exact at3 (fun i=>AV.ref (fB+2*i+1)) hi
  ·have hi:i<4:=hok;refine qr rfl (step 74 i (tB+4*i+1) (put (put m2 45 (.str 74)) 34 (.int i)) (fun F q=>?_) ((hm.put (by decide)).put (by decide)) (ji (ji h56 (by decide)) (by decide)) rfl);refine i_lk (ji (ji hm.a151 (by decide)) (by decide)) (i_lk (ji jC (by decide)) (jX (b:=.str 74) (v:=.ref tl) z2.mlo rfl rfl (i_lk jC (jo (v:=.ref (tB+4*i+1)) z2.mtl ⟨by lia,by lia⟩ ?_ q))));rw [Int.toNat_natCast];exact at4 (fun i=>AV.ref (tB+4*i+1)) hi
theorem yO12 (hn:n<4):∀e∈gsL tB n,(e.1==tn n)=false:=fun e he=>by
 refine x_EA (List.mem_map.mp he) fun i hi hz10=>?_;subst hz10;have hi:=List.mem_range.mp hi;refine (?_:(tn i==tn n)=false);rcases (show n=0\/n=1\/n=2\/n=3 by lia) with rfl|rfl|rfl|rfl
 ·lia
 ·rcases (show i=0 by lia) with rfl;decide
 ·rcases (show i=0\/i=1 by lia) with rfl|rfl<;>decide
 ·rcases (show i=0\/i=1\/i=2 by lia) with rfl|rfl|rfl<;>decide
theorem ya10:gsL tB (n+1)=gsL tB n++[(tn n,.ref (tB+4*n+1))]:=by unfold gsL;refine rz List.range_succ (rz List.map_append ?_);rfl
theorem yn13 (hk:5<=k) (hn:n<4) (B:Zb V W L n0 n1 G tl tB fB wl lo Z) (z:Mz V W L tl tB fB wl lo Z H) (hm:MaM m L V lo tl n (tB+4*n+1)) (t:TbA H G (-80) (gsL tB n) .nil)
 (q:∀H',TbA H' G (-80) (gsL tB (n+1)) .nil->FrA G H H'->Qf .next ⟨H',m⟩):
 wpS (pg sa sl) (Cl (pg sa sl) k) (.expr (.meth (.attr (.nm 148) 78) 76 (.cons (.bin .Add (.bytes [116]) (.slice (.bytes [48,49,50,51]) (.nm 20) (.bin .Add (.nm 20) (.int 1)))) (.cons (.nm 16) .nil)))) Qf Xs ⟨H,m⟩:=by
 refine jF z.js fun st md fo hjs=>i_lk hm.a148 (jd z.r hjs rfl rfl (rz B.gt (jb t.i t.d rfl rfl rfl (i_lk hm.a20 (i_lk hm.a20 (y71 (x:=some (n:Int)) (y:=some ((n:Int)+1)) rfl rfl (qa rfl) ?_))))));have e:[116]++cut [48,49,50,51] (some (n:Int)) (some ((n:Int)+1))=tn n:=lt4 (p:=fun n=>[116]++cut [48,49,50,51] (some (n:Int)) (some ((n:Int)+1))=tn n) rfl rfl rfl rfl hn;refine qr (by
  have:=congrArg List.length e;rw [List.length_append,show (tn n).length=2 from rfl] at this;lia) ?_
 refine rz e (i_lk hm.a16 (yM3 hk t (yO12 hn) rfl (by unfold gsL;rw [qF];refine rz List.length_range ?_;lia) fun H' t' f'=>?_));rw [<-ya10] at t';exact q H' t' f'
noncomputable def mtv (W:Wo) (mb:Nat->Nat) (i:Nat):AV:=match W.metas i with
 |none=>.nil
 |some _=>.ref (mb i+1)
end
structure Mj (W:Wo) (G tB fB Z:Nat) (mb:Nat->Nat) (n p:Nat) (H:List AO):Prop where
 tab:∀i,i<4->TbA H (tB+4*i) (-1-i) (if i<n then rE W tB i else []) (if i<n then mtv W mb i else .nil)
 mta:∀i,i<n->∀es,W.metas i=some es->Z<=mb i/\TbA H (mb i) (-40-i) (mE tB fB es) .nil
 gt:TbA H G (-80) (gsL tB p) .nil
section
variable {sa:Addr} {sl:List AV} {k:Nat} {m:Loc} {Q:AV->List AO->Prop} {X:List AO->Prop} {H H' H'':List AO} {n0 n1 G tl tB fB wl lo Z a n:Nat} {V:WI} {W:Wo} {L:LI} {mb:Nat->Nat}
variable {Γ:Ora} {F:AV->St->Prop} {Xs:St->Prop} {σ:St}
theorem yU12 {op:CmpOp} {a b:E} (q:wp (pg sa sl) Γ a (k2 (fun G=>wp (pg sa sl) Γ b G Xs) (cmpF (pg sa sl) op F)) Xs σ):wp (pg sa sl) Γ (.cmp op a b) F Xs σ:=q
theorem yj8 (q:F .nil σ):wp (pg sa sl) Γ .none F Xs σ:=q
variable {Qf:AF->St->Prop} {J:St->Prop}
theorem yK11 (hk:5<=k) (hn:n<4) (B:Zb V W L n0 n1 G tl tB fB wl lo Z) (z:Mz V W L tl tB fB wl lo Z H) (hm:MaM m L V lo tl n (tB+4*n+1)) (j:Mj W G tB fB Z mb (n+1) n H)
 (q:∀H',Mj W G tB fB Z mb (n+1) (n+1) H'->Kz G tB Z H H'->J ⟨H',m⟩):
 wpS (pg sa sl) (Cl (pg sa sl) k) (.seq (.expr (.meth (.attr (.nm 148) 78) 76 (.cons (.bin .Add (.bytes [116]) (.slice (.bytes [48,49,50,51]) (.nm 20) (.bin .Add (.nm 20) (.int 1)))) (.cons (.nm 16) .nil)))) .done) (jN Qf J) Xs ⟨H,m⟩:=by
 have b1:=B.htl;have b2:=B.htb;have b3:=B.hwl;have b4:=B.wz;refine jx (yn13 hk hn B z hm j.gt fun H' t f=>?_);exact q H' ⟨fun i hi=>(j.tab i hi).fr f (by lia),fun i hi es he=>⟨(j.mta i hi es he).1,(j.mta i hi es he).2.fr f (by have:=(j.mta i hi es he).1;lia)⟩,t⟩ (.fr f (.inl rfl))
theorem yp13 (hk:5<=k) (hn:n<4) (B:Zb V W L n0 n1 G tl tB fB wl lo Z) (wo:WOk W) (z:Mz V W L tl tB fB wl lo Z H) (hm:MaM m L V lo tl n (tB+4*n+1)) (j:Mj W G tB fB Z mb n n H)
 (q:∀H' m' mb',Mj W G tB fB Z mb' (n+1) (n+1) H'->Kz G tB Z H H'->MaM m' L V lo tl n (tB+4*n+1)->J ⟨H',m'⟩):
 wpS (pg sa sl) (Cl (pg sa sl) k) (.seq (.forD 38 (.sub (.sub (.nm 135) (.str 137)) (.nm 20)) (.seq (.expr (.meth (.nm 16) 76 (.cons (.nm 38) (.cons (.sub (.sub (.sub (.nm 135) (.str 137)) (.nm 20)) (.nm 38)) .nil)))) .done)) (.seq (.ite (.cmp .IsNot (.sub (.sub (.nm 135) (.str 136)) (.nm 20)) .none) (.seq (.setattr (.nm 16) 35 (.call 64 (.cons (.bin .Sub (.un .USub (.int 40)) (.nm 20)) .nil))) (.seq (.forD 56 (.sub (.sub (.nm 135) (.str 136)) (.nm 20)) (.seq (.asgT false [45,34] (.sub (.sub (.sub (.nm 135) (.str 136)) (.nm 20)) (.nm 56))) (.seq (.expr (.meth (.attr (.nm 16) 35) 76 (.cons (.nm 56) (.cons (.sub (.sub (.nm 151) (.nm 45)) (.nm 34)) .nil)))) .done))) .done)) .done) (.seq (.expr (.meth (.attr (.nm 148) 78) 76 (.cons (.bin .Add (.bytes [116]) (.slice (.bytes [48,49,50,51]) (.nm 20) (.bin .Add (.nm 20) (.int 1)))) (.cons (.nm 16) .nil)))) .done))) (jN Qf J) Xs ⟨H,m⟩:=by
 have b1:=B.htl;have b2:=B.htb;have b3:=B.hwl;have b4:=B.wz;have t0:=j.tab n hn;rw [if_neg (qo n),if_neg (qo n)] at t0;refine jx (yo13 hk hn B wo z hm t0 fun H1 m1 t1 f1 hm1=>?_);have k1:Kz G tB Z H H1:=.fr f1 (.inr (.inl (by lia)));have z1:=z.kz B k1;have lz:=z.z;have l1:=f1.1;refine jx (yu11 (yU12 ?_));refine yP5 z1.ld hn hm1.a135 hm1.a20 ?_;rcases hes:W.metas n with _|es
 ·have e:mAV V W n=.nil:=by unfold mAV;exact rz hes rfl
  refine rz e (i_k2 (yj8 ?_));refine kO (r:=false) rfl (i_tr (yi8 (yZ3 (i_sq ?_))));refine yK11 hk hn B z1 hm1 (mb:=mb) ⟨fun i hi=>?_,fun i hi es he=>?_,j.gt.fr f1 (by lia)⟩ fun H' j' k'=>q H' _ mb j' (k1.trans k') hm1
  ·rcases Nat.lt_trichotomy i n with h|rfl|h
   ·have t:=(j.tab i hi).fr f1 (by lia);rw [if_pos h,if_pos h] at t;refine rz (if_pos (qj (ql h))) (rz (if_pos (qj (ql h))) ?_);exact t
   ·refine rz (if_pos (qj (qm _))) (rz (if_pos (qj (qm _))) ?_);have e2:mtv W mb i=.nil:=by unfold mtv;exact rz hes rfl
    exact rz e2 (t1)
   ·have t:=(j.tab i hi).fr f1 (by lia);rw [if_neg (by lia),if_neg (by lia)] at t;refine rz (if_neg (by lia)) (rz (if_neg (by lia)) ?_);exact t
  ·have hi:i<n:=by
    rcases Nat.lt_succ_iff_lt_or_eq.mp hi with hi|rfl
    ·exact hi
    ·rw [hes] at he;injection he
   exact ⟨(j.mta i hi es he).1,(j.mta i hi es he).2.fr f1 (by have:=(j.mta i hi es he).1;lia)⟩
 ·have e:mAV V W n=.ref (V.mt n):=by unfold mAV;exact rz hes rfl
  refine rz e (i_k2 (yj8 ?_));refine kO (r:=true) rfl (i_tr (yd15 (jx ?_)));refine i_lk hm1.a20 (yT (z:= -40-n) (dk0 hk rfl) (i_lk hm1.a16 ?_));have t1':TbA (H1++newT H1.length (-40-n)) (tB+4*n) (-1-n) (rE W tB n) .nil:=t1.push;refine zp t1'.i t1'.d rfl rfl (qa rfl) ?_;have t2:TbA ((H1++newT H1.length (-40-n)).set (tB+4*n) (.dict [(.str 34,.int (-1-n)),(.str 37,.ref (tB+4*n+2)),(.str 36,.ref (tB+4*n+3)),(.str 35,.ref (H1.length+1))])) (tB+4*n) (-1-n) (rE W tB n) (.ref (H1.length+1)):=⟨jv t1'.d,je t1'.i (qe (qj (qm _))),je t1'.k (qe (qg (qa rfl))),je t1'.v (qe (qg (qa rfl)))⟩;have u2:TbA ((H1++newT H1.length (-40-n)).set (tB+4*n) (.dict [(.str 34,.int (-1-n)),(.str 37,.ref (tB+4*n+2)),(.str 36,.ref (tB+4*n+3)),(.str 35,.ref (H1.length+1))])) H1.length (-40-n) [] .nil:=yC6.set (by lia);have o2:∀{a:Nat} {z:Int} {es:List (List UInt8×AV)} {mt:AV},TbA H1 a z es mt->(a+4<=tB+4*n\/tB+4*n+4<=a)->TbA ((H1++newT H1.length (-40-n)).set (tB+4*n) (.dict [(.str 34,.int (-1-n)),(.str 37,.ref (tB+4*n+2)),(.str 36,.ref (tB+4*n+3)),(.str 35,.ref (H1.length+1))])) a z es mt:=fun t h=>t.push.set (by lia);have k2:Kz G tB Z H1 ((H1++newT H1.length (-40-n)).set (tB+4*n) (.dict [(.str 34,.int (-1-n)),(.str 37,.ref (tB+4*n+2)),(.str 36,.ref (tB+4*n+3)),(.str 35,.ref (H1.length+1))])):=(Kz.push (qb lz (qk l1.symm))).trans (Kz.set (.inl (by lia)));refine (?_:wpS _ _ _ _ _ ⟨(H1++newT H1.length (-40-n)).set (tB+4*n) (.dict [(.str 34,.int (-1-n)),(.str 37,.ref (tB+4*n+2)),(.str 36,.ref (tB+4*n+3)),(.str 35,.ref (H1.length+1))]),m1⟩);generalize (H1++newT H1.length (-40-n)).set (tB+4*n) (.dict [(.str 34,.int (-1-n)),(.str 37,.ref (tB+4*n+2)),(.str 36,.ref (tB+4*n+3)),(.str 35,.ref (H1.length+1))])=H2 at t2 u2 o2 k2⊢;have z2:=z1.kz B k2;refine jx (yw10 hk hn hes B wo z2 hm1 t2 (qb lz (qk l1.symm)) u2 fun H3 m3 t3 f3 hm3=>?_);have k3:Kz G tB Z H2 H3:=.fr f3 (.inr (.inr (qb lz (qk l1.symm))));have z3:=z2.kz B k3;refine i_sq (yZ3 (i_sq ?_));have o3:∀{a:Nat} {z:Int} {es:List (List UInt8×AV)} {mt:AV},TbA H a z es mt->(a+4<=tB+4*n\/tB+4*n+4<=a)->TbA H3 a z es mt:=fun t h=>(o2 (t.fr f1 h) h).fr f3 (by have:=t.lt;exact .inl (qb this (qk l1.symm)));refine yK11 hk hn B z3 hm3 (mb:=fun i=>if i=n then H1.length else mb i) ⟨fun i hi=>?_,fun i hi es' he=>?_,o3 j.gt (by lia)⟩ fun H' j' k'=>q H' _ _ j' (k1.trans (k2.trans (k3.trans k'))) hm3
  ·rcases Nat.lt_trichotomy i n with h|rfl|h
   ·have t:=o3 (j.tab i hi) (by lia);rw [if_pos h,if_pos h] at t;refine rz (if_pos (qj (ql h))) (rz (if_pos (qj (ql h))) ?_);have e2:mtv W (fun i=>if i=n then H1.length else mb i) i=mtv W mb i:=by unfold mtv;dsimp only;exact rz (if_neg (qf h)) rfl
    exact rz e2 (t)
   ·refine rz (if_pos (qj (qm _))) (rz (if_pos (qj (qm _))) ?_);have e2:mtv W (fun j=>if j=i then H1.length else mb j) i=.ref (H1.length+1):=by unfold mtv;refine rz hes ?_;simp
    exact rz e2 (t2.fr f3 (by lia))
   ·have t:=o3 (j.tab i hi) (by lia);rw [if_neg (by lia),if_neg (by lia)] at t;refine rz (if_neg (by lia)) (rz (if_neg (by lia)) ?_);exact t
  ·rcases Nat.lt_succ_iff_lt_or_eq.mp hi with hi|rfl
   ·exact rz (if_neg (qf hi)) (⟨(j.mta i hi es' he).1,o3 (j.mta i hi es' he).2 (by have:=(j.mta i hi es' he).1;lia)⟩)
   ·rw [hes] at he;obtain rfl:=qq he;exact rz (if_pos rfl) (⟨(qb lz (qk l1.symm)),t3⟩)
noncomputable def txE (W:Wo) (tB:Nat):List (List UInt8×AV):=if W.txt then [(evI,.ref (tB+9))] else []
end
structure MnM (m:Loc) (L:LI) (V:WI) (lo tl:Nat):Prop where
 a148:lk m 148=some (.ref L.r)
 a135:lk m 135=some (.ref V.wd)
 a151:lk m 151=some (.ref lo)
 a150:lk m 150=some (.ref tl)
section
variable {sa:Addr} {sl:List AV} {k:Nat} {m:Loc} {Q:AV->List AO->Prop} {X:List AO->Prop} {H H' H'':List AO} {n0 n1 G tT tl tB fB wl lo Z a n sn:Nat} {V:WI} {W:Wo} {L:LI} {mb:Nat->Nat}
variable {y:Nat}
theorem MnM.put (x:MnM m L V lo tl) {v:AV} (h:y≠148/\y≠135/\y≠151/\y≠150):MnM (put m y v) L V lo tl:=
 ⟨ji x.a148 (Ne.symm h.1),ji x.a135 (Ne.symm h.2.1),ji x.a151 (Ne.symm h.2.2.1),ji x.a150 (Ne.symm h.2.2.2)⟩
theorem yJ15 {hn:n<4}:[AV.ref (tB+1),.ref (tB+5),.ref (tB+9),.ref (tB+13)][n]? =some (.ref (tB+4*n+1)):=by
 match n,hn with
 |0,_=>rfl
 |1,_=>rfl
 |2,_=>rfl
 |3,_=>rfl
variable {Qf:AF->St->Prop} {Xs:St->Prop}
theorem yx10 (hk:5<=k) (B:Zb V W L n0 n1 G tl tB fB wl lo Z) (z:Mz V W L tl tB fB wl lo Z H) (htt:L.tt=tT+1) (hT:n1<=tT) (hT2:tT+4<=G) (hj:L.js<tT) (hr:L.r<tT) (hm:MnM m L V lo tl) (t:TbA H tT (-60) [] .nil)
 (q:∀H' m',TbA H' tT (-60) (txE W tB) .nil->FrA tT H H'->Qf .next ⟨H',m'⟩):
 wpS (pg sa sl) (Cl (pg sa sl) k) (.forD 56 (.sub (.nm 135) (.str 48)) (.seq (.expr (.meth (.attr (.nm 148) 48) 76 (.cons (.nm 56) (.cons (.sub (.nm 150) (.int 2)) .nil)))) .done)) Qf Xs ⟨H,m⟩:=by
 have b1:=B.htl;have b2:=B.htb;refine jF z.js fun st md fo hjs=>y65 (H1:=H) (i:=V.tx) (l:=if W.txt then [(AV.bytes evI,AV.tup [.str 74,.int 2])] else []) (fun F q=>i_lk hm.a135 (jX (b:=.str 48) (v:=.ref V.tx) z.ld.wd rfl rfl q)) z.ld.tx (by rcases W.txt with _|_<;>rfl) (fun p σ=>TbA σ.H tT (-60) ((txE W tB).take p) .nil/\FrA tT H σ.H/\MnM σ.m L V lo tl) ⟨t,.refl,hm⟩ fun p σ hJ=>?_;obtain ⟨H2,m2⟩:=σ
 obtain ⟨t2,f2,hm⟩:=hJ
 have kv:∀{i:Nat} {o:AO},(i<tT\/tT+4<=i)->H[i]? =some o->H2[i]? =some o:=fun h e=>by exact rz (f2.2 _ h) e
 refine ⟨kv (.inl (by have:=B.v.tx.2;exact qc this hT)) z.ld.tx,?_⟩;unfold txE at t2 q⊢;rcases ht:W.txt with _|_
 ·rw [ht] at t2 q;exact q H2 m2 (by simpa using t2) f2
 ·rw [ht] at t2 q
  match p with
  |0=>
   exact i_lk (ji hm.a148 (by decide)) (jd (kv (.inl hr) z.r) (kv (.inl hj) hjs) rfl rfl (rz htt (jb t2.i t2.d rfl rfl rfl (i_lk jC (i_lk (ji hm.a150 (by decide)) (jo (v:=.ref (tB+9)) (kv (.inr (qb (Nat.add_le_add_right (qb (qi _ _) hT2) _) b1)) z.mtl) ⟨by decide,by decide⟩ rfl (yM3 hk t2 (fun o_ h=>nomatch h) rfl (qn _) fun H3 t3 f3=>⟨t3,f2.trans f3,hm.put (by decide)⟩)))))))
  |p+1=>exact q H2 m2 (by simpa using t2) f2
structure Made (W:Wo) (G tT tB fB sn Z:Nat) (mb:Nat->Nat) (H:List AO):Prop where
 j:Mj W G tB fB Z mb 4 4 H
 t:TbA H tT (-60) (txE W tB) .nil
 f:∀i,i<3->FnA H (fB+2*i) i sn
 o:∃l,H[(0:Nat)]? =some (.tab l)
noncomputable def Kmd (tT G:Nat) (H H':List AO):Prop:=H.length+25<=H'.length/\∀i,i<H.length->i≠0->(i<tT\/tT+4<=i)->(i<G\/G+4<=i)->H'[i]? =H[i]?
theorem yc13 (hk:6<=k) (av:AdV V W n0 n1) (wo:WOk W) (d:Ld V W H false []) (h0:H[(0:Nat)]? =some (.tab [])) (hn0:0<n0) (hjs:n1<=L.js/\L.js<tT) (hr:n1<=L.r/\L.r<tT) (hT:tT+4<=G) (hG:G+4<=H.length) (htt:L.tt=tT+1) (hgt:L.gt=G+1)
 (r1:H[L.r]? =some (.inst 634 L.js)) (r2:∃(steps made:Int) (fo:Nat),H[L.js]? =some (.dict (L.rD steps made fo))) (t1:TbA H tT (-60) [] .nil) (t2:TbA H G (-80) [] .nil)
 (q:∀H' mb,Made W G tT (H.length+1) (H.length+17) sn (H.length+25) mb H'->Kmd tT G H H'->Q .nil H'):Cl (pg sa sl) k (.f 87) [.ref L.r,.ref V.wd,.ref sn] H Q X:=by
 have hv:n0<n1:=by have:=av.wd;exact qd this.1 this.2
 refine u_fn (dk0 hk rfl) rfl rfl (jx (yM5 ?_));refine yE8 (dk1 hk rfl) fun H1 l1 k1 e1 tb1=>jx (y92 ?_);refine yr10 (sn:=sn) (dk1 hk rfl) (k1 _ _ h0) rfl fun H2 l2 k2 e2 w2 f2=>?_;have l1:H1.length=H.length+17:=l1;have l2:H2.length=H1.length+7:=l2;have k2:∀(i:Nat) (o:AO),i≠0->H1[i]? =some o->H2[i]? =some o:=k2;have w2:H2[H1.length+6]? =some (.list [.ref (H1.length+1),.ref (H1.length+3),.ref (H1.length+5)]):=w2;have f2:∀i,i<3->FnA H2 (H1.length+2*i) i sn:=f2;refine jx (y92 (yZ12 (a:=H.length) (b:=H1.length+6) rfl rfl ?_));have k12:∀(i:Nat) (o:AO),i≠0->H[i]? =some o->H2[i]? =some o:=fun i o hi h=>k2 i o hi (k1 i o h);have k3:∀(i:Nat) (o:AO),i≠0->H[i]? =some o->(H2++[AO.dict [(.str 74,.ref H.length),(.str 61,.ref (H1.length+6))]])[i]? =some o:=fun i o hi h=>jc (k12 i o hi h);have lo3:(H2++[AO.dict [(.str 74,.ref H.length),(.str 61,.ref (H1.length+6))]])[H.length+24]? =some (.dict [(.str 74,.ref H.length),(.str 61,.ref (H.length+23))]):=by
  have:=jh (H:=H2) (o:=AO.dict [(.str 74,.ref H.length),(.str 61,.ref (H1.length+6))]);rw [show H2.length=H.length+24 by lia,show H1.length+6=H.length+23 by lia] at this;exact rz (show H1.length+6=H.length+23 by lia) (this)
 have l3:(H2++[AO.dict [(.str 74,.ref H.length),(.str 61,.ref (H1.length+6))]]).length=H.length+25:=by simp;lia
 have tl3:(H2++[AO.dict [(.str 74,.ref H.length),(.str 61,.ref (H1.length+6))]])[H.length]? =some (.list [.ref (H.length+1+1),.ref (H.length+1+5),.ref (H.length+1+9),.ref (H.length+1+13)]):=jc (k2 _ _ (qe (qc (qd (qn _) (qg (qa rfl))) hG)) e1);have wl3:(H2++[AO.dict [(.str 74,.ref H.length),(.str 61,.ref (H1.length+6))]])[H.length+23]? =some (.list [.ref (H.length+17+1),.ref (H.length+17+3),.ref (H.length+17+5)]):=by
  rw [l1] at w2;exact jc w2
 have tb3:∀i,i<4->TbA (H2++[AO.dict [(.str 74,.ref H.length),(.str 61,.ref (H1.length+6))]]) (H.length+1+4*i) (-1-i) [] .nil:=fun i hi=>by
  have t:=tb1 i hi;exact ⟨jc (k2 _ _ (by lia) t.d),jc (k2 _ _ (qe (qj (qn _))) t.i),jc (k2 _ _ (qe (qd (qn _) (qg (qa rfl)))) t.k),jc (k2 _ _ (qe (qd (qn _) (qg (qa rfl)))) t.v)⟩
 have f3:∀i,i<3->FnA (H2++[AO.dict [(.str 74,.ref H.length),(.str 61,.ref (H1.length+6))]]) (H.length+17+2*i) i sn:=fun i hi=>by
  have t:=f2 i hi;rw [show H1.length+2*i=H.length+17+2*i by lia] at t;exact t.push
 have o3:∃l,(H2++[AO.dict [(.str 74,.ref H.length),(.str 61,.ref (H1.length+6))]])[(0:Nat)]? =some (.tab l):=let ⟨l,e⟩:=e2;⟨l,jc e⟩;have hm3:MnM [(148,.ref L.r),(135,.ref V.wd),(149,.ref sn),(150,.ref H.length),(152,.ref (H1.length+6)),(151,.ref (H.length+24))] L V (H.length+24) H.length:=⟨rfl,rfl,rfl,rfl⟩;refine rz (show H2.length=H.length+24 by lia) ((?_:wpS _ _ _ _ _ ⟨H2++[AO.dict [(.str 74,.ref H.length),(.str 61,.ref (H1.length+6))]],[(148,.ref L.r),(135,.ref V.wd),(149,.ref sn),(150,.ref H.length),(152,.ref (H1.length+6)),(151,.ref (H.length+24))]⟩));generalize [((148:Nat),AV.ref L.r),(135,.ref V.wd),(149,.ref sn),(150,.ref H.length),(152,.ref (H1.length+6)),(151,.ref (H.length+24))]=m3 at hm3⊢;generalize H2++[AO.dict [(.str 74,.ref H.length),(.str 61,.ref (H1.length+6))]]=H3 at k3 lo3 l3 tl3 wl3 tb3 f3 o3⊢;have k4:∀i,i<H.length->i≠0->H3[i]? =H[i]? :=fun i hi h0=>by
  refine rz (qu hi) ?_;exact k3 i _ h0 (qu hi)
 have B:Zb V W L n0 n1 G H.length (H.length+1) (H.length+17) (H.length+23) (H.length+24) (H.length+25):=⟨av,(qb (qh (ql (qd hjs.1 hjs.2))) hT),(qc (qd (ql hjs.2) (qg (qa rfl))) hT),(qc (qd (ql hr.2) (qg (qa rfl))) hT),hgt,hG,(qj (qm _)),(qm _),by lia,by lia,(Nat.add_lt_add_of_le_of_lt (qm _) (qa rfl)),(Nat.add_lt_add_of_le_of_lt (qm _) (qa rfl))⟩;have kv:∀{i:Nat} {o:AO},n0<=i/\i<n1->H[i]? =some o->H3[i]? =some o:=fun h e=>k3 _ _ (qe (qc hn0 h.1)) e;have z3:Mz V W L H.length (H.length+1) (H.length+17) (H.length+23) (H.length+24) (H.length+25) H3:=⟨⟨kv av.wd d.wd,kv av.ro d.ro,kv av.me d.me,fun i hi=>kv (av.rw i hi) (d.rw i hi),fun i hi es he=>kv (av.mt i hi es he) (d.mt i hi es he),kv av.tx d.tx,kv av.cl d.cl⟩,k3 _ _ (qe (qc (qd (ql hn0) hv) hr.1)) r1,let ⟨s,md,fo,e⟩:=r2;⟨s,md,fo,k3 _ _ (qe (qc (qd (ql hn0) hv) hjs.1)) e⟩,tl3,wl3,lo3,qk l3.symm⟩;have tk:∀{a:Nat} {z:Int} {es:List (List UInt8×AV)} {mt:AV},a≠0->TbA H a z es mt->TbA H3 a z es mt:=fun h t=>⟨k3 _ _ h t.d,k3 _ _ (qe (qj (qn _))) t.i,k3 _ _ (qe (qd (qn _) (qg (qa rfl)))) t.k,k3 _ _ (qe (qd (qn _) (qg (qa rfl)))) t.v⟩;have g3:=tk (qe (qc (qd (qn _) (qg (qa rfl))) hT)) t2;have x3:=tk (qe (qd (qn _) hjs.2)) t1;refine jx (yr2 (a:=.ref H.length) (H1:=H3) (src:=.enum H.length) (fun F q=>i_lk hm3.a150 q) (y1 tl3) rfl (fun n σ=>n<=4/\∃mb,Mj W G (H.length+1) (H.length+17) (H.length+25) mb n n σ.H/\Kz G (H.length+1) (H.length+25) H3 σ.H/\MnM σ.m L V (H.length+24) H.length) 4 ⟨qn _,fun o_=>0,⟨fun i hi=>by exact rz (if_neg (Nat.not_lt_zero i)) (rz (if_neg (Nat.not_lt_zero i)) (tb3 i hi)),fun i hi=>absurd hi (Nat.not_lt_zero i),g3⟩,.refl,hm3⟩ fun n σ hJ=>?_);obtain ⟨H4,m4⟩:=σ
 refine yw9 hJ fun hn mb j kz hm=>?_;have z:=z3.kz B kz;by_cases hlt:n<4
 ·refine rz (kw1 z.mtl) (rz (yJ15 (hn:=hlt)) ?_);refine ⟨hlt,?_⟩;refine (?_:wpS _ _ _ _ _ ⟨H4,put (put m4 20 (.int n)) 16 (.ref (H.length+1+4*n+1))⟩);have hm':MaM (put (put m4 20 (.int n)) 16 (.ref (H.length+1+4*n+1))) L V (H.length+24) H.length n (H.length+1+4*n+1):=⟨ji (ji hm.a148 (by decide)) (by decide),ji (ji hm.a135 (by decide)) (by decide),ji (ji hm.a151 (by decide)) (by decide),ji (ji hm.a150 (by decide)) (by decide),ji jC (by decide),jC⟩;exact yp13 (dk1 hk rfl) hlt B wo z hm' j fun H5 m5 mb5 j5 k5 hm5=>⟨hlt,mb5,j5,kz.trans k5,hm5.a148,hm5.a135,hm5.a151,hm5.a150⟩
 ·have:n=4:=by lia
  subst this;refine rz (kw1 z.mtl) ?_;have kx:∀{i:Nat},i<H.length+25->(i<G\/G+4<=i)->(i<H.length+1\/H.length+17<=i)->H4[i]? =H3[i]? :=fun h1 h2 h3=>kz.2 _ h1 h2 (h3);have x4:TbA H4 tT (-60) [] .nil:=⟨by exact rz (kx (qd (qb (qh (qb (qi _ _) hT)) hG) (qg (qa rfl))) (.inl (qc (qg (qa rfl)) hT)) (.inl (qj (qb (qh (qb (qi _ _) hT)) hG)))) x3.d,by exact rz (kx (qd (qb (Nat.add_le_add (qb (qi _ _) hT) (qa rfl)) hG) (qg (qa rfl))) (.inl (qc (Nat.add_lt_add_of_le_of_lt (qm _) (qa rfl)) hT)) (.inl (qj (qb (Nat.add_le_add (qb (qi _ _) hT) (qa rfl)) hG)))) x3.i,by exact rz (kx (qd (qb (Nat.add_le_add (qb (qi _ _) hT) (qa rfl)) hG) (qg (qa rfl))) (.inl (qc (Nat.add_lt_add_of_le_of_lt (qm _) (qa rfl)) hT)) (.inl (qj (qb (Nat.add_le_add (qb (qi _ _) hT) (qa rfl)) hG)))) x3.k,by exact rz (kx (qd (qb (Nat.add_le_add (qb (qi _ _) hT) (qa rfl)) hG) (qg (qa rfl))) (.inl (qc (Nat.add_lt_add_of_le_of_lt (qm _) (qa rfl)) hT)) (.inl (qj (qb (Nat.add_le_add (qb (qi _ _) hT) (qa rfl)) hG)))) x3.v⟩;refine jx (yx10 (dk1 hk rfl) B z htt (ql (qd hjs.1 hjs.2)) hT hjs.2 hr.2 hm x4 fun H5 m5 x5 f5=>?_);have fz:∀{i:Nat},(i<tT\/tT+4<=i)->H5[i]? =H4[i]? :=fun h=>f5.2 _ h;refine q H5 mb ⟨⟨fun i hi=>(j.tab i hi).fr f5 (by lia),fun i hi es he=>⟨(j.mta i hi es he).1,(j.mta i hi es he).2.fr f5 (by have:=(j.mta i hi es he).1;exact .inr (qb (Nat.add_le_add (qb (qh (qb (qi _ _) hT)) hG) (qa rfl)) this))⟩,j.gt.fr f5 (.inr hT)⟩,x5,fun i hi=>?_,?_⟩ ⟨?_,fun i h1 h2 h3 h4=>?_⟩
  ·obtain ⟨⟨nm,e⟩,e'⟩:=f3 i hi
   exact ⟨⟨nm,by exact rz (fz (by lia)) (rz (kx (by lia) (by lia) (by lia)) e)⟩,by exact rz (fz (by lia)) (rz (kx (by lia) (by lia) (by lia)) e')⟩
  ·exact x_E o3 fun l e=>⟨l,by exact rz (fz (.inl (qd (qn _) hjs.2))) (rz (kx (qd (qn _) (qg (qa rfl))) (.inl (qc (qd (qn _) (qg (qa rfl))) hT)) (.inl (qj (qn _)))) e)⟩
  ·have e5:H5.length=H4.length:=f5.1;have e4:H3.length<=H4.length:=kz.1;exact qb (qb (qk l3.symm) e4) (qk e5.symm)
  ·exact rz (fz h3) (rz (kx (qd (ql h1) (qg (qa rfl))) h4 (.inl (qj (ql h1)))) (rz (k4 i h1 h2) rfl))
end
inductive Cl2 (N:Nat) (H:List AO):List AV->List (Nat×List Vl)->Prop
 |nil:Cl2 N H [] []
 |cons {cs:List AV} {es:List (Nat×List Vl)} {n:Nat} {us:List Vl} {b:Nat} (h:N<=b) (hb:H[b]? =some (.list (us.map Vl.av))) (r:Cl2 N H cs es):Cl2 N H (.tup [.int n,.ref b]::cs) ((n,us)::es)
section
variable {H H':List AO} {N:Nat} {cs cs':List AV} {es:List (Nat×List Vl)}
variable {n:Nat}
theorem Cl2.snoc {b:Nat} {us:List Vl} (h:N<=b) (hb:H[b]? =some (.list (us.map Vl.av))) (c:Cl2 N H cs es):Cl2 N H (cs++[.tup [.int n,.ref b]]) (es++[(n,us)]):=by
 induction c with
 |nil=>exact .cons h hb .nil
 |cons h' hb' r ih=>exact .cons h' hb' ih
theorem Cl2.ks (k:Ks N H H') (c:Cl2 N H cs es):Cl2 N H' cs es:=by
 induction c with
 |nil=>exact .nil
 |cons h hb r ih=>exact .cons h (k _ _ h hb) ih
theorem Cl2.len (c:Cl2 N H cs es):cs.length=es.length:=by
 induction c with
 |nil=>rfl
 |cons h hb r ih=>simp [ih]
theorem yd6 (hn:3<=n) (v:Vl):eqV H n v.av v.av=some true:=by
 obtain ⟨n,rfl⟩:∃j,n=j+3:=⟨n-3,by lia⟩
 rcases v with _|b|i|l|i
 ·rfl
 ·rcases b with _|_<;>rfl
 ·refine (?_:some (i==i)=some true);rw [beq_self_eq_true]
 ·refine (?_:some (l==l)=some true);rw [beq_self_eq_true]
 ·refine (?_:some ((true&&(((i:Int)==(i:Int))&&true))&&true)=some true);rw [beq_self_eq_true];rfl
theorem yy4 (hn:3<=n):∀us:List Vl,eqL (eqV H n) (us.map Vl.av) (us.map Vl.av)=some true
 |[]=>rfl
 |v::us=>y62 (yd6 hn v) (yy4 hn us)
variable {ss:List AV}
theorem yk12 (c:Cl2 N H cs es):Cl2 N H ss es->eqL (eqV H 7) ss cs=some true:=by
 induction c generalizing ss with
 |nil=>intro d;cases d;rfl
 | @cons cs es n us b h hb r ih=>
  intro d;cases d with
  | @cons ss _ _ _ b' h' hb' r'=>
   have e5:eqV H 6 (.ref b') (.ref b)=some true:=by
    refine rz (y75 hb' hb) (rz (if_pos rfl) ?_);exact yy4 (by decide) us
   exact y62 (congrArg (Option.map (·&&true)) (y62 (congrArg some (beq_self_eq_true (n:Int))) (y62 e5 rfl))) (ih r')
variable {sn:Nat}
theorem yM10 {cl:Nat} (h1:H[sn]? =some (.list ss)) (h2:H[cl]? =some (.list cs)) (c:Cl2 N H cs es) (d:Cl2 N H ss es):eqV H 8 (.ref sn) (.ref cl)=some true:=by
 refine rz (y75 h1 h2) (rz (if_pos (by exact rz c.len (rz d.len rfl))) ?_);exact yk12 c d
noncomputable def Nt:Oc->Prop
 |.val v=>v.isT=false
 |.call _ _ v=>v.isT=false
 |.bad=>True
variable {W:Wo}
theorem yB1:∀n,(resV n).isT=false
 |0=>rfl
 |1=>rfl
 |_+2=>rfl
theorem yX5 {x:Fo} {vs:List Vl} {g:Nat->Vl} (h:∀n,(g n).isT=false):Nt (W.run x vs g):=by
 unfold Wo.run;rcases W.cf x vs with _|p
 ·trivial
 ·exact h _
variable {a b:Vl} {o:Oc}
theorem yS3 {e:List UInt8} (h:W.cmpd a b e=some o):Nt o:=by
 rcases yT1 h with rfl|⟨n,us,r,rfl⟩
 ·trivial
 ·rfl
theorem ys8 (h:IsB o):Nt o:=by
 rcases o with v|⟨n,us,v⟩|_
 ·obtain ⟨r,rfl⟩:=h;rfl
 ·obtain ⟨r,rfl⟩:=h;rfl
 ·trivial
theorem y412 (h:Nt o):Nt o.inv:=by
 rcases o with v|⟨n,us,v⟩|_
 ·rcases v with _|_|_|_|_<;>exact h
 ·rcases v with _|_|_|_|_<;>exact h
 ·trivial
theorem yv13 (h:Nt o):Nt o.neg:=by
 rcases o with v|⟨n,us,v⟩|_
 ·exact h
 ·rcases v with _|_|_|_|_<;>exact h
 ·trivial
theorem yI11:Nt (W.lt a b):=by
 unfold Wo.lt;rcases ltVl a b with _|r
 ·dsimp only;split
  ·rcases h:W.cmpd a b evLt with _|o
   ·trivial
   ·exact yS3 h
  ·trivial
 ·rfl
theorem yF11:Nt (W.le a b):=by
 unfold Wo.le;rcases leVl a b with _|r
 ·dsimp only;split
  ·rcases h:W.cmpd a b evLe with _|o
   ·dsimp only;rcases h':W.cmpd b a evLt with _|o
    ·trivial
    ·exact yv13 (yS3 h')
   ·exact yS3 h
  ·trivial
 ·rfl
theorem yA7 {e:List UInt8}:Nt (W.bin a b e):=by
 unfold Wo.bin;rcases (W.hd a e).or (W.hd b e) with _|x
 ·trivial
 ·exact yX5 yB1
theorem yh12:Nt (W.cat a b):=by
 unfold Wo.cat;split
 ·rfl
 ·exact yA7
theorem yj14:Nt (W.ad a b):=by
 unfold Wo.ad;split
 ·rfl
 ·exact yA7
theorem yT13:Nt (W.unm a):=by
 unfold Wo.unm;split
 ·rfl
 ·rcases W.hd a evU with _|x
  ·trivial
  ·exact yX5 yB1
theorem ym8 (hr:∀o b v,o.ok->W.row o b=some v->v.isT=false) (ho:∀v c y,v.ok->W.hd v c=some y->y.ok) {b:List UInt8}:∀(n:Nat) {o:Vl},o.ok->Nt (W.idx b n o)
 |0,_,_=>trivial
 |n+1,o,h=>by
  unfold Wo.idx;rcases hx:W.row o b with _|v
  ·dsimp only;rcases hy:W.hd o evI with _|x
   ·rcases o with _|_|_|_|_<;>first|trivial|rfl
   ·rcases x with i|j
    ·exact yX5 yB1
    ·exact ym8 hr ho n (ho o evI _ h hy)
  ·exact hr o b v h hx
theorem yF14 {vs:List Vl}:Nt (W.cv a vs):=by
 unfold Wo.cv;split
 ·exact yB1 _
 ·trivial
theorem yb11 {wd:Nat}:Nt (W.word wd a b):=by
 unfold Wo.word;split
 ·exact ys8 eq_b
 ·exact y412 (ys8 eq_b)
 ·exact yI11
 ·exact yF11
 ·exact yI11
 ·exact yF11
 ·exact yh12
 ·exact yj14
noncomputable def Nk.ok:Nk->Prop
 |.index o _=>o.ok
 |_=>True
variable {t:Nk}
theorem yv15 (hr:∀o b v,o.ok->W.row o b=some v->v.isT=false) (ho:∀v c y,v.ok->W.hd v c=some y->y.ok) (h:t.ok):Nt (W.nk t):=by
 rcases t with ⟨o,key⟩|⟨a,b⟩|a|⟨wd,a,b⟩
 ·exact ym8 hr ho 100 h
 ·exact yF14
 ·exact yT13
 ·exact yb11
end
structure Pl (V:WI) (W:Wo) (L:LI) (b0 b1 n0 n1 N:Nat):Prop extends Ad V W b0 b1 L.sn n0 n1 N where
 js:n1<=L.js/\L.js<N
 r:n1<=L.r/\L.r<N
 rj:L.r≠L.js
 z0:b0≠0/\b1≠0/\L.sn≠0
 ne:V.ro≠V.cl/\V.me≠V.cl
structure Sg (V:WI) (W:Wo) (L:LI) (b0 b1 n1 N:Nat) (Hs H:List AO) (wr:Bool) (cs:List AV) (es:List (Nat×List Vl)) (ss:List AV) (es':List (Nat×List Vl)) (f g:Nat):Prop where
 lw:Lw V W N H wr cs
 bx:Bx H b0 b1 f
 rs:L.Rs H g ss
 c1:Cl2 N H cs es
 c2:Cl2 N H ss es'
 hk:∀(i:Nat) (o:AO),n1<=i->i≠L.js->Hs[i]? =some o->H[i]? =some o
 tb:∃l,H[(0:Nat)]? =some (.tab l)
section
variable {sa:Addr} {sl:List AV} {k:Nat} {m:Loc} {Q:AV->List AO->Prop} {X:List AO->Prop} {H H' Hs:List AO} {n0 n1 b0 b1 N f g f' g':Nat} {V:WI} {W:Wo} {L:LI} {wr wr':Bool} {cs cs' ss ss':List AV} {es es' es1:List (Nat×List Vl)}
theorem Rs.keep (P:Pl V W L b0 b1 n0 n1 N) (r:L.Rs H g ss) (k:∀i o,(i=L.r\/i=L.js\/i=L.sn)->H[i]? =some o->H'[i]? =some o):L.Rs H' g ss:=
 ⟨⟨k _ _ (.inl rfl) r.r.1,r.r.2⟩,let ⟨s,m,fo,a,b⟩:=r.js;⟨s,m,fo,a,k _ _ (.inr (.inl rfl)) b⟩,k _ _ (.inr (.inr rfl)) r.sn⟩
theorem Bx.keep (b:Bx H b0 b1 f) (k:∀i o,(i=b0\/i=b1)->H[i]? =some o->H'[i]? =some o):Bx H' b0 b1 f:=
 ⟨let ⟨n,c,a1,a2,a3⟩:=b.h0;⟨n,c,a1,a2,k _ _ (.inl rfl) a3⟩,let ⟨ns,a1,a2⟩:=b.h1;⟨ns,a1,k _ _ (.inr rfl) a2⟩⟩
theorem Sg.ka (P:Pl V W L b0 b1 n0 n1 N) (s:Sg V W L b0 b1 n1 N Hs H wr cs es ss es' f g) (k:Ka b0 b1 H H') (b:Bx H' b0 b1 f'):Sg V W L b0 b1 n1 N Hs H' wr cs es ss es' f' g:=by
 have h1:=P.l0;have h2:=P.l1;have h3:=P.ls;have h4:=P.d0s;have h5:=P.d1s;have h6:=P.wd;have h7:=P.js;have h8:=P.r;have h9:=P.n;have kk:∀i o,i≠b0->i≠b1->H[i]? =some o->H'[i]? =some o:=fun i o a b h=>k.kp i o h a b;have ks:Ks N H H':=fun i o h e=>kk i o (by lia) (by lia) e;exact ⟨s.lw.ka P.toAd k,b,Rs.keep P s.rs fun i o h e=>kk i o (by lia) (by lia) e,s.c1.ks ks,s.c2.ks ks,fun i o a b c=>kk i o (qe (qc (qd (qb (ql h1) h6.1) h6.2) a)) (qe (qc (qd (qb (ql h2) h6.1) h6.2) a)) (s.hk i o a b c),let ⟨l,e⟩:=s.tb;⟨l,kk _ _ (Ne.symm P.z0.1) (Ne.symm P.z0.2.1) e⟩⟩
theorem Sg.kl (P:Pl V W L b0 b1 n0 n1 N) (s:Sg V W L b0 b1 n1 N Hs H wr cs es ss es' f g) (lw:Lw V W N H' wr' cs') (k:Kl V N H H') (c:Ks N H H'->Cl2 N H' cs' es1):Sg V W L b0 b1 n1 N Hs H' wr' cs' es1 ss es' f g:=by
 have h1:=P.l0;have h2:=P.l1;have h3:=P.ls;have h6:=P.wd;have h7:=P.js;have h8:=P.r;have h9:=P.n;have h10:=P.cl;have ks:Ks N H H':=k.ks s.lw;exact ⟨lw,s.bx.keep fun i o h e=>k.kp i o e (by lia) (by lia),Rs.keep P s.rs fun i o h e=>k.kp i o e (by lia) (by lia),c ks,s.c2.ks ks,fun i o a b c=>k.kp i o (s.hk i o a b c) (qe (qc h6.2 a)) (qe (qc h10.2 a)),let ⟨l,e⟩:=s.tb;⟨l,k.kp _ _ e (qf (qc (qd (qn _) h1) h6.1)) (qf (qc (qd (qn _) h1) h10.1))⟩⟩
theorem Sg.push (P:Pl V W L b0 b1 n0 n1 N) (s:Sg V W L b0 b1 n1 N Hs H wr cs es ss es' f g) {l:List AO}:Sg V W L b0 b1 n1 N Hs (H++l) wr cs es ss es' f g:=s.ka P .push s.bx.push
theorem Sg.rn (P:Pl V W L b0 b1 n0 n1 N) (s:Sg V W L b0 b1 n1 N Hs H wr cs es ss es' f g) (r:L.Rs H' g' ss') (hl:H.length<=H'.length) (k:∀i o,L.St H i o->L.St H' i o) (c:Ks N H H'->Cl2 N H' ss' es1):Sg V W L b0 b1 n1 N Hs H' wr cs es ss' es1 f g':=by
 have h1:=P.l0;have h2:=P.l1;have h3:=P.ls;have h4:=P.d0s;have h5:=P.d1s;have h6:=P.wd;have h7:=P.js;have h8:=P.r;have h9:=P.n;have h10:=P.cl;have kk:∀i o,i≠L.js->i≠L.sn->H[i]? =some o->H'[i]? =some o:=fun i o a b h=>(k i o ⟨h,a,b⟩).1;have ks:Ks N H H':=fun i o h e=>kk i o (qe (qc h7.2 h)) (by lia) e;exact ⟨⟨s.lw.toLd.stay P.toAd fun i o a b e=>kk i o (qf (qc b h7.1)) (qe (qc h3 a)) e,qb s.lw.n hl,s.lw.n1,s.lw.n2,s.lw.ne⟩,s.bx.keep fun i o h e=>kk i o (by lia) (by lia) e,r,s.c1.ks ks,c ks,fun i o a b c=>kk i o b (qe (qc (qd (qb (ql h3) h6.1) h6.2) a)) (s.hk i o a b c),let ⟨l,e⟩:=s.tb;⟨l,kk _ _ (qf (qc (qd (qn _) h6.2) h7.1)) (Ne.symm P.z0.2.2) e⟩⟩
theorem Lw.setWr (w:Lw V W N H wr cs) {b:Bool}:Lw V W N (H.set V.wd (.dict (V.wD b))) b cs/\Kl V N H (H.set V.wd (.dict (V.wD b))):=
 ⟨⟨w.toLd.map (jv w.wd) (je w.cl (jW w.cl w.wd (by simp))) w.ne fun i o h h1 o_=>je h h1,by exact rz qy w.n,w.n1,w.n2,w.ne⟩,⟨by simp,fun i o h h1 o_=>je h h1⟩⟩
theorem WOk.ho (wo:WOk W):∀v c y,v.ok->W.hd v c=some y->y.ok:=fun v c y hv h=>by
 unfold Wo.hd at h;split at h
 ·rename_i n;refine x_EA (Option.bind_eq_some_iff.mp h) fun es h1 h2=>?_;refine x_EA (yy1 h2) fun e he hz13=>?_;subst hz13;exact wo.mo n hv es h1 e he
 ·split at h
  ·obtain rfl:=qq h;refine (?_:2<4);decide
  ·injection h
 ·injection h
theorem WOk.hr (wo:WOk W):∀o b v,o.ok->W.row o b=some v->v.isT=false:=fun o b v hv h=>by
 rcases o with _|_|_|_|n
 ·injection h
 ·injection h
 ·injection h
 ·injection h
 ·refine x_EA (yy1 (show lkF (W.rows n) b=some v from h)) fun e he hz14=>?_;subst hz14;exact (wo.rk n hv e he).2.2
variable {n:Nat} {t:Nk}
theorem Tn.ok (h:Tn N H n t):t.ok:=by
 rcases t with ⟨o,key⟩|⟨_,_⟩|_|⟨_,_,_⟩
 ·exact jS h fun x y o_ o_ o_ h=>h.ok
 ·trivial
 ·trivial
 ·trivial
variable {T:Nat->Nat}
theorem yJ11 {v:Vl} (h:v.isT=false):Lv H (v.rv T) v.tv:=by
 rcases v with _|b|i|l|i
 ·exact .nil
 ·exact .bool b
 ·exact .int i
 ·exact .bytes l
 ·injection h
structure TM (m:Loc) (V:WI) (L:LI) (b0:Nat):Prop where
 a133:lk m 133=some (.ref b0)
 a135:lk m 135=some (.ref V.wd)
 a148:lk m 148=some (.ref L.r)
 a149:lk m 149=some (.ref L.sn)
theorem TM.put (x:TM m V L b0) {y:Nat} {v:AV} (h:y≠133/\y≠135/\y≠148/\y≠149):TM (put m y v) V L b0:=
 ⟨ji x.a133 (Ne.symm h.1),ji x.a135 (Ne.symm h.2.1),ji x.a148 (Ne.symm h.2.2.1),ji x.a149 (Ne.symm h.2.2.2)⟩
theorem yo15 {v:Vl}:cmpV (pg sa sl) H .NotEq (.tup [kAV v,v.av]) (.tup [kAV v,v.av])=some false:=by
 refine (?_:(eqV H 8 (.tup [kAV v,v.av]) (.tup [kAV v,v.av])).map (!·)=_);have e1:eqV H 7 (kAV v) (kAV v)=some true:=by rcases v with _|_|_|_|_<;>rfl
 have e:eqV H 8 (.tup [kAV v,v.av]) (.tup [kAV v,v.av])=some true:=congrArg (Option.map (·&&true)) (y62 e1 (y62 (yd6 (by decide) v) rfl));refine rz e ?_;rfl
variable {Qf:AF->St->Prop} {J Xs:St->Prop}
theorem y05 {rf:Bool} (hk:3<=k) (s:Sg V W L b0 b1 n1 N Hs H rf cs es ss es f g) (hm:TM m V L b0) (h157:lk m 157=some (.bool rf)) (hv:rf=false->∃v:Vl,lk m 16=some v.av/\lk m 156=some v.av) (hJ:J ⟨H,m⟩):
 wpS (pg sa sl) (Cl (pg sa sl) k) (.seq (.ite (.or (.cmp .NotEq (.nm 157) (.sub (.nm 135) (.str 138))) (.cmp .NotEq (.nm 149) (.sub (.nm 135) (.str 139)))) (.seq (.ret (.bool false)) .done) .done) (.seq (.ite (.and (.un .Not (.nm 157)) (.cmp .NotEq (.tup (.cons (.call 80 (.cons (.nm 16) .nil)) (.cons (.nm 16) .nil))) (.tup (.cons (.call 80 (.cons (.nm 156) .nil)) (.cons (.nm 156) .nil))))) (.seq (.ret (.bool false)) .done) .done) .done)) (jN Qf J) Xs ⟨H,m⟩:=by
 refine i_lk h157 (i_lk hm.a135 (jX (b:=.str 138) (v:=.bool rf) s.lw.wd rfl rfl (kO (r:=false) (by rcases rf with _|_<;>rfl) (i_lk hm.a149 (i_lk hm.a135 (jX (b:=.str 139) (v:=.ref V.cl) s.lw.wd rfl rfl ?_))))));refine kO (r:=false) (by
  refine (?_:(eqV H 8 (.ref L.sn) (.ref V.cl)).map (!·)=some false);refine rz (yM10 s.rs.sn s.lw.cl s.c1 s.c2) ?_;rfl) ?_
 refine i_lk h157 ?_;rcases rf with _|_
 ·exact x_EA (hv rfl) fun v h16 h156=>i_lk h16 (kf1 (v:=v) (dk0 hk rfl) (i_lk h16 (qr (qa rfl) (i_lk h156 (kf1 (v:=v) (dk0 hk rfl) (i_lk h156 (qr (qa rfl) (kO yo15 (hJ)))))))))
 ·exact hJ
noncomputable def Stat (L:LI) (W:Wo) (T F M:Nat->Nat) (tx gs:List (List UInt8×AV)) (n1:Nat) (Hs:List AO):Prop:=
 ∀I:RI,I.sn=L.sn->(∀(i:Nat) (o:AO),n1<=i->i≠L.js->Hs[i]? =some o->I.S0 i o)->(∃j,I.S0 L.lm (.inst 53 j)/\I.S0 j (.dict limD))/\Tb0 I L.tt (-60) tx .nil/\Tb0 I L.gt (-80) gs .nil/\Ws I W T F M tx
variable {F M:Nat->Nat} {tx gs:List (List UInt8×AV)}
noncomputable def yg11 (V:WI) (W:Wo) (L:LI) (b0 b1 n1 N:Nat) (Hs:List AO) (wr:Bool) (cs:List AV) (es:List (Nat×List Vl)) (ss:List AV) (es':List (Nat×List Vl)) (f g:Nat) (m:Loc) (o:Oc) (Qf:St->Prop):Prop:=match o with
 |.val v=>∀H',Sg V W L b0 b1 n1 N Hs H' wr cs es ss es' f g->Qf ⟨H',put m 16 v.av⟩
 |.call n us v=>n<3->∀H' b,Sg V W L b0 b1 n1 N Hs H' wr cs es (ss++[.tup [.int n,.ref b]]) (es'++[(n,us)]) f g->Qf ⟨H',put m 16 v.av⟩
 |.bad=>∀H',Sg V W L b0 b1 n1 N Hs H' wr cs es ss es' f g->Qf ⟨H',put m 157 (.bool true)⟩
theorem yk15 {Γ:Ora} {b:S} {x:Nat} {v:Bool} {F:AF->St->Prop} {σ:St} (q:wpS (pg sa sl) Γ b F (tryX x v (F .next)) σ):wpS (pg sa sl) Γ (.try b x v) F Xs σ:=q
theorem yI15 (hk:21<=k) (P:Pl V W L b0 b1 n0 n1 N) (wo:WOk W) (st:Stat L W T F M tx gs n1 Hs) (hg:∀i,i<4->tg gs (tn i)=.ref (T i)) (tl:tx.length<1000) (gl:gs.length<1000)
 (s:Sg V W L b0 b1 n1 N Hs H wr cs es ss es' f (g+5)) (hs:ss.length<=1000) (hm:TM m V L b0) (h79:lk m 79=some (.ref n)) (tn0:Tn N H n t)
 (q:yg11 V W L b0 b1 n1 N Hs wr cs es ss es' f g m (W.nk t) (Qf .next)):
 wpS (pg sa sl) (Cl (pg sa sl) k) (.try (.seq (.asg 16 (.call 89 (.cons (.meth (.nm 148) 158 (.cons (.nm 79) (.cons (.list .nil) .nil))) .nil))) .done) 157 true) Qf Xs ⟨H,m⟩:=by
 refine ks1 s.rs.js fun stp md fo hst h2=>?_;have nt:=yv15 wo.hr wo.ho tn0.ok;refine yk15 (jx (y92 ?_));refine i_lk hm.a148 (jb s.rs.r.1 h2 rfl rfl rfl (i_lk h79 (qr (qn _) ?_)));have s1:=s.push P (l:=[.list []]);have tn1:=tn0.ks (Ks.push (l:=[.list []]));refine yQ9 (t:=t) (T:=T) (F:=F) (M:=M) (tx:=tx) (gs:=gs) (W:=W) (dk0 hk rfl) s1.rs hs hg tl gl (fun I e=>?_) ?_
 ·have h9:=P.n;have h7:=P.js;have h3:=P.ls;have h6:=P.wd;obtain ⟨a1,a2,a3,a4⟩:=st I e.sn fun i o b1 b2 b3=>e.s i o ⟨s1.hk i o b1 b2 b3,b2,(qe (qc (qd (qb (ql h3) h6.1) h6.2) b1))⟩
  exact ⟨a1,a2,a3,a4,tn1.s0 fun i o a=>e.s i o ⟨a.2,by have:=a.1;exact qe (qc h7.2 this),by have:=a.1;lia⟩⟩
 ·rcases ho:W.nk t with v|⟨i,us,v⟩|_
  ·rw [ho] at q nt;intro H' R' hl k';exact yR (v:=v) (dk0 hk rfl) (yJ11 nt) (q H' (s1.rn P R' hl k' fun ks=>s1.c2.ks ks))
  ·rw [ho] at q nt;intro hi H' b R' hl k' hlb hb;have h9:=P.n;have h7:=P.js;exact yR (v:=v) (dk0 hk rfl) (yJ11 nt) (q hi H' b (s1.rn P R' hl k' fun ks=>.snoc (qb s1.lw.n hlb) hb.1 (s1.c2.ks ks)))
  ·rw [ho] at q;intro H' R' hl k';exact q H' (s1.rn P R' hl k' fun ks=>s1.c2.ks ks)
theorem yO13 (hk:21<=k) (P:Pl V W L b0 b1 n0 n1 N) (wo:WOk W) (st:Stat L W T F M tx gs n1 Hs) (hg:∀i,i<4->tg gs (tn i)=.ref (T i)) (tl:tx.length<1000) (gl:gs.length<1000)
 (s:Sg V W L b0 b1 n1 N Hs H wr cs es ss es (f+4) (g+5)) (hc:es.length<=1000) (hm:TM m V L b0)
 (hJ:∀H' m' wr' cs' es' ss',Sg V W L b0 b1 n1 N Hs H' wr' cs' es' ss' es' f g->es'.length<=es.length+1->TM m' V L b0->J ⟨H',m'⟩):
 wpS (pg sa sl) (Cl (pg sa sl) k) (.seq (.setsub (.nm 135) (.str 138) (.bool false)) (.seq (.asgT false [79,156] (.call 86 (.cons (.nm 133) (.cons (.nm 135) .nil)))) (.seq (.asgT false [16,157] (.tup (.cons .none (.cons (.bool false) .nil)))) (.seq (.try (.seq (.asg 16 (.call 89 (.cons (.meth (.nm 148) 158 (.cons (.nm 79) (.cons (.list .nil) .nil))) .nil))) .done) 157 true) (.seq (.ite (.or (.cmp .NotEq (.nm 157) (.sub (.nm 135) (.str 138))) (.cmp .NotEq (.nm 149) (.sub (.nm 135) (.str 139)))) (.seq (.ret (.bool false)) .done) .done) (.seq (.ite (.and (.un .Not (.nm 157)) (.cmp .NotEq (.tup (.cons (.call 80 (.cons (.nm 16) .nil)) (.cons (.nm 16) .nil))) (.tup (.cons (.call 80 (.cons (.nm 156) .nil)) (.cons (.nm 156) .nil))))) (.seq (.ret (.bool false)) .done) .done) .done)))))) (jN Qf J) Xs ⟨H,m⟩:=by
 have hc1:cs.length<=1000:=by exact rz s.c1.len hc
 have hs1:ss.length<=1000:=by exact rz s.c2.len hc
 refine jx (i_lk hm.a135 (zq s.lw.wd rfl (qa rfl) (x_A (s.lw.setWr (b:=false)) fun lw1 kl1=>?_)));have s1:=s.kl P lw1 kl1 fun ks=>s.c1.ks ks;refine (?_:wpS _ _ _ _ _ ⟨H.set V.wd (.dict (V.wD false)),m⟩);generalize H.set V.wd (.dict (V.wD false))=H1 at s1⊢;refine jx (yN5 ?_);refine i_lk hm.a133 (i_lk hm.a135 (yn10 (f:=f) (dk0 hk rfl) P.toAd s1.lw hc1 wo.ho s1.bx fun t n H2 lw2 bx2 tn2 ka2=>?_));have s2:=s1.ka P ka2 bx2;have rest:∀(H3:List AO) (wr3:Bool) (cs3:List AV) (es3:List (Nat×List Vl)) (r:AV),Sg V W L b0 b1 n1 N Hs H3 wr3 cs3 es3 ss es f (g+5)->Tn N H3 n t->yg11 V W L b0 b1 n1 N Hs wr3 cs3 es3 ss es f g (put (put (put (put m 79 (.ref n)) 156 r) 16 .nil) 157 (.bool false)) (W.nk t) (fun σ=>wpS (pg sa sl) (Cl (pg sa sl) k) (.seq (.ite (.or (.cmp .NotEq (.nm 157) (.sub (.nm 135) (.str 138))) (.cmp .NotEq (.nm 149) (.sub (.nm 135) (.str 139)))) (.seq (.ret (.bool false)) .done) .done) (.seq (.ite (.and (.un .Not (.nm 157)) (.cmp .NotEq (.tup (.cons (.call 80 (.cons (.nm 16) .nil)) (.cons (.nm 16) .nil))) (.tup (.cons (.call 80 (.cons (.nm 156) .nil)) (.cons (.nm 156) .nil))))) (.seq (.ret (.bool false)) .done) .done) .done)) (jN Qf J) Xs σ)->
  wpS (pg sa sl) (Cl (pg sa sl) k) (.seq (.asgT false [16,157] (.tup (.cons .none (.cons (.bool false) .nil)))) (.seq (.try (.seq (.asg 16 (.call 89 (.cons (.meth (.nm 148) 158 (.cons (.nm 79) (.cons (.list .nil) .nil))) .nil))) .done) 157 true) (.seq (.ite (.or (.cmp .NotEq (.nm 157) (.sub (.nm 135) (.str 138))) (.cmp .NotEq (.nm 149) (.sub (.nm 135) (.str 139)))) (.seq (.ret (.bool false)) .done) .done) (.seq (.ite (.and (.un .Not (.nm 157)) (.cmp .NotEq (.tup (.cons (.call 80 (.cons (.nm 16) .nil)) (.cons (.nm 16) .nil))) (.tup (.cons (.call 80 (.cons (.nm 156) .nil)) (.cons (.nm 156) .nil))))) (.seq (.ret (.bool false)) .done) .done) .done)))) (jN Qf J) Xs ⟨H3,put (put m 79 (.ref n)) 156 r⟩:=fun H3 wr3 cs3 es3 r s3 tn3 q=>by
  refine jx (yN5 ?_);refine qr (qa rfl) (qr rfl ?_);have hm3:TM (put (put (put (put m 79 (.ref n)) 156 r) 16 .nil) 157 (.bool false)) V L b0:=(((hm.put (by decide)).put (by decide)).put (by decide)).put (by decide);have h79:lk (put (put (put (put m 79 (.ref n)) 156 r) 16 .nil) 157 (.bool false)) 79=some (.ref n):=ji (ji (ji jC (by decide)) (by decide)) (by decide);refine (?_:wpS _ _ _ _ _ ⟨H3,put (put (put (put m 79 (.ref n)) 156 r) 16 .nil) 157 (.bool false)⟩);exact jx (yI15 hk P wo st hg tl gl s3 hs1 hm3 h79 tn3 q)
 have hmf:∀(r v:AV),TM (put (put (put (put (put m 79 (.ref n)) 156 r) 16 .nil) 157 (.bool false)) 16 v) V L b0:=fun r v=>((((hm.put (by decide)).put (by decide)).put (by decide)).put (by decide)).put (by decide);have hmb:∀(r v:AV),TM (put (put (put (put (put m 79 (.ref n)) 156 r) 16 .nil) 157 (.bool false)) 157 v) V L b0:=fun r v=>((((hm.put (by decide)).put (by decide)).put (by decide)).put (by decide)).put (by decide);rcases ho:W.nk t with v|⟨i,us,v⟩|_
 ·rw [ho] at rest;intro H3 lw3 kl3;have s3:=s2.kl P lw3 kl3 fun ks=>s2.c1.ks ks;refine qr rfl (rest H3 _ _ _ _ s3 (tn2.ks (kl3.ks s2.lw)) fun H4 s4=>?_);exact y05 (dk0 hk rfl) s4 (hmf _ _) (ji jC (by decide)) (fun o_=>⟨v,jC,ji (ji (ji jC (by decide)) (by decide)) (by decide)⟩) (hJ _ _ _ _ _ _ s4 (qp _) (hmf _ _))
 ·rw [ho] at rest;intro hi H3 b lw3 kl3 hb1 hb2;have s3:=s2.kl P lw3 kl3 fun ks=>.snoc hb1 hb2 (s2.c1.ks ks);refine qr rfl (rest H3 _ _ _ _ s3 (tn2.ks (kl3.ks s2.lw)) fun o_ H4 b4 s4=>?_);exact y05 (dk0 hk rfl) s4 (hmf _ _) (ji jC (by decide)) (fun o_=>⟨v,jC,ji (ji (ji jC (by decide)) (by decide)) (by decide)⟩) (hJ _ _ _ _ _ _ s4 (by simp) (hmf _ _))
 ·rw [ho] at rest;intro H3 r lw3 kl3;have s3:=s2.kl P lw3 kl3 fun ks=>s2.c1.ks ks;refine qr rfl (rest H3 _ _ _ _ s3 (tn2.ks (kl3.ks s2.lw)) fun H4 s4=>?_);exact y05 (dk0 hk rfl) s4 (hmb _ _) jC (fun h=>by injection h) (hJ _ _ _ _ _ _ s4 (qp _) (hmb _ _))
noncomputable def asF (b:List UInt8) (v:Fo) (es:List (List UInt8×Fo)):List (List UInt8×Fo):=if (es.any fun e=>e.1==b)=true then es.map fun e=>if (e.1==b)=true then (e.1,v) else e else es++[(b,v)]
variable {b:List UInt8} {v:Fo} {es:List (List UInt8×Fo)}
theorem yD9:aset (es.map fun e=>(.bytes e.1,e.2.av)) (.bytes b) v.av=(asF b v es).map fun e=>(.bytes e.1,e.2.av):=by
 delta aset asF;refine rz (show ((es.map fun e=>(AV.bytes e.1,e.2.av)).any fun p=>keq p.1 (.bytes b))=es.any fun e=>e.1==b from List.any_map) ?_;rcases es.any fun e=>e.1==b with _|_
 ·exact rz (if_neg Bool.false_ne_true) (rz (if_neg Bool.false_ne_true) ((List.map_append (l₁:=es) (l₂:=[(b,v)]) (f:=fun e:List UInt8×Fo=>(AV.bytes e.1,e.2.av))).symm))
 ·refine rz (if_pos rfl) (rz (if_pos rfl) (rz List.map_map (rz List.map_map ?_)));exact List.map_congr_left fun e o_=>(apply_ite (fun e:List UInt8×Fo=>(AV.bytes e.1,e.2.av)) ((e.1==b)=true) (e.1,v) e).symm
theorem yE9 {e:List UInt8×Fo} (h:e∈asF b v es):e.2=v\/e∈es:=by
 delta asF at h
 revert h
 rcases es.any fun e=>e.1==b with _|_
 ·exact fun h=>(qz.mp h).elim .inr fun m=>.inl (qB.mp m▸rfl)
 ·intro h;refine x_EA (List.mem_map.mp h) fun e' m q=>?_
  revert q
  rcases e'.1==b with _|_
  ·exact fun q=>.inr (q▸m)
  ·exact fun q=>.inl (q▸rfl)
theorem yZ11 (h:(es.map (·.1)).Nodup):((asF b v es).map (·.1)).Nodup:=by
 delta asF;rcases q:es.any fun e=>e.1==b with _|_
 ·refine rz (if_neg Bool.false_ne_true) (rz List.map_append ?_);exact List.nodup_append.mpr ⟨h,(List.Pairwise.cons (fun o_ m=>nomatch m) .nil),fun a ha c hc=>x_EA (List.mem_map.mp ha) fun e me he w=>List.any_eq_false.mp q e me (beq_iff_eq.mpr (he.trans (w.trans (qB.mp hc))))⟩
 ·refine rz (if_pos rfl) (rz List.map_map ?_);exact (List.map_congr_left (f:=fun e:List UInt8×Fo=>e.1) (fun e o_=>((apply_ite (fun e:List UInt8×Fo=>e.1) ((e.1==b)=true) (e.1,v) e).trans (ite_self _)).symm))▸h
theorem yC9:(asF b v es).length<=es.length+1:=by
 delta asF;rcases es.any fun e=>e.1==b with _|_
 ·exact qk List.length_append
 ·refine rz (if_pos rfl) ?_;rw [qF];exact qp _
noncomputable def Wo.pat (W:Wo) (es:List (List UInt8×Fo)):Wo:=⟨W.rows,fun i=>if i=3 then some (asF evI (.tab 3) es) else W.metas i,W.txt⟩
theorem yz13 (wo:WOk W) (ad:AdD V W) (h:W.metas 3=some es):WOk (W.pat es) where
 rs:=wo.rs
 rk:=wo.rk
 ms i hi es' he:=by
  change (if i=3 then some (asF evI (.tab 3) es) else W.metas i)=some es' at he;split at he
  ·obtain rfl:=qq he
   have:=yC9 (b:=evI) (v:=.tab 3) (es:=es);have l:=ad.l es h;exact ⟨yZ11 (wo.ms 3 (by decide) es h).1,by lia⟩
  ·exact wo.ms i hi es' he
 mo i hi es' he e m:=by
  change (if i=3 then some (asF evI (.tab 3) es) else W.metas i)=some es' at he;split at he
  ·obtain rfl:=qq he
   rcases yE9 m with q|q
   ·refine rz q (?_:3<4);decide
   ·exact wo.mo 3 (by decide) es h e q
  ·exact wo.mo i hi es' he e m
theorem yx13 (av:AdV V W n0 n1) (h:W.metas 3=some es):AdV V (W.pat es) n0 n1 where
 wd:=av.wd
 ro:=av.ro
 me:=av.me
 cl:=av.cl
 tx:=av.tx
 rw:=av.rw
 mt i hi es' he:=by
  change (if i=3 then some (asF evI (.tab 3) es) else W.metas i)=some es' at he;split at he
  ·rename_i e;exact rz e (av.mt 3 (by decide) es h)
  ·exact av.mt i hi es' he
 ne:=av.ne
theorem yy13 (d:Ld V W H false []) (ad:AdD V W) (h:W.metas 3=some es):Ld V (W.pat es) (H.set (V.mt 3) (.dict (aset (es.map fun e=>(.bytes e.1,e.2.av)) (.bytes evI) (.tup [.str 74,.int 3])))) false []:=by
 have m3:=d.mt 3 (by decide) es h;have mv:∀i,mAV V (W.pat es) i=mAV V W i:=fun i=>by
  unfold mAV;refine (?_:(match (if i=3 then some (asF evI (.tab 3) es) else W.metas i) with|none=>AV.nil|some _=>.ref (V.mt i))=_);by_cases e:i=3
  ·exact rz (if_pos e) (rz e (rz h rfl))
  ·refine rz (if_neg e) ?_<;>rfl
 refine ⟨je d.wd (Ne.symm (jW m3 d.wd (by
  intro e;rcases es with _|_<;>simp [WI.wD] at e))),je d.ro (jW d.ro m3 (by simp)),?_,fun i hi=>je (d.rw i hi) (ad.rw es h i hi),fun i hi es' he=>?_,je d.tx (ad.tx es h),je d.cl (jW d.cl m3 (by simp))⟩
 ·rw [mv,mv,mv,mv];exact je d.me (jW d.me m3 (by simp))
 ·change (if i=3 then some (asF evI (.tab 3) es) else W.metas i)=some es' at he;split at he
  ·rename_i e;obtain rfl:=qq he
   subst e;exact rz (Eq.symm yD9) (jv m3)
  ·exact je (d.mt i hi es' he) (ad.mt es h i (by lia) es' he)
variable {G tT tB fB Z sn:Nat} {mb:Nat->Nat}
theorem TbA.tb0 {I:RI} {a:Nat} {z:Int} {es:List (List UInt8×AV)} {mt:AV} (t:TbA H a z es mt) (k:∀(i:Nat) (o:AO),n1<=i->i≠L.js->H[i]? =some o->I.S0 i o) (h1:n1<=a) (h2:L.js<a\/a+4<=L.js):Tb0 I (a+1) z es mt:=
 ⟨a,a+2,a+3,k _ _ (qh h1) (by lia) t.i,k _ _ h1 (by lia) t.d,k _ _ (qh h1) (by lia) t.k,k _ _ (qh h1) (by lia) t.v⟩
theorem yB10 (wo:WOk W) (d:Made W G tT tB fB L.sn Z mb H) (lm:∃j,n1<=L.lm/\L.lm≠L.js/\n1<=j/\j≠L.js/\H[L.lm]? =some (.inst 53 j)/\H[j]? =some (.dict limD)) (htt:L.tt=tT+1) (hgt:L.gt=G+1) (h1:n1<=L.js) (h2:L.js<tT) (h3:L.js<G) (h4:L.js<tB) (h5:L.js<fB) (h6:L.js<Z):
 Stat L W (fun i=>tB+4*i+1) (fun n=>fB+2*n+1) (fun i=>mb i+1) (txE W tB) (gsL tB 4) n1 H:=by
 intro I hs kk;refine ⟨?_,?_,?_,?_⟩
 ·exact yy9 lm fun j a1 a2 a3 a4 a5 a6=>⟨j,kk _ _ a1 a2 a5,kk _ _ a3 a4 a6⟩
 ·exact rz htt (d.t.tb0 kk (ql (qd h1 h2)) (.inl h2))
 ·exact rz hgt (d.j.gt.tb0 kk (ql (qd h1 h3)) (.inl h3))
 ·refine ⟨fun n hn=>?_,fun n hn es he=>?_,fun n hn=>?_,fun n hn=>?_,fun n hn e m=>?_,fun n hn es he=>?_,?_⟩
  ·have t:=d.j.tab n hn;rw [if_pos hn,if_pos hn] at t;exact t.tb0 kk (by lia) (.inl (by lia))
  ·have t:=(d.j.mta n hn es he).2;have:=(d.j.mta n hn es he).1;exact t.tb0 kk (qb (ql (qd h1 h6)) this) (.inl (qc h6 this))
  ·obtain ⟨⟨nm,e1⟩,e2⟩:=d.f n hn
   refine ⟨fB+2*n,nm,kk _ _ (by lia) (by lia) e2,kk _ _ (by lia) (by lia) ?_⟩;exact rz hs e1
  ·have:=(wo.rs n hn).length_le;rw [qF] at this;exact qd this (by decide)
  ·have:=wo.rk n hn e m;exact ⟨this.1,this.2.1⟩
  ·exact ⟨qd (wo.ms n hn es he).2 (by decide),wo.mo n hn es he⟩
  ·rfl
variable {i:Nat}
theorem y914 (hi:i<4):tg (gsL tB 4) (tn i)=.ref (tB+4*i+1):=by
 match i,hi with
 |0,_=>rfl
 |1,_=>rfl
 |2,_=>rfl
 |3,_=>rfl
variable {Ro:AV->List AO->Prop}
theorem yH8 (hk:30<=k) (ld:Ld V W H false []) (av:AdV V W 6 n1) (wo:WOk W) (bx:Bx H 4 2 100) (h0:H[(0:Nat)]? =some (.tab [])) (h5:H[(5:Nat)]? =some (.list []))
 (hs:L.sn=5) (hjs:n1+2<=L.js) (hr:L.r=L.js+1) (hT:L.js+2<=tT) (hG:tT+4<=G) (hl:G+4<=H.length) (htt:L.tt=tT+1) (hgt:L.gt=G+1)
 (r1:H[L.r]? =some (.inst 634 L.js)) (r2:∃fo,H[L.js]? =some (.dict (L.rD 0 0 fo))) (lm:H[n1]? =some (.dict limD)/\H[n1+1]? =some (.inst 53 n1)/\L.lm=n1+1) (t1:TbA H tT (-60) [] .nil) (t2:TbA H G (-80) [] .nil) (hm:TM m V L 4)
 (q:∀H',(∃l,H'[(0:Nat)]? =some (.tab l))->Ro (.bool true) H'):
 wpS (pg sa sl) (Cl (pg sa sl) k) (.seq (.expr (.call 87 (.cons (.nm 148) (.cons (.nm 135) (.cons (.nm 149) .nil))))) (.seq (.for (.one 142) .range (.int 7) (.seq (.setsub (.nm 135) (.str 138) (.bool false)) (.seq (.asgT false [79,156] (.call 86 (.cons (.nm 133) (.cons (.nm 135) .nil)))) (.seq (.asgT false [16,157] (.tup (.cons .none (.cons (.bool false) .nil)))) (.seq (.try (.seq (.asg 16 (.call 89 (.cons (.meth (.nm 148) 158 (.cons (.nm 79) (.cons (.list .nil) .nil))) .nil))) .done) 157 true) (.seq (.ite (.or (.cmp .NotEq (.nm 157) (.sub (.nm 135) (.str 138))) (.cmp .NotEq (.nm 149) (.sub (.nm 135) (.str 139)))) (.seq (.ret (.bool false)) .done) .done) (.seq (.ite (.and (.un .Not (.nm 157)) (.cmp .NotEq (.tup (.cons (.call 80 (.cons (.nm 16) .nil)) (.cons (.nm 16) .nil))) (.tup (.cons (.call 80 (.cons (.nm 156) .nil)) (.cons (.nm 156) .nil))))) (.seq (.ret (.bool false)) .done) .done) .done))))))) (.seq (.ret (.bool true)) .done))) (jw Ro) (exH X) ⟨H,m⟩:=by
 have hv:6<n1:=by have:=av.wd;exact qd this.1 this.2
 refine jx (i_lk hm.a148 (i_lk hm.a135 (i_lk hm.a149 (yc13 (n0:=6) (n1:=n1) (G:=G) (tT:=tT) (sn:=L.sn) (dk0 hk rfl) av wo ld h0 (by decide) ⟨(qb (qi _ _) hjs),(qc (qg (qa rfl)) hT)⟩ ⟨(qb (qh (qb (qi _ _) hjs)) (qk hr.symm)),by lia⟩ hG (by refine (?_:G+4<=H.length);exact hl) htt hgt r1 (let ⟨fo,e⟩:=r2;⟨0,0,fo,e⟩) t1 t2 fun H1 mb md kd=>?_))));have md:Made W G tT (H.length+1) (H.length+17) L.sn (H.length+25) mb H1:=md;have kd:Kmd tT G H H1:=kd;have l1:=kd.1;have kv:∀{i:Nat} {o:AO},i<H.length->i≠0->(i<tT\/tT+4<=i)->(i<G\/G+4<=i)->H[i]? =some o->H1[i]? =some o:=fun a b c d e=>by exact rz (kd.2 _ a b c d) e
 have kw:∀{i:Nat} {o:AO},6<=i/\i<n1->H[i]? =some o->H1[i]? =some o:=fun h e=>kv (by lia) (qe (qc (qa rfl) h.1)) (.inl (qc (qd (qb (qh (ql h.2)) hjs) (qg (qa rfl))) hT)) (.inl (qc (qd (qb (qh (qb (qh (ql h.2)) hjs)) hT) (qg (qa rfl))) hG)) e;have P:Pl V W L 4 2 6 n1 H1.length:=⟨⟨by decide,by decide,by lia,by decide,(qf (qc (qa rfl) (qk hs.symm))),(qf (qc (qa rfl) (qk hs.symm))),av.wd,av.ro,av.me,av.cl,av.tx,av.rw,av.mt,by lia⟩,⟨(qb (qi _ _) hjs),by lia⟩,⟨(qb (qh (qb (qi _ _) hjs)) (qk hr.symm)),by lia⟩,(qe (qc (qj (qm _)) (qk hr.symm))),⟨by decide,by decide,(qe (qc (qa rfl) (qk hs.symm)))⟩,av.ne⟩;have st:=yB10 (n1:=n1) wo md ⟨n1,(qb (qi _ _) (qk lm.2.2.symm)),by lia,qm _,(qf (qc (qg (qa rfl)) hjs)),by exact rz lm.2.2 (kv (by lia) (qe (qj (qn _))) (.inl (qc (qd (qb (Nat.add_le_add (qm _) (qa rfl)) hjs) (qg (qa rfl))) hT)) (.inl (qc (qd (qb (Nat.add_le_add (qb (qi _ _) hjs) (qa rfl)) hT) (qg (qa rfl))) hG)) lm.2.1),kv (by lia) (qe (qd (qa rfl) hv)) (.inl (qc (qd (qb (qi _ _) hjs) (qg (qa rfl))) hT)) (.inl (qc (qd (qb (qh (qb (qi _ _) hjs)) hT) (qg (qa rfl))) hG)) lm.1⟩ htt hgt (qb (qi _ _) hjs) (qc (qg (qa rfl)) hT) (qc (qd (qb (qi _ _) hT) (qg (qa rfl))) hG) (qj (qb (qh (qb (qh (qb (qi _ _) hT)) hG)) hl)) (qd (qb (qh (qb (qh (qb (qi _ _) hT)) hG)) hl) (qg (qa rfl))) (qd (qb (qh (qb (qh (qb (qi _ _) hT)) hG)) hl) (qg (qa rfl)));have ld1:Ld V W H1 false []:=⟨kw av.wd ld.wd,kw av.ro ld.ro,kw av.me ld.me,fun i hi=>kw (av.rw i hi) (ld.rw i hi),fun i hi es he=>kw (av.mt i hi es he) (ld.mt i hi es he),kw av.tx ld.tx,kw av.cl ld.cl⟩;have s0:Sg V W L 4 2 n1 H1.length H1 H1 false [] [] [] [] (4*(7-0)) (5*(7-0)):=by
  refine ⟨⟨ld1,qm _,by have:=av.wd;lia,by have:=av.cl;lia,av.ne⟩,(bx.keep fun i o h e=>kv (by lia) (by lia) (by lia) (by lia) e).less (by decide),⟨⟨kv (by lia) (qe (qc (qj (qn _)) (qk hr.symm))) (by lia) (by lia) r1,(qe (qc (qj (qm _)) (qk hr.symm))),by lia⟩,?_,?_⟩,.nil,.nil,fun i o o_ o_ h=>h,md.o⟩
  ·obtain ⟨fo,e⟩:=r2
   exact ⟨0,0,fo,by decide,kv (qc (qd (qb (qh (qb (qi _ _) hT)) hG) (qg (qa rfl))) hl) (qe (qc (qd (qn _) (qg (qa rfl))) hjs)) (.inl (qc (qg (qa rfl)) hT)) (.inl (qc (qd (qb (qi _ _) hT) (qg (qa rfl))) hG)) e⟩
  ·exact rz hs (kv (by lia) (by decide) (.inl (qc (qd (qb (qh (dk0 hv rfl)) hjs) (qg (qa rfl))) hT)) (.inl (qc (qd (qb (qh (qb (qh (dk0 hv rfl)) hjs)) hT) (qg (qa rfl))) hG)) h5)
 refine jx (yr2 (a:=.int 7) (H1:=H1) (src:=.range 0 7) (fun F q=>q) rfl rfl (fun n σ=>n<=7/\∃wr cs es ss,Sg V W L 4 2 n1 H1.length H1 σ.H wr cs es ss es (4*(7-n)) (5*(7-n))/\es.length<=n/\TM σ.m V L 4) 7 ⟨qn _,_,_,_,_,s0,qm _,hm⟩ fun n σ hJ=>?_);obtain ⟨H2,m2⟩:=σ
 refine yY11 hJ fun hn wr cs hz=>jp hz fun es ss s le hm2=>rz yw ?_;by_cases hlt:n<7
 ·refine rz (if_pos hlt) (⟨hlt,?_⟩);have hm2:=hm2.put (y:=142) (v:=.int n) (by decide);refine (?_:wpS _ _ _ _ _ ⟨H2,put m2 142 (.int n)⟩);generalize put m2 142 (.int n)=m2 at hm2⊢;rw [show 4*(7-n)=4*(7-(n+1))+4 by lia,show 5*(7-n)=5*(7-(n+1))+5 by lia] at s;refine yO13 (dk0 hk rfl) P wo st (fun i hi=>y914 hi) (by unfold txE;rcases W.txt with _|_<;>simp) (by unfold gsL;rw [qF];refine rz List.length_range ?_;decide) s (by lia) hm2 fun H3 m3 wr3 cs3 es3 ss3 s3 l3 hm3=>⟨hlt,wr3,cs3,es3,ss3,s3,by lia,hm3⟩
 ·exact rz (if_neg hlt) (q H2 s.tb)
variable {F:AV->St->Prop} {x y:Option Int}
theorem y84 {lo hi:AV} (h1:kG lo=some x) (h2:kG hi=some y) (h:sl.length<=1000000) (q:F (.ref H.length) ⟨H++[.list (cut sl x y)],m⟩):cutQ (pg sa sl) (.top sa) lo hi F ⟨H,m⟩:=by
 have e:(pg sa sl).tl sa=some sl:=by
  refine (?_:(if Nat.beq sa sa then some sl else none)=some sl);rw [Nat.beq_refl];rfl
 delta cutQ;exact jj h1 (jj h2 (jj e ⟨h,q⟩))
theorem ye10 {l:List AV} (h:H[i]? =some (.list l)) (hl:l.length<=1000000) (q:F (.ref H.length) ⟨H++[.list l],m⟩):biQ (pg sa sl) .list [.ref i] F ⟨H,m⟩:=by
 delta biQ;exact jj (jU h) ⟨hl,q⟩
theorem yj15 {ns:List Int} (h:H[i]? =some (.list (ns.map .int))) (q:F (.int ns.sum) ⟨H,m⟩):biQ (pg sa sl) .sum [.ref i] F ⟨H,m⟩:=by
 delta biQ;exact jj (jU h) ⟨ns,rfl,q⟩
theorem y94:∀{l:List AV},(∀v∈l,∃i,v=AV.int i)->∃ns:List Int,l=ns.map AV.int
 |[],_=>⟨[],rfl⟩
 |v::r,h=>by
  refine x_E (h v (List.mem_cons_self ..)) fun i hz16=>?_;subst hz16;obtain ⟨ns,rfl⟩:=y94 fun v m=>h v (List.mem_cons_of_mem _ m)
  exact ⟨i::ns,rfl⟩
theorem yW9 {α:Type} {l:List α} {a:α} (h:a∈cut l x y):a∈l:=List.mem_of_mem_drop (List.mem_of_mem_take h)
theorem yV9 {α:Type} {l:List α}:(cut l x y).length<=l.length:=by
 unfold cut;refine rz List.length_take (rz List.length_drop ?_);lia
theorem yW15 (hk:40<=k) (hsl:∀v∈sl,∃i,v=AV.int i) (hn:sl.length<=63) (q:∀H',(∃l,H'[(0:Nat)]? =some (.tab l))->Ro (.bool true) H'):wpS (pg sa sl) (Cl (pg sa sl) k) yL4 (jw Ro) (exH X) ⟨[.tab []],[(155,.top sa)]⟩:=by
 refine x_E (y94 (l:=cut sl none (some 60)) fun v m=>hsl v (yW9 m)) fun ns hns=>?_;have hlen:ns.length<=63:=by
  have:=yV9 (l:=sl) (x:=none) (y:=some 60);rw [hns,qF] at this;exact qb this hn
 refine jx (y84 (x:=none) (y:=some 60) rfl rfl (by lia) (rz hns (ye10 (l:=ns.map .int) rfl (by rw [qF];lia) (y84 (x:=none) (y:=some 60) rfl rfl (by lia) (rz hns (yj15 (ns:=ns) rfl (qr (by decide) (qr (qa rfl) (qr (qn _) (qr (qa rfl) (qr rfl ?_)))))))))));have x0:Bx [AO.tab [],.list (ns.map .int),.list (ns.map .int),.list (ns.map .int),.list [.ref 2,.int 0,.int (ns.sum.fmod 997)],.list []] 4 2 (101+121):=⟨⟨0,ns.sum.fmod 997,by decide,by decide,rfl⟩,⟨ns,by lia,rfl⟩⟩;have t0:[AO.tab [],.list (ns.map .int),.list (ns.map .int),.list (ns.map .int),.list [.ref 2,.int 0,.int (ns.sum.fmod 997)],.list []][(0:Nat)]? =some (.tab []):=rfl;have s0:[AO.tab [],.list (ns.map .int),.list (ns.map .int),.list (ns.map .int),.list [.ref 2,.int 0,.int (ns.sum.fmod 997)],.list []][(5:Nat)]? =some (.list []):=rfl;have l0:[AO.tab [],.list (ns.map .int),.list (ns.map .int),.list (ns.map .int),.list [.ref 2,.int 0,.int (ns.sum.fmod 997)],.list []].length=6:=rfl;refine (?_:wpS _ _ _ _ _ ⟨[AO.tab [],.list (ns.map .int),.list (ns.map .int),.list (ns.map .int),.list [.ref 2,.int 0,.int (ns.sum.fmod 997)],.list []],[(155,.top sa),(149,.ref 5),(133,.ref 4)]⟩);generalize [AO.tab [],.list (ns.map .int),.list (ns.map .int),.list (ns.map .int),.list [.ref 2,.int 0,.int (ns.sum.fmod 997)],.list []]=H0 at x0 t0 s0 l0⊢;refine jx (ys10 (f:=101) (b0:=4) (b1:=2) (dk0 hk rfl) (by refine (?_:4<H0.length);exact qc (qa rfl) (qk l0.symm)) (by refine (?_:2<H0.length);exact qc (qa rfl) (qk l0.symm)) x0 fun H1 V W x1 k1 ld av ad wo=>?_);have av:AdV V W 6 H1.length:=by exact rz (Eq.symm l0) av
 have t1:H1[(0:Nat)]? =some (.tab []):=k1.kp _ _ t0 (by decide) (by decide);have s1:H1[(5:Nat)]? =some (.list []):=k1.kp _ _ s0 (by decide) (by decide);refine yC5 (dk0 hk rfl) (yD5 (dk0 hk rfl) (qr (qa rfl) (qr rfl ?_)));have a1:∀{i:Nat} {o:AO},H1[i]? =some o->((H1++[AO.dict limD,.inst 53 H1.length])++rnL (H1.length+2) (H1.length+1))[i]? =some o:=fun h=>jc (jc h);have a2:∀{i:Nat} {o:AO},[AO.dict limD,.inst 53 H1.length][i]? =some o->((H1++[AO.dict limD,.inst 53 H1.length])++rnL (H1.length+2) (H1.length+1))[H1.length+i]? =some o:=fun h=>jc (kE h);have e2:(H1++[AO.dict limD,.inst 53 H1.length]).length=H1.length+2:=by simp
 have a3:∀{i:Nat} {o:AO},(rnL (H1.length+2) (H1.length+1))[i]? =some o->((H1++[AO.dict limD,.inst 53 H1.length])++rnL (H1.length+2) (H1.length+1))[H1.length+2+i]? =some o:=fun {i o} h=>by
  have:=kE (H:=H1++[AO.dict limD,.inst 53 H1.length]) h;rw [e2] at this;exact this
 have e3:((H1++[AO.dict limD,.inst 53 H1.length])++rnL (H1.length+2) (H1.length+1)).length=H1.length+14:=by
  refine rz List.length_append (rz e2 ?_);refine (?_:H1.length+2+12=_);lia
 have x3:=(x1.push (l:=[AO.dict limD,.inst 53 H1.length])).push (l:=rnL (H1.length+2) (H1.length+1));have ld3:Ld V W ((H1++[AO.dict limD,.inst 53 H1.length])++rnL (H1.length+2) (H1.length+1)) false []:=⟨a1 ld.wd,a1 ld.ro,a1 ld.me,fun i hi=>a1 (ld.rw i hi),fun i hi es he=>a1 (ld.mt i hi es he),a1 ld.tx,a1 ld.cl⟩;refine (?_:wpS _ _ _ _ _ ⟨(H1++[AO.dict limD,.inst 53 H1.length])++rnL (H1++[AO.dict limD,.inst 53 H1.length]).length (H1.length+1),[(155,.top sa),(149,.ref 5),(133,.ref 4),(148,.ref ((H1++[AO.dict limD,.inst 53 H1.length]).length+1)),(135,.ref V.wd)]⟩);refine rz e2 ?_;generalize (H1++[AO.dict limD,.inst 53 H1.length])++rnL (H1.length+2) (H1.length+1)=H3 at a1 a2 a3 e3 x3 ld3⊢;have rest:∀(H5:List AO) (W':Wo),Ld V W' H5 false []->AdV V W' 6 H1.length->WOk W'->Bx H5 4 2 100->(∀(i:Nat) (o:AO),(i<6\/H1.length<=i)->i≠4->i≠2->H3[i]? =some o->H5[i]? =some o)->H3.length<=H5.length->wpS (pg sa sl) (Cl (pg sa sl) k) (.seq (.expr (.call 87 (.cons (.nm 148) (.cons (.nm 135) (.cons (.nm 149) .nil))))) (.seq (.for (.one 142) .range (.int 7) (.seq (.setsub (.nm 135) (.str 138) (.bool false)) (.seq (.asgT false [79,156] (.call 86 (.cons (.nm 133) (.cons (.nm 135) .nil)))) (.seq (.asgT false [16,157] (.tup (.cons .none (.cons (.bool false) .nil)))) (.seq (.try (.seq (.asg 16 (.call 89 (.cons (.meth (.nm 148) 158 (.cons (.nm 79) (.cons (.list .nil) .nil))) .nil))) .done) 157 true) (.seq (.ite (.or (.cmp .NotEq (.nm 157) (.sub (.nm 135) (.str 138))) (.cmp .NotEq (.nm 149) (.sub (.nm 135) (.str 139)))) (.seq (.ret (.bool false)) .done) .done) (.seq (.ite (.and (.un .Not (.nm 157)) (.cmp .NotEq (.tup (.cons (.call 80 (.cons (.nm 16) .nil)) (.cons (.nm 16) .nil))) (.tup (.cons (.call 80 (.cons (.nm 156) .nil)) (.cons (.nm 156) .nil))))) (.seq (.ret (.bool false)) .done) .done) .done))))))) (.seq (.ret (.bool true)) .done))) (jw Ro) (exH X) ⟨H5,[(155,.top sa),(149,.ref 5),(133,.ref 4),(148,.ref (H1.length+2+1)),(135,.ref V.wd)]⟩:=fun H5 W' ld' av' wo' x' kk lle=>by
  have hv:=av'.wd;refine yH8 (L:=⟨H1.length+3,H1.length+2,H1.length+1,H1.length+4,H1.length+7,H1.length+11,5⟩) (G:=H1.length+10) (tT:=H1.length+6) (n1:=H1.length) (dk0 hk rfl) ld' av' wo' x' (kk _ _ (.inl (by decide)) (by decide) (by decide) (a1 t1)) (kk _ _ (.inl (by decide)) (by decide) (by decide) (a1 s1)) rfl (qm _) rfl (Nat.le_succ_of_le (Nat.le_succ_of_le (qm _))) (qm _) (qb (qk e3.symm) lle) rfl rfl ?_ ⟨H1.length+5,?_⟩ ⟨?_,?_,rfl⟩ ?_ ?_ ⟨rfl,rfl,rfl,rfl⟩ q
  ·exact kk (H1.length+3) _ (.inr (qi _ _)) (qe (qd (ql (qd (dk0 hv.1 rfl) hv.2)) (qg (qa rfl)))) (qe (qd (ql (qd (dk0 hv.1 rfl) hv.2)) (qg (qa rfl)))) (a3 (i:=1) rfl)
  ·exact kk (H1.length+2) _ (.inr (qi _ _)) (qe (qd (ql (qd (dk0 hv.1 rfl) hv.2)) (qg (qa rfl)))) (qe (qd (ql (qd (dk0 hv.1 rfl) hv.2)) (qg (qa rfl)))) (a3 (i:=0) rfl)
  ·exact kk (H1.length+0) _ (.inr (qi _ _)) (qe (Nat.lt_add_right _ (qd (dk0 hv.1 rfl) hv.2))) (qe (Nat.lt_add_right _ (qd (dk0 hv.1 rfl) hv.2))) (a2 (i:=0) rfl)
  ·exact kk (H1.length+1) _ (.inr (qi _ _)) (qe (qj (ql (qd (dk0 hv.1 rfl) hv.2)))) (qe (qj (ql (qd (dk0 hv.1 rfl) hv.2)))) (a2 (i:=1) rfl)
  ·exact ⟨kk (H1.length+6) _ (.inr (qi _ _)) (qe (qd (ql (qd (dk0 hv.1 rfl) hv.2)) (qg (qa rfl)))) (qe (qd (ql (qd (dk0 hv.1 rfl) hv.2)) (qg (qa rfl)))) (a3 (i:=4) rfl),kk (H1.length+7) _ (.inr (qi _ _)) (qe (qd (ql (qd (dk0 hv.1 rfl) hv.2)) (qg (qa rfl)))) (qe (qd (ql (qd (dk0 hv.1 rfl) hv.2)) (qg (qa rfl)))) (a3 (i:=5) rfl),kk (H1.length+8) _ (.inr (qi _ _)) (qe (qd (ql (qd (dk0 hv.1 rfl) hv.2)) (qg (qa rfl)))) (qe (qd (ql (qd (dk0 hv.1 rfl) hv.2)) (qg (qa rfl)))) (a3 (i:=6) rfl),kk (H1.length+9) _ (.inr (qi _ _)) (qe (qd (ql (qd (dk0 hv.1 rfl) hv.2)) (qg (qa rfl)))) (qe (qd (ql (qd (dk0 hv.1 rfl) hv.2)) (qg (qa rfl)))) (a3 (i:=7) rfl)⟩
  ·exact ⟨kk (H1.length+10) _ (.inr (qi _ _)) (qe (qd (ql (qd (dk0 hv.1 rfl) hv.2)) (qg (qa rfl)))) (qe (qd (ql (qd (dk0 hv.1 rfl) hv.2)) (qg (qa rfl)))) (a3 (i:=8) rfl),kk (H1.length+11) _ (.inr (qi _ _)) (qe (qd (ql (qd (dk0 hv.1 rfl) hv.2)) (qg (qa rfl)))) (qe (qd (ql (qd (dk0 hv.1 rfl) hv.2)) (qg (qa rfl)))) (a3 (i:=9) rfl),kk (H1.length+12) _ (.inr (qi _ _)) (qe (qd (ql (qd (dk0 hv.1 rfl) hv.2)) (qg (qa rfl)))) (qe (qd (ql (qd (dk0 hv.1 rfl) hv.2)) (qg (qa rfl)))) (a3 (i:=10) rfl),kk (H1.length+13) _ (.inr (qi _ _)) (qe (qd (ql (qd (dk0 hv.1 rfl) hv.2)) (qg (qa rfl)))) (qe (qd (ql (qd (dk0 hv.1 rfl) hv.2)) (qg (qa rfl)))) (a3 (i:=11) rfl)⟩
 refine jx (kX (dk0 hk rfl) (by decide) x3 fun H4 r hr x4 k4=>?_);have hvw:=av.wd;have kw:∀{i:Nat} {o:AO},6<=i/\i<H1.length->H3[i]? =some o->H4[i]? =some o:=fun h e=>k4.kp _ _ e (qe (qc (qa rfl) h.1)) (qe (qc (qa rfl) h.1));have ld4:Ld V W H4 false []:=⟨kw av.wd ld3.wd,kw av.ro ld3.ro,kw av.me ld3.me,fun i hi=>kw (av.rw i hi) (ld3.rw i hi),fun i hi es he=>kw (av.mt i hi es he) (ld3.mt i hi es he),kw av.tx ld3.tx,kw av.cl ld3.cl⟩;have skip:=rest H4 W ld4 av wo x4 (fun i o o_ a b h=>k4.kp i o h a b) k4.len;by_cases e5:r=5
 ·refine (?_:(match ((r:Int)==5) with
   |true=>_
   |false=>_))
  refine rz (show ((r:Int)==5)=true from (by subst e5;rfl)) (jX (b:=.str 136) (v:=.ref V.me) ld4.wd rfl rfl (jo (v:=mAV V W 3) ld4.me ⟨by decide,by decide⟩ rfl ?_));rcases hes:W.metas 3 with _|es
  ·have e:mAV V W 3=.nil:=by unfold mAV;exact rz hes rfl
   exact rz e (skip)
  ·have e:mAV V W 3=.ref (V.mt 3):=by unfold mAV;exact rz hes rfl
   refine rz e (qr (qa rfl) (jX (b:=.str 136) (v:=.ref V.me) ld4.wd rfl rfl (jo (v:=mAV V W 3) ld4.me ⟨by decide,by decide⟩ rfl (rz e ?_))));have l8:=ad.l es hes;refine zq (ld4.mt 3 (by decide) es hes) (jI _ _) (by rw [qF];lia) ?_;have hm3:=av.mt 3 (by decide) es hes;exact rest _ (W.pat es) (yy13 ld4 ad hes) (yx13 av hes) (yz13 wo ad hes) (x4.setD (qf (qc (qa rfl) hm3.1)) (qf (qc (qa rfl) hm3.1))) (fun i o h a b e=>je (k4.kp i o e a b) (by lia)) (by exact rz qy k4.len)
 ·refine (?_:(match ((r:Int)==5) with
   |true=>_
   |false=>_))
  have g2:((r:Int)==5)=false:=by simp;lia
  refine rz g2 (rz (show nI (r:Int) (AV.int 5)=false from g2) ?_);exact skip
theorem yR15 (sa sl) (h1:∀v∈sl,∃i,v=AV.int i) (h2:sl.length<=63):wpS (pg sa sl) (Call (pg sa sl) 300) yL4 (jw fun a H=>a=.bool true/\∃l,H[0]? =some (.tab l)) (fun o_=>False) ⟨[.tab []],[(155,.top sa)]⟩:=by
 exact rz (Eq.symm yV7) (yW15 (X:=fun o_=>False) (by decide) h1 h2 fun H' h=>⟨rfl,h⟩)
theorem fin2:PySem.Challenge.rw_pc0186_02.Holds:=fin_ yR15
end
end Mine
theorem PySem.Challenge.cw_pc0186_02_holds : PySem.Challenge.rw_pc0186_02.Holds :=
  Mine.fin2
