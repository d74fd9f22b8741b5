import PyProof.Rows.All
import Wide.All
import OpenK.AllK
import Wide.FinOn
import HandS.ForMost
import HandS.TupAny
import HandS.Deep
import HandS.IsInst
import HandS.FStr
import HandS.Wide
import HandS.Flow
import HandS.Defaults
import HandS.Style
import HandS.Head2
import HandS.NestedK
import HandS.TupLe
import HandS.SetKeys
import HandS.SetBool
import HandS.EndTab
import KE.KDictPairs
import HandS.Strs
import KE.KIndexWalk
import HandS.CallLocal
import HandS.ExcIs
import HandS.Rev
import HandS.MakeKwOnly
import HandS.TupMul
import HandS.Conv
import HandS.Zip
import KE.GoesEnumKw
import HandS.TupSets
import KE.GoesSet
import KE.SortKeyHeap
import HandS.SortKw
import HandS.ExcField
import HandS.ExcInitHot
import KE.GoesRaise
import HandS.ExcBuiltin
import HandS.OwnEq
import HandS.SlotsOwn
import HandS.DictEq
import PySem.Challenge.RW_sentnames_k22_books_as_texts
set_option maxRecDepth 100000
set_option maxHeartbeats 4000000
noncomputable section
set_option Elab.async false
set_option linter.all false
namespace LW.Q
def AF:=@List.mem_cons_of_mem
def AG:=@List.mem_cons_self
def AH:=@List.length_append
def AI:=@List.length_cons
def AJ:=@List.length_map
def AK:=@decide_eq_true
def AL:=@PySem.W.mg_of
def AM:=@List.not_mem_nil
def AN:=@of_decide_eq_true
def AO:=@List.map_cons
def AQ:=@List.mem_cons
def AR:=@List.mem_singleton
def AS:=@List.getElem?_eq_some_iff
def AU:=@Array.length_toList
def AV:=@List.getElem?_append_left
def AW:=@decide_eq_false
def AX:=@List.length_singleton
def AY:=@List.mem_map
def AZ:=@beq_eq_false_iff_ne
def Ag:=@Nat.le_trans
def Ah:=@List.length_nil
def Ai:=@Nat.le_refl
def Aj:=@List.getElem?_eq_getElem
def Ak:=@beq_self_eq_true
def Al:=@List.append_assoc
def Am:=@List.map_map
def An:=@if_pos
def Ao:=@Bool.and_eq_true
def Ap:=@List.mem_append
def Aq:=@if_neg
def Ar:=@PySem.F.called_set
def As:=@PySem.W.mg_none_of
def Au:=@List.nodup_cons
def Av:=@List.mem_of_getElem?
def Aw:=@List.map_append
def Ax:=@List.filterMap_cons_some
def Ay:=@decide_eq_true_eq
def Az:=@Option.map_eq_some_iff
def A1:=@Nat.ne_of_lt
def A2:=@List.getElem?_set_ne
def A3:=@List.append_nil
def A4:=@List.all_eq_true
def A5:=@List.getElem?_set_self
def A6:=@List.getElem?_map
def A7:=@List.size_toArray
def A8:=@List.length_eq_zero_iff
def A9:=@congrArg
def BA:=@Nat.lt_of_lt_of_le
def BB:=@List.length_set
def BC:=@List.filterMap_cons_none
def BD:=@List.map_congr_left
def BE:=@Array.getElem?_toList
def BF:=@List.getElem?_eq_none
def BH:=@List.flatMap_cons
def BI:=@Bool.false_eq_true
def BJ:=@Bool.or_eq_true
def BK:=@List.drop_eq_getElem_cons
def BL:=@List.mem_map_of_mem
def BM:=@Nat.zero_le
def BP:=@List.mem_append_right
def BQ:=@List.getElem?_append_right
def BR:=@or_false
def BS:=@List.pairwise_cons
def BU:=@Array.eq_empty_of_size_eq_zero
def BV:=@Nat.lt_succ_of_lt
def BW:=@Int.eq_ofNat_of_zero_le
def BX:=@List.nil_append
def BY:=@PyProof.Rows.F.plain_set_update_loop
def BZ:=@Bool.not_true
def Ba:=@List.length_drop
def Bb:=@List.mem_range
def Bc:=@beq_iff_eq
def Be:=@List.mem_append_left
def Bf:=@List.length_range
def Bg:=@PyProof.Rows.slot_tuple_getitem
def Bh:=@List.drop_length
def Bj:=@Nat.lt_succ_self
def Bk:=@List.lookup_cons
def Bl:=@Int.mul_le_mul_of_nonneg_right
def Bm:=@Nat.lt_of_le_of_lt
def Bp:=@Nat.not_lt_zero
def Bq:=@Bool.eq_iff_iff
def Br:=@List.nodup_append
def Bs:=@Array.getD_eq_getD_getElem?
def Bt:=@List.Perm.refl
def Bu:=@Array.size_map
def Bv:=@PyProof.Rows.F.entry_set_update_loop
def Bw:=@List.idxOf_lt_length_iff
def Bx:=@Int.emod_lt_of_pos
def By:=@List.getElem?_cons_succ
def Bz:=@List.ext_getElem?
def B3:=@List.nodup_nil
def B4:=@Nat.ne_of_gt
def B5:=@List.find?_cons_of_pos
def B7:=@List.find?_cons_of_neg
def B9:=@Nat.lt_of_succ_lt_succ
def CA:=@Bool.not_false
def CB:=@List.map_nil
def CC:=@List.mem_iff_getElem?
def CD:=@List.any_eq_true
def CF:=@List.cons_append
def CG:=@List.sum_cons
def CH:=@Int.mul_le_mul_of_nonneg_left
def CI:=@Bool.or_eq_false_iff
def CJ:=@Int.emod_nonneg
def CK:=@List.length_reverse
def CL:=@Nat.zero_add
def CM:=@NdefX.upd_none
def CN:=@List.filterMap_map
def CO:=@List.perm_append_singleton
def CP:=@List.map_filterMap
def CQ:=@PySem.F.called_str
def CS:=@List.getElem?_eq_none_iff
def CT:=@Array.isEmpty_iff
def CU:=@List.map_id
def CV:=@Array.getElem?_replicate
def CW:=@List.length_take
def CY:=@Nat.le_add_right
def CZ:=@if_false
def Ca:=@SlX.run_at
def Cc:=@List.find?_cons
def Cd:=@List.range_succ
def Ce:=@PySem.boot_len
def Cf:=@Bool.false_and
end LW.Q
open LW.Q
namespace LW.Q
theorem AA {p:Prop} (h:p:=by omega):p:=h
theorem AB {p:Prop} (h:p:=by decide):p:=h
theorem AC {p:Prop} (h:p:=by decide+kernel):p:=h
theorem AD {p:Prop} (h:p:=by simp):p:=h
theorem AE {p:Prop} (h:p:=by rfl):p:=h
end LW.Q
open LW.Q
namespace Mir
open PySem PySem.W PySem.Calls PyProof.Rows HandSHeadRun
def jC (as:List Addr) (s:SharedT):List (Option Obj):=as.map (getT s)
theorem dR {K:Params->Frag} {as:List Addr} {e:∀P,as=(K P).map (·.1)} (s:SharedT):jC as s=(kHook K as e).obs s.abs:=BD λa _=>getT_eq s a
theorem dU {r:OpenRow} {q:Program} {K:Params->Frag} {as:List Addr} {e:∀P,as=(K P).map (·.1)} {M:Nat} {loose:List PySem.Str} {d:DefRec} {kwd:List (PySem.Str×PySem.Expr)} {H:Hook} (hH:H=kHook K as e)
 (e1:opening r.prog=plainProg r.prog.main.scope.names) (f:∀s,fenceModules? r.prog s=some s) (run:∀w,RunEq r q (kHook K as e) (jC as) M loose w)
 (hdef:defOf q r.name=some (d,kwd)) (hp:r.prog.theDef r.name=some (d.params,d.body,d.scope)) (hk:kwWritten? d.params.kwonlyargs d.params.kw_defaults=some kwd)
 (hwr:(!r.writes||r.records.isEmpty)=true) (k1:r.wellSaid=true) (ok:(chainsOk q && opensWell r.prog && (frees r.toRowW && r.within.isEmpty))=true) (hb:r.prog.bare) (hw:r.toRowW.promised)
 (call:WalkO q loose (XL q []) (kHook K as e).says r.toRowW d kwd λf vs=>PySem.call f vs):r.Holds:=
 head_any (H:=kHook K as e) (ob:=jC as) dR e1 f run hdef hp hk hwr k1 ok hb hw call
def P0:Params:={strHash:=λ_=>0,shareClass:=λ_=>0,mergeTok:=id,idOf:=λ_=>0,idOfShared:=λ_ _=>0,followText:=λ_=>false,idOfImm:=λ_=>0}
end Mir
namespace LW
abbrev hdR:PySem.W.OpenRow:=PySem.W.OpenLaw.row PySem.Challenge.rw_sentnames_k22_books_as_texts
abbrev hdQ:PySem.Program:=PySem.W.view hdR.prog [68]
def oU:List PySem.Str:=["_wall","SentError","NoName","NoTerm","NoText","NoCall","Crowded","is_whole","LETTERS","CAPITALS","FIGURES","MOST_LETTERS","MOST_FIGURES","FRESH","are_signs","are_letters","is_number_text","is_name","is_definition_name","LISTS","BINDERS","MOST_MARKS","MARKS","is_mark","are_marks","are_parts","is_term","marks_of","standing","mark_word"]
def oV:List PySem.Str:=["stop_text","tick_text","send_text","hear_text","test_text","new_text","parts_texts","pick_text","beside_text","call_text","WRITERS","text_of","show_definition","MOST_PARAMETERS","GUARDS","inner_terms","calls_of","is_guarded","has_crowd","Book","RUNNING","words_of","is_binder_word","Reader","read_definition","_law_bag","_law_take","_law_body","_law_kept_row","_law_turned"]
def hdN:List PySem.Str:=oU++oV
open PySem PySem.W PyProof.Rows
set_option maxHeartbeats 0
section
local macro_rules|`(tactic|o_head $H)=>`(tactic|assumption)
theorem preK (h:hdR.Holds):hdR.Holds:=by
 k_head
end
def topAs:List Nat:=(LW.preK.heap_1 Mir.P0).map (·.1)
theorem topEq:∀P,topAs=(LW.preK.heap_1 P).map (·.1):=λ_=>by kernel_rfl
theorem PF (w:World):HandSHeadRun.RunEq hdR hdQ (kHook LW.preK.heap_1 topAs topEq) (Mir.jC topAs) 30000 hdN (w.withFollow "special-get-raises" false):=by
 intro os
 kernel_rfl
theorem Q5 (w:World):HandSHeadRun.RunEq hdR hdQ (kHook LW.preK.heap_1 topAs topEq) (Mir.jC topAs) 30000 hdN (w.withFollow "special-get-raises" true):=by
 intro os
 kernel_rfl
theorem lH (w:World):HandSHeadRun.RunEq hdR hdQ (kHook LW.preK.heap_1 topAs topEq) (Mir.jC topAs) 30000 hdN w:=PySem.W.byRow2 "special-get-raises" PF Q5 w
end LW
namespace Mir
open PySem L2
open NdefX (NF FnO)
inductive D where
 |non|bl (b:Bool)|int (i:Int)|str (x:Str)|tup (xs:List D)|lst (xs:List D)|frz (xs:List D)|hnd (k:Nat)|nam (x:Str)|clo (tag:Str) (d:D)|dct (ks:List Key) (ds:List D)|tpx (ds:List D)|ktp (ks:List Key)
inductive MO where
 |lst (xs:List D)
 |dic (kvs:List (Key×D))
 |fdc (kvs:List (Key×D))
 |ins (cls:Str) (fs:List (Str×D))
 |dtp (kvs:List (List Key×D))
 |dead
def MO.free:MO->Bool
 | .fdc _=>false
 | .dead=>false
 |_=>true
abbrev Mu:=List MO
structure Xc where
 cls:Str
 fs:List (Str×D)
inductive Rs (A:Type) where
 |bad
 |ok (a:A) (m:Mu)
 |exc (x:Xc) (m:Mu)
structure M (A:Type) where
 run:Mu->Rs A
def M.ret {A:Type} (a:A):M A:=⟨λm=> .ok a m⟩
def Rs.then {A B:Type} (r:Rs A) (f:A->M B):Rs B:=match r with
 | .bad=> .bad
 | .ok a m1=>(f a).run m1
 | .exc e m1=> .exc e m1
def M.bind {A B:Type} (x:M A) (f:A->M B):M B:=⟨λm=>(x.run m).then f⟩
def M.bad {A:Type}:M A:=⟨λ_=> .bad⟩
def M.exc {A:Type} (x:Xc):M A:=⟨λm=> .exc x m⟩
instance:Monad M where
 pure:=M.ret
 bind:=M.bind
theorem M.ext {A:Type} {x y:M A} (h:∀m,x.run m=y.run m):x=y:=by
 obtain⟨x⟩:=x;obtain⟨y⟩:=y;have e:x=y:=funext h;rw[e]
theorem Do {A B:Type} (x:M A) (f:A->M B) (m:Mu):(x>>=f).run m=(x.run m).then f:=rfl
@[simp] theorem Ft {A B:Type} (a:A) (f:A->M B):((pure a:M A)>>=f)=f a:=rfl
@[simp] theorem jD {A B:Type} (f:A->M B):((M.bad:M A)>>=f)=M.bad:=rfl
@[simp] theorem jE {A B:Type} (x:Xc) (f:A->M B):((M.exc x:M A)>>=f)=M.exc x:=rfl
@[simp] theorem D5 {A B C:Type} (x:M A) (f:A->M B) (g:B->M C):((x>>=f)>>=g)=(x>>=λa=>f a>>=g):=by
 refine M.ext λm=>?_;simp only[Do]
 cases x.run m<;>rfl
@[simp] theorem Dy {A:Type} (x:M A):(x>>=λa=>(pure a:M A))=x:=by
 refine M.ext λm=>?_;simp only[Do]
 cases x.run m<;>rfl
def M.opt {A:Type}:Option A->M A
 |some a=>pure a
 |none=>M.bad
def M.guard (b:Bool):M Unit:=if b then pure ()else M.bad
abbrev Env:=List (Option D)
structure Nm where
 nm:Str->Option V
 cl:Str->NF->Prop
 tb:List NdefX.NTab
 lx:Str->Option Expr
instance:CoeFun Nm (λ_=>Str->Option V):=⟨Nm.nm⟩
def rV (e:Option Expr) (N:NF) (doc pm ctv:Value):FuncData:=match e with
 |none=>N.fd doc pm ctv
 |some b=>PySem.W.kla_fn N.name N.qual N.params b N.scope N.cl pm (.ref N.c) ctv
def lI (e:Option Expr) (f:Addr) (N:NF):HO:= .ext λh=>∃(od:Option Addr) (sl:Array (Option Value)) (doc pm ctv:Value),h.get? f=some (⟨.type "function",od,.func (rV e N doc pm ctv),sl⟩:Obj)
def Vr (c:Addr) (o:Obj):HO:= .ext λh=>h.get? c=some o
def Sd (u:HO):Prop:=(∃c q,u=LamX.CodeO c q)∨(∃ps,u= .tbl ps)∨∃vs,u= .tup vs
theorem D6 {xs:List V}:¬Sd (.lst xs):=λz=>by
 rcases z with⟨c,q,z⟩|⟨ps,z⟩|⟨ps,z⟩
 ·unfold LamX.CodeO at z;cases z
 ·cases z
 ·cases z
theorem lJ {xs:List (Key×V)}:¬Sd (.dK xs):=λz=>by
 rcases z with⟨c,q,z⟩|⟨ps,z⟩|⟨ps,z⟩
 ·unfold LamX.CodeO at z;cases z
 ·cases z
 ·cases z
theorem dW {ob:Obj} {xs:List (Key×V)}:¬Sd (.frz ob (.dK xs)):=λz=>by
 rcases z with⟨c,q,z⟩|⟨ps,z⟩|⟨ps,z⟩
 ·unfold LamX.CodeO at z;cases z
 ·cases z
 ·cases z
theorem dX {C dx:Addr} {xs:List (Str×V)}:¬Sd (.ins C dx xs):=λz=>by
 rcases z with⟨c,q,z⟩|⟨ps,z⟩|⟨ps,z⟩
 ·unfold LamX.CodeO at z;cases z
 ·cases z
 ·cases z
theorem lK {xs:List (List Key×V)}:¬Sd (.dT xs):=λz=>by
 rcases z with⟨c,q,z⟩|⟨ps,z⟩|⟨ps,z⟩
 ·unfold LamX.CodeO at z;cases z
 ·cases z
 ·cases z
theorem dY {ps:Array Value}:Sd (.tbl ps):= .inr (.inl ⟨ps,rfl⟩)
theorem PH {T:List NdefX.NTab} {H:Hp} {p:Addr} {o:HO} (t:NdefX.TabsN T H) (n:∀u,H p=some u->¬Sd u):NdefX.TabsN T (upd H p o):=λq hq=>by
 obtain⟨ps,h1,h2,h3⟩:=t q hq;refine⟨ps,?_,h2,λpos cv hc=>?_⟩
 ·rw[upd_ne (λz=>n _ (by rw[←z];exact h1) dY)];exact h1
 ·obtain⟨c,e1,e2⟩:=h3 pos cv hc;refine⟨c,e1,?_⟩;rw[upd_ne (λz=>n _ (by rw[←z];exact e2) (.inl ⟨_,_,rfl⟩))];exact e2
structure Wd where
 al:List Addr
 G:Hp
mutual
inductive Rp (K:PySem.W.Frag) (F:Nm) (W:Wd):V->D->Prop
 |non:Rp K F W .non .non
 |bl (b:Bool):Rp K F W (.bl b) (.bl b)
 |int (i:Int):Rp K F W (.int i) (.int i)
 |str (x:Str):Rp K F W (.str x) (.str x)
 |lst {a:Addr} {xs:List V} {ds:List D}:W.G a=some (.lst xs)->Rps K F W xs ds->Rp K F W (.ref a) (.lst ds)
 |frz {a:Addr} {xs:List V} {ds:List D}:SqL K W.G a xs->Rps K F W xs ds->Rp K F W (.ref a) (.frz ds)
 |tup {a:Addr} {xs:List V} {ds:List D}:SqT K W.G a xs->Rps K F W xs ds->Rp K F W (.ref a) (.tup ds)
 |hnd {a:Addr} {k:Nat}:W.al[k]? =some a->Rp K F W (.ref a) (.hnd k)
 |nam {v:V} {x:Str}:F x=some v->Rp K F W v (.nam x)
 |clo {f c:Addr} {tag y:Str} {N:NF} {o:Obj} {u:Value} {v:V} {d:D}:F.cl tag N->N.cl=[(y,c)]->W.G f=some (lI (F.lx tag) f N)->W.G N.c=some (LamX.CodeO N.c N.qual)->W.G c=some (Vr c o)->o.data= .cell (some u)->RelV v u->Rp K F W v d->Rp K F W (.ref f) (.clo tag d)
 |clo0 {f:Addr} {tag:Str} {N:NF}:F.cl tag N->N.cl=[]->W.G f=some (lI (F.lx tag) f N)->W.G N.c=some (LamX.CodeO N.c N.qual)->Rp K F W (.ref f) (.clo tag .non)
 |dct {a:Addr} {us:List (Key×V)} {ks:List Key} {ds:List D}:W.G a=some (.dK us)->us.map (·.1)=ks->Rps K F W (us.map (·.2)) ds->Rp K F W (.ref a) (.dct ks ds)
 |tpx {a:Addr} {o:Obj} {xs:List V} {ds:List D}:W.G a=some (.frz o (.tup xs))->o.cls= .type "tuple"->o.dict=none->Rps K F W xs ds->Rp K F W (.ref a) (.tpx ds)
 |ktp {a:Addr} {ks:List Key}:W.G a=some (.tup (ks.map kV))->Rp K F W (.ref a) (.ktp ks)
inductive Rps (K:PySem.W.Frag) (F:Nm) (W:Wd):List V->List D->Prop
 |nil:Rps K F W [] []
 |cons {v:V} {vs:List V} {d:D} {ds:List D}:Rp K F W v d->Rps K F W vs ds->Rps K F W (v::vs) (d::ds)
end
def ObR (K:PySem.W.Frag) (F:Nm) (W:Wd) (H:Hp) (a:Addr):MO->Prop
 | .lst ds=>∃vs,H a=some (.lst vs)∧Rps K F W vs ds
 | .dic kvs=>∃us:List (Key×V),H a=some (.dK us)∧us.map (·.1)=kvs.map (·.1)∧Rps K F W (us.map (·.2)) (kvs.map (·.2))
 | .fdc kvs=>∃(us:List (Key×V)) (ob:Obj),H a=some (.frz ob (.dK us))∧W.G a=some (.frz ob (.dK us))∧us.map (·.1)=kvs.map (·.1)∧Rps K F W (us.map (·.2)) (kvs.map (·.2))
 | .dead=>∃us:List V,H a=some (.lst us)∧W.G a=some (.lst us)
 | .dtp kvs=>∃us:List (List Key×V),H a=some (.dT us)∧us.map (·.1)=kvs.map (·.1)∧Rps K F W (us.map (·.2)) (kvs.map (·.2))
 | .ins cls fs=>∃(us:List (Str×V)) (C dx:Addr),H a=some (.ins C dx us)∧F cls=some (.ref C)∧us.map (·.1)=fs.map (·.1)∧Rps K F W (us.map (·.2)) (fs.map (·.2))
structure Ok (K:PySem.W.Frag) (F:Nm) (W:Wd) (m:Mu) (H:Hp):Prop where
 gh:∀a o,W.G a=some o->H a=some o
 nd:W.al.Nodup
 gn:∀(i:Nat) (a:Addr) (o:MO),W.al[i]? =some a->m[i]? =some o->o.free=true->W.G a=none
 len:W.al.length=m.length
 ob:∀(k:Nat) (a:Addr) (o:MO),W.al[k]? =some a->m[k]? =some o->ObR K F W H a o
 nt:∀a u,W.G a=some u->∀ps,u≠ .tbl ps
 tb:NdefX.TabsN F.tb H
structure Ext (W:Wd) (H:Hp) (W' :Wd) (H' :Hp):Prop where
 al:∃r,W'.al=W.al++r
 ex:∀a o,W.G a=some o->W'.G a=some o
 kp:∀a o,H a=some o->a∉W.al->(∀ps,o≠ .tbl ps)->H' a=some o
 na:∀a,a∈W'.al->a∈W.al∨H a=none
 ng:∀a o,W'.G a=some o->W.G a=some o∨H a=none∨a∈W.al∨∃u,H a=some u∧Sd u
 un:∀a,H' a=none->H a=none
structure WX (W W' :Wd):Prop where
 al:∃r,W'.al=W.al++r
 ex:∀a o,W.G a=some o->W'.G a=some o
theorem Ext.wx {W W' :Wd} {H H' :Hp} (x:Ext W H W' H'):WX W W' :=⟨x.al,x.ex⟩
theorem WX.trans {W W1 W2:Wd} (x:WX W W1) (y:WX W1 W2):WX W W2:=⟨by
 obtain⟨r,e⟩:=x.al;obtain⟨t,e2⟩:=y.al;exact⟨r++t,by rw[e2,e,Al]⟩,λa o h=>y.ex a o (x.ex a o h)⟩
theorem WX.refl (W:Wd):WX W W:=⟨⟨[],AD⟩,λ_ _ h=>h⟩
theorem Ext.refl (W:Wd) (H:Hp):Ext W H W H:=⟨⟨[],AD⟩,λ_ _ h=>h,λ_ _ h _ _=>h,λ_ h=> .inl h,λ_ _ h=> .inl h,λ_ h=>h⟩
theorem Ext.trans {W W1 W2:Wd} {H H1 H2:Hp} (x:Ext W H W1 H1) (y:Ext W1 H1 W2 H2):Ext W H W2 H2:=by
 have h1:∀a,a∈W.al->a∈W1.al:=λa h=>by
  obtain⟨r,e⟩:=x.al;rw[e];exact Be _ h
 have h2:∀a o,H a=some o->a∉W.al->a∉W1.al:=λa o h n q=>by
  rcases x.na a q with z|z
  ·exact n z
  ·rw[h]at z
   cases z
 refine⟨?_,λa o h=>y.ex a o (x.ex a o h),λa o h n nt=>y.kp a o (x.kp a o h n nt) (h2 a o h n) nt,λa h=>?_,λa o h=>?_,λa h=>x.un a (y.un a h)⟩
 ·obtain⟨r,e⟩:=x.al;obtain⟨t,e2⟩:=y.al;exact⟨r++t,by rw[e2,e,Al]⟩
 ·rcases y.na a h with z|z
  ·exact x.na a z
  ·exact .inr (x.un a z)
 ·rcases y.ng a o h with z|z|z|⟨u,z,sd⟩
  ·exact x.ng a o z
  ·exact .inr (.inl (x.un a z))
  ·rcases x.na a z with q|q
   ·exact .inr (.inr (.inl q))
   ·exact .inr (.inl q)
  ·by_cases q:a∈W.al
   ·exact .inr (.inr (.inl q))
   ·cases e:H a with
    |none=>exact .inr (.inl rfl)
    |some u0=>
     by_cases t:∃ps,u0= .tbl ps
     ·exact .inr (.inr (.inr ⟨u0,rfl,.inr (.inl t)⟩))
     ·have e2:=x.kp a u0 e q (λps c=>t ⟨ps,c⟩);rw[z]at e2
      cases e2
      exact .inr (.inr (.inr ⟨u,rfl,sd⟩))
section
variable {K:PySem.W.Frag} {F:Nm} {W W' :Wd} {H H' :Hp}
theorem SS {G G' :Hp} {a:Addr} {u:HO} (e:∀a o,G a=some o->G' a=some o) (h:Rd G a u):Rd G' a u:=by
 rcases h with h|⟨o,h⟩
 ·exact Or.inl (e a _ h)
 ·exact Or.inr ⟨o,e a _ h⟩
theorem SU {G G' :Hp} {a:Addr} {xs:List V} (e:∀a o,G a=some o->G' a=some o) (h:SqL K G a xs):SqL K G' a xs:=by
 rcases h with h|h
 ·exact Or.inl (SS e h)
 ·exact Or.inr h
theorem MQ {G G' :Hp} {a:Addr} {xs:List V} (e:∀a o,G a=some o->G' a=some o) (h:SqT K G a xs):SqT K G' a xs:=by
 rcases h with h|h
 ·exact Or.inl (SS e h)
 ·exact Or.inr h
mutual
theorem Rp.mono' (ea:∃r,W'.al=W.al++r) (e:∀a o,W.G a=some o->W'.G a=some o):∀{v:V} {d:D},Rp K F W v d->Rp K F W' v d
 |_,_,.non=> .non
 |_,_,.bl b=> .bl b
 |_,_,.int i=> .int i
 |_,_,.str x=> .str x
 |_,_,.lst h r=> .lst (e _ _ h) (Rps.mono' ea e r)
 |_,_,.frz h r=> .frz (SU e h) (Rps.mono' ea e r)
 |_,_,.tup h r=> .tup (MQ e h) (Rps.mono' ea e r)
 |_,_,.hnd h=> .hnd (by
  obtain⟨r,q⟩:=ea;rw[q,AV (AS.mp h).1];exact h)
 |_,_,.nam h=> .nam h
 |_,_,.clo h1 h2 h3 h3c h4 h5 h6 r=> .clo h1 h2 (e _ _ h3) (e _ _ h3c) (e _ _ h4) h5 h6 (Rp.mono' ea e r)
 |_,_,.clo0 h1 h2 h3 h3c=> .clo0 h1 h2 (e _ _ h3) (e _ _ h3c)
 |_,_,.dct h1 h2 r=> .dct (e _ _ h1) h2 (Rps.mono' ea e r)
 |_,_,.tpx h1 h2 h3 r=> .tpx (e _ _ h1) h2 h3 (Rps.mono' ea e r)
 |_,_,.ktp h=> .ktp (e _ _ h)
theorem Rps.mono' (ea:∃r,W'.al=W.al++r) (e:∀a o,W.G a=some o->W'.G a=some o):∀{vs:List V} {ds:List D},Rps K F W vs ds->Rps K F W' vs ds
 |_,_,.nil=> .nil
 |_,_,.cons h r=> .cons (Rp.mono' ea e h) (Rps.mono' ea e r)
end
theorem Rp.mono {v:V} {d:D} (x:Ext W H W' H') (h:Rp K F W v d):Rp K F W' v d:=Rp.mono' x.al x.ex h
theorem Rps.mono {vs:List V} {ds:List D} (x:Ext W H W' H') (h:Rps K F W vs ds):Rps K F W' vs ds:=Rps.mono' x.al x.ex h
theorem Rps.length:∀{vs:List V} {ds:List D},Rps K F W vs ds->vs.length=ds.length
 |_,_,.nil=>rfl
 |_,_,.cons _ r=>A9 (·+1) (Rps.length r)
theorem Rps.append:∀{vs ws:List V} {ds es:List D},Rps K F W vs ds->Rps K F W ws es->Rps K F W (vs++ws) (ds++es)
 |_,_,_,_,.nil,s=>s
 |_,_,_,_,.cons h r,s=> .cons h (Rps.append r s)
theorem Rps.get:∀{vs:List V} {ds:List D} {i:Nat} {d:D},Rps K F W vs ds->ds[i]? =some d->∃v,vs[i]? =some v∧Rp K F W v d
 |_,_,_,_,.nil,e=>by simp at e
 |_,_,0,_,.cons h _,e=>by simp at e;subst e;exact⟨_,rfl,h⟩
 |_,_,i+1,d,.cons _ r,e=>by
  obtain⟨v,h1,h2⟩:=Rps.get (i:=i) (d:=d) r (by simpa using e);exact⟨v,by simpa using h1,h2⟩
theorem Rps.take:∀{vs:List V} {ds:List D} (n:Nat),Rps K F W vs ds->Rps K F W (vs.take n) (ds.take n)
 |_,_,0,_=> .nil
 |_,_,_+1,.nil=> .nil
 |_,_,n+1,.cons h r=> .cons h (Rps.take n r)
theorem Rps.drop:∀{vs:List V} {ds:List D} (n:Nat),Rps K F W vs ds->Rps K F W (vs.drop n) (ds.drop n)
 |_,_,0,r=>r
 |_,_,_+1,.nil=> .nil
 |_,_,n+1,.cons _ r=>Rps.drop n r
theorem Rps.set {v:V} {d:D} (h:Rp K F W v d):∀{vs:List V} {ds:List D} (n:Nat),Rps K F W vs ds->Rps K F W (vs.set n v) (ds.set n d)
 |_,_,_,.nil=> .nil
 |_,_,0,.cons _ r=> .cons h r
 |_,_,n+1,.cons q r=> .cons q (Rps.set h n r)
theorem Rps.reverse:∀{vs:List V} {ds:List D},Rps K F W vs ds->Rps K F W vs.reverse ds.reverse
 |_,_,.nil=> .nil
 |_,_,.cons h r=>by
  rw[List.reverse_cons,List.reverse_cons];exact Rps.append (Rps.reverse r) (.cons h .nil)
def Wd.new (W:Wd) (p:Addr) (o:HO):Wd:={W with G:=upd W.G p o}
theorem Ok.gnone {m:Mu} {p:Addr} (k:Ok K F W m H) (h:H p=none):W.G p=none:=by
 cases e:W.G p with
 |none=>rfl
 |some o=>
  rw[k.gh p o e]at h
  cases h
theorem ObR.there {a:Addr} {o:MO} (h:ObR K F W H a o):∃u,H a=some u:=by
 cases o with
 |lst ds=>obtain⟨vs,e,_⟩:=h;exact⟨_,e⟩
 |dic kvs=>obtain⟨vs,e,_⟩:=h;exact⟨_,e⟩
 |dtp kvs=>obtain⟨vs,e,_⟩:=h;exact⟨_,e⟩
 |dead=>obtain⟨vs,e,_⟩:=h;exact⟨_,e⟩
 |fdc kvs=>obtain⟨vs,ob,e,_⟩:=h;exact⟨_,e⟩
 |ins c kvs=>obtain⟨vs,C,dx,e,_⟩:=h;exact⟨_,e⟩
theorem Ok.there {m:Mu} {a:Addr} (k:Ok K F W m H) (h:a∈W.al):∃u,H a=some u:=by
 obtain⟨i,e⟩:=CC.mp h;have hi:i<m.length:=by rw[←k.len];exact(AS.mp e).1
 exact(k.ob i a m[i] e (Aj hi)).there
theorem ObR.nsd {a:Addr} {o:MO} {u:HO} (h:ObR K F W H a o) (e:H a=some u):¬Sd u:=by
 cases o with
 |lst ds=>obtain⟨vs,e1,_⟩:=h;rw[e]at e1;cases e1;exact D6
 |dic kvs=>obtain⟨vs,e1,_⟩:=h;rw[e]at e1;cases e1;exact lJ
 |dtp kvs=>obtain⟨vs,e1,_⟩:=h;rw[e]at e1;cases e1;exact lK
 |dead=>obtain⟨vs,e1,_⟩:=h;rw[e]at e1;cases e1;exact D6
 |fdc kvs=>obtain⟨vs,ob,e1,_⟩:=h;rw[e]at e1;cases e1;exact dW
 |ins c kvs=>obtain⟨vs,C,dx,e1,_⟩:=h;rw[e]at e1;cases e1;exact dX
theorem Ok.nsd {m:Mu} {a:Addr} (k:Ok K F W m H) (h:a∈W.al) {u:HO} (e:H a=some u):¬Sd u:=by
 obtain⟨i,q⟩:=CC.mp h;have hi:i<m.length:=by rw[←k.len];exact(AS.mp q).1
 exact(k.ob i a m[i] q (Aj hi)).nsd e
theorem Ok.fresh {m:Mu} {p:Addr} (k:Ok K F W m H) (h:H p=none):p∉W.al:=λq=>by
 obtain⟨u,e⟩:=k.there q;rw[h]at e
 cases e
theorem Ext.new {m:Mu} {p:Addr} {o:HO} (k:Ok K F W m H) (h:H p=none):Ext W H (W.new p o) (upd H p o):=
 ⟨⟨[],by simp[Wd.new]⟩,λa u e=>(upd_ne (ne_of_none e (k.gnone h))).trans e,λa u e _ _=>(upd_ne (ne_of_none e h)).trans e,λa q=> .inl q,λa u e=>by
  by_cases hp:a=p
  ·subst hp;exact .inr (.inl h)
  ·exact .inl ((upd_ne hp).symm.trans e),λa e=>CM e⟩
theorem ObR.mono {a:Addr} {o:MO} (x:Ext W H W' H') (h:ObR K F W H a o) (e:H' a=H a):ObR K F W' H' a o:=by
 cases o with
 |lst ds=>obtain⟨vs,e1,r⟩:=h;exact⟨vs,e.trans e1,r.mono x⟩
 |dic kvs=>obtain⟨vs,e1,q,r⟩:=h;exact⟨vs,e.trans e1,q,r.mono x⟩
 |dtp kvs=>obtain⟨vs,e1,q,r⟩:=h;exact⟨vs,e.trans e1,q,r.mono x⟩
 |dead=>obtain⟨vs,e1,e2⟩:=h;exact⟨vs,e.trans e1,x.ex _ _ e2⟩
 |fdc kvs=>obtain⟨vs,ob,e1,e2,q,r⟩:=h;exact⟨vs,ob,e.trans e1,x.ex _ _ e2,q,r.mono x⟩
 |ins c kvs=>obtain⟨vs,C,dx,e1,e2,q,r⟩:=h;exact⟨vs,C,dx,e.trans e1,e2,q,r.mono x⟩
theorem Ok.new {m:Mu} {p:Addr} {o:HO} (k:Ok K F W m H) (h:H p=none) (no:∀ps,o≠ .tbl ps:=by intro _ z;cases z):Ok K F (W.new p o) m (upd H p o):=by
 refine⟨λa u e=>?_,k.nd,λi0 a o0 q1 q2 fr=>?_,k.len,λi a u e1 e2=>?_,λa u e=>?_,k.tb.ext λb u e=>(upd_ne (ne_of_none e h)).trans e⟩
 ·by_cases hp:a=p
  ·subst hp;have e:upd W.G a o a=some u:=e;rw[upd_same]at e ⊢;exact e
  ·have e:upd W.G p o a=some u:=e;rw[upd_ne hp]at e ⊢;exact k.gh a u e
 ·have q:a∈W.al:=Av q1;have hp:a≠p:=λz=>k.fresh h (z▸q);show upd W.G p o a=none;rw[upd_ne hp];exact k.gn i0 a o0 q1 q2 fr
 ·have e1:W.al[i]? =some a:=e1;have hp:a≠p:=λz=>k.fresh h (z▸Av e1);exact(k.ob i a u e1 e2).mono (Ext.new k h) (upd_ne hp)
 ·by_cases hp:a=p
  ·subst hp;have e:upd W.G a o a=some u:=e;rw[upd_same]at e
   cases e
   exact no
  ·have e:upd W.G p o a=some u:=e;rw[upd_ne hp]at e;exact k.nt a u e
def Wd.more (W:Wd) (p:Addr):Wd:={W with al:=W.al++[p]}
theorem Ext.more {p:Addr} {o:HO} (h:H p=none):Ext W H (W.more p) (upd H p o):=
 ⟨⟨[p],rfl⟩,λa u e=>e,λa u e _ _=>(upd_ne (ne_of_none e h)).trans e,λa q=>by
  rcases Ap.mp q with z|z
  ·exact .inl z
  ·rw[AR.mp z];exact .inr h,λa u e=> .inl e,λa e=>CM e⟩
theorem Vs {m:Mu} {p:Addr} {v u:MO} {i:Nat} {a:Addr} (k:Ok K F W m H) (h:W.G p=none) (q1:(W.al++[p])[i]? =some a) (q2:(m++[v])[i]? =some u) (fr:u.free=true):W.G a=none:=by
 by_cases hi:i<W.al.length
 ·rw[AV hi]at q1;rw[AV (by rw[←k.len];exact hi)]at q2;exact k.gn i a u q1 q2 fr
 ·rw[BQ (Nat.le_of_not_lt hi)]at q1;have:a=p:=by
   have:=Av q1;exact AR.mp this
  rw[this];exact h
theorem Y3 {m:Mu} {p:Addr} {v u:MO} {i:Nat} {a:Addr} (k:Ok K F W m H) (h:H p=none) (q1:(W.al++[p])[i]? =some a) (q2:(m++[v])[i]? =some u) (fr:u.free=true):W.G a=none:=Vs k (k.gnone h) q1 q2 fr
theorem Ok.more {m:Mu} {p:Addr} {o:HO} {u:MO} (k:Ok K F W m H) (h:H p=none) (q:ObR K F (W.more p) (upd H p o) p u):Ok K F (W.more p) (m++[u]) (upd H p o):=by
 refine⟨λa u e=>?_,?_,λi0 a o0 q1 q2 fr=>Y3 (W:=W) (p:=p) k h q1 q2 fr,?_,λi a v e1 e2=>?_,k.nt,k.tb.ext λb u e=>(upd_ne (ne_of_none e h)).trans e⟩
 ·have e:W.G a=some u:=e;exact(upd_ne (ne_of_none (k.gh a u e) h)).trans (k.gh a u e)
 ·show(W.al++[p]).Nodup;rw[Br];exact⟨k.nd,AD,λa ha b hb=>by rw[AR.mp hb];exact λz=>k.fresh h (z▸ha)⟩
 ·show(W.al++[p]).length=_;rw[AH,AH,k.len];rfl
 ·have e1:(W.al++[p])[i]? =some a:=e1;by_cases hi:i<W.al.length
  ·rw[AV hi]at e1;rw[AV (by rw[←k.len];exact hi)]at e2;have hp:a≠p:=λz=>k.fresh h (z▸Av e1);exact(k.ob i a v e1 e2).mono (Ext.more h) (upd_ne hp)
  ·have h0:W.al.length≤i:=Nat.le_of_not_lt hi;rw[BQ h0]at e1;rw[BQ (by rw[←k.len];exact h0)]at e2;rw[←k.len]at e2;have hz:i - W.al.length=0:=by
    have:=(AS.mp e1).1;simp at this;omega
   rw[hz]at e1 e2;simp at e1 e2;subst e1 e2;exact q
theorem Ext.write {k:Nat} {p:Addr} {o:HO} (h:W.al[k]? =some p):Ext W H W (upd H p o):=
 ⟨⟨[],AD⟩,λa u e=>e,λa u e n _=>(upd_ne λz=>n (by rw[z];exact Av h)).trans e,λa q=> .inl q,λa u e=> .inl e,λa e=>CM e⟩
theorem Ok.write {m:Mu} {k:Nat} {p:Addr} {o:HO} {u:MO} (c:Ok K F W m H) (h:W.al[k]? =some p) (q:ObR K F W (upd H p o) p u) (fr:∃v,m[k]? =some v∧v.free=true:=by exact⟨_,by assumption,rfl⟩):Ok K F W (m.set k u) (upd H p o):=by
 obtain⟨v0,fr1,fr2⟩:=fr;have gp:W.G p=none:=c.gn k p v0 h fr1 fr2;refine⟨λa v e=>?_,c.nd,λi a v e1 e2 fr=>?_,by rw[BB];exact c.len,λi a v e1 e2=>?_,c.nt,PH c.tb λu e=>c.nsd (Av h) e⟩
 ·have hp:a≠p:=λz=>by
   rw[z,gp]at e
   cases e
  rw[upd_ne hp];exact c.gh a v e
 ·by_cases hi:k=i
  ·subst hi;rw[h]at e1
   cases e1
   exact gp
  ·rw[A2 hi]at e2;exact c.gn i a v e1 e2 fr
 ·by_cases hi:k=i
  ·subst hi;rw[h]at e1
   cases e1
   rw[A5 (by rw[←c.len];exact(AS.mp h).1)]at e2
   cases e2
   exact q
  ·rw[A2 hi]at e2;have hp:a≠p:=λz=>by
    subst z;have h1:=(AS.mp e1);have h2:=(AS.mp h);exact hi ((List.getElem_inj c.nd).mp (h2.2.trans h1.2.symm))
   exact(c.ob i a v e1 e2).mono (Ext.write h) (upd_ne hp)
end
def XR (K:PySem.W.Frag) (F:Nm) (W:Wd) (H:Hp) (x:Xc) (c:Value) (dd:Option Addr):Prop:=
 ∃C,F x.cls=some (.ref C)∧c= .ref C∧
  match dd with
  |none=>x.fs=[]
  |some d=>x.fs≠[]∧∃fv,H d=some (.xd fv)∧fv.map (·.1)=x.fs.map (·.1)∧Rps K F W (fv.map (·.2)) (x.fs.map (·.2))
def PoR {A:Type} (K:PySem.W.Frag) (F:Nm) (r:Rs A) (W:Wd) (H:Hp) (Q:Wd->Hp->Mu->A->Prop) (E:XK):Prop:=match r with
 | .bad=>False
 | .ok a m'=>∀W' H',Ext W H W' H'->Ok K F W' m' H'->Q W' H' m' a
 | .exc x m'=>∀W' H' c dd,Ext W H W' H'->Ok K F W' m' H'->XR K F W' H' x c dd->E c dd H'
def DP (K:PySem.W.Frag) (F:Nm) (r:Rs D) (W:Wd) (H:Hp) (Q:VK) (E:XK):Prop:=PoR K F r W H (λW' H' _ d=>∀v,Rp K F W' v d->Q v H') E
def lL (K:PySem.W.Frag) (F:Nm) (r:Rs (List D)) (W:Wd) (H:Hp) (Q:List V->Hp->Prop) (E:XK):Prop:=PoR K F r W H (λW' H' _ ds=>∀vs,Rps K F W' vs ds->Q vs H') E
def lM (K:PySem.W.Frag) (F:Nm) (r:Rs Bool) (W:Wd) (H:Hp) (Q:Bool->Hp->Prop) (E:XK):Prop:=PoR K F r W H (λ_ H' _ b=>Q b H') E
structure Sl (K:PySem.W.Frag) (F:Nm) (W:Wd) (ρ:Env) (σ:L2.St):Prop where
 len:ρ.length=σ.length
 get:∀(i:Nat) (d:D),ρ[i]? =some (some d)->∃v,σ[i]? =some (some v)∧Rp K F W v d
theorem Sl.mono {K:PySem.W.Frag} {F:Nm} {W W' :Wd} {H H' :Hp} {ρ:Env} {σ:L2.St} (x:Ext W H W' H') (h:Sl K F W ρ σ):Sl K F W' ρ σ:=⟨h.len,λi d e=>by
 obtain⟨v,e1,r⟩:=h.get i d e;exact⟨v,e1,r.mono x⟩⟩
inductive Fl where
 |nx (ρ:Env)|rt (d:D)|bk (ρ:Env)|ct (ρ:Env)
def E8 (K:PySem.W.Frag) (F:Nm) (r:Rs Fl) (W:Wd) (H:Hp) (N:Ends) (E:XK):Prop:=PoR K F r W H (λW' H' _ f=>match f with
 | .nx ρ=>∀σ,Sl K F W' ρ σ->N.nx σ H'
 | .rt d=>∀v,Rp K F W' v d->N.rt v H'
 | .bk ρ=>∀σ,Sl K F W' ρ σ->N.bk σ H'
 | .ct ρ=>∀σ,Sl K F W' ρ σ->N.ct σ H') E
theorem PoR.mono {A:Type} {K:PySem.W.Frag} {F:Nm} {r:Rs A} {W W' :Wd} {H H' :Hp} {Q:Wd->Hp->Mu->A->Prop} {E:XK} (x:Ext W H W' H') (h:PoR K F r W H Q E):PoR K F r W' H' Q E:=by
 cases r with
 |bad=>exact h
 |ok a m=>exact λW2 H2 y=>h W2 H2 (x.trans y)
 |exc e m=>exact λW2 H2 c dd y=>h W2 H2 c dd (x.trans y)
theorem PoR.bind {A B:Type} {K:PySem.W.Frag} {F:Nm} {x:M A} {f:A->M B} {m:Mu} {W:Wd} {H:Hp} {Q:Wd->Hp->Mu->B->Prop} {E:XK} (h:PoR K F ((x>>=f).run m) W H Q E):
 PoR K F (x.run m) W H (λW' H' m' a=>PoR K F ((f a).run m') W' H' Q E) E:=by
 rw[Do]at h
 cases e:x.run m with
 |bad=>rw[e]at h;exact h
 |ok a m1=>rw[e]at h;exact λW' H' y _=>h.mono y
 |exc c m1=>rw[e]at h;exact h
theorem PoR.imp {A:Type} {K:PySem.W.Frag} {F:Nm} {r:Rs A} {W:Wd} {H:Hp} {Q Q' :Wd->Hp->Mu->A->Prop} {E:XK} (h:PoR K F r W H Q E) (f:∀W' H' m' a,r= .ok a m'->Ext W H W' H'->Ok K F W' m' H'->Q W' H' m' a->Q' W' H' m' a):PoR K F r W H Q' E:=by
 cases r with
 |bad=>exact h
 |ok a m=>exact λW2 H2 y k=>f W2 H2 m a rfl y k (h W2 H2 y k)
 |exc e m=>exact h
theorem PoR.ok {A:Type} {K:PySem.W.Frag} {F:Nm} {W:Wd} {H:Hp} {Q:Wd->Hp->Mu->A->Prop} {E:XK} {a:A} {m:Mu} (k:Ok K F W m H) (h:PoR K F (.ok a m) W H Q E):Q W H m a:=h W H (Ext.refl W H) k
theorem PoR.pure {A:Type} {K:PySem.W.Frag} {F:Nm} {W:Wd} {H:Hp} {Q:Wd->Hp->Mu->A->Prop} {E:XK} {a:A} {m:Mu} (k:Ok K F W m H) (h:PoR K F ((Pure.pure a:M A).run m) W H Q E):Q W H m a:=h W H (Ext.refl W H) k
def Ky (K:PySem.W.Frag) (F:Nm) (E:XK) (te:TE) (f:Env->M D):Prop:=∀ρ m W σ H,Sl K F W ρ σ->Ok K F W m H->∀Q,DP K F ((f ρ).run m) W H Q E->te σ H Q
def Y4 (K:PySem.W.Frag) (F:Nm) (E:XK) (tt:TT) (f:Env->M Bool):Prop:=∀ρ m W σ H,Sl K F W ρ σ->Ok K F W m H->∀Q,lM K F ((f ρ).run m) W H Q E->tt σ H Q
def Yo (K:PySem.W.Frag) (F:Nm) (E:XK) (ta:TA) (f:Env->M (List D)):Prop:=∀ρ m W σ H,Sl K F W ρ σ->Ok K F W m H->∀Q,lL K F ((f ρ).run m) W H Q E->ta σ H Q
def cC (K:PySem.W.Frag) (F:Nm) (E:XK) (ts:TS) (f:Env->M Fl):Prop:=∀ρ m W σ H,Sl K F W ρ σ->Ok K F W m H->∀N,E8 K F ((f ρ).run m) W H N E->ts N σ H
structure PD (F:Nm) (X:Cx) (E:XK) (e:Expr) (f:Env->M D):Prop where
 ex:∃te,PE X e te∧Ky X.K F E te f
structure PDt (F:Nm) (X:Cx) (E:XK) (e:Expr) (f:Env->M Bool):Prop where
 ex:∃te,PT X e te∧Y4 X.K F E te f
structure PDw (F:Nm) (X:Cx) (E:XK) (e:Expr) (f:Env->M Bool):Prop where
 ex:∃te,PW X e te∧Y4 X.K F E te f
structure PDa (F:Nm) (X:Cx) (E:XK) (es:List Expr) (f:Env->M (List D)):Prop where
 ex:∃te,PA X es te∧Yo X.K F E te f
structure PDs (F:Nm) (X:Cx) (E:XK) (s:Stmt) (f:Env->M Fl):Prop where
 ex:∃te,PS X s te∧cC X.K F E te f
structure PDss (F:Nm) (X:Cx) (E:XK) (s:List Stmt) (f:Env->M Fl):Prop where
 ex:∃te,PSs X s te∧cC X.K F E te f
end Mir
namespace Mir
open PySem L2
open PyProof.Rows (b2i)
def slot (ρ:Env) (i:Nat):M D:=M.opt ((ρ[i]?).join)
def kD:Key->D
 | .inl i=> .int i
 | .inr z=> .str z
theorem dZ {K:PySem.W.Frag} {F:Nm} {W:Wd} (k:Key):Rp K F W (kV k) (kD k):=by
 cases k with
 |inl i=>exact .int i
 |inr z=>exact .str z
theorem Kz {K:PySem.W.Frag} {F:Nm} {W:Wd}:∀ks:List Key,Rps K F W (ks.map kV) (ks.map kD)
 |[]=> .nil
 |k::ks=> .cons (dZ k) (Kz ks)
def D.now:D->M D
 | .hnd k=>⟨λm=>match m[k]? with
  |some (.lst ds)=> .ok (.lst ds) m
  |_=> .bad⟩
 | .tpx ds=>pure (.tup ds)
 | .ktp ks=>pure (.tup (ks.map kD))
 |d=>pure d
def Rn (K:PySem.W.Frag) (F:Nm) (W:Wd) (H:Hp) (v:V):D->Prop
 | .lst ds=>∃a vs,v= .ref a∧H a=some (.lst vs)∧Rps K F W vs ds
 |d=>Rp K F W v d
theorem Rn.of {K:PySem.W.Frag} {F:Nm} {W:Wd} {H:Hp} {m:Mu} {v:V} {d:D} (k:Ok K F W m H) (r:Rp K F W v d):Rn K F W H v d:=by
 cases r with
 |lst h r=>exact⟨_,_,rfl,k.gh _ _ h,r⟩
 |frz h r=>exact .frz h r
 |tup h r=>exact .tup h r
 |non=>exact .non
 |bl b=>exact .bl b
 |int i=>exact .int i
 |str x=>exact .str x
 |hnd h=>exact .hnd h
 |nam h=>exact .nam h
 |clo h1 h2 h3 h4 h5 h6 h7 h8=>exact .clo h1 h2 h3 h4 h5 h6 h7 h8
 |clo0 h1 h2 h3 h4=>exact .clo0 h1 h2 h3 h4
 |dct h1 h2 h3=>exact .dct h1 h2 h3
 |tpx h1 h2 h3 h4=>exact .tpx h1 h2 h3 h4
 |ktp h1=>exact .ktp h1
theorem Df {K:PySem.W.Frag} {F:Nm} {W:Wd} {H:Hp} {m:Mu} {v:V} {d:D} {B:Type} {f:D->M B} {Q:Wd->Hp->Mu->B->Prop} {E:XK} (k:Ok K F W m H) (r:Rp K F W v d) (h:PoR K F ((d.now>>=f).run m) W H Q E):
 ∃d',Rn K F W H v d'∧PoR K F ((f d').run m) W H Q E:=by
 cases r with
 |@hnd a i hi=>
  cases e:m[i]? with
  |none=>simp only[Do,D.now,e]at h;exact h.elim
  |some o=>
   cases o with
   |lst ds=>
    simp only[Do,D.now,e]at h;obtain⟨vs,e1,r1⟩:=k.ob i a _ hi e;exact⟨.lst ds,⟨a,vs,rfl,e1,r1⟩,h⟩
   |dic kvs=>simp only[Do,D.now,e]at h;exact h.elim
   |fdc kvs=>simp only[Do,D.now,e]at h;exact h.elim
   |ins _ _=>simp only[Do,D.now,e]at h;exact h.elim
   |dtp _=>simp only[Do,D.now,e]at h;exact h.elim
   |dead=>simp only[Do,D.now,e]at h;exact h.elim
 |lst h1 r1=>exact⟨_,Rn.of k (.lst h1 r1),h⟩
 |frz h1 r1=>exact⟨_,Rn.of k (.frz h1 r1),h⟩
 |tup h1 r1=>exact⟨_,Rn.of k (.tup h1 r1),h⟩
 |non=>exact⟨_,Rn.of k (.non),h⟩
 |bl b=>exact⟨_,Rn.of k (.bl b),h⟩
 |int i=>exact⟨_,Rn.of k (.int i),h⟩
 |str x=>exact⟨_,Rn.of k (.str x),h⟩
 |nam h1=>exact⟨_,Rn.of k (.nam h1),h⟩
 |clo h1 h2 h3 h4 h5 h6 h7 h8=>exact⟨_,Rn.of k (.clo h1 h2 h3 h4 h5 h6 h7 h8),h⟩
 |clo0 h1 h2 h3 h4=>exact⟨_,Rn.of k (.clo0 h1 h2 h3 h4),h⟩
 |dct h1 h2 h3=>exact⟨_,Rn.of k (.dct h1 h2 h3),h⟩
 |tpx h1 h2 h3 h4=>exact⟨_,Rn.of k (.tup (.inl (.inr ⟨_,h1⟩)) h4),h⟩
 |ktp h1=>exact⟨_,Rn.of k (.tup (.inl (.inl h1)) (Kz _)),h⟩
theorem gd {A B:Type} {b:Bool} {f:M B} {m:Mu} {K:PySem.W.Frag} {F:Nm} {W:Wd} {H:Hp} {Q:Wd->Hp->Mu->B->Prop} {E:XK} (h:PoR K F ((M.guard b>>=λ_=>f).run m) W H Q E):b=true∧PoR K F (f.run m) W H Q E:=by
 cases b with
 |true=>exact⟨rfl,h⟩
 |false=>exact h.elim
section
variable {F:Nm} {X:Cx} {E:XK} {pos:Pos} {a b e:Expr} {fa fb fc:Env->M D}
theorem dc {x:Str} (i:Nat) (hN:X.N[i]? =some x:=by rfl) (hv:Vis X.env.scope x:=by first|exact Or.inl rfl|exact Or.inr (Or.inl rfl)|exact Or.inr (Or.inr rfl)) (hd:(x==("__debug__" :Str))=false:=by decide)
 (hcd:(x==("__classdict__" :Str))=false:=by decide):PD F X E (.Name x pos) (fun ρ=>slot ρ i):=
 ⟨tVar i,pe_var hN hv hd hcd,fun ρ m W σ H s k Q h=>by
  cases e:(ρ[i]?).join with
  |none=>simp only[slot,e]at h;exact h.elim
  |some d=>
   simp only[slot,e]at h;have e1:ρ[i]? =some (some d):=by
    cases q:ρ[i]? with
    |none=>rw[q]at e;cases e
    |some z=>rw[q]at e;simp at e;rw[e]
   obtain⟨v,h1,r⟩:=s.get i d e1;exact⟨v,h1,PoR.pure k h v r⟩⟩
theorem Ng {v:V} {d:D} (h:PE X e (tC v)) (r:∀W,Rp X.K F W v d):PD F X E e (λ_=>pure d):=
 ⟨tC v,h,fun ρ m W σ H s k Q h=>PoR.pure k h v (r W)⟩
theorem de {i:Int} {j:Nat}:PD F X E (.Constant (.int i) j pos) (λ_=>pure (.int i)):=Ng pe_int λ_=> .int i
theorem dg {x:Str} {j:Nat}:PD F X E (.Constant (.str x) j pos) (λ_=>pure (.str x)):=Ng pe_str λ_=> .str x
theorem lN {x:Bool} {j:Nat}:PD F X E (.Constant (.bool x) j pos) (λ_=>pure (.bl x)):=Ng pe_bl λ_=> .bl x
theorem Y5 {x:Str} {v:V} {u:Value} {d:D} (hg:Gl X x) (hm:X.mg x=some u) (r:RelV v u) (rd:∀W,Rp X.K F W v d) (hd:(x==("__debug__" :Str))=false:=by decide):PD F X E (.Name x pos) (λ_=>pure d):=
 Ng (pe_glob hg hm r hd) rd
def Jb (K:PySem.W.Frag) (F:Nm) (E:XK) (r:R2) (g:D->D->M D):Prop:=∀x y d e m W H Q,Rp K F W x d->Rp K F W y e->Ok K F W m H->DP K F ((g d e).run m) W H Q E->r x y H Q
theorem Nh {r:R2} {g:D->D->M D} {K:PySem.W.Frag} {F:Nm} {ta tb:TE} (hr:Jb K F E r g) (ha:Ky K F E ta fa) (hb:Ky K F E tb fb):Ky K F E (tOp r ta tb) (fun ρ=>fa ρ>>=λx=>fb ρ>>=λy=>g x y):=fun ρ m W σ H s k Q h=>by
 refine ha ρ m W σ H s k _ ((PoR.bind h).imp λW1 H1 m1 d e x1 k1 h1 v r1=>?_);refine hb ρ m1 W1 σ H1 (s.mono x1) k1 _ ((PoR.bind h1).imp λW2 H2 m2 d2 e2 x2 k2 h2 v2 r2=>?_);exact hr v v2 d d2 m2 W2 H2 Q (r1.mono x2) r2 k2 h2
theorem Gp {op:Operator} {r:R2} {g:D->D->M D} (ho:OpR X (binaryOp op) r) (hr:Jb X.K F E r g) (ha:PD F X E a fa) (hb:PD F X E b fb):PD F X E (.BinOp a op b pos) (fun ρ=>fa ρ>>=λx=>fb ρ>>=λy=>g x y):=by
 obtain⟨ta,pa,ea⟩:=ha;obtain⟨tb,pb,eb⟩:=hb;exact⟨_,pe_op ho pa pb,Nh hr ea eb⟩
theorem E3 {f:Value->Value->Sem Value} {r r' :R2} (h:OpR X f r) (h' :OpR X f r'):OpR X f (λx y H Q=>r x y H Q∨r' x y H Q):=λpins s σ H x y v u Q I rx ry q=>by
 rcases q with q|q
 ·exact h pins s σ H x y v u Q I rx ry q
 ·exact h' pins s σ H x y v u Q I rx ry q
theorem DY {K:PySem.W.Frag} {F:Nm} {W:Wd} {H:Hp} {m:Mu} {Q:VK} {d:D} (k:Ok K F W m H) (h:DP K F (.ok d m) W H Q E) {p:Addr} {o:HO} (hp:H p=none) (r:Rp K F (W.new p o) (.ref p) d) (no:∀ps,o≠ .tbl ps:=by intro _ z;cases z):Q (.ref p) (upd H p o):=
 h (W.new p o) (upd H p o) (Ext.new k hp) (k.new hp no) _ r
theorem Gq {K:PySem.W.Frag} {F:Nm} {W:Wd} {p:Addr} {vs:List V} {ds:List D} {m:Mu} {H:Hp} (k:Ok K F W m H) (hp:H p=none) (r:Rps K F W vs ds):Rp K F (W.new p (.tup vs)) (.ref p) (.tup ds):=by
 have x:Ext W H (W.new p (.tup vs)) (upd H p (.tup vs)):=Ext.new k hp;exact .tup (.inl (.inl upd_same)) (r.mono x)
theorem EJ {K:PySem.W.Frag} {F:Nm} {W:Wd} {p:Addr} {vs:List V} {ds:List D} {m:Mu} {H:Hp} (k:Ok K F W m H) (hp:H p=none) (r:Rps K F W vs ds):Rp K F (W.new p (.lst vs)) (.ref p) (.lst ds):=by
 have x:Ext W H (W.new p (.lst vs)) (upd H p (.lst vs)):=Ext.new k hp;exact .lst upd_same (r.mono x)
theorem UY:OpR X (binaryOp .Add) (λx y H Q=>∃b j,x= .bl b∧y= .int j∧Q (.int (b2i b+j)) H):=by
 intro pins s σ H x y v u Q I rx ry h;obtain⟨b,j,rfl,rfl,q⟩:=h;obtain⟨t,rfl⟩:=ry
 cases rx
 exact PySem.IntBool.add_bool_int ⟨.int (b2i b+j),H,I.tok _,⟨_,rfl⟩,q⟩
def D.add1:D->D->M D
 | .int i,.int j=>pure (.int (i+j))
 | .int i,.bl b=>pure (.int (i+b2i b))
 | .bl b,.int j=>pure (.int (b2i b+j))
 | .str a,.str b=>M.guard (decide (a.length+b.length≤sizeLine))>>=λ_=>pure (.str (a++b))
 | .tup a,.tup b=>M.guard (decide (a.length+b.length≤sizeLine))>>=λ_=>pure (.tup (a++b))
 | .lst a,.lst b=>M.guard (decide (a.length+b.length≤sizeLine))>>=λ_=>pure (.lst (a++b))
 |_,_=>M.bad
def D.add (x y:D):M D:=x.now>>=λx=>y.now>>=λy=>D.add1 x y
def lO (K:PySem.W.Frag):R2:=λx y H Q=>(((((rI0 λi j=> .int (i+j)) x y H Q∨(∃i k,x= .int i∧y= .bl k∧Q (.int (i+b2i k)) H))∨(∃i j,x= .str i∧y= .str j∧i.length+j.length≤sizeLine∧Q (.str (i++j)) H))∨rCatA K x y H Q)∨rCat x y H Q)∨(∃b j,x= .bl b∧y= .int j∧Q (.int (b2i b+j)) H)
theorem Y6 {K:PySem.W.Frag} {F:Nm}:Jb K F E (lO K) D.add:=λx y d0 e0 m W H Q rx ry k h=>by
 unfold D.add at h;obtain⟨d,rx,h⟩:=Df k rx h;obtain⟨e,ry,h⟩:=Df k ry h
 cases d with
 |bl b=>
  cases rx
  cases e with
  |int j=>cases ry;exact .inr ⟨b,j,rfl,rfl,PoR.pure k h _ (.int _)⟩
  |_=>exact h.elim
 |int i=>
  cases rx
  cases e with
  |int j=>cases ry;exact .inl (.inl (.inl (.inl (.inl ⟨i,j,rfl,rfl,PoR.pure k h _ (.int _)⟩))))
  |bl b=>cases ry;exact .inl (.inl (.inl (.inl (.inr ⟨i,b,rfl,rfl,PoR.pure k h _ (.int _)⟩))))
  |_=>exact h.elim
 |str i=>
  cases rx
  cases e with
  |str j=>
   cases ry
   obtain⟨g,h⟩:=gd (A:=D) h;exact .inl (.inl (.inl (.inr ⟨i,j,rfl,rfl,AN g,PoR.pure k h _ (.str _)⟩)))
  |_=>exact h.elim
 |tup ds=>
  cases rx with
  |@tup a1 v1 _ h1 r1=>
  cases e with
  |tup es=>
   cases ry with
   |@tup a2 v2 _ h2 r2=>
   obtain⟨g,h⟩:=gd (A:=D) h;have g:=AN g;refine .inl (.inl (.inr ⟨_,_,_,_,rfl,rfl,MQ k.gh h1,MQ k.gh h2,by rw[r1.length,r2.length];exact g,λz=>?_,λz1 z2=>?_,λz1 z2 p hp=>?_⟩))
   ·subst z
    cases r1
    exact PoR.pure k h _ (.tup h2 r2)
   ·subst z2
    cases r2
    rw[A3]at h;exact PoR.pure k h _ (.tup h1 r1)
   ·exact DY k h hp (Gq k hp (r1.append r2))
  |_=>exact h.elim
 |lst ds=>
  obtain⟨a1,v1,rfl,h1,r1⟩:=rx
  cases e with
  |lst es=>
   obtain⟨a2,v2,rfl,h2,r2⟩:=ry;obtain⟨g,h⟩:=gd (A:=D) h;have g:=AN g;exact .inl (.inr ⟨_,_,_,_,rfl,rfl,h1,h2,by rw[r1.length,r2.length];exact g,λp hp=>DY k h hp (EJ k hp (r1.append r2))⟩)
  |_=>exact h.elim
 |_=>exact h.elim
theorem di (ha:PD F X E a fa) (hb:PD F X E b fb):PD F X E (.BinOp a .Add b pos) (fun ρ=>fa ρ>>=λx=>fb ρ>>=λy=>D.add x y):=
 Gp (E3 (E3 (E3 (E3 (E3 op_add op_add_ib) op_add_str) op_catA) op_cat) UY) Y6 ha hb
def D.arith (c:Int->Int->Bool) (g:Int->Int->D):D->D->M D
 | .int i,.int j=>M.guard (c i j)>>=λ_=>pure (g i j)
 |_,_=>M.bad
theorem dj {K:PySem.W.Frag} {F:Nm} {C:Int->Int->Prop} {c:Int->Int->Bool} {g:Int->Int->V} {g' :Int->Int->D} (hc:∀i j,c i j=true->C i j) (hg:∀W i j,Rp K F W (g i j) (g' i j)):Jb K F E (rI C g) (D.arith c g'):=λx y d e m W H Q rx ry k h=>by
 cases rx with
 |int i=>
  cases ry with
  |int j=>
   obtain⟨q,h⟩:=gd (A:=D) h;exact⟨i,j,rfl,rfl,hc i j q,PoR.pure k h _ (hg W i j)⟩
  |_=>exact h.elim
 |_=>exact h.elim
def D.sub:D->D->M D:=D.arith (λ_ _=>true) λi j=> .int (i - j)
def D.mul:D->D->M D:=D.arith (λi j=>decide ((-(2 ^ 64)<i∧i<2 ^ 64)∨(-(2 ^ 64)<j∧j<2 ^ 64))) λi j=> .int (i*j)
def D.fdiv:D->D->M D:=D.arith (λ_ j=>decide (0<j∧j<1073741824)) λi j=> .int (i / j)
def D.mod:D->D->M D:=D.arith (λ_ j=>decide (0<j)) λi j=> .int (i % j)
def D.pow:D->D->M D:=D.arith (λi j=>decide (0≤j∧j≤1000000∧i.natAbs<2 ^ 64)) λi j=> .int (i ^ j.toNat)
theorem Y7 {K:PySem.W.Frag} {F:Nm}:Jb K F E (rI0 λi j=> .int (i - j)) D.sub:=λx y d e m W H Q rx ry k h=>by
 obtain⟨i,j,e1,e2,_,q⟩:=dj (C:=λ_ _=>True) (g:=λi j=> .int (i - j)) (λ_ _ _=>trivial) (λW i j=>Rp.int (i - j)) x y d e m W H Q rx ry k h;exact⟨i,j,e1,e2,q⟩
theorem dk (ha:PD F X E a fa) (hb:PD F X E b fb):PD F X E (.BinOp a .Sub b pos) (fun ρ=>fa ρ>>=λx=>fb ρ>>=λy=>D.sub x y):=Gp op_sub Y7 ha hb
theorem lP (i j:Int) (q:decide ((-(2 ^ 64)<i∧i<2 ^ 64)∨(-(2 ^ 64)<j∧j<2 ^ 64))=true):CMul i j:=by
 have q' :=AN q;exact q'
theorem lQ (i j:Int) (q:decide (0<j∧j<1073741824)=true):CDiv i j:=by
 have q' :=AN q;exact q'
theorem lW (i j:Int) (q:decide (0<j)=true):0<j:=AN q
theorem lX (i j:Int) (q:decide (0≤j∧j≤1000000∧i.natAbs<2 ^ 64)=true):CPow i j:=by
 have q' :=AN q;exact q'
theorem dq (ha:PD F X E a fa) (hb:PD F X E b fb):PD F X E (.BinOp a .Mult b pos) (fun ρ=>fa ρ>>=λx=>fb ρ>>=λy=>D.mul x y):=Gp op_mul (dj lP λW i j=> .int _) ha hb
theorem Y8 (ha:PD F X E a fa) (hb:PD F X E b fb):PD F X E (.BinOp a .FloorDiv b pos) (fun ρ=>fa ρ>>=λx=>fb ρ>>=λy=>D.fdiv x y):=Gp op_fdiv (dj lQ λW i j=> .int _) ha hb
theorem dt (ha:PD F X E a fa) (hb:PD F X E b fb):PD F X E (.BinOp a .Mod b pos) (fun ρ=>fa ρ>>=λx=>fb ρ>>=λy=>D.mod x y):=Gp op_mod (dj lW λW i j=> .int _) ha hb
theorem du (ha:PD F X E a fa) (hb:PD F X E b fb):PD F X E (.BinOp a .Pow b pos) (fun ρ=>fa ρ>>=λx=>fb ρ>>=λy=>D.pow x y):=Gp op_pow (dj lX λW i j=> .int _) ha hb
theorem dv {op:CmpOp} {r:R2} {g:D->D->M D} (ho:OpR X (compareOp op) r) (hr:Jb X.K F E r g) (ha:PD F X E a fa) (hb:PD F X E b fb) (hm:behindInMarks op b=false):PD F X E (.Compare a [op] [b] pos) (fun ρ=>fa ρ>>=λx=>fb ρ>>=λy=>g x y):=by
 obtain⟨ta,pa,ea⟩:=ha;obtain⟨tb,pb,eb⟩:=hb;exact⟨_,pe_cmpR ho pa pb hm,Nh hr ea eb⟩
def D.bool:D->M Bool
 | .bl b=>pure b
 |_=>M.bad
theorem Ni {K:PySem.W.Frag} {F:Nm} {te:TE} (h:Ky K F E te fa):Y4 K F E (tTest te) (fun ρ=>fa ρ>>=D.bool):=fun ρ m W σ H s k Q q=>by
 refine h ρ m W σ H s k _ ((PoR.bind q).imp λW1 H1 m1 d e x1 k1 h1 v r1=>?_)
 cases r1 with
 |bl b=>exact⟨b,rfl,PoR.pure k1 h1⟩
 |_=>exact h1.elim
theorem pt_cmp {op:CmpOp} {r:R2} {g:D->D->M D} (ho:OpR X (compareOp op) r) (hr:Jb X.K F E r g) (ha:PD F X E a fa) (hb:PD F X E b fb) (hm:behindInMarks op b=false):PDt F X E (.Compare a [op] [b] pos) (fun ρ=>(fa ρ>>=λx=>fb ρ>>=λy=>g x y)>>=D.bool):=by
 obtain⟨ta,pa,ea⟩:=ha;obtain⟨tb,pb,eb⟩:=hb;exact⟨_,pt_cmpR ho pa pb hm,Ni (Nh hr ea eb)⟩
theorem PL {r r' :R2} {g g' :D->D->M D} {K:PySem.W.Frag} {F:Nm} {ta tb tc:TE} (hr:Jb K F E r g) (hr' :Jb K F E r' g') (ha:Ky K F E ta fa) (hb:Ky K F E tb fb) (hc:Ky K F E tc fc):
 Ky K F E (tChain r r' ta tb tc) (fun ρ=>fa ρ>>=λx=>fb ρ>>=λy=>(g x y>>=D.bool)>>=λt=>if t=true then fc ρ>>=λz=>g' y z else pure (.bl false)):=fun ρ m W σ H s k Q h=>by
 refine ha ρ m W σ H s k _ ((PoR.bind h).imp λW1 H1 m1 d e x1 k1 h1 v r1=>?_);refine hb ρ m1 W1 σ H1 (s.mono x1) k1 _ ((PoR.bind h1).imp λW2 H2 m2 d2 e2 x2 k2 h2 v2 r2=>?_);rw[D5]at h2;refine hr v v2 d d2 m2 W2 H2 _ (r1.mono x2) r2 k2 ((PoR.bind h2).imp λW3 H3 m3 d3 e3 x3 k3 h3 v3 r3=>?_)
 cases r3 with
 |bl t=>
  refine⟨t,rfl,?_⟩
  cases t with
  |false=>exact PoR.pure k3 h3 _ (.bl false)
  |true=>
   have h3:DP K F ((fc ρ>>=λz=>g' d2 z).run m3) W3 H3 Q E:=h3;exact hc ρ m3 W3 σ H3 (((s.mono x1).mono x2).mono x3) k3 _ ((PoR.bind h3).imp λW4 H4 m4 d4 e4 x4 k4 h4 v4 r4=>hr' v2 v4 d2 d4 m4 W4 H4 Q ((r2.mono x3).mono x4) r4 k4 h4)
 |_=>exact h3.elim
theorem Vt {c:Expr} {op op' :CmpOp} {r r' :R2} {g g' :D->D->M D} (ho:OpR X (compareOp op) r) (ho' :OpR X (compareOp op') r') (hr:Jb X.K F E r g) (hr' :Jb X.K F E r' g') (ha:PD F X E a fa) (hb:PD F X E b fb) (hc:PD F X E c fc)
 (hm:lastMarks [op,op'] [b,c]=false:=by with_unfolding_all rfl):
 PD F X E (.Compare a [op,op'] [b,c] pos) (fun ρ=>fa ρ>>=λx=>fb ρ>>=λy=>(g x y>>=D.bool)>>=λt=>if t=true then fc ρ>>=λz=>g' y z else pure (.bl false)):=by
 obtain⟨ta,pa,ea⟩:=ha;obtain⟨tb,pb,eb⟩:=hb;obtain⟨tc,pc,ec⟩:=hc;exact⟨_,pe_chain ho ho' pa pb pc hm,PL hr hr' ea eb ec⟩
theorem UZ {c:Expr} {op op' :CmpOp} {r r' :R2} {g g' :D->D->M D} (ho:OpR X (compareOp op) r) (ho' :OpR X (compareOp op') r') (hr:Jb X.K F E r g) (hr' :Jb X.K F E r' g') (ha:PD F X E a fa) (hb:PD F X E b fb) (hc:PD F X E c fc)
 (hm:lastMarks [op,op'] [b,c]=false:=by with_unfolding_all rfl):
 PDt F X E (.Compare a [op,op'] [b,c] pos) (fun ρ=>(fa ρ>>=λx=>fb ρ>>=λy=>(g x y>>=D.bool)>>=λt=>if t=true then fc ρ>>=λz=>g' y z else pure (.bl false))>>=D.bool):=by
 obtain⟨ta,pa,ea⟩:=ha;obtain⟨tb,pb,eb⟩:=hb;obtain⟨tc,pc,ec⟩:=hc;exact⟨_,pt_chain ho ho' pa pb pc hm,Ni (PL hr hr' ea eb ec)⟩
def D.cmpI (p:Int->Int->Bool):D->D->M D:=D.arith (λ_ _=>true) λi j=> .bl (p i j)
theorem K0 {K:PySem.W.Frag} {F:Nm} (p:Int->Int->Bool):Jb K F E (rI0 λi j=> .bl (p i j)) (D.cmpI p):=λx y d e m W H Q rx ry k h=>by
 obtain⟨i,j,e1,e2,_,q⟩:=dj (C:=λ_ _=>True) (g:=λi j=> .bl (p i j)) (λ_ _ _=>trivial) (λW i j=>Rp.bl (p i j)) x y d e m W H Q rx ry k h;exact⟨i,j,e1,e2,q⟩
def D.lt:D->D->M D:=D.cmpI λi j=>decide (i<j)
def D.le:D->D->M D:=D.cmpI λi j=>decide (i≤j)
def D.gt:D->D->M D:=D.cmpI λi j=>decide (j<i)
def D.ge:D->D->M D:=D.cmpI λi j=>decide (j≤i)
theorem dw {K:PySem.W.Frag} {F:Nm}:Jb K F E (rI0 λi j=> .bl (decide (i<j))) D.lt:=K0 _
theorem d6 {K:PySem.W.Frag} {F:Nm}:Jb K F E (rI0 λi j=> .bl (decide (i≤j))) D.le:=K0 _
theorem d7 {K:PySem.W.Frag} {F:Nm}:Jb K F E (rI0 λi j=> .bl (decide (j<i))) D.gt:=K0 _
mutual
def D.py:D->Option PyData
 | .non=>some .none
 | .bl b=>some (.bool b)
 | .int i=>some (.int i)
 | .str x=>some (.str x)
 | .lst ds=>(D.pys ds).map .list
 | .frz ds=>(D.pys ds).map .list
 | .tup ds=>(D.pys ds).map .tuple
 | .hnd _=>none
 | .nam _=>none
 | .clo _ _=>none
 | .dct _ _=>none
 | .tpx _=>none
 | .ktp _=>none
def D.pys:List D->Option (List PyData)
 |[]=>some []
 |d::ds=>match d.py,D.pys ds with
  |some p,some ps=>some (p::ps)
  |_,_=>none
end
mutual
theorem Et {K:PySem.W.Frag} {F:Nm} {W:Wd} {H:Hp} {m:Mu} (k:Ok K F W m H):∀(d:D) (v:V) (p:PyData),Rp K F W v d->d.py=some p->Dp K H v p
 | .non,_,_,.non,e=>by cases e;exact .non
 | .bl b,_,_,.bl _,e=>by cases e;exact .bl b
 | .int b,_,_,.int _,e=>by cases e;exact .int b
 | .str b,_,_,.str _,e=>by cases e;exact .str b
 | .lst ds,_,p,.lst h r,e=>by
  unfold D.py at e
  cases q:D.pys ds with
  |none=>rw[q]at e;cases e
  |some ps=>rw[q]at e;cases e;exact .lst (.inl (.inl (k.gh _ _ h))) (Jc k ds _ ps r q)
 | .frz ds,_,p,.frz h r,e=>by
  unfold D.py at e
  cases q:D.pys ds with
  |none=>rw[q]at e;cases e
  |some ps=>rw[q]at e;cases e;exact .lst (SU k.gh h) (Jc k ds _ ps r q)
 | .tup ds,_,p,.tup h r,e=>by
  unfold D.py at e
  cases q:D.pys ds with
  |none=>rw[q]at e;cases e
  |some ps=>rw[q]at e;cases e;exact .tup (MQ k.gh h) (Jc k ds _ ps r q)
 | .hnd _,_,_,_,e=>by cases e
 | .nam _,_,_,_,e=>by cases e
 | .clo _ _,_,_,_,e=>by cases e
 | .dct _ _,_,_,_,e=>by cases e
 | .tpx _,_,_,_,e=>by cases e
 | .ktp _,_,_,_,e=>by cases e
theorem Jc {K:PySem.W.Frag} {F:Nm} {W:Wd} {H:Hp} {m:Mu} (k:Ok K F W m H):∀(ds:List D) (vs:List V) (ps:List PyData),Rps K F W vs ds->D.pys ds=some ps->DpAll K H vs ps
 |[],_,_,.nil,e=>by cases e;exact .nil
 |d::ds,_,_,.cons h r,e=>by
  unfold D.pys at e
  cases q1:d.py with
  |none=>rw[q1]at e;cases e
  |some p=>
   cases q2:D.pys ds with
   |none=>rw[q1,q2]at e;cases e
   |some ps=>
    rw[q1,q2]at e
    cases e
    exact .cons (Et k d _ p h q1) (Jc k ds _ ps r q2)
end
theorem Q6 {K:PySem.W.Frag} {F:Nm} {W:Wd} {H:Hp} {m:Mu} (k:Ok K F W m H) {d:D} {v:V} {p:PyData} (r:Rn K F W H v d) (e:d.py=some p):Dp K H v p:=by
 cases d with
 |lst ds=>
  obtain⟨a,vs,rfl,h,r⟩:=r;unfold D.py at e
  cases q:D.pys ds with
  |none=>rw[q]at e;cases e
  |some ps=>rw[q]at e;cases e;exact .lst (.inl (.inl h)) (Jc k ds _ ps r q)
 |frz ds=>exact Et k _ _ _ r e
 |tup ds=>exact Et k _ _ _ r e
 |non=>exact Et k _ _ _ r e
 |bl b=>exact Et k _ _ _ r e
 |int b=>exact Et k _ _ _ r e
 |str b=>exact Et k _ _ _ r e
 |hnd b=>exact Et k _ _ _ r e
 |nam b=>exact Et k _ _ _ r e
 |clo t b=>exact Et k _ _ _ r e
 |dct t b=>exact Et k _ _ _ r e
 |tpx b=>exact Et k _ _ _ r e
 |ktp b=>exact Et k _ _ _ r e
def D.eqo (x y:D):Option Bool:=match x.py,y.py with
 |some p,some q=>if SeqAt.shaped p=true∧SeqAt.shaped q=true then some (PyData.eqv p q)else none
 |_,_=>none
def D.eqd (x y:D):M D:=x.now>>=λx=>y.now>>=λy=>M.opt ((D.eqo x y).map .bl)
def D.ned (x y:D):M D:=x.now>>=λx=>y.now>>=λy=>M.opt ((D.eqo x y).map λb=> .bl !b)
def D.eq:D->D->M D
 | .str a,.str b=>pure (.bl (a==b))
 |x,y=>D.eqd x y
def D.ne:D->D->M D
 | .str a,.str b=>pure (.bl (!(a==b)))
 |x,y=>D.ned x y
theorem Vu {K:PySem.W.Frag} {F:Nm} {W:Wd} {H:Hp} {m:Mu} {x y:V} {d e:D} {Q:VK} {g:Bool->D} (k:Ok K F W m H) (rx:Rn K F W H x d) (ry:Rn K F W H y e) (h:DP K F ((M.opt ((D.eqo d e).map g)).run m) W H Q E):
 ∃p q,Dp K H x p∧Dp K H y q∧SeqAt.shaped p=true∧SeqAt.shaped q=true∧DP K F (.ok (g (PyData.eqv p q)) m) W H Q E:=by
 unfold D.eqo at h
 cases e1:d.py with
 |none=>rw[e1]at h;exact h.elim
 |some p=>
  cases e2:e.py with
  |none=>rw[e1,e2]at h;exact h.elim
  |some q=>
   rw[e1,e2]at h;by_cases c:SeqAt.shaped p=true∧SeqAt.shaped q=true
   ·simp only[An c]at h;exact⟨p,q,Q6 k rx e1,Q6 k ry e2,c.1,c.2,h⟩
   ·simp only[Aq c]at h;exact h.elim
theorem Y9 {K:PySem.W.Frag} {F:Nm}:Jb K F E (rEqD K) D.eqd:=λx y d e m W H Q rx ry k h=>by
 unfold D.eqd at h;obtain⟨d1,r1,h⟩:=Df k rx h;obtain⟨d2,r2,h⟩:=Df k ry h;obtain⟨p,q,a1,a2,a3,a4,h⟩:=Vu k r1 r2 h;exact⟨p,q,a1,a2,a3,a4,PoR.ok k h _ (.bl _)⟩
theorem ZA {K:PySem.W.Frag} {F:Nm}:Jb K F E (rNeD K) D.ned:=λx y d e m W H Q rx ry k h=>by
 unfold D.ned at h;obtain⟨d1,r1,h⟩:=Df k rx h;obtain⟨d2,r2,h⟩:=Df k ry h;obtain⟨p,q,a1,a2,a3,a4,h⟩:=Vu k r1 r2 h;exact⟨p,q,a1,a2,a3,a4,PoR.ok k h _ (.bl _)⟩
theorem d8 {K:PySem.W.Frag} {F:Nm}:Jb K F E (λx y H Q=>rEq x y H Q∨rEqD K x y H Q) D.eq:=λx y d e m W H Q rx ry k h=>by
 by_cases c:∃a b,d= .str a∧e= .str b
 ·obtain⟨a,b,rfl,rfl⟩:=c
  cases rx
  cases ry
  refine .inl ⟨rfl,?_⟩;rw[dec_str];exact PoR.pure k h _ (.bl _)
 ·refine .inr (Y9 (E:=E) x y d e m W H Q rx ry k ?_);have e1:D.eq d e=D.eqd d e:=by
   unfold D.eq;split
   ·exact(c ⟨_,_,rfl,rfl⟩).elim
   ·rfl
  rw[e1]at h;exact h
theorem eA {K:PySem.W.Frag} {F:Nm}:Jb K F E (λx y H Q=>rNe x y H Q∨rNeD K x y H Q) D.ne:=λx y d e m W H Q rx ry k h=>by
 by_cases c:∃a b,d= .str a∧e= .str b
 ·obtain⟨a,b,rfl,rfl⟩:=c
  cases rx
  cases ry
  refine .inl ⟨rfl,?_⟩;rw[dec_str];exact PoR.pure k h _ (.bl _)
 ·refine .inr (ZA (E:=E) x y d e m W H Q rx ry k ?_);have e1:D.ne d e=D.ned d e:=by
   unfold D.ne;split
   ·exact(c ⟨_,_,rfl,rfl⟩).elim
   ·rfl
  rw[e1]at h;exact h
end
end Mir
namespace Mir
open PySem L2
open PyProof.Rows (b2i)
section
variable {F:Nm} {X:Cx} {E:XK} {pos:Pos} {a b e:Expr} {rest:List Expr} {fa fb fc:Env->M D} {ga gb:Env->M Bool}
def D.tru1:D->M Bool
 | .non=>pure false
 | .bl b=>pure b
 | .int i=>pure (i !=0)
 | .str x=>M.guard (decide (x.length≤sizeLine))>>=λ_=>pure ((x.length:Int) !=0)
 | .lst ds=>pure (!ds.isEmpty)
 | .frz ds=>pure (!ds.isEmpty)
 | .tup ds=>pure (!ds.isEmpty)
 |_=>M.bad
def D.tru (x:D):M Bool:=x.now>>=D.tru1
theorem Jd {K:PySem.W.Frag} {W:Wd} {vs:List V} {ds:List D} (r:Rps K F W vs ds):vs.isEmpty=ds.isEmpty:=by cases r<;>rfl
theorem tru_ok {K:PySem.W.Frag} {W:Wd} {H:Hp} {m:Mu} {v:V} {d:D} {Q:Wd->Hp->Mu->Bool->Prop} (k:Ok K F W m H) (r:Rp K F W v d) (h:PoR K F ((d.tru).run m) W H Q E):∃t,TruV K v H t∧PoR K F (.ok t m) W H Q E:=by
 unfold D.tru at h;obtain⟨d',r,h⟩:=Df k r h
 cases d' with
 |non=>cases r;exact⟨_,rfl,h⟩
 |bl b=>cases r;exact⟨_,rfl,h⟩
 |int b=>cases r;exact⟨_,rfl,h⟩
 |str b=>
  cases r
  obtain⟨g,h⟩:=gd (A:=D) h;exact⟨_,⟨AN g,rfl⟩,h⟩
 |lst ds=>
  obtain⟨p,vs,rfl,h1,r1⟩:=r;exact⟨_,.inl ⟨vs,.inl (.inl h1),by rw[Jd r1]⟩,h⟩
 |frz ds=>
  cases r with
  |frz h1 r1=>exact⟨_,.inl ⟨_,SU k.gh h1,by rw[Jd r1]⟩,h⟩
 |tup ds=>
  cases r with
  |tup h1 r1=>exact⟨_,.inr (.inl ⟨_,MQ k.gh h1,by rw[Jd r1]⟩),h⟩
 |hnd _=>exact h.elim
 |nam _=>exact h.elim
 |clo _ _=>exact h.elim
 |dct _ _=>exact h.elim
 |tpx _=>exact h.elim
 |ktp _=>exact h.elim
theorem lY (ha:PD F X E a fa) (he:∀whole,isTrue a X.env whole=(do let v←whole;standAt a.pos;holding [v] (truthy v)):=by intro _;rfl):PDt F X E a (fun ρ=>fa ρ>>=D.tru):=by
 obtain⟨ta,pa,ea⟩:=ha;refine⟨_,pt_truth pa he,fun ρ m W σ H s k Q h=>ea ρ m W σ H s k _ ((PoR.bind h).imp λW1 H1 m1 d e x1 k1 h1 v r1=>?_)⟩;obtain⟨t,h2,h3⟩:=tru_ok k1 r1 h1;exact⟨t,h2,PoR.ok k1 h3⟩
theorem oW (h:PDw F X E a ga):PDt F X E a ga:=by
 obtain⟨t,p,q⟩:=h;exact⟨t,p.pt,q⟩
theorem rW (h:PDt F X E a ga):PDt F X E (.UnaryOp .Not a pos) (fun ρ=>ga ρ>>=λt=>pure (!t)):=by
 obtain⟨t,p,q⟩:=h;exact⟨_,pt_not p,fun ρ m W σ H s k Q h=>q ρ m W σ H s k _ ((PoR.bind h).imp λW1 H1 m1 d e x1 k1 h1=>PoR.pure k1 h1)⟩
theorem lZ (h:PDt F X E a ga):PDw F X E (.BoolOp .And [a] pos) ga:=by
 obtain⟨t,p,q⟩:=h;exact⟨_,pw_and1 p,q⟩
theorem lh (h:PDt F X E a ga):PDw F X E (.BoolOp .Or [a] pos) ga:=by
 obtain⟨t,p,q⟩:=h;exact⟨_,pw_or1 p,q⟩
theorem oX (h:PDt F X E a ga) (h' :PDw F X E (.BoolOp .And (b::rest) pos) gb):PDw F X E (.BoolOp .And (a::b::rest) pos) (fun ρ=>ga ρ>>=λt=>if t=true then gb ρ else pure false):=by
 obtain⟨t,p,q⟩:=h;obtain⟨t',p',q'⟩:=h';refine⟨_,pw_and p p',fun ρ m W σ H s k Q h=>q ρ m W σ H s k _ ((PoR.bind h).imp λW1 H1 m1 d e x1 k1 h1=>?_)⟩
 cases d with
 |true=>exact q' ρ m1 W1 σ H1 (s.mono x1) k1 _ h1
 |false=>exact PoR.pure k1 h1
theorem oY (h:PDt F X E a ga) (h' :PDw F X E (.BoolOp .Or (b::rest) pos) gb):PDw F X E (.BoolOp .Or (a::b::rest) pos) (fun ρ=>ga ρ>>=λt=>if t=true then pure true else gb ρ):=by
 obtain⟨t,p,q⟩:=h;obtain⟨t',p',q'⟩:=h';refine⟨_,pw_or p p',fun ρ m W σ H s k Q h=>q ρ m W σ H s k _ ((PoR.bind h).imp λW1 H1 m1 d e x1 k1 h1=>?_)⟩
 cases d with
 |false=>exact q' ρ m1 W1 σ H1 (s.mono x1) k1 _ h1
 |true=>exact PoR.pure k1 h1
theorem eD {op:BoolOp} (h:PD F X E a fa):PD F X E (.BoolOp op [a] pos) fa:=by
 obtain⟨t,p,q⟩:=h;exact⟨_,pe_one p,q⟩
theorem eE (h:PD F X E a fa) (h' :PD F X E (.BoolOp .And (b::rest) pos) fb):PD F X E (.BoolOp .And (a::b::rest) pos) (fun ρ=>fa ρ>>=λx=>x.tru>>=λt=>if t=true then fb ρ else pure x):=by
 obtain⟨t,p,q⟩:=h;obtain⟨t',p',q'⟩:=h';refine⟨_,pe_andT p p',fun ρ m W σ H s k Q h=>q ρ m W σ H s k _ ((PoR.bind h).imp λW1 H1 m1 d e x1 k1 h1 v r1=>?_)⟩;obtain⟨t,h2,h3⟩:=tru_ok k1 r1 (PoR.bind h1);have h3:=PoR.ok k1 h3;refine⟨t,h2,?_⟩
 cases t with
 |true=>exact q' ρ m1 W1 σ H1 (s.mono x1) k1 _ h3
 |false=>exact PoR.pure k1 h3 v r1
theorem lj (h:PD F X E a fa) (h' :PD F X E (.BoolOp .Or (b::rest) pos) fb):PD F X E (.BoolOp .Or (a::b::rest) pos) (fun ρ=>fa ρ>>=λx=>x.tru>>=λt=>if t=true then pure x else fb ρ):=by
 obtain⟨t,p,q⟩:=h;obtain⟨t',p',q'⟩:=h';refine⟨_,pe_orT p p',fun ρ m W σ H s k Q h=>q ρ m W σ H s k _ ((PoR.bind h).imp λW1 H1 m1 d e x1 k1 h1 v r1=>?_)⟩;obtain⟨t,h2,h3⟩:=tru_ok k1 r1 (PoR.bind h1);have h3:=PoR.ok k1 h3;refine⟨t,h2,?_⟩
 cases t with
 |false=>exact q' ρ m1 W1 σ H1 (s.mono x1) k1 _ h3
 |true=>exact PoR.pure k1 h3 v r1
theorem eF (h:PD F X E a fa):PD F X E (.UnaryOp .Not a pos) (fun ρ=>fa ρ>>=λx=>x.tru>>=λt=>pure (.bl (!t))):=by
 obtain⟨t,p,q⟩:=h;refine⟨_,pe_notT p,fun ρ m W σ H s k Q h=>q ρ m W σ H s k _ ((PoR.bind h).imp λW1 H1 m1 d e x1 k1 h1 v r1=>?_)⟩;obtain⟨t,h2,h3⟩:=tru_ok k1 r1 (PoR.bind h1);exact⟨t,h2,PoR.pure k1 (PoR.ok k1 h3) _ (.bl _)⟩
theorem lp {c:Expr} (hc:PDt F X E c ga) (ha:PD F X E a fa) (hb:PD F X E b fb):PD F X E (.IfExp c a b pos) (fun ρ=>ga ρ>>=λt=>if t=true then fa ρ else fb ρ):=by
 obtain⟨tc,pc,qc⟩:=hc;obtain⟨ta,pa,qa⟩:=ha;obtain⟨tb,pb,qb⟩:=hb;refine⟨_,pe_ifExp pc pa pb,fun ρ m W σ H s k Q h=>qc ρ m W σ H s k _ ((PoR.bind h).imp λW1 H1 m1 d e x1 k1 h1=>?_)⟩
 cases d with
 |true=>exact qa ρ m1 W1 σ H1 (s.mono x1) k1 _ h1
 |false=>exact qb ρ m1 W1 σ H1 (s.mono x1) k1 _ h1
theorem eG (h:PD F X E a fa):PD F X E (.UnaryOp .USub a pos) (fun ρ=>fa ρ>>=λx=>match x with
 | .int i=>pure (.int (-i))
 |_=>M.bad):=by
 obtain⟨t,p,q⟩:=h;refine⟨_,pe_un un_neg p,fun ρ m W σ H s k Q h=>q ρ m W σ H s k _ ((PoR.bind h).imp λW1 H1 m1 d e x1 k1 h1 v r1=>?_)⟩
 cases r1 with
 |int i=>exact⟨i,rfl,PoR.pure k1 h1 _ (.int _)⟩
 |_=>exact h1.elim
theorem ZC:PDa F X E [] (λ_=>pure []):=⟨_,pa_nil,fun ρ m W σ H s k Q h=>PoR.pure k h _ .nil⟩
theorem Vv {es:List Expr} {f:Env->M (List D)} (ha:PD F X E e fa) (hr:PDa F X E es f) (hs:starEach (e::es) X.env=(false,eval e X.env)::starEach es X.env:=by rfl):
 PDa F X E (e::es) (fun ρ=>fa ρ>>=λx=>f ρ>>=λxs=>pure (x::xs)):=by
 obtain⟨t,p,q⟩:=ha;obtain⟨t',p',q'⟩:=hr;refine⟨_,pa_cons p p' hs,fun ρ m W σ H s k Q h=>q ρ m W σ H s k _ ((PoR.bind h).imp λW1 H1 m1 d e x1 k1 h1 v r1=>?_)⟩;exact q' ρ m1 W1 σ H1 (s.mono x1) k1 _ ((PoR.bind h1).imp λW2 H2 m2 d2 e2 x2 k2 h2 vs r2=>PoR.pure k2 h2 _ (.cons (r1.mono x2) r2))
theorem eH {es:List Expr} {x1} {f:Env->M (List D)} (h:PDa F X E es f):PD F X E (.Tuple es x1 pos) (fun ρ=>f ρ>>=λxs=>M.guard (decide (xs.length≤sizeLine))>>=λ_=>pure (.tup xs)):=by
 obtain⟨t,p,q⟩:=h;refine⟨_,pe_tup p,fun ρ m W σ H s k Q h=>q ρ m W σ H s k _ ((PoR.bind h).imp λW1 H1 m1 d e x1 k1 h1 v r1=>?_)⟩;obtain⟨g,h1⟩:=gd (A:=D) h1;exact⟨by rw[r1.length];exact AN g,λp hp=>DY k1 h1 hp (Gq k1 hp r1)⟩
theorem eI {es:List Expr} {f:Env->M (List D)} (h:PDa F X E es f):PD F X E (.List es pos) (fun ρ=>f ρ>>=λxs=>M.guard (decide (xs.length≤sizeLine))>>=λ_=>pure (.lst xs)):=by
 obtain⟨t,p,q⟩:=h;refine⟨_,pe_lst p,fun ρ m W σ H s k Q h=>q ρ m W σ H s k _ ((PoR.bind h).imp λW1 H1 m1 d e x1 k1 h1 v r1=>?_)⟩;obtain⟨g,h1⟩:=gd (A:=D) h1;exact⟨by rw[r1.length];exact AN g,λp hp=>DY k1 h1 hp (EJ k1 hp r1)⟩
def M.more (o:MO):M D:=⟨λm=> .ok (.hnd m.length) (m++[o])⟩
theorem Kf {K:PySem.W.Frag} {W:Wd} {H:Hp} {m:Mu} {Q:VK} {ds:List D} {vs:List V} {p:Addr} (k:Ok K F W m H) (hp:H p=none) (r:Rps K F W vs ds) (h:DP K F ((M.more (.lst ds)).run m) W H Q E):Q (.ref p) (upd H p (.lst vs)):=by
 have x:Ext W H (W.more p) (upd H p (.lst vs)):=Ext.more hp;refine h (W.more p) _ x (k.more hp ⟨vs,upd_same,r.mono x⟩) _ (.hnd ?_);show(W.al++[p])[m.length]? =some p;rw[←k.len];simp
theorem ZD {es:List Expr} {f:Env->M (List D)} (h:PDa F X E es f):PD F X E (.List es pos) (fun ρ=>f ρ>>=λxs=>M.guard (decide (xs.length≤sizeLine))>>=λ_=>M.more (.lst xs)):=by
 obtain⟨t,p,q⟩:=h;refine⟨_,pe_lst p,fun ρ m W σ H s k Q h=>q ρ m W σ H s k _ ((PoR.bind h).imp λW1 H1 m1 d e x1 k1 h1 v r1=>?_)⟩;obtain⟨g,h1⟩:=gd (A:=D) h1;exact⟨by rw[r1.length];exact AN g,λp hp=>Kf k1 hp r1 h1⟩
def D.ix1:D->D->M D
 | .lst ds,.int i=>M.opt (atI ds i)
 | .frz ds,.int i=>M.opt (atI ds i)
 | .tup ds,.int i=>M.opt (atI ds i)
 | .str x,.int i=>M.guard (decide (x.length≤sizeLine))>>=λ_=>M.opt ((atI x.cps.toList i).map λc=> .str ⟨#[c]⟩)
 |_,_=>M.bad
def D.ix (x y:D):M D:=x.now>>=λx=>D.ix1 x y
theorem ID {A B:Type} {K:PySem.W.Frag} {W:Wd} {H:Hp} {m:Mu} {o:Option A} {Q:Wd->Hp->Mu->A->Prop} (h:PoR K F ((M.opt o).run m) W H Q E):∃x,o=some x∧PoR K F (.ok x m) W H Q E:=by
 cases o with
 |none=>exact h.elim
 |some x=>exact⟨x,rfl,h⟩
theorem Nj {K:PySem.W.Frag} {W:Wd} {vs:List V} {ds:List D} {i:Int} {d:D} (r:Rps K F W vs ds) (h:atI ds i=some d):∃v,atI vs i=some v∧Rp K F W v d:=by
 unfold atI at h ⊢;rw[r.length]
 cases e:ixN ds.length i with
 |none=>rw[e]at h;cases h
 |some j=>rw[e]at h;exact r.get h
theorem eJ {K:PySem.W.Frag}:Jb K F E (rIx K) D.ix:=λx y d0 e m W H Q rx ry k h=>by
 unfold D.ix at h;obtain⟨d,rx,h⟩:=Df k rx h
 cases d with
 |lst ds=>
  obtain⟨p,vs,rfl,h1,r1⟩:=rx
  cases ry with
  |int i=>
   obtain⟨z,e1,h⟩:=ID (B:=D) h;obtain⟨v,e2,r2⟩:=Nj r1 e1;exact .inl ⟨p,vs,i,v,rfl,rfl,.inl (.inl h1),e2,PoR.ok k h v r2⟩
  |_=>exact h.elim
 |frz ds=>
  cases rx with
  |@frz p vs _ h1 r1=>
   cases ry with
   |int i=>
    obtain⟨z,e1,h⟩:=ID (B:=D) h;obtain⟨v,e2,r2⟩:=Nj r1 e1;exact .inl ⟨p,vs,i,v,rfl,rfl,SU k.gh h1,e2,PoR.ok k h v r2⟩
   |_=>exact h.elim
 |tup ds=>
  cases rx with
  |@tup p vs _ h1 r1=>
   cases ry with
   |int i=>
    obtain⟨z,e1,h⟩:=ID (B:=D) h;obtain⟨v,e2,r2⟩:=Nj r1 e1;exact .inr (.inl ⟨p,vs,i,v,rfl,rfl,MQ k.gh h1,e2,PoR.ok k h v r2⟩)
   |_=>exact h.elim
 |str x=>
  cases rx
  cases ry with
  |int i=>
   obtain⟨g,h⟩:=gd (A:=D) h;obtain⟨z,e1,h⟩:=ID (B:=D) h;obtain⟨c,e2,rfl⟩:=Az.mp e1;exact .inr (.inr ⟨x,i,c,rfl,rfl,AN g,e2,PoR.ok k h _ (.str _)⟩)
  |_=>exact h.elim
 |_=>exact h.elim
theorem lq (ha:PD F X E a fa) (hb:PD F X E b fb) (hs:PlainIx b:=by exact λ_ _=>rfl):PD F X E (.Subscript a b pos) (fun ρ=>fa ρ>>=λx=>fb ρ>>=λy=>D.ix x y):=by
 obtain⟨ta,pa,ea⟩:=ha;obtain⟨tb,pb,eb⟩:=hb;exact⟨_,pe_ix ix_seq pa pb hs,Nh eJ ea eb⟩
structure PDo (F:Nm) (X:Cx) (E:XK) (e:Option Expr) (f:Env->M (Option Int)):Prop where
 ex:∃t,PO X e t∧∀ρ m W σ H,Sl X.K F W ρ σ->Ok X.K F W m H->∀Q:Option Int->Hp->Prop,PoR X.K F ((f ρ).run m) W H (λ_ H' _ o=>Q o H') E->t σ H Q
theorem Vw:PDo F X E none (λ_=>pure none):=⟨_,po_none,fun ρ m W σ H s k Q h=>PoR.pure k h⟩
def D.part:D->M (Option Int)
 | .int i=>pure (some i)
 |_=>M.bad
theorem Vx (ha:PD F X E a fa):PDo F X E (some a) (fun ρ=>fa ρ>>=D.part):=by
 obtain⟨t,p,q⟩:=ha;refine⟨_,po_some p,fun ρ m W σ H s k Q h=>q ρ m W σ H s k _ ((PoR.bind h).imp λW1 H1 m1 d e x1 k1 h1 v r1=>?_)⟩
 cases r1 with
 |int i=>exact⟨i,rfl,PoR.pure k1 h1⟩
 |_=>exact h1.elim
def cut {A:Type} (xs:List A) (lo hi:Option Int):List A:=(xs.drop (HT.sIx xs.length 0 lo)).take (HT.sIx xs.length xs.length hi - HT.sIx xs.length 0 lo)
theorem Nk {K:PySem.W.Frag} {W:Wd} {vs:List V} {ds:List D} {lo hi:Option Int} (r:Rps K F W vs ds):Rps K F W (cutV vs lo hi) (cut ds lo hi):=by
 show Rps K F W ((vs.drop (HT.sIx vs.length 0 lo)).take (HT.sIx vs.length vs.length hi - HT.sIx vs.length 0 lo)) _;rw[r.length];exact(r.drop _).take _
def D.slice1 (lo hi:Option Int):D->M D
 | .lst ds=>pure (.lst (cut ds lo hi))
 | .frz ds=>pure (.lst (cut ds lo hi))
 | .tup ds=>pure (.tup (cut ds lo hi))
 | .str x=>M.guard (decide (x.length≤sizeLine))>>=λ_=>pure (.str (cutS x lo hi))
 |_=>M.bad
def D.slice (x:D) (lo hi:Option Int):M D:=x.now>>=D.slice1 lo hi
theorem Vy {lo hi:Option Expr} {p2:Pos} {fl fh:Env->M (Option Int)} (ha:PD F X E a fa) (hl:PDo F X E lo fl) (hh:PDo F X E hi fh):
 PD F X E (.Subscript a (.Slice lo hi none p2) pos) (fun ρ=>fa ρ>>=λx=>fl ρ>>=λl=>fh ρ>>=λu=>D.slice x l u):=by
 obtain⟨t,p,q⟩:=ha;obtain⟨tl,pl,ql⟩:=hl;obtain⟨th,ph,qh⟩:=hh;refine⟨_,pe_slice (SlR.or sl_list (SlR.or sl_tupA sl_str)) p pl ph,fun ρ m W σ H s k Q h=>q ρ m W σ H s k _ ((PoR.bind h).imp λW1 H1 m1 d e x1 k1 h1 v r1=>?_)⟩;refine ql ρ m1 W1 σ H1 (s.mono x1) k1 _ ((PoR.bind h1).imp λW2 H2 m2 l e2 x2 k2 h2=>?_);refine qh ρ m2 W2 σ H2 ((s.mono x1).mono x2) k2 _ ((PoR.bind h2).imp λW3 H3 m3 u e3 x3 k3 h3=>?_);have r3:=(r1.mono x2).mono x3;unfold D.slice at h3;obtain⟨d',r3,h3⟩:=Df k3 r3 h3
 cases d' with
 |lst ds=>
  obtain⟨p,vs,rfl,h4,r4⟩:=r3;exact .inl ⟨p,vs,rfl,.inl (.inl h4),λp hp=>DY k3 h3 hp (EJ k3 hp (Nk r4))⟩
 |frz ds=>
  cases r3 with
  |@frz p vs _ h4 r4=>exact .inl ⟨p,vs,rfl,SU k3.gh h4,λp hp=>DY k3 h3 hp (EJ k3 hp (Nk r4))⟩
 |tup ds=>
  cases r3 with
  |@tup p vs _ h4 r4=>
   refine .inr (.inl ⟨p,vs,rfl,MQ k3.gh h4,λw=>?_,λw p hp=>DY k3 h3 hp (Gq k3 hp (Nk r4))⟩);have e5:cut ds l u=ds:=by
    unfold cut;rw[←r4.length,w.1,w.2];simp[r4.length]
   rw[show D.slice1 l u (.tup ds)=pure (.tup (cut ds l u))from rfl,e5]at h3;exact PoR.pure k3 h3 _ (.tup h4 r4)
 |str x=>
  cases r3
  obtain⟨g,h3⟩:=gd (A:=D) h3;exact .inr (.inr ⟨x,rfl,AN g,PoR.pure k3 h3 _ (.str _)⟩)
 |_=>exact h3.elim
def MT (K:PySem.W.Frag) (F:Nm) (E:XK) (r:List V->Hp->VK->Prop) (g:List D->M D):Prop:=∀vs ds m W H Q,Rps K F W vs ds->Ok K F W m H->DP K F ((g ds).run m) W H Q E->r vs H Q
theorem cD {K:PySem.W.Frag} {r:List V->Hp->VK->Prop} {g:List D->M D} {t:TA} {f:Env->M (List D)} (hr:MT K F E r g) (h:Yo K F E t f):Ky K F E (tCB r t) (fun ρ=>f ρ>>=g):=fun ρ m W σ H s k Q q=>
 h ρ m W σ H s k _ ((PoR.bind q).imp λW1 H1 m1 d e x1 k1 h1 v r1=>hr v d m1 W1 H1 Q r1 k1 h1)
theorem Vz {x:Str} {p:Pos} {es:List Expr} {id:String} {r:List V->Hp->VK->Prop} {g:List D->M D} {f:Env->M (List D)} (hc:CallR X (.builtin id) r) (hr:MT X.K F E r g) (hg:Gl X x) (hm:X.mg x=none) (hv:bootBuiltins x=some (.builtin id))
 (ha:PDa F X E (e::es) f) (hn:x≠"__name__" :=by decide) (hdb:(x==("__debug__" :Str))=false:=by decide)
 (he:starEach (e::es) X.env=(false,eval e X.env)::starEach es X.env:=by rfl) (hpl:(backTo pos (starEach es X.env)).any (·.1)=false:=by rfl):PD F X E (.Call (.Name x p) (e::es) [] pos) (fun ρ=>f ρ>>=g):=by
 obtain⟨t,p,q⟩:=ha;exact⟨_,pe_callB hc hg hm hv p hn hdb he hpl,cD hr q⟩
theorem Ua {x:Str} {p:Pos} {es:List Expr} {T:String} {r:List V->Hp->VK->Prop} {g:List D->M D} {f:Env->M (List D)} (hc:CallR X (.type T) r) (hr:MT X.K F E r g) (hg:Gl X x) (hm:X.mg x=none) (hv:bootBuiltins x=some (.type T))
 (ha:PDa F X E (e::es) f) (hn:x≠"__name__" :=by decide) (hdb:(x==("__debug__" :Str))=false:=by decide)
 (he:starEach (e::es) X.env=(false,eval e X.env)::starEach es X.env:=by rfl) (hpl:(backTo pos (starEach es X.env)).any (·.1)=false:=by rfl):PD F X E (.Call (.Name x p) (e::es) [] pos) (fun ρ=>f ρ>>=g):=by
 obtain⟨t,p,q⟩:=ha;exact⟨_,pe_callTy hc hg hm hv p hn hdb he hpl,cD hr q⟩
def d1 (g:D->M D):List D->M D
 |[x]=>g x
 |_=>M.bad
theorem SV {K:PySem.W.Frag} {r:List V->Hp->VK->Prop} {g:D->M D} (h:∀v d m W H Q,Rp K F W v d->Ok K F W m H->DP K F ((g d).run m) W H Q E->r [v] H Q):MT K F E r (d1 g):=λvs ds m W H Q r k q=>by
 cases r with
 |nil=>exact q.elim
 |cons r1 r2=>
  cases r2 with
  |nil=>exact h _ _ m W H Q r1 k q
  |cons _ _=>exact q.elim
def d2 (g:D->D->M D):List D->M D
 |[x,y]=>g x y
 |_=>M.bad
theorem qQ {K:PySem.W.Frag} {r:List V->Hp->VK->Prop} {g:D->D->M D} (h:∀v u d e m W H Q,Rp K F W v d->Rp K F W u e->Ok K F W m H->DP K F ((g d e).run m) W H Q E->r [v,u] H Q):MT K F E r (d2 g):=λvs ds m W H Q r k q=>by
 cases r with
 |nil=>exact q.elim
 |cons r1 r2=>
  cases r2 with
  |nil=>exact q.elim
  |cons r2 r3=>
   cases r3 with
   |nil=>exact h _ _ _ _ m W H Q r1 r2 k q
   |cons _ _=>exact q.elim
def D.len1:D->M D
 | .str x=>M.guard (decide (x.length≤sizeLine))>>=λ_=>pure (.int x.length)
 | .lst ds=>pure (.int ds.length)
 | .frz ds=>pure (.int ds.length)
 | .tup ds=>pure (.int ds.length)
 |_=>M.bad
def D.len (x:D):M D:=x.now>>=D.len1
theorem eK {K:PySem.W.Frag}:MT K F E (λxs H Q=>∃x n,xs=[x]∧LenV K x H n∧Q (.int n) H) (d1 D.len):=SV λv d0 m W H Q rx k h=>by
 unfold D.len at h;obtain⟨d,rx,h⟩:=Df k rx h
 cases d with
 |str x=>
  cases rx
  obtain⟨g,h⟩:=gd (A:=D) h;exact⟨_,x.length,rfl,⟨AN g,rfl⟩,PoR.pure k h _ (.int _)⟩
 |lst ds=>
  obtain⟨p,vs,rfl,h1,r1⟩:=rx;exact⟨_,ds.length,rfl,.inl ⟨vs,.inl (.inl h1),r1.length.symm⟩,PoR.pure k h _ (.int _)⟩
 |frz ds=>
  cases rx with
  |frz h1 r1=>exact⟨_,ds.length,rfl,.inl ⟨_,SU k.gh h1,r1.length.symm⟩,PoR.pure k h _ (.int _)⟩
 |tup ds=>
  cases rx with
  |tup h1 r1=>exact⟨_,ds.length,rfl,.inr ⟨_,MQ k.gh h1,r1.length.symm⟩,PoR.pure k h _ (.int _)⟩
 |_=>exact h.elim
def D.bls:List D->Option (List Bool)
 |[]=>some []
 | .bl b::r=>(D.bls r).map (b::·)
 |_::_=>none
theorem Q7 {K:PySem.W.Frag} {W:Wd}:∀{ds:List D} {vs:List V} {bs:List Bool},Rps K F W vs ds->D.bls ds=some bs->vs=bs.map V.bl
 |[],_,_,.nil,e=>by cases e;rfl
 | .bl b::r,_,bs,.cons h t,e=>by
  cases h
  simp only[D.bls,Az]at e;obtain⟨c,e,rfl⟩:=e;rw[AO,Q7 t e]
 | .non::_,_,_,_,e| .int _::_,_,_,_,e| .str _::_,_,_,_,e| .tup _::_,_,_,_,e| .lst _::_,_,_,_,e| .frz _::_,_,_,_,e| .hnd _::_,_,_,_,e| .nam _::_,_,_,_,e| .clo _ _::_,_,_,_,e| .dct _ _::_,_,_,_,e| .tpx _::_,_,_,_,e| .ktp _::_,_,_,_,e=>by cases e
def D.all (x:D):M D:=x.now>>=λx=>match x with
 | .lst ds=>M.opt ((D.bls ds).map λbs=> .bl (bs.all id))
 |_=>M.bad
def D.any (x:D):M D:=x.now>>=λx=>match x with
 | .lst ds=>M.opt ((D.bls ds).map λbs=> .bl (bs.any id))
 |_=>M.bad
theorem eL {K:PySem.W.Frag}:MT K F E (rAll K) (d1 D.all):=SV λv d0 m W H Q rx k h=>by
 unfold D.all at h;obtain⟨d,rx,h⟩:=Df k rx h
 cases d with
 |lst ds=>
  obtain⟨p,vs,rfl,h1,r1⟩:=rx;obtain⟨z,e1,h⟩:=ID (B:=D) h;obtain⟨bs,e2,rfl⟩:=Az.mp e1;exact⟨p,bs,rfl,.inl (.inl (by rw[h1,Q7 r1 e2])),PoR.ok k h _ (.bl _)⟩
 |_=>exact h.elim
theorem eM {K:PySem.W.Frag}:MT K F E (rAny K) (d1 D.any):=SV λv d0 m W H Q rx k h=>by
 unfold D.any at h;obtain⟨d,rx,h⟩:=Df k rx h
 cases d with
 |lst ds=>
  obtain⟨p,vs,rfl,h1,r1⟩:=rx;obtain⟨z,e1,h⟩:=ID (B:=D) h;obtain⟨bs,e2,rfl⟩:=Az.mp e1;exact⟨p,bs,rfl,.inl (.inl (by rw[h1,Q7 r1 e2])),PoR.ok k h _ (.bl _)⟩
 |_=>exact h.elim
def D.tuple (x:D):M D:=x.now>>=λx=>match x with
 | .lst ds=>pure (.tup ds)
 | .frz ds=>pure (.tup ds)
 | .tup ds=>pure (.tup ds)
 |_=>M.bad
theorem V0 {K:PySem.W.Frag}:MT K F E (λxs H Q=>∃p ys,xs=[.ref p]∧((SqL K H p ys∧∀l,H l=none->Q (.ref l) (upd H l (.tup ys)))∨(SqT K H p ys∧Q (.ref p) H))) (d1 D.tuple):=SV λv d0 m W H Q rx k h=>by
 unfold D.tuple at h;obtain⟨d,rx,h⟩:=Df k rx h
 cases d with
 |lst ds=>
  obtain⟨p,vs,rfl,h1,r1⟩:=rx;exact⟨p,vs,rfl,.inl ⟨.inl (.inl h1),λl hl=>DY k h hl (Gq k hl r1)⟩⟩
 |frz ds=>
  cases rx with
  |@frz p vs _ h1 r1=>exact⟨p,vs,rfl,.inl ⟨SU k.gh h1,λl hl=>DY k h hl (Gq k hl r1)⟩⟩
 |tup ds=>
  cases rx with
  |@tup p vs _ h1 r1=>exact⟨p,vs,rfl,.inr ⟨MQ k.gh h1,PoR.pure k h _ (.tup h1 r1)⟩⟩
 |_=>exact h.elim
def D.list (x:D):M D:=x.now>>=λx=>match x with
 | .lst ds=>pure (.lst ds)
 | .frz ds=>pure (.lst ds)
 | .tup ds=>pure (.lst ds)
 |_=>M.bad
theorem ZE {K:PySem.W.Frag}:MT K F E (λxs H Q=>∃p ys,xs=[.ref p]∧(SqL K H p ys∨SqT K H p ys)∧∀l,H l=none->Q (.ref l) (upd H l (.lst ys))) (d1 D.list):=SV λv d0 m W H Q rx k h=>by
 unfold D.list at h;obtain⟨d,rx,h⟩:=Df k rx h
 cases d with
 |lst ds=>
  obtain⟨p,vs,rfl,h1,r1⟩:=rx;exact⟨p,vs,rfl,.inl (.inl (.inl h1)),λl hl=>DY k h hl (EJ k hl r1)⟩
 |frz ds=>
  cases rx with
  |@frz p vs _ h1 r1=>exact⟨p,vs,rfl,.inl (SU k.gh h1),λl hl=>DY k h hl (EJ k hl r1)⟩
 |tup ds=>
  cases rx with
  |@tup p vs _ h1 r1=>exact⟨p,vs,rfl,.inr (MQ k.gh h1),λl hl=>DY k h hl (EJ k hl r1)⟩
 |_=>exact h.elim
def D.abs:D->M D
 | .int i=>pure (.int (if i<0 then -i else i))
 |_=>M.bad
theorem eO {K:PySem.W.Frag}:MT K F E (λxs H Q=>∃i,xs=[.int i]∧Q (.int (if i<0 then -i else i)) H) (d1 D.abs):=SV λv d m W H Q rx k h=>by
 cases rx with
 |int i=>exact⟨i,rfl,PoR.pure k h _ (.int _)⟩
 |_=>exact h.elim
def D.toInt:D->M D
 | .int i=>pure (.int i)
 | .bl b=>pure (.int (if b then 1 else 0))
 |_=>M.bad
theorem eP {K:PySem.W.Frag}:MT K F E (λxs H Q=>(∃i,xs=[.int i]∧Q (.int i) H)∨∃k,xs=[.bl k]∧Q (.int (if k then 1 else 0)) H) (d1 D.toInt):=SV λv d m W H Q rx k h=>by
 cases rx with
 |int i=>exact .inl ⟨i,rfl,PoR.pure k h _ (.int _)⟩
 |bl i=>exact .inr ⟨i,rfl,PoR.pure k h _ (.int _)⟩
 |_=>exact h.elim
def D.strOf:D->M D
 | .int i=>M.guard (decide (i.natAbs.log2<1920))>>=λ_=>pure (.str (toString i))
 |_=>M.bad
theorem eQ {K:PySem.W.Frag}:MT K F E (λxs H Q=>∃i,xs=[.int i]∧i.natAbs.log2<1920∧Q (.str (toString i)) H) (d1 D.strOf):=SV λv d m W H Q rx k h=>by
 cases rx with
 |int i=>
  obtain⟨g,h⟩:=gd (A:=D) h;exact⟨i,rfl,AN g,PoR.pure k h _ (.str _)⟩
 |_=>exact h.elim
def D.max2:D->D->M D
 | .int i,.int j=>pure (.int (if j>i then j else i))
 |_,_=>M.bad
def D.min2:D->D->M D
 | .int i,.int j=>pure (.int (if j<i then j else i))
 |_,_=>M.bad
theorem ZF {K:PySem.W.Frag}:MT K F E (λxs H Q=>∃i j,xs=[.int i,.int j]∧Q (.int (if j>i then j else i)) H) (d2 D.max2):=qQ λv u d e m W H Q rx ry k h=>by
 cases rx with
 |int i=>
  cases ry with
  |int j=>exact⟨i,j,rfl,PoR.pure k h _ (.int _)⟩
  |_=>exact h.elim
 |_=>exact h.elim
theorem ZG {K:PySem.W.Frag}:MT K F E (λxs H Q=>∃i j,xs=[.int i,.int j]∧Q (.int (if j<i then j else i)) H) (d2 D.min2):=qQ λv u d e m W H Q rx ry k h=>by
 cases rx with
 |int i=>
  cases ry with
  |int j=>exact⟨i,j,rfl,PoR.pure k h _ (.int _)⟩
  |_=>exact h.elim
 |_=>exact h.elim
end
end Mir
namespace Mir
open PySem L2
open PyProof.Rows (b2i)
theorem PoR.bind0 {A B:Type} {K:PySem.W.Frag} {F:Nm} {x:M A} {f:A->M B} {m:Mu} {W W' :Wd} {H H' :Hp} {Q:Wd->Hp->Mu->B->Prop} {E:XK} (h:PoR K F ((x>>=f).run m) W H Q E) (e:Ext W H W' H'):
 PoR K F (x.run m) W' H' (λ_ _ m' a=>PoR K F ((f a).run m') W H Q E) E:=by
 rw[Do]at h
 cases q:x.run m with
 |bad=>rw[q]at h;exact h
 |ok a m1=>rw[q]at h;exact λ_ _ _ _=>h
 |exc c m1=>rw[q]at h;exact λW2 H2 c dd y=>h W2 H2 c dd (e.trans y)
def Rs.noexc {A:Type}:Rs A->Rs A
 | .exc _ _=> .bad
 |r=>r
def M.noexc {A:Type} (x:M A):M A:=⟨λm=>(x.run m).noexc⟩
theorem PoR.noexc {A:Type} {K:PySem.W.Frag} {F:Nm} {x:M A} {m:Mu} {W:Wd} {H:Hp} {Q:Wd->Hp->Mu->A->Prop} {E E' :XK} (h:PoR K F ((M.noexc x).run m) W H Q E):PoR K F (x.run m) W H Q E' :=by
 unfold M.noexc at h
 cases e:x.run m with
 |bad=>simp only[e]at h;exact h.elim
 |ok a m1=>simp only[e]at h;exact h
 |exc c m1=>simp only[e]at h;exact h.elim
@[simp] theorem eR {A:Type} (a:A):M.noexc (pure a:M A)=pure a:=rfl
@[simp] theorem K1 {A B:Type} (x:M A) (f:A->M B):M.noexc (x>>=f)=(M.noexc x>>=λa=>M.noexc (f a)):=by
 refine M.ext λm=>?_;show(((x.run m).then f).noexc)=((x.run m).noexc).then λa=>M.noexc (f a)
 cases x.run m<;>rfl
section
variable {F:Nm} {X:Cx} {E:XK} {pos:Pos} {a b e:Expr} {rest:List Expr} {fa fb fc:Env->M D} {ga gb:Env->M Bool}
def D.flat:D->Bool
 | .non=>true
 | .bl _=>true
 | .int _=>true
 | .str _=>true
 |_=>false
def D.feq:D->D->Bool
 | .non,.non=>true
 | .bl a,.bl b=>a==b
 | .bl a,.int b=>(if a then 1 else 0)==b
 | .int a,.bl b=>a==(if b then 1 else 0)
 | .int a,.int b=>a==b
 | .str a,.str b=>a==b
 |_,_=>false
theorem SW {K:PySem.W.Frag} {W:Wd} {v:V} {d:D} (r:Rp K F W v d) (h:d.flat=true):flatV v=true:=by
 cases r<;>first|rfl|cases h
theorem eS {K:PySem.W.Frag} {W:Wd} {v u:V} {d e:D} (r:Rp K F W v d) (q:Rp K F W u e) (h:d.flat=true) (h' :e.flat=true):eqV v u=d.feq e:=by
 cases r<;>first|(cases h;done)|(cases q<;>first|(cases h';done)|rfl)
theorem PM {K:PySem.W.Frag} {W:Wd}:∀{vs:List V} {ds:List D},Rps K F W vs ds->ds.all D.flat=true->vs.all flatV=true
 |_,_,.nil,_=>rfl
 |_,_,.cons r t,h=>by
  rw[List.all_cons,Ao]at h;rw[List.all_cons,SW r h.1,PM t h.2];rfl
theorem V1 {K:PySem.W.Frag} {W:Wd} {x:V} {dx:D} (r:Rp K F W x dx) (f:dx.flat=true):∀{vs:List V} {ds:List D},Rps K F W vs ds->ds.all D.flat=true->inV x vs=ds.any λy=>y.feq dx
 |_,_,.nil,_=>rfl
 |_,_,.cons q t,h=>by
  rw[List.all_cons,Ao]at h;show(eqV _ x||inV x _)=_;rw[eS q r h.1 f,V1 r f t h.2];rfl
def K4 (a b:Str):Bool:= !(Builtin.Str.occurrences b a 0 b.length 1).isEmpty
def D.inSeq (neg:Bool) (x:D) (ds:List D):M D:=M.guard (x.flat && ds.all D.flat)>>=λ_=>pure (.bl (if neg=true then !(ds.any λy=>y.feq x)else ds.any λy=>y.feq x))
def D.inDeep (neg:Bool) (x:D) (ds:List D):M D:=match x.py,D.pys ds with
 |some p,some ps=>M.guard (SeqAt.shaped p && SeqAt.shaped (.list ps))>>=λ_=>pure (.bl (if neg=true then !(ps.any λz=>PyData.eqv z p)else ps.any λz=>PyData.eqv z p))
 |_,_=>M.bad
def D.isIn1 (neg:Bool) (x:D):D->M D
 | .str b=>match x with
  | .str a=>pure (.bl (if neg=true then !(K4 a b)else K4 a b))
  |_=>M.bad
 | .lst ds=>if(x.flat && ds.all D.flat)=true then D.inSeq neg x ds else D.inDeep neg x ds
 | .frz ds=>D.inSeq neg x ds
 | .tup ds=>D.inSeq neg x ds
 |_=>M.bad
def D.isIn (x y:D):M D:=y.now>>=D.isIn1 false x
def D.notIn (x y:D):M D:=y.now>>=D.isIn1 true x
def eT (K:PySem.W.Frag) (neg:Bool):R2:=λx y H Q=>((∃i j,x= .str i∧y= .str j∧Q (.bl (if neg=true then !(K4 i j)else K4 i j)) H)∨rIn K neg x y H Q)∨
 ∃d ds,Dp K H x d∧Dp K H y (.list ds)∧SeqAt.shaped d=true∧SeqAt.shaped (.list ds)=true∧Q (.bl (if neg=true then !(ds.any λz=>PyData.eqv z d)else ds.any λz=>PyData.eqv z d)) H
theorem eU (hu:X.A.units+65<cLine):OpR X (compareOp .In) (eT X.K false):=E3 (E3 op_in_str op_in_seq) (op_inD hu)
theorem Ub (hu:X.A.units+65<cLine):OpR X (compareOp .NotIn) (eT X.K true):=E3 (E3 op_notIn_str op_notIn_seq) (op_notInD hu)
theorem SX {K:PySem.W.Frag} {neg:Bool}:Jb K F E (eT K neg) (λx y=>y.now>>=D.isIn1 neg x):=λx y d e0 m W H Q rx ry k h=>by
 obtain⟨e,ry,h⟩:=Df k ry h;have seq:∀(p:Addr) (vs:List V) (ds:List D),(SqL K H p vs∨SqT K H p vs)->Rps K F W vs ds->DP K F ((D.inSeq neg d ds).run m) W H Q E->rIn K neg x (.ref p) H Q:=λp vs ds hq r1 h=>by
  obtain⟨g,h⟩:=gd (A:=D) h;rw[Ao]at g;refine⟨p,vs,rfl,hq,SW rx g.1,PM r1 g.2,?_⟩;rw[V1 rx g.1 r1 g.2];exact PoR.pure k h _ (.bl _)
 cases e with
 |str b=>
  cases ry
  cases rx with
  |str i=>exact .inl (.inl ⟨i,b,rfl,rfl,PoR.pure k h _ (.bl _)⟩)
  |_=>exact h.elim
 |lst ds=>
  obtain⟨p,vs,rfl,h1,r1⟩:=ry;by_cases c:(d.flat && ds.all D.flat)=true
  ·simp only[D.isIn1,An c]at h;exact .inl (.inr (seq p vs ds (.inl (.inl (.inl h1))) r1 h))
  ·simp only[D.isIn1,Aq c]at h;unfold D.inDeep at h
   cases e1:d.py with
   |none=>rw[e1]at h;exact h.elim
   |some q=>
    cases e2:D.pys ds with
    |none=>rw[e1,e2]at h;exact h.elim
    |some qs=>
     rw[e1,e2]at h;obtain⟨g,h⟩:=gd (A:=D) h;rw[Ao]at g;exact .inr ⟨q,qs,Et k d x q rx e1,.lst (.inl (.inl h1)) (Jc k ds vs qs r1 e2),g.1,g.2,PoR.pure k h _ (.bl _)⟩
 |frz ds=>
  cases ry with
  |@frz p vs _ h1 r1=>exact .inl (.inr (seq p vs ds (.inl (SU k.gh h1)) r1 h))
 |tup ds=>
  cases ry with
  |@tup p vs _ h1 r1=>exact .inl (.inr (seq p vs ds (.inr (MQ k.gh h1)) r1 h))
 |_=>exact h.elim
def D.kind:D->Option String
 | .non=>some "NoneType"
 | .bl _=>some "bool"
 | .int _=>some "int"
 | .str _=>some "str"
 | .lst _=>some "list"
 | .frz _=>some "list"
 | .tup _=>some "tuple"
 |_=>none
def D.isT (T:String) (x:D):M D:=x.now>>=λx=>M.opt ((x.kind.bind λt=>kitB t T).map .bl)
theorem kind_ok {K:PySem.W.Frag} {W:Wd} {H:Hp} {m:Mu} {v:V} {d:D} {t:String} (k:Ok K F W m H) (r:Rn K F W H v d) (h:d.kind=some t):TyX K H v (.type t):=by
 have seqL:∀{p:Addr} {vs:List V},SqL K H p vs->TyX K H (.ref p) (.type "list"):=λ{p vs} h=>by
  rcases h with(h|⟨o,h⟩)|⟨o,its,n,lk,c,_⟩
  ·exact .base (.lst h)
  ·exact .base (.frz h)
  ·exact .kList lk c
 have seqT:∀{p:Addr} {vs:List V},SqT K H p vs->TyX K H (.ref p) (.type "tuple"):=λ{p vs} h=>by
  rcases h with(h|⟨o,h⟩)|⟨o,its,n,lk,c,_⟩
  ·exact .base (.tup h)
  ·exact .fTuple h
  ·exact .kTuple lk c
 cases d with
 |non=>cases h;cases r;exact .base .non
 |bl b=>cases h;cases r;exact .base (.bl b)
 |int b=>cases h;cases r;exact .base (.int b)
 |str b=>cases h;cases r;exact .base (.str b)
 |lst ds=>
  cases h
  obtain⟨p,vs,rfl,h1,_⟩:=r;exact .base (.lst h1)
 |frz ds=>
  cases h
  cases r with
  |frz h1 _=>exact seqL (SU k.gh h1)
 |tup ds=>
  cases h
  cases r with
  |tup h1 _=>exact seqT (MQ k.gh h1)
 |hnd _=>cases h
 |nam _=>cases h
 |clo _ _=>cases h
 |dct _ _=>cases h
 |tpx _=>cases h
 |ktp _=>cases h
theorem eV {x:Str} {p q:Pos} {T:String} (hg:Gl X "isinstance") (hm:X.mg "isinstance"=none) (hg' :Gl X x) (hm' :X.mg x=none) (hv:bootBuiltins x=some (.type T)) (ha:PD F X E a fa) (hn:x≠"__name__" :=by decide) (hdb:(x==("__debug__" :Str))=false:=by decide)
 (he:starEach (a::[.Name x q]) X.env=(false,eval a X.env)::starEach [.Name x q] X.env:=by rfl) (he2:starEach (.Name x q::[]) X.env=(false,eval (.Name x q) X.env)::starEach [] X.env:=by rfl)
 (hpl:(backTo pos (starEach [.Name x q] X.env)).any (·.1)=false:=by rfl):PD F X E (.Call (.Name "isinstance" p) [a,.Name x q] [] pos) (fun ρ=>fa ρ>>=D.isT T):=by
 obtain⟨t,p1,q1⟩:=ha;refine⟨_,pe_callB call_isi hg hm AC (pa_cons p1 (pa_cons (pe_bltn (v:= .ty T) hg' hm' hv rfl hn hdb) pa_nil he2) he) AB AB he hpl,fun ρ m W σ H s k Q h=>?_⟩;refine q1 ρ m W σ H s k _ ((PoR.bind h).imp λW1 H1 m1 d e x1 k1 h1 v r1=>?_);unfold D.isT at h1;obtain⟨d',r1,h1⟩:=Df k1 r1 h1;obtain⟨z,e1,h1⟩:=ID (B:=D) h1;obtain⟨c,e2,rfl⟩:=Az.mp e1;obtain⟨t,e3,e4⟩:=Option.bind_eq_some_iff.mp e2;exact⟨v,.ty T,.type t,.type T,c,rfl,.ty T,kind_ok k1 r1 e3,kit_ty e4,PoR.ok k1 h1 _ (.bl _)⟩
structure PDj (F:Nm) (X:Cx) (E:XK) (es:List Expr) (f:Env->Str->M Str):Prop where
 ex:∃ts,PJ X es ts∧∀ρ acc m W σ H,Sl X.K F W ρ σ->Ok X.K F W m H->∀Q:Str->Hp->Prop,PoR X.K F ((f ρ acc).run m) W H (λ_ H' _ o=>Q o H') E->tJs ts acc σ H Q
theorem ZH:PDj F X E [] (λ_ acc=>pure acc):=⟨[],.nil,fun ρ acc m W σ H s k Q h=>PoR.pure k h⟩
def D.onto (acc:Str):D->M Str
 | .str y=>M.guard (decide ((acc++y).length≤sizeLine))>>=λ_=>pure (acc++y)
 |_=>M.bad
theorem V2 {es:List Expr} {f:Env->Str->M Str} (ha:PD F X E e fa) (hr:PDj F X E es f):PDj F X E (e::es) (fun ρ acc=>fa ρ>>=λx=>D.onto acc x>>=λacc=>f ρ acc):=by
 obtain⟨t,p,q⟩:=ha;obtain⟨ts,ps,qs⟩:=hr;refine⟨t::ts,.cons p ps,fun ρ acc m W σ H s k Q h=>?_⟩;refine q ρ m W σ H s k _ ((PoR.bind h).imp λW1 H1 m1 d e x1 k1 h1 v r1=>?_)
 cases r1 with
 |str y=>
  have h1:PoR X.K F ((M.guard (decide ((acc++y).length≤sizeLine))>>=λ_=>f ρ (acc++y)).run m1) W1 H1 (λ_ H' _ o=>Q o H') E:=by
   rw[show D.onto acc (.str y)=(M.guard (decide ((acc++y).length≤sizeLine))>>=λ_=>pure (acc++y))from rfl,D5]at h1;exact h1
  obtain⟨g,h1⟩:=gd (A:=D) h1;exact⟨y,rfl,AN g,qs ρ _ m1 W1 σ H1 (s.mono x1) k1 Q h1⟩
 |_=>exact h1.elim
def D.fmt:D->M D
 | .str y=>M.guard (decide (y.length≤sizeLine))>>=λ_=>pure (.str y)
 | .int i=>M.guard (decide (i.natAbs.log2<1920))>>=λ_=>pure (.str (toString i))
 |_=>M.bad
theorem eW (ha:PD F X E e fa):PD F X E (.FormattedValue e (-1) none pos) (fun ρ=>fa ρ>>=D.fmt):=by
 obtain⟨t,p,q⟩:=ha;refine⟨_,pe_fmt p,fun ρ m W σ H s k Q h=>q ρ m W σ H s k _ ((PoR.bind h).imp λW1 H1 m1 d e x1 k1 h1 v r1=>?_)⟩
 cases r1 with
 |str y=>
  obtain⟨g,h1⟩:=gd (A:=D) h1;exact .inl ⟨y,rfl,AN g,PoR.pure k1 h1 _ (.str _)⟩
 |int y=>
  obtain⟨g,h1⟩:=gd (A:=D) h1;exact .inr ⟨y,rfl,AN g,PoR.pure k1 h1 _ (.str _)⟩
 |_=>exact h1.elim
theorem Uc {v1 v2:Expr} {f:Env->Str->M Str} (h:PDj F X E (v1::v2::rest) f):PD F X E (.JoinedStr (v1::v2::rest) pos) (fun ρ=>f ρ Str.empty>>=λx=>pure (.str x)):=by
 obtain⟨ts,ps,qs⟩:=h;exact⟨_,pe_joined ps,fun ρ m W σ H s k Q h=>qs ρ _ m W σ H s k _ ((PoR.bind h).imp λW1 H1 m1 d e x1 k1 h1=>PoR.pure k1 h1 _ (.str _))⟩
def D.text:D->M Str
 | .str a=>pure a
 |_=>M.bad
theorem ZI {A:Type} {K:PySem.W.Frag} {W:Wd} {H:Hp} {m:Mu} {v:V} {d:D} {f:Str->M A} {Q:Wd->Hp->Mu->A->Prop} (r:Rp K F W v d) (h:PoR K F ((d.text>>=f).run m) W H Q E):∃x,v= .str x∧PoR K F ((f x).run m) W H Q E:=by
 cases r with
 |str x=>exact⟨x,rfl,h⟩
 |_=>exact h.elim
def n6 (K:PySem.W.Frag) (F:Nm) (E:XK) (r:V->List V->Hp->VK->Prop) (g:Str->D->M D):Prop:=∀x u e m W H Q,Rp K F W u e->Ok K F W m H->DP K F ((g x e).run m) W H Q E->r (.str x) [u] H Q
theorem V3 {id:String} {name:Str} {apos:Pos} {r:V->List V->Hp->VK->Prop} {g:Str->D->M D} (slot:PySem.Slot "str" name id) (ty:typeOf (.builtin id)=pure (.type "method_descriptor")) (rule:MtR X id r) (hr:n6 X.K F E r g) (ha:PD F X E a fa) (hb:PD F X E b fb)
 (hs:starEach [b] X.env=[(false,eval b X.env)]:=by rfl) (hbase:attributeBase a name X.env (eval a X.env)=eval a X.env:=by rfl) (hline:(apos.endLine==pos.line)=true:=by rfl):
 PD F X E (.Call (.Attribute a name apos) [b] [] pos) (fun ρ=>fa ρ>>=λx=>D.text x>>=λx=>fb ρ>>=λy=>g x y):=by
 obtain⟨t,p,q⟩:=ha;obtain⟨t',p',q'⟩:=hb;refine⟨_,pe_m1 slot ty rule p p' hs hbase hline,fun ρ m W σ H s k Q h=>q ρ m W σ H s k _ ((PoR.bind h).imp λW1 H1 m1 d e x1 k1 h1 v r1=>?_)⟩;obtain⟨x,rfl,h1⟩:=ZI r1 h1;exact⟨⟨x,rfl⟩,q' ρ m1 W1 σ H1 (s.mono x1) k1 _ ((PoR.bind h1).imp λW2 H2 m2 d2 e2 x2 k2 h2 v2 r2=>hr x v2 d2 m2 W2 H2 Q r2 k2 h2)⟩
def D.startswith (a:Str):D->M D
 | .str b=>pure (.bl (Txt.startswith a b))
 |_=>M.bad
theorem KQ {K:PySem.W.Frag}:n6 K F E (λx xs H Q=>∃a b,x= .str a∧xs=[.str b]∧Q (.bl (Txt.startswith a b)) H) D.startswith:=λx u e m W H Q r k h=>by
 cases r with
 |str y=>exact⟨x,y,rfl,rfl,PoR.pure k h _ (.bl _)⟩
 |_=>exact h.elim
def D.texts:List D->Option (List Str)
 |[]=>some []
 | .str b::r=>(D.texts r).map (b::·)
 |_::_=>none
theorem PN {K:PySem.W.Frag} {W:Wd}:∀{ds:List D} {vs:List V} {bs:List Str},Rps K F W vs ds->D.texts ds=some bs->vs=bs.map V.str
 |[],_,_,.nil,e=>by cases e;rfl
 | .str b::r,_,bs,.cons h t,e=>by
  cases h
  simp only[D.texts,Az]at e;obtain⟨c,e,rfl⟩:=e;rw[AO,PN t e]
 | .non::_,_,_,_,e| .int _::_,_,_,_,e| .bl _::_,_,_,_,e| .tup _::_,_,_,_,e| .lst _::_,_,_,_,e| .frz _::_,_,_,_,e| .hnd _::_,_,_,_,e| .nam _::_,_,_,_,e| .clo _ _::_,_,_,_,e| .dct _ _::_,_,_,_,e| .tpx _::_,_,_,_,e| .ktp _::_,_,_,_,e=>by cases e
def D.join2 (a:Str) (ds:List D):M D:=M.opt (D.texts ds)>>=λys=>M.guard (decide ((ys.map (·.length)).sum+ys.length*a.length≤16777216))>>=λ_=>pure (.str (Txt.join a ys))
def D.join1 (a:Str):D->M D
 | .lst ds=>D.join2 a ds
 | .tup ds=>D.join2 a ds
 |_=>M.bad
def D.join (a:Str) (y:D):M D:=y.now>>=D.join1 a
theorem Ud {K:PySem.W.Frag}:n6 K F E (λx xs H Q=>∃a p,∃ys:List Str,x= .str a∧xs=[.ref p]∧(SqL K H p (ys.map V.str)∨SqT K H p (ys.map V.str))∧
 (ys.map (·.length)).sum+ys.length*a.length≤16777216∧Q (.str (Txt.join a ys)) H) D.join:=λx u e0 m W H Q r k h=>by
 unfold D.join at h;obtain⟨e,r,h⟩:=Df k r h;have fin:∀(p:Addr) (vs:List V) (ds:List D),(SqL K H p vs∨SqT K H p vs)->Rps K F W vs ds->DP K F ((D.join2 x ds).run m) W H Q E->∃a q,∃ys:List Str,V.str x= .str a∧[V.ref p]=[.ref q]∧(SqL K H q (ys.map V.str)∨SqT K H q (ys.map V.str))∧
  (ys.map (·.length)).sum+ys.length*a.length≤16777216∧Q (.str (Txt.join a ys)) H:=λp vs ds hq r1 h=>by
  unfold D.join2 at h
  cases e1:D.texts ds with
  |none=>rw[e1]at h;exact h.elim
  |some ys=>
   rw[e1]at h;obtain⟨g,h⟩:=gd (A:=D) h;rw[PN r1 e1]at hq;exact⟨x,p,ys,rfl,rfl,hq,AN g,PoR.pure k h _ (.str _)⟩
 cases e with
 |lst ds=>
  obtain⟨p,vs,rfl,h1,r1⟩:=r;exact fin p vs ds (.inl (.inl (.inl h1))) r1 h
 |tup ds=>
  cases r with
  |@tup p vs _ h1 r1=>exact fin p vs ds (.inr (MQ k.gh h1)) r1 h
 |_=>exact h.elim
theorem ZJ {apos:Pos} (ha:PD F X E a fa) (hb:PD F X E b fb) (hs:starEach [b] X.env=[(false,eval b X.env)]:=by rfl) (hbase:attributeBase a "join" X.env (eval a X.env)=eval a X.env:=by rfl) (hline:(apos.endLine==pos.line)=true:=by rfl):
 PD F X E (.Call (.Attribute a "join" apos) [b] [] pos) (fun ρ=>fa ρ>>=λx=>D.text x>>=λx=>fb ρ>>=λy=>D.join x y):=V3 PySem.F.slot_str_join PySem.F.type_str_join mt_join Ud ha hb hs hbase hline
theorem MU {apos:Pos} (ha:PD F X E a fa) (hb:PD F X E b fb) (hs:starEach [b] X.env=[(false,eval b X.env)]:=by rfl) (hbase:attributeBase a "startswith" X.env (eval a X.env)=eval a X.env:=by rfl) (hline:(apos.endLine==pos.line)=true:=by rfl):
 PD F X E (.Call (.Attribute a "startswith" apos) [b] [] pos) (fun ρ=>fa ρ>>=λx=>D.text x>>=λx=>fb ρ>>=λy=>D.startswith x y):=V3 PySem.F.slot_str_startswith PySem.F.type_str_startswith mt_startswith KQ ha hb hs hbase hline
def Ml (o:Option Nat) (ds:List D) (m:Mu):Prop:=match o with
 |none=>True
 |some k=>m[k]? =some (.lst ds)
def PQ (K:PySem.W.Frag) (F:Nm) (W:Wd) (H:Hp) (J:It) (ds:List D) (o:Option Nat):Prop:=
 ∀W' m' H',WX W W'->Ok K F W' m' H'->Ml o ds m'->
  (∀i d,ds[i]? =some d->J.go i H'∧∀x H'',J.yld i H' x H''->∃W'',Ext W' H' W'' H''∧Ok K F W'' m' H''∧Rp K F W'' x d)∧J.stop ds.length H'
structure PDi (F:Nm) (X:Cx) (E:XK) (tg iter:Expr) (f:Env->M (List D×Option Nat)):Prop where
 ex:∃wi,PI X tg iter wi∧∀ρ m W σ H,Sl X.K F W ρ σ->Ok X.K F W m H->∀R:It->Hp->Prop,PoR X.K F ((f ρ).run m) W H (λW' H' _ p=>∀J,PQ X.K F W' H' J p.1 p.2->R J H') E->wi σ H R
def signs (x:Str):List D:=x.cps.toList.map λc=> .str ⟨#[c]⟩
def D.iter:D->M (List D×Option Nat)
 | .lst ds=>pure (ds,none)
 | .frz ds=>pure (ds,none)
 | .tup ds=>pure (ds,none)
 | .tpx ds=>pure (ds,none)
 | .str x=>pure (signs x,none)
 | .hnd k=>⟨λm=>match m[k]? with
  |some (.lst ds)=> .ok (ds,some k) m
  |_=> .bad⟩
 |_=>M.bad
theorem PI.or {tg iter:Expr} {w1 w2:TI} (h1:PI X tg iter w1) (h2:PI X tg iter w2):PI X tg iter (fun σ H R=>w1 σ H R∨w2 σ H R):=⟨λpins s σ H R I h=>by
 rcases h with h|h
 ·exact h1.run pins s σ H R I h
 ·exact h2.run pins s σ H R I h⟩
theorem V4 {K:PySem.W.Frag} {W:Wd} {H:Hp} {p:Addr} {vs:List V} {ds:List D} (h:SqL K W.G p vs) (r:Rps K F W vs ds):PQ K F W H (Itl K p) ds none:=λW' m' H' x k _=>by
 have hs:SqL K H' p vs:=SU (λa o e=>k.gh a o (x.ex a o e)) h;refine⟨λi d hd=>?_,⟨vs,hs,by rw[r.length];exact Ai _⟩⟩;obtain⟨v,hv,rv⟩:=r.get hd;refine⟨⟨vs,v,hs,hv⟩,λy H'' hy=>?_⟩;obtain⟨rfl,hy⟩:=hy;have e:=hy vs hs;rw[hv]at e
 cases e
 exact⟨W',Ext.refl _ _,k,Rp.mono' x.al x.ex rv⟩
theorem V5 {K:PySem.W.Frag} {W:Wd} {H:Hp} {p:Addr} {vs:List V} {ds:List D} (h:SqT K W.G p vs) (r:Rps K F W vs ds):PQ K F W H (Itt K p) ds none:=λW' m' H' x k _=>by
 have hs:SqT K H' p vs:=MQ (λa o e=>k.gh a o (x.ex a o e)) h;refine⟨λi d hd=>?_,⟨vs,hs,by rw[r.length];exact Ai _⟩⟩;obtain⟨v,hv,rv⟩:=r.get hd;refine⟨⟨vs,v,hs,hv⟩,λy H'' hy=>?_⟩;obtain⟨rfl,hy⟩:=hy;have e:=hy vs hs;rw[hv]at e
 cases e
 exact⟨W',Ext.refl _ _,k,Rp.mono' x.al x.ex rv⟩
theorem eX {K:PySem.W.Frag} {W:Wd} {H:Hp} {x:Str}:PQ K F W H (Its x) (signs x) none:=λW' m' H' xe k _=>by
 refine⟨λi d hd=>?_,by show x.cps.size≤(signs x).length;simp[signs]⟩;unfold signs at hd;rw[A6]at hd;obtain⟨c,hc,rfl⟩:=Az.mp hd;have hi:=(AS.mp hc).1;refine⟨by show i<x.cps.size;simpa using hi,λy H'' hy=>?_⟩;obtain⟨rfl,c',hc',rfl⟩:=hy;have:c'=c:=by
  rw[BE]at hc;rw[hc']at hc;exact Option.some.inj hc
 subst this;exact⟨W',Ext.refl _ _,k,.str _⟩
theorem eY {K:PySem.W.Frag} {W:Wd} {H:Hp} {p:Addr} {k:Nat} {ds:List D} (h:W.al[k]? =some p):PQ K F W H (Itl K p) ds (some k):=λW' m' H' x c st=>by
 have hp:W'.al[k]? =some p:=by
  obtain⟨r,q⟩:=x.al;rw[q,AV (AS.mp h).1];exact h
 obtain⟨vs,h1,r⟩:=c.ob k p _ hp st;have hs:SqL K H' p vs:= .inl (.inl h1);refine⟨λi d hd=>?_,⟨vs,hs,by rw[r.length];exact Ai _⟩⟩;obtain⟨v,hv,rv⟩:=r.get hd;refine⟨⟨vs,v,hs,hv⟩,λy H'' hy=>?_⟩;obtain⟨rfl,hy⟩:=hy;have e:=hy vs hs;rw[hv]at e
 cases e
 exact⟨W',Ext.refl _ _,c,rv⟩
theorem ZK {tg:Expr} (ha:PD F X E a fa):PDi F X E tg a (fun ρ=>fa ρ>>=D.iter):=by
 obtain⟨t,p,q⟩:=ha;refine⟨_,PI.or (pi_list p) (PI.or (pi_tup p) (pi_str p)),fun ρ m W σ H s k R h=>?_⟩;have aux:∀d m1,(fa ρ).run m= .ok d m1->((fa ρ>>=D.iter).run m)=(D.iter d).run m1:=λd m1 e=>by rw[Do,e];rfl
 cases e:(fa ρ).run m with
 |bad=>rw[Do,e]at h;exact h.elim
 |exc c m1=>
  rw[Do,e]at h;exact .inl (q ρ m W σ H s k _ (by rw[e];exact h))
 |ok d m1=>
  rw[aux d m1 e]at h;have run:∀Q:VK,(∀W1 H1,Ext W H W1 H1->Ok X.K F W1 m1 H1->∀v,Rp X.K F W1 v d->Q v H1)->t σ H Q:=λQ hQ=>q ρ m W σ H s k Q (by rw[e];exact hQ)
  cases d with
  |lst ds=>
   refine .inl (run _ λW1 H1 x1 k1 v r1=>?_)
   cases r1 with
   |@lst pp vs _ h1 r1=>exact⟨pp,rfl,⟨vs,.inl (.inl (k1.gh _ _ h1))⟩,h W1 H1 x1 k1 _ (V4 (.inl (.inl h1)) r1)⟩
  |frz ds=>
   refine .inl (run _ λW1 H1 x1 k1 v r1=>?_)
   cases r1 with
   |@frz pp vs _ h1 r1=>exact⟨pp,rfl,⟨vs,SU k1.gh h1⟩,h W1 H1 x1 k1 _ (V4 h1 r1)⟩
  |tup ds=>
   refine .inr (.inl (run _ λW1 H1 x1 k1 v r1=>?_))
   cases r1 with
   |@tup pp vs _ h1 r1=>exact⟨pp,rfl,⟨vs,MQ k1.gh h1⟩,h W1 H1 x1 k1 _ (V5 h1 r1)⟩
  |str x=>
   refine .inr (.inr (run _ λW1 H1 x1 k1 v r1=>?_))
   cases r1
   exact⟨x,rfl,h W1 H1 x1 k1 _ eX⟩
  |hnd i=>
   refine .inl (run _ λW1 H1 x1 k1 v r1=>?_)
   cases r1 with
   |@hnd pp _ h1=>
    cases e2:m1[i]? with
    |none=>simp only[D.iter,e2]at h;exact h.elim
    |some o=>
     cases o with
     |lst ds=>
      simp only[D.iter,e2]at h;obtain⟨vs,h2,r2⟩:=k1.ob i pp _ h1 e2;exact⟨pp,rfl,⟨vs,.inl (.inl h2)⟩,h W1 H1 x1 k1 _ (eY h1)⟩
     |dic kvs=>simp only[D.iter,e2]at h;exact h.elim
     |fdc kvs=>simp only[D.iter,e2]at h;exact h.elim
     |ins _ _=>simp only[D.iter,e2]at h;exact h.elim
     |dtp _=>simp only[D.iter,e2]at h;exact h.elim
     |dead=>simp only[D.iter,e2]at h;exact h.elim
  |non=>exact h.elim
  |bl _=>exact h.elim
  |int _=>exact h.elim
  |nam _=>exact h.elim
  |clo _ _=>exact h.elim
  |dct _ _=>exact h.elim
  |ktp _=>exact h.elim
  |tpx ds=>
   refine .inr (.inl (run _ λW1 H1 x1 k1 v r1=>?_))
   cases r1 with
   |@tpx pp oo vs _ h1 _ _ r1=>
    have h2:SqT X.K W1.G pp vs:= .inl (.inr ⟨oo,h1⟩);exact⟨pp,rfl,⟨vs,MQ k1.gh h2⟩,h W1 H1 x1 k1 _ (V5 h2 r1)⟩
def DL (lo:Int) (n:Nat):List D:=(List.range n).map λ(i:Nat)=> .int (lo+(i:Int))
theorem eZ {K:PySem.W.Frag} {W:Wd} {H:Hp} {lo:Int} {n:Nat}:PQ K F W H (Itr lo n) (DL lo n) none:=λW' m' H' xe k _=>by
 refine⟨λi d hd=>?_,by show n≤(DL lo n).length;simp[DL]⟩;unfold DL at hd;rw[A6]at hd;obtain⟨c,hc,rfl⟩:=Az.mp hd;have hi:=(AS.mp hc).1;rw[Bf]at hi;rw[List.getElem?_range hi]at hc
 cases hc
 refine⟨hi,λy H'' hy=>?_⟩;obtain⟨rfl,rfl⟩:=hy;exact⟨W',Ext.refl _ _,k,.int _⟩
def D.range1:List D->M (List D×Option Nat)
 |[.int n]=>M.guard (decide (-(2 ^ 62)≤n∧n<2 ^ 62))>>=λ_=>pure (DL 0 n.toNat,none)
 |_=>M.bad
def D.range2:List D->M (List D×Option Nat)
 |[.int i,.int j]=>M.guard (decide (-(2 ^ 62)≤i∧i<2 ^ 62∧ -(2 ^ 62)≤j∧j<2 ^ 62))>>=λ_=>pure (DL i (j - i).toNat,none)
 |_=>M.bad
theorem Q8 {tg:Expr} {p:Pos} (hg:Gl X "range") (hm:X.mg "range"=none) (ha:PD F X E a fa) (hs:starEach [a] X.env=[(false,eval a X.env)]:=by rfl):
 PDi F X E tg (.Call (.Name "range" p) [a] [] pos) (fun ρ=>fa ρ>>=λx=>D.range1 [x]):=by
 obtain⟨t,p1,q⟩:=ha;refine⟨_,pi_range1 hg hm (pa_cons p1 pa_nil hs) hs,fun ρ m W σ H s k R h=>?_⟩;refine q ρ m W σ H s k _ ((PoR.bind h).imp λW1 H1 m1 d e x1 k1 h1 v r1=>?_)
 cases r1 with
 |int n=>
  obtain⟨g,h1⟩:=gd (A:=D) h1;have g:=AN g;exact⟨n,rfl,g.1,g.2,PoR.pure k1 h1 _ eZ⟩
 |_=>exact h1.elim
end
end Mir
namespace Mir
open PySem L2
def Out (is:List Nat) (σ σ' :L2.St):Prop:=∀vs:List Nat,(∀i,i∈is->i∈vs)->wipe σ' vs=wipe σ vs
theorem eh (σ:L2.St) (i:Nat):∀vs:List Nat,(wipe σ vs)[i]? =if i∈vs∧i<σ.length then some none else σ[i]?
 |[]=>by simp[wipe]
 |v::vs=>by
  unfold wipe;by_cases h:v=i
  ·subst h;by_cases hl:v<σ.length
   ·rw[A5 (by rw[wipe_length];exact hl),An ⟨AG,hl⟩]
   ·rw[BF (by rw[BB,wipe_length];omega),Aq (λz=>hl z.2),BF AA]
  ·rw[A2 h,eh σ i vs];by_cases hl:i<σ.length
   ·by_cases hm:i∈vs
    ·rw[An ⟨hm,hl⟩,An ⟨AF _ hm,hl⟩]
    ·rw[Aq (λz=>hm z.1),Aq (λz=>(AQ.mp z.1).elim (λq=>h q.symm) hm)]
   ·rw[Aq (λz=>hl z.2),Aq (λz=>hl z.2)]
theorem ZL {σ:L2.St} {i:Nat} {o:Option V} {is:List Nat} (h:i∈is):Out is σ (σ.set i o):=λvs hv=>by
 refine Bz λj=>?_;rw[eh,eh,BB];by_cases c:j∈vs∧j<σ.length
 ·rw[An c,An c]
 ·rw[Aq c,Aq c];by_cases e:i=j
  ·subst e;have hl:¬i<σ.length:=λz=>c ⟨hv i h,z⟩;rw[BF (by rw[BB];omega),BF AA]
  ·rw[A2 e]
theorem PR {σ:L2.St} {is:List Nat}:Out is σ σ:=λ_ _=>rfl
theorem Mm {σ σ' σ'' :L2.St} {is:List Nat} (h:Out is σ σ') (h' :Out is σ' σ''):Out is σ σ'' :=λvs hv=>(h' vs hv).trans (h vs hv)
theorem K5 {K:PySem.W.Frag} {F:Nm} {W:Wd} {ρ:Env} {σ:L2.St} {i:Nat} {d:D} {v:V} (s:Sl K F W ρ σ) (r:Rp K F W v d):Sl K F W (ρ.set i (some d)) (σ.set i (some v)):=by
 refine⟨by rw[BB,BB];exact s.len,λj e hj=>?_⟩;by_cases h:i=j
 ·subst h;by_cases hl:i<ρ.length
  ·rw[A5 hl]at hj
   cases hj
   exact⟨v,A5 (by rw[←s.len];exact hl),r⟩
  ·rw[BF (by rw[BB];omega)]at hj
   cases hj
 ·rw[A2 h]at hj ⊢;exact s.get j e hj
def DB (ρ:Env):List Nat->Env
 |[]=>ρ
 |v::vs=>(DB ρ vs).set v none
theorem Ii {K:PySem.W.Frag} {F:Nm} {W:Wd} {ρ:Env} {σ:L2.St} (s:Sl K F W ρ σ):∀vs:List Nat,Sl K F W (DB ρ vs) (wipe σ vs)
 |[]=>s
 |v::vs=>by
  have q:=Ii s vs;refine⟨?_,λj e hj=>?_⟩
  ·show((DB ρ vs).set v none).length=((wipe σ vs).set v none).length;rw[BB,BB];exact q.len
  ·have hj:((DB ρ vs).set v none)[j]? =some (some e):=hj;show ∃u,((wipe σ vs).set v none)[j]? =_∧_;by_cases h:v=j
   ·subst h;by_cases hl:v<(DB ρ vs).length
    ·rw[A5 hl]at hj;cases hj
    ·rw[BF (by rw[BB];omega)]at hj;cases hj
   ·rw[A2 h]at hj ⊢;exact q.get j e hj
section
variable {F:Nm} {X:Cx} {E:XK} {pos:Pos} {a b e:Expr} {rest:List Expr} {fa fb fc:Env->M D} {ga gb:Env->M Bool}
def e8 (K:PySem.W.Frag) (F:Nm) (E:XK) (is:List Nat) (g:TG) (f:D->Env->M Env):Prop:=∀d ρ m W σ H v,Sl K F W ρ σ->Ok K F W m H->Rp K F W v d->∀Q:L2.St->Hp->Prop,
 PoR K F ((f d ρ).run m) W H (λW' H' _ ρ'=>∀σ',Sl K F W' ρ' σ'->Out is σ σ'->Q σ' H') E->g v σ H Q
def lr (K:PySem.W.Frag) (F:Nm) (E:XK) (is:List Nat) (g:TGs) (f:List D->Env->M Env):Prop:=∀ds ρ m W σ H vs,Sl K F W ρ σ->Ok K F W m H->Rps K F W vs ds->∀Q:L2.St->Hp->Prop,
 PoR K F ((f ds ρ).run m) W H (λW' H' _ ρ'=>∀σ',Sl K F W' ρ' σ'->Out is σ σ'->Q σ' H') E->g vs σ H Q
structure PDg (F:Nm) (X:Cx) (E:XK) (tg:Expr) (is:List Nat) (f:D->Env->M Env):Prop where
 ex:∃g,PG X tg g∧e8 X.K F E is g f
structure PDgs (F:Nm) (X:Cx) (E:XK) (tgs:List Expr) (is:List Nat) (f:List D->Env->M Env):Prop where
 ex:∃g,PGs X tgs g∧lr X.K F E is g f
theorem V6 {x:Str} {is:List Nat} (i:Nat) (hm:i∈is) (hN:X.N.Nodup) (hi:X.N[i]? =some x) (hx:Loc X.env.scope x) (hf:X.fn x=true∨X.env.scope.names.lookup x=some .local:=by first|exact .inl rfl|exact .inr rfl|assumption):
 PDg F X E (.Name x pos) is (λd ρ=>pure (ρ.set i (some d))):=
 ⟨_,pg_name hN hi hx hf,λd ρ m W σ H v s k r Q h=>PoR.pure k h _ (K5 s r) (ZL hm)⟩
theorem V7 {is:List Nat}:PDgs F X E [] is (λds ρ=>match ds with
 |[]=>pure ρ
 |_=>M.bad):=⟨_,pgs_nil,λds ρ m W σ H vs s k r Q h=>by
  cases r with
  |nil=>exact⟨rfl,PoR.pure k h _ s PR⟩
  |cons _ _=>exact h.elim⟩
theorem Ue {es:List Expr} {is:List Nat} {f:D->Env->M Env} {fs:List D->Env->M Env} (h1:PDg F X E e is f) (h2:PDgs F X E es is fs)
 (hs:(assignEach (e::es) X.env).map (·.2)=assign e X.env::(assignEach es X.env).map (·.2):=by rfl):PDgs F X E (e::es) is (λds ρ=>match ds with
  |d::ds=>f d ρ>>=fun ρ=>fs ds ρ
  |_=>M.bad):=by
 obtain⟨g,p,q⟩:=h1;obtain⟨gs,ps,qs⟩:=h2;refine⟨_,pgs_cons p ps hs,λds ρ m W σ H vs s k r Q h=>?_⟩
 cases r with
 |nil=>exact h.elim
 |@cons v vs d ds r1 r2=>
  refine⟨v,vs,rfl,q d ρ m W σ H v s k r1 _ ((PoR.bind h).imp λW1 H1 m1 ρ1 e1 x1 k1 h1 σ1 s1 o1=>?_)⟩;exact qs ds ρ1 m1 W1 σ1 H1 vs s1 k1 (r2.mono x1) Q (h1.imp λW2 H2 m2 ρ2 e2 x2 k2 h2 σ2 s2 o2=>h2 σ2 s2 (Mm o1 o2))
def D.unpack (n:Nat):D->M (List D)
 | .tup ds=>M.guard (decide (ds.length=n))>>=λ_=>pure ds
 |_=>M.bad
theorem ZM {es:List Expr} {is:List Nat} {kk n:Nat} {fs:List D->Env->M Env} (hc:X.calm=true) (h:PDgs F X E es is fs) (hn:(assignEach es X.env).length=n:=by rfl) (hst:(assignEach es X.env).findIdx? (·.1)=none:=by rfl):
 PDg F X E (.Tuple es kk pos) is (λd ρ=>D.unpack n d>>=λds=>fs ds ρ):=by
 obtain⟨g,p,q⟩:=h;refine⟨_,pg_tup hc p hn hst,λd ρ m W σ H v s k r Q h=>?_⟩
 cases r with
 |@tup pp vs ds h1 r1=>
  have h:PoR X.K F ((M.guard (decide (ds.length=n))>>=λ_=>fs ds ρ).run m) W H (λW' H' _ ρ'=>∀σ',Sl X.K F W' ρ' σ'->Out is σ σ'->Q σ' H') E:=by
   dsimp only[D.unpack]at h;rw[D5]at h;exact h
  obtain⟨g,h⟩:=gd (A:=D) h;exact⟨pp,vs,rfl,MQ k.gh h1,by rw[r1.length];exact AN g,q ds ρ m W σ H vs s k r1 Q h⟩
 |_=>exact h.elim
abbrev DQ:XK:=λ_ _ _=>False
def oZ (C:Cx->Prop) (e:Expr):TE:=fun σ H Q=>∀X,C X->∀pins s,Inv X pins σ H s->wpAny (model X.prog X.w) X.A (eval e X.env) (EP X pins σ Q) X.xe s
def og (C:Cx->Prop) (es:List Expr):TT:=fun σ H Q=>∀X,C X->∀pins s,Inv X pins σ H s->
 wpAny (model X.prog X.w) X.A (forIn es true λc r=>if r=true then do let ok←isTrue c X.env (eval c X.env);pure (ForInStep.yield ok)else pure (ForInStep.yield r)) (TP X pins σ Q) X.xe s
def oh (C:Cx->Prop) (e:Expr):TG:=λv σ H Q=>∀X,C X->∀pins s u,Inv X pins σ H s->RelV v u->wpAny (model X.prog X.w) X.A (assign e X.env u) (λ_ s'=>∃σ' H',Inv X pins σ' H' s'∧Q σ' H') X.xe s
structure PDts (F:Nm) (X:Cx) (E:XK) (es:List Expr) (f:Env->M Bool):Prop where
 ex:∃t,PTs X es t∧Y4 X.K F E t f
theorem V8:PDts F X E [] (λ_=>pure true):=⟨_,pts_nil,fun ρ m W σ H s k Q h=>PoR.pure k h⟩
theorem V9 (h:PDt F X E a ga):PDts F X E [a] ga:=by
 obtain⟨t,p,q⟩:=h;exact⟨_,pts_one p,q⟩
theorem E9 {K:PySem.W.Frag} {W:Wd} {H:Hp} {m:Mu} {p:Addr} {o:HO} (k:Ok K F W m H) (h1:p∉W.al) (h2:W.G p=none) (hsd:∀u,H p=some u->¬Sd u):Ok K F W m (upd H p o):=by
 refine⟨λa u e=>?_,k.nd,k.gn,k.len,λi a u e1 e2=>?_,k.nt,PH k.tb hsd⟩
 ·have hp:a≠p:=λz=>by rw[z,h2]at e;cases e
  rw[upd_ne hp];exact k.gh a u e
 ·have hp:a≠p:=λz=>h1 (z▸Av e1);have q:=k.ob i a u e1 e2
  cases u with
  |lst ds=>
   obtain⟨vs,e3,r⟩:=q;exact⟨vs,(upd_ne hp).trans e3,r⟩
  |dic kvs=>
   obtain⟨vs,e3,z,r⟩:=q;exact⟨vs,(upd_ne hp).trans e3,z,r⟩
  |dtp kvs=>
   obtain⟨vs,e3,z,r⟩:=q;exact⟨vs,(upd_ne hp).trans e3,z,r⟩
  |dead=>
   obtain⟨vs,e3,e4⟩:=q;exact⟨vs,(upd_ne hp).trans e3,e4⟩
  |fdc kvs=>
   obtain⟨vs,ob,e3,e4,z,r⟩:=q;exact⟨vs,ob,(upd_ne hp).trans e3,e4,z,r⟩
  |ins c kvs=>
   obtain⟨vs,C,dx,e3,e4,z,r⟩:=q;exact⟨vs,C,dx,(upd_ne hp).trans e3,e4,z,r⟩
theorem cE {W W' :Wd} {H H' :Hp} {p:Addr} {o:HO} (x:Ext W H W' H') (h:H p=none):Ext W H W' (upd H' p o):=
 ⟨x.al,x.ex,λa u e n nt=>(upd_ne (ne_of_none e h)).trans (x.kp a u e n nt),x.na,x.ng,λa e=>x.un a (CM e)⟩
theorem WA {K:PySem.W.Frag} {W:Wd} {H:Hp} {m:Mu} {p:Addr} {o:HO} (k:Ok K F W m H) (h1:p∉W.al) (h2:W.G p=none) (h3:H p=some o) (no:∀ps,o≠ .tbl ps):Ok K F (W.new p o) m H:=by
 have ex:∀a u,W.G a=some u->(W.new p o).G a=some u:=λa u e=>(upd_ne (λz=>by rw[z,h2]at e;cases e)).trans e;refine⟨λa u e=>?_,k.nd,λi0 a o0 q1 q2 fr=>?_,k.len,λi a u e1 e2=>?_,λa u e=>?_,k.tb⟩
 ·by_cases hp:a=p
  ·subst hp;have e:upd W.G a o a=some u:=e;rw[upd_same]at e
   cases e
   exact h3
  ·have e:upd W.G p o a=some u:=e;rw[upd_ne hp]at e;exact k.gh a u e
 ·have hp:a≠p:=λz=>h1 (z▸Av q1);show upd W.G p o a=none;rw[upd_ne hp];exact k.gn i0 a o0 q1 q2 fr
 ·have q:=k.ob i a u e1 e2
  cases u with
  |lst ds=>
   obtain⟨vs,e3,r⟩:=q;exact⟨vs,e3,Rps.mono' ⟨[],by simp[Wd.new]⟩ ex r⟩
  |dic kvs=>
   obtain⟨vs,e3,z,r⟩:=q;exact⟨vs,e3,z,Rps.mono' ⟨[],by simp[Wd.new]⟩ ex r⟩
  |dtp kvs=>
   obtain⟨vs,e3,z,r⟩:=q;exact⟨vs,e3,z,Rps.mono' ⟨[],by simp[Wd.new]⟩ ex r⟩
  |dead=>
   obtain⟨vs,e3,e4⟩:=q;exact⟨vs,e3,ex _ _ e4⟩
  |fdc kvs=>
   obtain⟨vs,ob,e3,e4,z,r⟩:=q;exact⟨vs,ob,e3,ex _ _ e4,z,Rps.mono' ⟨[],by simp[Wd.new]⟩ ex r⟩
  |ins c kvs=>
   obtain⟨vs,C,dx,e3,e4,z,r⟩:=q;exact⟨vs,C,dx,e3,e4,z,Rps.mono' ⟨[],by simp[Wd.new]⟩ ex r⟩
 ·by_cases hp:a=p
  ·subst hp;have e:upd W.G a o a=some u:=e;rw[upd_same]at e
   cases e
   exact no
  ·have e:upd W.G p o a=some u:=e;rw[upd_ne hp]at e;exact k.nt a u e
theorem Ug {W W' :Wd} {H H' :Hp} {p:Addr} {o:HO} (x:Ext W H W' H') (h:H p=none) (h2:W'.G p=none):Ext W H (W'.new p o) H' :=
 ⟨x.al,λa u e=>(upd_ne (λz=>by have q:=x.ex a u e;rw[z,h2]at q;cases q)).trans (x.ex a u e),x.kp,x.na,λa u e=>by
  by_cases hp:a=p
  ·rw[hp];exact .inr (.inl h)
  ·exact x.ng a u ((upd_ne hp).symm.trans e),x.un⟩
theorem Qz {W W' :Wd} {H H' :Hp} {p:Addr} {o:HO} (x:Ext W H W' H') (h:H p=some o) (h1:p∉W.al) (h2:W.G p=none) (ns:¬Sd o):H' p=some o∧p∉W'.al∧W'.G p=none:=by
 refine⟨x.kp p o h h1 (λps z=>ns (.inr (.inl ⟨ps,z⟩))),λz=>?_,?_⟩
 ·rcases x.na p z with q|q
  ·exact h1 q
  ·rw[h]at q;cases q
 ·cases e:W'.G p with
  |none=>rfl
  |some u=>
   rcases x.ng p u e with q|q|q|q
   ·rw[h2]at q;cases q
   ·rw[h]at q;cases q
   ·exact(h1 q).elim
   ·obtain⟨u1,q,sd⟩:=q;rw[h]at q
    cases q
    exact(ns sd).elim
def M.stays (o:Option Nat) (ds:List D):M Unit:=match o with
 |none=>pure ()
 |some k=>⟨λm=>match m[k]? with
  |some (.lst es)=>if es.length=ds.length then .ok () m else .bad
  |_=> .bad⟩
def EA (fg:D->Env->M Env) (ft:Env->M Bool) (fe:Env->M D) (ρ:Env):List D->List D->M (List D)
 |[],acc=>pure acc
 |d::ds,acc=>fg d ρ>>=fun ρ1=>ft ρ1>>=λt=>if t=true then fe ρ1>>=λy=>M.guard (decide (acc.length<sizeLine))>>=λ_=>EA fg ft fe ρ ds (acc++[y])else EA fg ft fe ρ ds acc
def Du (fi:Env->M (List D×Option Nat)) (fg:D->Env->M Env) (ft:Env->M Bool) (fe:Env->M D) (own:List Nat) (ρ:Env):M (List D):=
 fi ρ>>=λp=>M.guard (p.2==none)>>=λ_=>M.noexc (EA fg ft fe (DB ρ own) p.1 [])
theorem cF {K:PySem.W.Frag} {wi:TI} {g:TG} {tt:TT} {te:TE} {own is:List Nat} {fi:Env->M (List D×Option Nat)} {fg:D->Env->M Env} {ft:Env->M Bool} {fe:Env->M D}
 (hi:∀ρ m W σ H,Sl K F W ρ σ->Ok K F W m H->∀R:It->Hp->Prop,PoR K F ((fi ρ).run m) W H (λW' H' _ p=>∀J,PQ K F W' H' J p.1 p.2->R J H') E->wi σ H R)
 (hg:e8 K F DQ is g fg) (ht:Y4 K F DQ tt ft) (he:Ky K F DQ te fe) (hs:∀i,i∈is->i∈own) (ρ:Env) (m:Mu) (W:Wd) (σ:L2.St) (H:Hp) (s:Sl K F W ρ σ) (k:Ok K F W m H) (Q:VK)
 (h:PoR K F ((Du fi fg ft fe own ρ).run m) W H (λW' H' m' ds=>∀p vs,H' p=some (.lst vs)->Rps K F W' vs ds->p∉W'.al->W'.G p=none->H p=none->Q (.ref p) H') E):
 tLc wi g tt te own σ H Q:=by
 refine hi ρ m W σ H s k _ ((PoR.bind0 h (Ext.refl W H)).imp λW1 H1 m1 pr e1 x1 k1 h1 J hJ=>?_);obtain⟨ds,o⟩:=pr;obtain⟨g0,h1⟩:=gd (A:=List D) h1;have ho:o=none:=by simpa using g0
 subst ho;have h1:=PoR.noexc (E' :=DQ) h1;intro Dl hDl;have s1:=Ii (s.mono x1) own;have hDH:H Dl=none:=by
  cases q:H Dl with
  |none=>rfl
  |some u=>
   by_cases z:Dl∈W.al
   ·have:Dl∈W1.al:=by
     obtain⟨r,e⟩:=x1.al;rw[e];exact Be _ z
    exact((k1.fresh hDl) this).elim
   ·rw[x1.un Dl hDl]at q
    cases q
 refine⟨λi mm H'=>mm=ds.length - i∧i≤ds.length∧∃W' m' acc vs,Ext W1 H1 W' H'∧Ok K F W' m' H'∧H' Dl=some (.lst vs)∧Dl∉W'.al∧W'.G Dl=none∧Rps K F W' vs acc∧
  PoR K F ((EA fg ft fe (DB ρ own) (ds.drop i) acc).run m') W H (λW' H' m' ds=>∀p vs,H' p=some (.lst vs)->Rps K F W' vs ds->p∉W'.al->W'.G p=none->H p=none->Q (.ref p) H') DQ,⟨ds.length,rfl,BM _,W1,m1,[],[],?_,?_,upd_same,k1.fresh hDl,k1.gnone hDl,.nil,?_⟩,?_⟩
 ·exact cE (Ext.refl _ _) hDl
 ·exact E9 k1 (k1.fresh hDl) (k1.gnone hDl) λu e=>by rw[hDl]at e;cases e
 ·exact h1
 ·rintro i mm H2 ⟨rfl,hi2,W2,m2,acc,vs,x2,k2,d1,d2,d3,r2,h2⟩;have xx:Ext W H W2 H2:=x1.trans x2;obtain⟨items,stop⟩:=hJ W2 m2 H2 x2.wx k2 trivial;by_cases hlt:i<ds.length
  ·obtain⟨go,yl⟩:=items i ds[i] (Aj hlt);refine .inr ⟨go,λH'=>∃m',m'<ds.length - i∧(m'=ds.length - (i+1)∧i+1≤ds.length∧∃W' m' acc vs,Ext W1 H1 W' H'∧Ok K F W' m' H'∧H' Dl=some (.lst vs)∧Dl∉W'.al∧W'.G Dl=none∧Rps K F W' vs acc∧
   PoR K F ((EA fg ft fe (DB ρ own) (ds.drop (i+1)) acc).run m') W H (λW' H' m' ds=>∀p vs,H' p=some (.lst vs)->Rps K F W' vs ds->p∉W'.al->W'.G p=none->H p=none->Q (.ref p) H') DQ),λH' z=>z,λx H3 hy=>?_⟩
   obtain⟨W3,x3,k3,r3⟩:=yl x H3 hy;have ed:ds.drop i=ds[i]::ds.drop (i+1):=BK hlt;rw[ed]at h2;have xt:Ext W H W3 H3:=xx.trans x3;obtain⟨d1,d2,d3⟩:=Qz x3 d1 d2 d3 D6;have r2:=r2.mono x3;refine hg ds[i] (DB ρ own) m2 W3 (wipe σ own) H3 x (s1.mono (x2.trans x3)) k3 r3 _ ((PoR.bind0 h2 xt).imp λW4 H4 m4 ρ4 e4 x4 k4 h4 σ4 s4 o4=>⟨?_,?_⟩)
   ·have q:=o4 own hs;rw[q];refine Bz λj=>?_;rw[eh,eh,wipe_length];by_cases c:j∈own∧j<σ.length
    ·rw[An c,An c]
    ·rw[Aq c,Aq c]
   obtain⟨d1,d2,d3⟩:=Qz x4 d1 d2 d3 D6;have r2:=r2.mono x4;refine ht ρ4 m4 W4 σ4 H4 s4 k4 _ ((PoR.bind0 h4 (xt.trans x4)).imp λW5 H5 m5 t e5 x5 k5 h5=>?_);obtain⟨d1,d2,d3⟩:=Qz x5 d1 d2 d3 D6;have r2:=r2.mono x5
   cases t with
   |false=>exact⟨ds.length - (i+1),AA,rfl,hlt,W5,m5,acc,vs,x2.trans (x3.trans (x4.trans x5)),k5,d1,d2,d3,r2,h5⟩
   |true=>
    refine he ρ4 m5 W5 σ4 H5 (s4.mono x5) k5 _ ((PoR.bind0 h5 ((xt.trans x4).trans x5)).imp λW6 H6 m6 y e6 x6 k6 h6 v6 r6=>?_);obtain⟨d1,d2,d3⟩:=Qz x6 d1 d2 d3 D6;have r2:=r2.mono x6;obtain⟨g6,h6⟩:=gd (A:=List D) h6;refine⟨vs,d1,by rw[r2.length];exact AN g6,ds.length - (i+1),AA,rfl,hlt,W6,m6,acc++[y],vs++[v6],?_,?_,upd_same,d2,d3,r2.append (.cons r6 .nil),h6⟩
    ·exact cE (x2.trans (x3.trans (x4.trans (x5.trans x6)))) hDl
    ·exact E9 k6 d2 d3 λu e=>by rw[d1]at e;cases e;exact D6
  ·have e:i=ds.length:=by omega
   subst e;rw[Bh]at h2;exact .inl ⟨stop,h2 W2 H2 xx k2 Dl vs d1 r2 d2 d3 hDH⟩
structure Blk (F:Nm) (X:Cx) (tg elt:Expr) (ifs:List Expr) (scope:Scope) (own is:List Nat) (fg:D->Env->M Env) (ft:Env->M Bool) (fe:Env->M D):Prop where
 g:∀(s:Shared) (H:Hp) (C:Addr) (cl:List (Str×Addr)) (fp:List Addr),PDg F (X.blk s H scope (compEnvC scope cl C X.env) fp) DQ tg is fg
 t:∀(s:Shared) (H:Hp) (C:Addr) (cl:List (Str×Addr)) (fp:List Addr),PDts F (X.blk s H scope (compEnvC scope cl C X.env) fp) DQ ifs ft
 e:∀(s:Shared) (H:Hp) (C:Addr) (cl:List (Str×Addr)) (fp:List Addr),PD F (X.blk s H scope (compEnvC scope cl C X.env) fp) DQ elt fe
 sub:∀i,i∈is->i∈own
def Gr (X:Cx) (scope:Scope) (Y:Cx):Prop:=∃s H C cl fp,Y=X.blk s H scope (compEnvC scope cl C X.env) fp
variable {tg iter elt:Expr} {ifs:List Expr} {scope:Scope} {own:List (Str×Nat)} {is:List Nat} {fi:Env->M (List D×Option Nat)} {fg:D->Env->M Env} {ft:Env->M Bool} {fe:Env->M D}
theorem Blk.pg {o:List Nat} (B:Blk F X tg elt ifs scope o is fg ft fe) (s:Shared) (H:Hp) (C:Addr) (cl:List (Str×Addr)) (fp:List Addr):PG (X.blk s H scope (compEnvC scope cl C X.env) fp) tg (oh (Gr X scope) tg):=
 ⟨λpins s1 σ H1 v u Q I r h=>h _ ⟨s,H,C,cl,fp,rfl⟩ pins s1 u I r⟩
theorem Blk.pt {o:List Nat} (B:Blk F X tg elt ifs scope o is fg ft fe) (s:Shared) (H:Hp) (C:Addr) (cl:List (Str×Addr)) (fp:List Addr):PTs (X.blk s H scope (compEnvC scope cl C X.env) fp) ifs (og (Gr X scope) ifs):=
 ⟨λpins s1 σ H1 Q I h=>h _ ⟨s,H,C,cl,fp,rfl⟩ pins s1 I⟩
theorem Blk.pe {o:List Nat} (B:Blk F X tg elt ifs scope o is fg ft fe) (s:Shared) (H:Hp) (C:Addr) (cl:List (Str×Addr)) (fp:List Addr):PE (X.blk s H scope (compEnvC scope cl C X.env) fp) elt (oZ (Gr X scope) elt):=
 ⟨λpins s1 σ H1 Q I h=>h _ ⟨s,H,C,cl,fp,rfl⟩ pins s1 I⟩
theorem Blk.eg {o:List Nat} (B:Blk F X tg elt ifs scope o is fg ft fe):e8 X.K F DQ is (oh (Gr X scope) tg) fg:=λd ρ m W σ H v s k r Q h Y hY pins s1 u I ru=>by
 obtain⟨s0,H0,C,cl,fp,rfl⟩:=hY;obtain⟨g,p,q⟩:=B.g s0 H0 C cl fp;exact p.run pins s1 σ H v u Q I ru (q d ρ m W σ H v s k r Q h)
theorem Blk.et {o:List Nat} (B:Blk F X tg elt ifs scope o is fg ft fe):Y4 X.K F DQ (og (Gr X scope) ifs) ft:=fun ρ m W σ H s k Q h Y hY pins s1 I=>by
 obtain⟨s0,H0,C,cl,fp,rfl⟩:=hY;obtain⟨t,p,q⟩:=B.t s0 H0 C cl fp;exact p.run pins s1 σ H Q I (q ρ m W σ H s k Q h)
theorem Blk.ee {o:List Nat} (B:Blk F X tg elt ifs scope o is fg ft fe):Ky X.K F DQ (oZ (Gr X scope) elt) fe:=fun ρ m W σ H s k Q h Y hY pins s1 I=>by
 obtain⟨s0,H0,C,cl,fp,rfl⟩:=hY;obtain⟨t,p,q⟩:=B.e s0 H0 C cl fp;exact p.run pins s1 σ H Q I (q ρ m W σ H s k Q h)
theorem Q9 {K:PySem.W.Frag} {W W' :Wd} {H H' :Hp} {m' :Mu} {Q:VK} {ds:List D} (x:Ext W H W' H') (k:Ok K F W' m' H') (h:DP K F (.ok (.lst ds) m') W H Q E) (p:Addr) (vs:List V) (h1:H' p=some (.lst vs)) (r:Rps K F W' vs ds) (h2:p∉W'.al) (h3:W'.G p=none) (h4:H p=none):Q (.ref p) H' :=
 h (W'.new p (.lst vs)) H' (Ug x h4 h3) (WA k h2 h3 h1 (λ_ z=>by cases z)) _ (.lst upd_same (Rps.mono' ⟨[],by simp[Wd.new]⟩ (λa u e=>(upd_ne (λz=>by rw[z,h3]at e;cases e)).trans e) r))
theorem lu (hc:X.calm=true) (hN:X.N.Nodup) (ok:BlkOk X.N X.env.scope scope own) (hi:PDi F X E tg iter fi) (B:Blk F X tg elt ifs scope (own.map (·.2)) is fg ft fe) (hs:∀x,foldedSetIterable iter X.env x=pure x:=by intro _;rfl):
 PD F X E (.ListComp elt [⟨tg,iter,ifs,0⟩] scope pos) (fun ρ=>Du fi fg ft fe (own.map (·.2)) ρ>>=λds=>pure (.lst ds)):=by
 obtain⟨wi,pi,qi⟩:=hi;refine⟨_,pe_lc hc hN pi ok B.pg B.pt B.pe hs,fun ρ m W σ H s k Q h=>?_⟩;exact cF qi B.eg B.et B.ee B.sub ρ m W σ H s k Q ((PoR.bind0 h (Ext.refl W H)).imp λW1 H1 m1 ds e1 x1 k1 h1=>Q9 x1 k1 h1)
def PU (fl:Fl) (f:Env->M Fl):M Fl:=match fl with
 | .nx ρ=>f ρ
 |fl=>pure fl
variable {f g:Env->M Fl} {st:Stmt} {sts:List Stmt}
theorem WC (h:PDs F X E st f):PDss F X E [st] f:=by
 obtain⟨t,p,q⟩:=h;exact⟨_,pss_one p,q⟩
theorem WD:PDss F X E [] (fun ρ=>pure (.nx ρ)):=⟨_,pss_nil,fun ρ m W σ H s k N h=>PoR.pure k h σ s⟩
theorem fA {K:PySem.W.Frag} {t u:TS} (h:cC K F E t f) (h' :cC K F E u g):cC K F E (tSeq t u) (fun ρ=>f ρ>>=λfl=>PU fl g):=fun ρ m W σ H s k N q=>by
 refine h ρ m W σ H s k _ ((PoR.bind q).imp λW1 H1 m1 fl e1 x1 k1 h1=>?_)
 cases fl with
 |nx ρ1=>exact fun σ1 s1=>h' ρ1 m1 W1 σ1 H1 s1 k1 N h1
 |rt d=>exact λv r=>PoR.pure k1 h1 v r
 |bk ρ1=>exact fun σ1 s1=>PoR.pure k1 h1 σ1 s1
 |ct ρ1=>exact fun σ1 s1=>PoR.pure k1 h1 σ1 s1
theorem Uh (h:PDs F X E st f) (h' :PDss F X E sts g):PDss F X E (st::sts) (fun ρ=>f ρ>>=λfl=>PU fl g):=by
 obtain⟨t,p,q⟩:=h;obtain⟨t',p',q'⟩:=h';exact⟨_,pss_cons p p',fA q q'⟩
theorem ZN (h:PD F X E e fa):PDs F X E (.Return (some e) pos) (fun ρ=>fa ρ>>=λd=>pure (.rt d)):=by
 obtain⟨t,p,q⟩:=h;exact⟨_,ps_ret p,fun ρ m W σ H s k N h=>q ρ m W σ H s k _ ((PoR.bind h).imp λW1 H1 m1 d e1 x1 k1 h1 v r=>PoR.pure k1 h1 v r)⟩
theorem WG (h:PD F X E e fa) (hs:swapsWith e none pos.line X.env=pure false:=by rfl):PDs F X E (.Expr e pos) (fun ρ=>fa ρ>>=λ_=>pure (.nx ρ)):=by
 obtain⟨t,p,q⟩:=h;exact⟨_,ps_expr p hs,fun ρ m W σ H s k N h=>q ρ m W σ H s k _ ((PoR.bind h).imp λW1 H1 m1 d e1 x1 k1 h1 v r=>PoR.pure k1 h1 σ (s.mono x1))⟩
theorem fB {c:Expr} {as bs:List Stmt} (hc:PDt F X E c ga) (ha:PDss F X E as f) (hb:PDss F X E bs g):PDs F X E (.If c as bs pos) (fun ρ=>ga ρ>>=λt=>if t=true then f ρ else g ρ):=by
 obtain⟨tc,pc,qc⟩:=hc;obtain⟨ta,pa,qa⟩:=ha;obtain⟨tb,pb,qb⟩:=hb;refine⟨_,ps_if pc pa pb,fun ρ m W σ H s k N h=>qc ρ m W σ H s k _ ((PoR.bind h).imp λW1 H1 m1 t e1 x1 k1 h1=>?_)⟩
 cases t with
 |true=>exact qa ρ m1 W1 σ H1 (s.mono x1) k1 N h1
 |false=>exact qb ρ m1 W1 σ H1 (s.mono x1) k1 N h1
theorem fC {K:PySem.W.Frag} {te:TE} {gg:TG} (q:Ky K F E te fa) (qg:e8 K F E is gg fg):cC K F E (tAsg te gg) (fun ρ=>fa ρ>>=λd=>fg d ρ>>=fun ρ=>pure (.nx ρ)):=fun ρ m W σ H s k N h=>by
 refine q ρ m W σ H s k _ ((PoR.bind h).imp λW1 H1 m1 d e1 x1 k1 h1 v r=>?_);exact qg d ρ m1 W1 σ H1 v (s.mono x1) k1 r _ ((PoR.bind h1).imp λW2 H2 m2 ρ2 e2 x2 k2 h2 σ2 s2 _=>PoR.pure k2 h2 σ2 s2)
theorem ZO (h:PD F X E e fa) (hg:PDg F X E tg is fg) (hs:swapsWithSole [tg] e pos.line X.env=pure false:=by rfl) (hw:swappedStores [tg] e X.env=pure none:=by rfl) (h1:(assignEach [tg] X.env).map (·.2)=[assign tg X.env]:=by rfl):
 PDs F X E (.Assign [tg] e pos) (fun ρ=>fa ρ>>=λd=>fg d ρ>>=fun ρ=>pure (.nx ρ)):=by
 obtain⟨t,p,q⟩:=h;obtain⟨gg,pg,qg⟩:=hg;exact⟨_,ps_asg p pg hs hw h1,fC q qg⟩
theorem ZP {x:Str} {p' :Pos} (i:Nat) (hN:X.N.Nodup) (hi:X.N[i]? =some x) (hx:Loc X.env.scope x) (h:PD F X E e fa) (hs:swapsWith e (some (.Name x p')) pos.line X.env=pure false:=by rfl)
 (hf:X.fn x=true∨X.env.scope.names.lookup x=some .local:=by first|exact .inl rfl|exact .inr rfl|assumption):PDs F X E (.Assign [.Name x p'] e pos) (fun ρ=>fa ρ>>=λd=>pure (.nx (ρ.set i (some d)))):=by
 obtain⟨t,p,q⟩:=h;refine⟨_,ps_set hN hi hx p hs hf,fun ρ m W σ H s k N h=>q ρ m W σ H s k _ ((PoR.bind h).imp λW1 H1 m1 d e1 x1 k1 h1 v r=>?_)⟩;exact PoR.pure k1 h1 _ (K5 (s.mono x1) r)
theorem WH {K:PySem.W.Frag} {wi:TI} {tt:TT} {te:TE} {gg:TG} {i:Nat} {own' :List Nat} {F2:Env->M D} (hq:∀ρ m W σ H,Sl K F W ρ σ->Ok K F W m H->∀Q:VK,DP K F ((F2 ρ).run m) W H Q E->tLc wi gg tt te own' σ H Q):
 cC K F E (tAsg (tLc wi gg tt te own') (gName i)) (fun ρ=>F2 ρ>>=λd=>pure (.nx (ρ.set i (some d)))):=fun ρ m W σ H s k N h=>
 hq ρ m W σ H s k _ ((PoR.bind h).imp λW1 H1 m1 d e1 x1 k1 h1 v r=>PoR.pure k1 h1 _ (K5 (s.mono x1) r))
theorem fD {i:Nat} {y:Str} {py spos:Pos} (hc:X.calm=true) (hN:X.N.Nodup) (hy:X.N[i]? =some y) (hyl:X.env.scope.names.lookup y=some .local) (hsw:swapsWith (.ListComp elt [⟨tg,iter,ifs,0⟩] scope pos) (some (.Name y py)) spos.line X.env=pure true)
 (ok:BlkOk X.N X.env.scope scope own) (hi:PDi F X E tg iter fi) (B:Blk F X tg elt ifs scope (own.map (·.2)) is fg ft fe) (hs:∀x,foldedSetIterable iter X.env x=pure x:=by intro _;rfl):
 PDs F X E (.Assign [.Name y py] (.ListComp elt [⟨tg,iter,ifs,0⟩] scope pos) spos) (fun ρ=>(Du fi fg ft fe (own.map (·.2)) ρ>>=λds=>pure (.lst ds))>>=λd=>pure (.nx (ρ.set i (some d)))):=by
 obtain⟨wi,pi,qi⟩:=hi;refine⟨_,ps_setLc hc hN hy hyl hsw pi ok B.pg B.pt B.pe hs,WH fun ρ m W σ H s k Q h=>?_⟩;exact cF qi B.eg B.et B.ee B.sub ρ m W σ H s k Q ((PoR.bind0 h (Ext.refl W H)).imp λW1 H1 m1 ds e1 x1 k1 h1=>Q9 x1 k1 h1)
end
end Mir
namespace Mir
open PySem L2
open PyProof.Rows (envOfC)
section
variable {F:Nm} {X:Cx} {E:XK} {pos:Pos} {a b e:Expr} {rest:List Expr} {fa fb fc:Env->M D} {ga gb:Env->M Bool} {is:List Nat} {fg:D->Env->M Env} {f g:Env->M Fl} {tg iter:Expr} {fi:Env->M (List D×Option Nat)} {body:List Stmt}
def Dz (gc:Env->M Bool) (fb:Env->M Fl):Nat->Env->M Fl
 |0,_=>M.bad
 |n+1,ρ=>gc ρ>>=λt=>if t=true then fb ρ>>=λfl=>match fl with
  | .nx ρ=>Dz gc fb n ρ
  | .ct ρ=>Dz gc fb n ρ
  | .bk ρ=>pure (.nx ρ)
  | .rt d=>pure (.rt d)
  else pure (.nx ρ)
theorem Ui (n:Nat) {c:Expr} (hp:PassesOwn (model X.prog X.w) X.A X.env X.xe) (hc:PDt F X E c ga) (hb:PDss F X E body f):PDs F X E (.While c body [] pos) (Dz ga f n):=by
 obtain⟨tc,pc,qc⟩:=hc;obtain⟨tb,pb,qb⟩:=hb;refine⟨_,ps_while hp pc pb,fun ρ m W σ H s k N h=>?_⟩;refine⟨λn σ2 H2=>∃W2 m2 ρ2,Ext W H W2 H2∧Ok X.K F W2 m2 H2∧Sl X.K F W2 ρ2 σ2∧E8 X.K F ((Dz ga f n ρ2).run m2) W H N E,⟨n,W,m,ρ,Ext.refl W H,k,s,h⟩,?_⟩;rintro n σ2 H2 ⟨W2,m2,ρ2,x2,k2,s2,h2⟩
 cases n with
 |zero=>exact h2.elim
 |succ n=>
  refine qc ρ2 m2 W2 σ2 H2 s2 k2 _ ((PoR.bind0 h2 x2).imp λW3 H3 m3 t e3 x3 k3 h3=>?_)
  cases t with
  |false=>exact h3 W3 H3 (x2.trans x3) k3 σ2 (s2.mono x3)
  |true=>
   refine⟨fun σ' H'=>∃m',m'<n+1∧∃W2 m2 ρ2,Ext W H W2 H'∧Ok X.K F W2 m2 H'∧Sl X.K F W2 ρ2 σ'∧E8 X.K F ((Dz ga f m' ρ2).run m2) W H N E,λ_ _ z=>z,?_⟩;refine qb ρ2 m3 W3 σ2 H3 (s2.mono x3) k3 _ ((PoR.bind0 h3 (x2.trans x3)).imp λW4 H4 m4 fl e4 x4 k4 h4=>?_);have xx:=(x2.trans x3).trans x4
   cases fl with
   |nx ρ4=>exact fun σ4 s4=>⟨n,Bj n,W4,m4,ρ4,xx,k4,s4,h4⟩
   |ct ρ4=>exact fun σ4 s4=>⟨n,Bj n,W4,m4,ρ4,xx,k4,s4,h4⟩
   |bk ρ4=>exact fun σ4 s4=>h4 W4 H4 xx k4 σ4 s4
   |rt d=>exact λv r=>h4 W4 H4 xx k4 v r
def forL (fg:D->Env->M Env) (fb:Env->M Fl):List D->Env->M Fl
 |[],ρ=>pure (.nx ρ)
 |d::ds,ρ=>fg d ρ>>=fun ρ=>fb ρ>>=λfl=>match fl with
  | .nx ρ=>forL fg fb ds ρ
  | .ct ρ=>forL fg fb ds ρ
  | .bk ρ=>pure (.nx ρ)
  | .rt d=>pure (.rt d)
def Eh (fi:Env->M (List D×Option Nat)) (fg:D->Env->M Env) (fb:Env->M Fl) (ρ:Env):M Fl:=fi ρ>>=λp=>M.guard (p.2==none)>>=λ_=>forL fg fb p.1 ρ
theorem ZQ (hp:PassesOwn (model X.prog X.w) X.A X.env X.xe) (hc:X.calm=true) (hi:PDi F X E tg iter fi) (hg:PDg F X E tg is fg) (hb:PDss F X E body f) (hs:∀x,foldedSetIterable iter X.env x=pure x:=by intro _;rfl):
 PDs F X E (.For tg iter body [] pos) (Eh fi fg f):=by
 obtain⟨wi,pi,qi⟩:=hi;obtain⟨gg,pg,qg⟩:=hg;obtain⟨tb,pb,qb⟩:=hb;refine⟨_,ps_for hp hc pi pg pb hs,fun ρ m W σ H s k N h=>?_⟩;refine qi ρ m W σ H s k _ ((PoR.bind0 h (Ext.refl W H)).imp λW1 H1 m1 pr e1 x1 k1 h1 J hJ=>?_);obtain⟨ds,o⟩:=pr;obtain⟨g0,h1⟩:=gd (A:=Fl) h1;have ho:o=none:=by simpa using g0
 subst ho;refine⟨λi mm σ2 H2=>mm=ds.length - i∧i≤ds.length∧∃W2 m2 ρ2,Ext W1 H1 W2 H2∧Ok X.K F W2 m2 H2∧Sl X.K F W2 ρ2 σ2∧E8 X.K F ((forL fg f (ds.drop i) ρ2).run m2) W H N E,⟨ds.length,rfl,BM _,W1,m1,ρ,Ext.refl _ _,k1,s.mono x1,h1⟩,?_⟩;rintro i mm σ2 H2 ⟨rfl,hi2,W2,m2,ρ2,x2,k2,s2,h2⟩;have xx:Ext W H W2 H2:=x1.trans x2;obtain⟨items,stop⟩:=hJ W2 m2 H2 x2.wx k2 trivial;by_cases hlt:i<ds.length
 ·obtain⟨go,yl⟩:=items i ds[i] (Aj hlt);refine .inr ⟨go,fun σ' H'=>∃m',m'<ds.length - i∧(m'=ds.length - (i+1)∧i+1≤ds.length∧∃W2 m2 ρ2,Ext W1 H1 W2 H'∧Ok X.K F W2 m2 H'∧Sl X.K F W2 ρ2 σ'∧E8 X.K F ((forL fg f (ds.drop (i+1)) ρ2).run m2) W H N E),λ_ _ z=>z,λx H3 hy=>?_⟩;obtain⟨W3,x3,k3,r3⟩:=yl x H3 hy;have ed:ds.drop i=ds[i]::ds.drop (i+1):=BK hlt;rw[ed]at h2;have xt:Ext W H W3 H3:=xx.trans x3;refine qg ds[i] ρ2 m2 W3 σ2 H3 x (s2.mono x3) k3 r3 _ ((PoR.bind0 h2 xt).imp λW4 H4 m4 ρ4 e4 x4 k4 h4 σ4 s4 o4=>?_);refine qb ρ4 m4 W4 σ4 H4 s4 k4 _ ((PoR.bind0 h4 (xt.trans x4)).imp λW5 H5 m5 fl e5 x5 k5 h5=>?_);have xe:=(xt.trans x4).trans x5;have x15:=x2.trans (x3.trans (x4.trans x5))
  cases fl with
  |nx ρ5=>exact fun σ5 s5=>⟨ds.length - (i+1),AA,rfl,hlt,W5,m5,ρ5,x15,k5,s5,h5⟩
  |ct ρ5=>exact fun σ5 s5=>⟨ds.length - (i+1),AA,rfl,hlt,W5,m5,ρ5,x15,k5,s5,h5⟩
  |bk ρ5=>exact fun σ5 s5=>h5 W5 H5 xe k5 σ5 s5
  |rt d=>exact λv r=>h5 W5 H5 xe k5 v r
 ·have e:i=ds.length:=by omega
  subst e;rw[Bh]at h2;exact .inl ⟨stop,h2 W2 H2 xx k2 σ2 s2⟩
def M.app (k:Nat) (d:D):M Unit:=⟨λm=>match m[k]? with
 |some (.lst ds)=>if ds.length<sizeLine then .ok () (m.set k (.lst (ds++[d])))else .bad
 |_=> .bad⟩
def M.put (k:Nat) (i:Int) (d:D):M Unit:=⟨λm=>match m[k]? with
 |some (.lst ds)=>match ixN ds.length i with
  |some j=> .ok () (m.set k (.lst (ds.set j d)))
  |none=> .bad
 |_=> .bad⟩
def D.ref:D->M Nat
 | .hnd k=>pure k
 |_=>M.bad
def M.isL (k:Nat):M Unit:=⟨λm=>match m[k]? with
 |some (.lst _)=> .ok () m
 |_=> .bad⟩
theorem WI {A:Type} {K:PySem.W.Frag} {W:Wd} {H:Hp} {m:Mu} {k:Nat} {fx:M A} {Q:Wd->Hp->Mu->A->Prop} (h:PoR K F ((M.isL k>>=λ_=>fx).run m) W H Q E):(∃ds,m[k]? =some (.lst ds))∧PoR K F (fx.run m) W H Q E:=by
 rw[Do]at h
 cases e:m[k]? with
 |none=>simp only[M.isL,e]at h;exact h.elim
 |some o=>
  cases o with
  |lst ds=>
   simp only[M.isL,e]at h;exact⟨⟨ds,rfl⟩,h⟩
  |dic kvs=>simp only[M.isL,e]at h;exact h.elim
  |fdc kvs=>simp only[M.isL,e]at h;exact h.elim
  |ins _ _=>simp only[M.isL,e]at h;exact h.elim
  |dtp _=>simp only[M.isL,e]at h;exact h.elim
  |dead=>simp only[M.isL,e]at h;exact h.elim
theorem Uj {apos:Pos} (ha:PD F X E a fa) (hb:PD F X E b fb) (hbase:attributeBase a "append" X.env (eval a X.env)=eval a X.env:=by rfl)
 (hfew:((backTo pos (starEach (b::[]) X.env)).all (λx=> !x.1) && (backToKw pos (keywordEach [] X.env)).all (λx=>x.1.isSome)
  && decide ((b::[]).length+([]:List Keyword).length+(if([]:List Keyword).isEmpty then 0 else 1)<30))=true:=by rfl)
 (hline:(apos.endLine==pos.line)=true:=by rfl) (hs:starEach (b::[]) X.env=(false,eval b X.env)::starEach [] X.env:=by rfl) (hplain:(backTo pos (starEach [] X.env)).any (·.1)=false:=by rfl):
 PD F X E (.Call (.Attribute a "append" apos) [b] [] pos) (fun ρ=>fa ρ>>=λx=>D.ref x>>=λk=>M.isL k>>=λ_=>fb ρ>>=λy=>M.app k y>>=λ_=>pure .non):=by
 obtain⟨t,p,q⟩:=ha;obtain⟨t',p',q'⟩:=hb;refine⟨_,pe_bm PySem.F.plainAttrs_list PySem.F.slot_list_append PySem.F.type_list_append mt_append p (pa_cons p' pa_nil hs) hbase hfew hline hs hplain,fun ρ m W σ H s k Q h=>?_⟩;refine q ρ m W σ H s k _ ((PoR.bind h).imp λW1 H1 m1 d e1 x1 k1 h1 v r1=>?_)
 cases r1 with
 |@hnd pp i hp=>
  obtain⟨⟨ds,hd⟩,h1⟩:=WI h1;obtain⟨vs,hH,rv⟩:=k1.ob i pp _ hp hd;refine⟨.inl ⟨rfl,vs,.inl (.inl hH)⟩,q' ρ m1 W1 σ H1 (s.mono x1) k1 _ ((PoR.bind h1).imp λW2 H2 m2 d2 e2 x2 k2 h2 v2 r2=>?_)⟩;have hp2:W2.al[i]? =some pp:=by
   obtain⟨r,q⟩:=x2.al;rw[q,AV (AS.mp hp).1];exact hp
  cases e3:m2[i]? with
  |none=>simp only[Do,M.app,e3]at h2;exact h2.elim
  |some o=>
   cases o with
   |lst es=>
    simp only[Do,M.app,e3]at h2;obtain⟨us,h3,r3⟩:=k2.ob i pp _ hp2 e3;by_cases hl:es.length<sizeLine
    ·simp only[An hl]at h2;refine⟨pp,us,v2,rfl,rfl,h3,by rw[r3.length];exact hl,?_⟩;have ob:ObR X.K F W2 (upd H2 pp (.lst (us++[v2]))) pp (.lst (es++[d2])):=⟨_,upd_same,r3.append (.cons r2 .nil)⟩;exact h2 W2 (upd H2 pp (.lst (us++[v2]))) (Ext.write hp2) (k2.write hp2 ob) _ .non
    ·simp only[Aq hl]at h2;exact h2.elim
   |dic kvs=>simp only[Do,M.app,e3]at h2;exact h2.elim
   |fdc kvs=>simp only[Do,M.app,e3]at h2;exact h2.elim
   |ins _ _=>simp only[Do,M.app,e3]at h2;exact h2.elim
   |dtp _=>simp only[Do,M.app,e3]at h2;exact h2.elim
   |dead=>simp only[Do,M.app,e3]at h2;exact h2.elim
 |_=>exact h1.elim
theorem ZR {p2:Pos} {is:List Nat} (ha:PD F X E a fa) (hb:PD F X E b fb) (hw:∀v,assign (.Subscript a b p2) X.env v=(do
 let ov←holding [v] (eval a X.env)
 let iv←holding [v,ov] (eval b X.env)
 standAt p2
 holding [v,ov,iv] (setItem ov iv v)
 release [v,ov,iv] []):=by intro _;rfl):PDg F X E (.Subscript a b p2) is (λd ρ=>fa ρ>>=λx=>D.ref x>>=λk=>fb ρ>>=λy=>D.part y>>=λo=>(match o with
 |some i=>M.put k i d
 |none=>M.bad)>>=λ_=>pure ρ):=by
 obtain⟨t,p,q⟩:=ha;obtain⟨t',p',q'⟩:=hb;refine⟨_,pg_sub p p' set_list hw,λd ρ m W σ H v s k r Q h=>?_⟩;refine q ρ m W σ H s k _ ((PoR.bind h).imp λW1 H1 m1 x e1 x1 k1 h1 u r1=>?_)
 cases r1 with
 |@hnd pp i hp=>
  have h1:PoR X.K F ((fb ρ>>=λy=>D.part y>>=λo=>(match o with
   |some j=>M.put i j d
   |none=>M.bad)>>=λ_=>pure ρ).run m1) W1 H1 (λW' H' _ ρ'=>∀σ',Sl X.K F W' ρ' σ'->Out is σ σ'->Q σ' H') E:=h1
  refine q' ρ m1 W1 σ H1 (s.mono x1) k1 _ ((PoR.bind h1).imp λW2 H2 m2 y e2 x2 k2 h2 u2 r2=>?_)
  cases r2 with
  |int j=>
   have hp2:W2.al[i]? =some pp:=by
    obtain⟨r,q⟩:=x2.al;rw[q,AV (AS.mp hp).1];exact hp
   have h2:PoR X.K F ((M.put i j d>>=λ_=>pure ρ).run m2) W2 H2 (λW' H' _ ρ'=>∀σ',Sl X.K F W' ρ' σ'->Out is σ σ'->Q σ' H') E:=h2
   cases e3:m2[i]? with
   |none=>simp only[Do,M.put,e3]at h2;exact h2.elim
   |some o=>
    cases o with
    |lst es=>
     simp only[Do,M.put,e3]at h2;obtain⟨us,h3,r3⟩:=k2.ob i pp _ hp2 e3
     cases e4:ixN es.length j with
     |none=>simp only[e4]at h2;exact h2.elim
     |some n=>
      simp only[e4]at h2;have ob:ObR X.K F W2 (upd H2 pp (.lst (us.set n v))) pp (.lst (es.set n d)):=⟨_,upd_same,r3.set ((r.mono x1).mono x2) n⟩;exact⟨pp,us,j,n,rfl,rfl,h3,by rw[r3.length];exact e4,h2 W2 _ (Ext.write hp2) (k2.write hp2 ob) σ ((s.mono x1).mono x2) PR⟩
    |dic kvs=>simp only[Do,M.put,e3]at h2;exact h2.elim
    |fdc kvs=>simp only[Do,M.put,e3]at h2;exact h2.elim
    |ins _ _=>simp only[Do,M.put,e3]at h2;exact h2.elim
    |dtp _=>simp only[Do,M.put,e3]at h2;exact h2.elim
    |dead=>simp only[Do,M.put,e3]at h2;exact h2.elim
  |_=>exact h2.elim
 |_=>exact h1.elim
def DO (K:PySem.W.Frag) (F:Nm) (n:Nat) (g:List D->M D):Sp:=λvs H Q E=>vs.length=n∧∃W m ds,Rps K F W vs ds∧Ok K F W m H∧DP K F ((g ds).run m) W H Q E
def endOf:Fl->M D
 | .nx _=>pure .non
 | .rt d=>pure d
 |_=>M.bad
def DE (n:Nat) (ds:List D):Env:=ds.map some++List.replicate (n - ds.length) none
def Cv (n:Nat) (f:Env->M Fl) (ds:List D):M D:=M.noexc (f (DE n ds)>>=endOf)
theorem WJ {K:PySem.W.Frag} {W:Wd} {N:List Str} {vs:List V} {ds:List D} (r:Rps K F W vs ds):Sl K F W (DE N.length ds) (L2.start N vs):=by
 refine⟨?_,λi d h=>?_⟩
 ·unfold DE L2.start;rw[AH,AH,AJ,AJ,List.length_replicate,List.length_replicate,r.length]
 ·unfold DE at h;unfold L2.start;by_cases hi:i<ds.length
  ·rw[AV (by rw[AJ];exact hi),A6]at h
   cases e:ds[i]? with
   |none=>rw[e]at h;cases h
   |some z=>
    rw[e]at h
    cases h
    obtain⟨v,h1,h2⟩:=r.get e;exact⟨v,by rw[AV (by rw[AJ,r.length];exact hi),A6,h1];rfl,h2⟩
  ·rw[BQ (by rw[AJ];omega),List.getElem?_replicate]at h;split at h<;>cases h
variable {P:Program} {w:World} {K:PySem.W.Frag} {mg:Str->Option Value} {base:Heap}
abbrev oj (P:Program) (w:World) (K:PySem.W.Frag) (mg:Str->Option Value) (base:Heap) (N:List Str) (qual:Str) (st:Stmt) (f:Addr) (cdv:Value) (A:Around) (outer:List PySem.Env) (s:Shared) (H:Hp) (E:XK):Cx:=(cxOf CX0 P w K mg base N qual (defScope st) f cdv A outer s H E).nox
theorem RA {K:PySem.W.Frag} {N:List Str} {vs:List V} {H:Hp} {Q:VK} {E:XK} {n:Nat} {t:TS} {body:Env->M Fl} {gg:List D->M D} (q:cC K F DQ t body) (hg:∀ds W m H Q,Ok K F W m H->DP K F ((gg ds).run m) W H Q E->DP K F ((Cv N.length body ds).run m) W H Q E)
 (h:DO K F n gg vs H Q E):t {nx:=λ_ H'=>Q .non H',rt:=Q} (L2.start N vs) H:=by
 obtain⟨_,W,m,ds,r,k,h⟩:=h;have h:=PoR.noexc (E' :=DQ) (hg ds W m H Q k h);refine q (DE N.length ds) m W (L2.start N vs) H (WJ r) k _ ((PoR.bind0 h (Ext.refl W H)).imp λW1 H1 m1 fl e1 x1 k1 h1=>?_)
 cases fl with
 |nx ρ=>exact fun σ s=>h1 W1 H1 x1 k1 _ .non
 |rt d=>exact λv r=>h1 W1 H1 x1 k1 v r
 |bk ρ=>exact h1.elim
 |ct ρ=>exact h1.elim
theorem C2 {x qual:Str} {st:Stmt} {f:Addr} {fd:FuncData} {N ps:List Str} {k:Nat} {body:Env->M Fl} (FF:Fun K x qual st f fd) (S:FnScope N ps (defScope st))
 (h:∀(cdv:Value) (A:Around) (outer:List PySem.Env) (s:Shared) (H:Hp) (E:XK),Room k (A.deeper (envOfC qual (defScope st) s.heap.objs.size f cdv))->PDss F (oj P w K mg base N qual st f cdv A outer s H E) DQ (defBody st) body):
 FnOk P w K mg base CX0 (k+1) f fd ps (DO K F ps.length (Cv N.length body)):=by
 refine FF.ok S (λvs H Q E h=>h.1) λcdv A outer s H vs Q E hr hs=>?_;obtain⟨t,p,q⟩:=h cdv A outer s H E hr;exact⟨t,p,RA q (λ_ _ _ _ _ _ h=>h) hs⟩
theorem Nl {x qual:Str} {st:Stmt} {dvs:List V} {kws:List (Str×V)} {f:Addr} {fd:FuncData} {N ps:List Str} {k:Nat} {body:Env->M Fl} (FF:FunD K x qual (defArgs st) (defBody st) (defScope st) dvs kws f fd) (S:FnScope N ps (defScope st))
 (h:∀(cdv:Value) (A:Around) (outer:List PySem.Env) (s:Shared) (H:Hp) (E:XK),Room k (A.deeper (envOfC qual (defScope st) s.heap.objs.size f cdv))->PDss F (oj P w K mg base N qual st f cdv A outer s H E) DQ (defBody st) body):
 FnOk P w K mg base CX0 (k+1) f fd ps (DO K F ps.length (Cv N.length body)):=by
 refine FF.ok S (λvs H Q E h=>h.1) λcdv A outer s H vs Q E hr hs=>?_;obtain⟨t,p,q⟩:=h cdv A outer s H E hr;exact⟨t,p.nox,RA q (λ_ _ _ _ _ _ h=>h) hs⟩
variable {CX:CXT} {k:Nat} {fd:FuncData} {ps:List Str} {x:Str} {p apos:Pos} {es:List Expr} {fs:Env->M (List D)} {gg:List D->M D} {n:Nat}
theorem ZS {t:TA} {dvs:List V} {dds:List D} (hd:∀W,Rps K F W dvs dds) (hn:∀ds:List D,n=(ds++dds).length∨n≠(ds++dds).length) (q:Yo K F E t fs):Ky K F E (tCall (DO K F n gg) dvs E t) (fun ρ=>fs ρ>>=λds=>M.guard (decide ((ds++dds).length=n))>>=λ_=>gg (ds++dds)):=fun ρ m W σ H s k Q h=>by
 refine q ρ m W σ H s k _ ((PoR.bind h).imp λW1 H1 m1 ds e1 x1 k1 h1 vs r=>?_);obtain⟨g,h1⟩:=gd (A:=D) h1;have r2:=r.append (hd W1);exact⟨by rw[r2.length];exact AN g,W1,m1,ds++dds,r2,k1,h1⟩
theorem SY {f:Addr} {dds:List D} {dvs:List V} {ds:List Value} (G:FnOk X.prog X.w X.K X.mg X.base CX0 k f fd ps (DO X.K F n gg)) (hr:Room k X.A) (hg:Gl X x) (hm:X.mg x=some (.ref f)) (hk:PySem.W.keepIn X.K (.ref f)=true)
 (hb:Binds X.K fd ps ds) (hd:Vals dvs ds) (hdd:∀W,Rps X.K F W dvs dds) (ha:PDa F X DQ (e::es) fs) (hdb:(x==("__debug__" :Str))=false:=by decide) (he:starEach (e::es) X.env=(false,eval e X.env)::starEach es X.env:=by rfl) (hpl:(backTo pos (starEach es X.env)).any (·.1)=false:=by rfl):
 PD F X DQ (.Call (.Name x p) (e::es) [] pos) (fun ρ=>fs ρ>>=λds=>M.guard (decide ((ds++dds).length=n))>>=λ_=>gg (ds++dds)):=by
 obtain⟨t,pa,qa⟩:=ha;exact⟨_,pe_call G hr hg hm hk hb hd pass0 pa hdb he hpl,ZS hdd (λ_=>Decidable.em _) qa⟩
theorem WK {f:Addr} (G:FnOk X.prog X.w X.K X.mg X.base CX0 k f fd ps (DO X.K F n gg)) (hr:Room k X.A) (hg:Gl X x) (hm:X.mg x=some (.ref f)) (hk:PySem.W.keepIn X.K (.ref f)=true)
 (hb:Binds X.K fd ps []) (ha:PDa F X DQ (e::es) fs) (hdb:(x==("__debug__" :Str))=false:=by decide) (he:starEach (e::es) X.env=(false,eval e X.env)::starEach es X.env:=by rfl) (hpl:(backTo pos (starEach es X.env)).any (·.1)=false:=by rfl):
 PD F X DQ (.Call (.Name x p) (e::es) [] pos) (fun ρ=>fs ρ>>=λds=>M.guard (decide (ds.length=n))>>=λ_=>gg ds):=by
 have q:=SY (p:=p) (pos:=pos) (dds:=[]) G hr hg hm hk hb .nil (λ_=> .nil) ha hdb he hpl;simp only[A3]at q;exact q
end
end Mir
namespace Mir
open PySem L2
open PyProof.Rows (envOfC)
def Cg (i:Nat):Env->M D:=fun ρ=>slot ρ i
def eC (d:D):Env->M D:=λ_=>pure d
def Ck (g:D->D->M D) (fa fb:Env->M D):Env->M D:=fun ρ=>fa ρ>>=λx=>fb ρ>>=λy=>g x y
def Fu (g g' :D->D->M D) (fa fb fc:Env->M D):Env->M D:=fun ρ=>fa ρ>>=λx=>fb ρ>>=λy=>(g x y>>=D.bool)>>=λt=>if t=true then fc ρ>>=λz=>g' y z else pure (.bl false)
def DA (fa:Env->M D):Env->M Bool:=fun ρ=>fa ρ>>=D.bool
def Ei (fa:Env->M D):Env->M Bool:=fun ρ=>fa ρ>>=D.tru
def E7 (ga:Env->M Bool):Env->M Bool:=fun ρ=>ga ρ>>=λt=>pure (!t)
def MR (ga gb:Env->M Bool):Env->M Bool:=fun ρ=>ga ρ>>=λt=>if t=true then gb ρ else pure false
def Dg (ga gb:Env->M Bool):Env->M Bool:=fun ρ=>ga ρ>>=λt=>if t=true then pure true else gb ρ
def Fv (fa fb:Env->M D):Env->M D:=fun ρ=>fa ρ>>=λx=>x.tru>>=λt=>if t=true then fb ρ else pure x
def Yp (fa fb:Env->M D):Env->M D:=fun ρ=>fa ρ>>=λx=>x.tru>>=λt=>if t=true then pure x else fb ρ
def fE (fa:Env->M D):Env->M D:=fun ρ=>fa ρ>>=λx=>x.tru>>=λt=>pure (.bl (!t))
def WL (ga:Env->M Bool) (fa fb:Env->M D):Env->M D:=fun ρ=>ga ρ>>=λt=>if t=true then fa ρ else fb ρ
def D.neg:D->M D
 | .int i=>pure (.int (-i))
 |_=>M.bad
def Eg (g:D->M D) (fa:Env->M D):Env->M D:=fun ρ=>fa ρ>>=g
def Ci:Env->M (List D):=λ_=>pure []
def aC (fa:Env->M D) (f:Env->M (List D)):Env->M (List D):=fun ρ=>fa ρ>>=λx=>f ρ>>=λxs=>pure (x::xs)
def DS (f:Env->M (List D)):Env->M D:=fun ρ=>f ρ>>=λxs=>M.guard (decide (xs.length≤sizeLine))>>=λ_=>pure (.tup xs)
def EG (f:Env->M (List D)):Env->M D:=fun ρ=>f ρ>>=λxs=>M.guard (decide (xs.length≤sizeLine))>>=λ_=>pure (.lst xs)
def GP (f:Env->M (List D)):Env->M D:=fun ρ=>f ρ>>=λxs=>M.guard (decide (xs.length≤sizeLine))>>=λ_=>M.more (.lst xs)
def GQ:Env->M (Option Int):=λ_=>pure none
def GR (fa:Env->M D):Env->M (Option Int):=fun ρ=>fa ρ>>=D.part
def Ej (fa:Env->M D) (fl fh:Env->M (Option Int)):Env->M D:=fun ρ=>fa ρ>>=λx=>fl ρ>>=λl=>fh ρ>>=λu=>D.slice x l u
def eB (g:List D->M D) (f:Env->M (List D)):Env->M D:=fun ρ=>f ρ>>=g
def Je:Env->Str->M Str:=λ_ acc=>pure acc
def DM (fa:Env->M D) (f:Env->Str->M Str):Env->Str->M Str:=fun ρ acc=>fa ρ>>=λx=>D.onto acc x>>=λacc=>f ρ acc
def Uk (f:Env->Str->M Str):Env->M D:=fun ρ=>f ρ Str.empty>>=λx=>pure (.str x)
def Nn (g:Str->D->M D) (fa fb:Env->M D):Env->M D:=fun ρ=>fa ρ>>=λx=>D.text x>>=λx=>fb ρ>>=λy=>g x y
def DJ (fa:Env->M D):Env->M (List D×Option Nat):=fun ρ=>fa ρ>>=D.iter
def Kg (fa:Env->M D):Env->M (List D×Option Nat):=fun ρ=>fa ρ>>=λx=>D.range1 [x]
def ZT (fa fb:Env->M D):Env->M (List D×Option Nat):=fun ρ=>fa ρ>>=λx=>fb ρ>>=λy=>D.range2 [x,y]
def Cq (i:Nat):D->Env->M Env:=λd ρ=>pure (ρ.set i (some d))
def Di:List D->Env->M Env:=λds ρ=>match ds with
 |[]=>pure ρ
 |_=>M.bad
def Dr (f:D->Env->M Env) (fs:List D->Env->M Env):List D->Env->M Env:=λds ρ=>match ds with
 |d::ds=>f d ρ>>=fun ρ=>fs ds ρ
 |_=>M.bad
def KR (n:Nat) (fs:List D->Env->M Env):D->Env->M Env:=λd ρ=>D.unpack n d>>=λds=>fs ds ρ
def M.puto (k:Nat) (o:Option Int) (d:D):M Unit:=match o with
 |some i=>M.put k i d
 |none=>M.bad
def fF (fa fb:Env->M D):D->Env->M Env:=λd ρ=>fa ρ>>=λx=>D.ref x>>=λk=>fb ρ>>=λy=>D.part y>>=λo=>M.puto k o d>>=λ_=>pure ρ
def D.iadd:D->D->M D
 | .int a,.int b=>pure (.int (a+b))
 |_,_=>M.bad
def E1 (fi:Env->M (List D×Option Nat)) (fg:D->Env->M Env) (ft:Env->M Bool) (fe:Env->M D) (own:List Nat):Env->M D:=fun ρ=>Du fi fg ft fe own ρ>>=λds=>pure (.lst ds)
def om (fi:Env->M (List D×Option Nat)) (fg:D->Env->M Env) (ft:Env->M Bool) (fe:Env->M D) (own:List Nat):Env->M D:=fun ρ=>Du fi fg ft fe own ρ>>=λds=>M.more (.lst ds)
def DD:Env->M Bool:=λ_=>pure true
def Gu (fa fb:Env->M D):Env->M D:=fun ρ=>fa ρ>>=λx=>D.ref x>>=λk=>M.isL k>>=λ_=>fb ρ>>=λy=>M.app k y>>=λ_=>pure .non
def Cn (n:Nat) (gg:List D->M D) (fs:Env->M (List D)):Env->M D:=fun ρ=>fs ρ>>=λds=>M.guard (decide (ds.length=n))>>=λ_=>gg ds
def RB (n:Nat) (dds:List D) (gg:List D->M D) (fs:Env->M (List D)):Env->M D:=fun ρ=>fs ρ>>=λds=>M.guard (decide ((ds++dds).length=n))>>=λ_=>gg (ds++dds)
def C1:Env->M Fl:=fun ρ=>pure (.nx ρ)
def Cj (f g:Env->M Fl):Env->M Fl:=fun ρ=>f ρ>>=λfl=>PU fl g
def Cu (fa:Env->M D):Env->M Fl:=fun ρ=>fa ρ>>=λd=>pure (.rt d)
def ly:Env->M Fl:=λ_=>pure (.rt .non)
def C5 (fa:Env->M D):Env->M Fl:=fun ρ=>fa ρ>>=λ_=>pure (.nx ρ)
def Da (ga:Env->M Bool) (f g:Env->M Fl):Env->M Fl:=fun ρ=>ga ρ>>=λt=>if t=true then f ρ else g ρ
def FT (fa:Env->M D) (fg:D->Env->M Env):Env->M Fl:=fun ρ=>fa ρ>>=λd=>fg d ρ>>=fun ρ=>pure (.nx ρ)
def C3 (i:Nat) (fa:Env->M D):Env->M Fl:=fun ρ=>fa ρ>>=λd=>pure (.nx (ρ.set i (some d)))
def oq (i:Nat) (fa:Env->M D):Env->M Fl:=fun ρ=>slot ρ i>>=λx=>fa ρ>>=λy=>D.iadd x y>>=λd=>pure (.nx (ρ.set i (some d)))
def K6 (n:Nat) (ga:Env->M Bool) (f:Env->M Fl):Env->M Fl:=Dz ga f n
def E4 (fi:Env->M (List D×Option Nat)) (fg:D->Env->M Env) (f:Env->M Fl):Env->M Fl:=Eh fi fg f
def fG:Env->M Fl:=fun ρ=>pure (.bk ρ)
def mC:Env->M Fl:=fun ρ=>pure (.ct ρ)
section
variable {F:Nm} {X:Cx} {E:XK} {pos:Pos} {a b c e:Expr} {rest:List Expr} {fa fb fc:Env->M D} {ga gb:Env->M Bool} {f g:Env->M Fl} {st:Stmt} {sts:List Stmt} {es:List Expr} {fs:Env->M (List D)}
theorem xV {x:Str} (i:Nat) (hN:X.N[i]? =some x:=by rfl) (hv:Vis X.env.scope x:=by first|exact Or.inl rfl|exact Or.inr (Or.inl rfl)|exact Or.inr (Or.inr rfl)) (hd:(x==("__debug__" :Str))=false:=by decide)
 (hcd:(x==("__classdict__" :Str))=false:=by decide):PD F X E (.Name x pos) (Cg i):=dc i hN hv hd hcd
theorem C6 {i:Int} {j:Nat}:PD F X E (.Constant (.int i) j pos) (eC (.int i)):=de
theorem Cr {x:Str} {j:Nat}:PD F X E (.Constant (.str x) j pos) (eC (.str x)):=dg
theorem GY {x:Bool} {j:Nat}:PD F X E (.Constant (.bool x) j pos) (eC (.bl x)):=lN
def SZ (K:PySem.W.Frag) (F:Nm) (mg:Str->Option Value) (x:Str) (d:D):Prop:=∃u v,mg x=some u∧RelV v u∧∀W,Rp K F W v d
theorem D7 {x:Str} {d:D} (h:SZ X.K F X.mg x d) (hg:Gl X x:=by rfl) (hd:(x==("__debug__" :Str))=false:=by decide):PD F X E (.Name x pos) (eC d):=by
 obtain⟨u,v,h1,h2,h3⟩:=h;exact Y5 hg h1 h2 h3 hd
theorem Ec (ha:PD F X E a fa) (hb:PD F X E b fb):PD F X E (.BinOp a .Add b pos) (Ck D.add fa fb):=di ha hb
theorem FU (ha:PD F X E a fa) (hb:PD F X E b fb):PD F X E (.BinOp a .Sub b pos) (Ck D.sub fa fb):=dk ha hb
theorem K7 (ha:PD F X E a fa) (hb:PD F X E b fb):PD F X E (.BinOp a .Mult b pos) (Ck D.mul fa fb):=dq ha hb
theorem RC (ha:PD F X E a fa) (hb:PD F X E b fb):PD F X E (.BinOp a .FloorDiv b pos) (Ck D.fdiv fa fb):=Y8 ha hb
theorem Ij (ha:PD F X E a fa) (hb:PD F X E b fb):PD F X E (.BinOp a .Mod b pos) (Ck D.mod fa fb):=dt ha hb
theorem mD (ha:PD F X E a fa) (hb:PD F X E b fb):PD F X E (.BinOp a .Pow b pos) (Ck D.pow fa fb):=du ha hb
theorem cG (ha:PD F X E a fa):PD F X E (.UnaryOp .USub a pos) (Eg D.neg fa):=by
 have h:=eG (pos:=pos) ha;have e:Eg D.neg fa=(fun ρ=>fa ρ>>=λx=>match x with
  | .int i=>pure (.int (-i))
  |_=>M.bad):=by
  funext ρ
  show(fa ρ>>=D.neg)=_
  congr 1
 rw[e];exact h
structure Cop (F:Nm) (X:Cx) (E:XK) (op:CmpOp) (g:D->D->M D):Prop where
 ex:∃r,OpR X (compareOp op) r∧Jb X.K F E r g
theorem KS:Cop F X E .Lt D.lt:=⟨_,op_lt,dw⟩
theorem RD:Cop F X E .LtE D.le:=⟨_,op_le,d6⟩
theorem PV:Cop F X E .Gt D.gt:=⟨_,op_gt,d7⟩
theorem EH (hu:X.A.units+64<cLine):Cop F X E .Eq D.eq:=⟨_,E3 op_eq (op_eqD hu),d8⟩
theorem FV (hu:X.A.units+64<cLine):Cop F X E .NotEq D.ne:=⟨_,E3 op_ne (op_neD hu),eA⟩
theorem Jf (hu:X.A.units+65<cLine):Cop F X E .In D.isIn:=⟨_,eU hu,SX⟩
theorem Np (hu:X.A.units+65<cLine):Cop F X E .NotIn D.notIn:=⟨_,Ub hu,SX⟩
theorem EB {op:CmpOp} {gg:D->D->M D} (o:Cop F X E op gg) (ha:PD F X E a fa) (hb:PD F X E b fb) (hm:behindInMarks op b=false:=by first|rfl|exact nomark _):PD F X E (.Compare a [op] [b] pos) (Ck gg fa fb):=by
 obtain⟨r,h1,h2⟩:=o;exact dv h1 h2 ha hb hm
theorem C0 {op:CmpOp} {gg:D->D->M D} (o:Cop F X E op gg) (ha:PD F X E a fa) (hb:PD F X E b fb) (hm:behindInMarks op b=false:=by first|rfl|exact nomark _):PDt F X E (.Compare a [op] [b] pos) (DA (Ck gg fa fb)):=by
 obtain⟨r,h1,h2⟩:=o;exact pt_cmp h1 h2 ha hb hm
theorem Sb {op op' :CmpOp} {gg gg' :D->D->M D} (o:Cop F X E op gg) (o' :Cop F X E op' gg') (ha:PD F X E a fa) (hb:PD F X E b fb) (hc:PD F X E c fc) (hm:lastMarks [op,op'] [b,c]=false:=by with_unfolding_all rfl):
 PD F X E (.Compare a [op,op'] [b,c] pos) (Fu gg gg' fa fb fc):=by
 obtain⟨r,h1,h2⟩:=o;obtain⟨r',h1',h2'⟩:=o';exact Vt h1 h1' h2 h2' ha hb hc hm
theorem Nq {op op' :CmpOp} {gg gg' :D->D->M D} (o:Cop F X E op gg) (o' :Cop F X E op' gg') (ha:PD F X E a fa) (hb:PD F X E b fb) (hc:PD F X E c fc) (hm:lastMarks [op,op'] [b,c]=false:=by with_unfolding_all rfl):
 PDt F X E (.Compare a [op,op'] [b,c] pos) (DA (Fu gg gg' fa fb fc)):=by
 obtain⟨r,h1,h2⟩:=o;obtain⟨r',h1',h2'⟩:=o';exact UZ h1 h1' h2 h2' ha hb hc hm
theorem EC (ha:PD F X E a fa) (he:∀whole,isTrue a X.env whole=(do let v←whole;standAt a.pos;holding [v] (truthy v)):=by intro _;rfl):PDt F X E a (Ei fa):=lY ha he
theorem Eu (h:PDt F X E a ga):PDt F X E (.UnaryOp .Not a pos) (E7 ga):=rW h
theorem MS (h:PDw F X E a ga):PDt F X E a ga:=oW h
theorem PX (h:PDt F X E a ga):PDw F X E (.BoolOp .And [a] pos) ga:=lZ h
theorem Ik (h:PDt F X E a ga):PDw F X E (.BoolOp .Or [a] pos) ga:=lh h
theorem ZU (h:PDt F X E a ga) (h' :PDw F X E (.BoolOp .And (b::rest) pos) gb):PDw F X E (.BoolOp .And (a::b::rest) pos) (MR ga gb):=oX h h'
theorem Nr (h:PDt F X E a ga) (h' :PDw F X E (.BoolOp .Or (b::rest) pos) gb):PDw F X E (.BoolOp .Or (a::b::rest) pos) (Dg ga gb):=oY h h'
theorem EK {op:BoolOp} (h:PD F X E a fa):PD F X E (.BoolOp op [a] pos) fa:=eD h
theorem FW (h:PD F X E a fa) (h' :PD F X E (.BoolOp .And (b::rest) pos) fb):PD F X E (.BoolOp .And (a::b::rest) pos) (Fv fa fb):=eE h h'
theorem RE (h:PD F X E a fa) (h' :PD F X E (.BoolOp .Or (b::rest) pos) fb):PD F X E (.BoolOp .Or (a::b::rest) pos) (Yp fa fb):=lj h h'
theorem mE (h:PD F X E a fa):PD F X E (.UnaryOp .Not a pos) (fE fa):=eF h
theorem PY (hc:PDt F X E c ga) (ha:PD F X E a fa) (hb:PD F X E b fb):PD F X E (.IfExp c a b pos) (WL ga fa fb):=lp hc ha hb
theorem Cy:PDa F X E [] Ci:=ZC
theorem Cp (ha:PD F X E e fa) (hr:PDa F X E es fs) (hs:starEach (e::es) X.env=(false,eval e X.env)::starEach es X.env:=by rfl):PDa F X E (e::es) (aC fa fs):=Vv ha hr hs
theorem DT {x1} (h:PDa F X E es fs):PD F X E (.Tuple es x1 pos) (DS fs):=eH h
theorem E5 (h:PDa F X E es fs):PD F X E (.List es pos) (EG fs):=eI h
theorem Gv (h:PDa F X E es fs):PD F X E (.List es pos) (GP fs):=ZD h
theorem DX (ha:PD F X E a fa) (hb:PD F X E b fb) (hs:PlainIx b:=by exact λ_ _=>rfl):PD F X E (.Subscript a b pos) (Ck D.ix fa fb):=lq ha hb hs
theorem K8:PDo F X E none GQ:=Vw
theorem K9 (ha:PD F X E a fa):PDo F X E (some a) (GR fa):=Vx ha
theorem Il {lo hi:Option Expr} {p2:Pos} {fl fh:Env->M (Option Int)} (ha:PD F X E a fa) (hl:PDo F X E lo fl) (hh:PDo F X E hi fh):PD F X E (.Subscript a (.Slice lo hi none p2) pos) (Ej fa fl fh):=Vy ha hl hh
structure Bif (F:Nm) (X:Cx) (E:XK) (x:Str) (g:List D->M D):Prop where
 ex:∃r,((∃id,CallR X (.builtin id) r∧bootBuiltins x=some (.builtin id))∨∃T,CallR X (.type T) r∧bootBuiltins x=some (.type T))∧MT X.K F E r g
theorem b_len:Bif F X E "len" (d1 D.len):=⟨_,.inl ⟨_,call_len,Ce⟩,eK⟩
theorem b_all (hc:X.calm=true:=by rfl):Bif F X E "all" (d1 D.all):=⟨_,.inl ⟨_,cr_all hc,AC⟩,eL⟩
theorem b_any (hc:X.calm=true:=by rfl):Bif F X E "any" (d1 D.any):=⟨_,.inl ⟨_,cr_any hc,AC⟩,eM⟩
theorem b_abs:Bif F X E "abs" (d1 D.abs):=⟨_,.inl ⟨_,call_abs,AC⟩,eO⟩
theorem Jg (hc:X.calm=true:=by rfl):Bif F X E "max" (d2 D.max2):=⟨_,.inl ⟨_,call_max2 hc,AC⟩,ZF⟩
theorem fH (hc:X.calm=true:=by rfl):Bif F X E "min" (d2 D.min2):=⟨_,.inl ⟨_,call_min2 hc,AC⟩,ZG⟩
theorem b_int:Bif F X E "int" (d1 D.toInt):=⟨_,.inr ⟨_,call_int1,AC⟩,eP⟩
theorem b_str:Bif F X E "str" (d1 D.strOf):=⟨_,.inr ⟨_,call_str_int,AC⟩,eQ⟩
theorem b_tuple:Bif F X E "tuple" (d1 D.tuple):=⟨_,.inr ⟨_,call_tuple_of,AC⟩,V0⟩
theorem b_list:Bif F X E "list" (d1 D.list):=⟨_,.inr ⟨_,call_list_of,AC⟩,ZE⟩
theorem ES {x:Str} {p:Pos} {gg:List D->M D} (B:Bif F X E x gg) (hm:X.mg x=none) (ha:PDa F X E (e::es) fs) (hg:Gl X x:=by rfl) (hn:x≠"__name__" :=by decide) (hdb:(x==("__debug__" :Str))=false:=by decide)
 (he:starEach (e::es) X.env=(false,eval e X.env)::starEach es X.env:=by rfl) (hpl:(backTo pos (starEach es X.env)).any (·.1)=false:=by rfl):PD F X E (.Call (.Name x p) (e::es) [] pos) (eB gg fs):=by
 obtain⟨r,h,q⟩:=B;rcases h with⟨id,h1,h2⟩|⟨T,h1,h2⟩
 ·exact Vz h1 q hg hm h2 ha hn hdb he hpl
 ·exact Ua h1 q hg hm h2 ha hn hdb he hpl
theorem GT {x:Str} {p q:Pos} (T:String) (hm:X.mg "isinstance"=none) (hm' :X.mg x=none) (ha:PD F X E a fa) (hv:bootBuiltins x=some (.type T):=by decide+kernel) (hg:Gl X "isinstance" :=by rfl) (hg' :Gl X x:=by rfl) (hn:x≠"__name__" :=by decide) (hdb:(x==("__debug__" :Str))=false:=by decide)
 (he:starEach (a::[.Name x q]) X.env=(false,eval a X.env)::starEach [.Name x q] X.env:=by rfl) (he2:starEach (.Name x q::[]) X.env=(false,eval (.Name x q) X.env)::starEach [] X.env:=by rfl)
 (hpl:(backTo pos (starEach [.Name x q] X.env)).any (·.1)=false:=by rfl):PD F X E (.Call (.Name "isinstance" p) [a,.Name x q] [] pos) (Eg (D.isT T) fa):=eV hg hm hg' hm' hv ha hn hdb he he2 hpl
theorem Gx:PDj F X E [] Je:=ZH
theorem C9 {fj:Env->Str->M Str} (ha:PD F X E e fa) (hr:PDj F X E es fj):PDj F X E (e::es) (DM fa fj):=V2 ha hr
theorem D3 (ha:PD F X E e fa):PD F X E (.FormattedValue e (-1) none pos) (Eg D.fmt fa):=eW ha
theorem WM {v1 v2:Expr} {fj:Env->Str->M Str} (h:PDj F X E (v1::v2::rest) fj):PD F X E (.JoinedStr (v1::v2::rest) pos) (Uk fj):=Uc h
theorem LA {apos:Pos} (ha:PD F X E a fa) (hb:PD F X E b fb) (hs:starEach [b] X.env=[(false,eval b X.env)]:=by rfl) (hbase:attributeBase a "join" X.env (eval a X.env)=eval a X.env:=by rfl) (hline:(apos.endLine==pos.line)=true:=by rfl):
 PD F X E (.Call (.Attribute a "join" apos) [b] [] pos) (Nn D.join fa fb):=ZJ ha hb hs hbase hline
theorem Im {apos:Pos} (ha:PD F X E a fa) (hb:PD F X E b fb) (hs:starEach [b] X.env=[(false,eval b X.env)]:=by rfl) (hbase:attributeBase a "startswith" X.env (eval a X.env)=eval a X.env:=by rfl) (hline:(apos.endLine==pos.line)=true:=by rfl):
 PD F X E (.Call (.Attribute a "startswith" apos) [b] [] pos) (Nn D.startswith fa fb):=MU ha hb hs hbase hline
theorem Ds {tg:Expr} (ha:PD F X E a fa):PDi F X E tg a (DJ fa):=ZK ha
theorem fJ {tg:Expr} {p:Pos} (hm:X.mg "range"=none) (ha:PD F X E a fa) (hg:Gl X "range" :=by rfl) (hs:starEach [a] X.env=[(false,eval a X.env)]:=by rfl):PDi F X E tg (.Call (.Name "range" p) [a] [] pos) (Kg fa):=Q8 hg hm ha hs
theorem EF {x:Str} {is:List Nat} (i:Nat) (hN:X.N.Nodup) (hm:i∈is:=by decide) (hi:X.N[i]? =some x:=by rfl) (hx:Loc X.env.scope x:=by first|exact Or.inl rfl|exact Or.inr rfl) (hf:X.fn x=true∨X.env.scope.names.lookup x=some .local:=by first|exact .inl rfl|exact .inr rfl|assumption):
 PDg F X E (.Name x pos) is (Cq i):=V6 i hm hN hi hx hf
theorem Ek {is:List Nat}:PDgs F X E [] is Di:=V7
theorem IE {is:List Nat} {fg:D->Env->M Env} {fgs:List D->Env->M Env} (h1:PDg F X E e is fg) (h2:PDgs F X E es is fgs)
 (hs:(assignEach (e::es) X.env).map (·.2)=assign e X.env::(assignEach es X.env).map (·.2):=by rfl):PDgs F X E (e::es) is (Dr fg fgs):=Ue h1 h2 hs
theorem Io {is:List Nat} {kk n:Nat} {fgs:List D->Env->M Env} (h:PDgs F X E es is fgs) (hc:X.calm=true:=by rfl) (hn:(assignEach es X.env).length=n:=by rfl) (hst:(assignEach es X.env).findIdx? (·.1)=none:=by rfl):
 PDg F X E (.Tuple es kk pos) is (KR n fgs):=ZM hc h hn hst
theorem WN {p2:Pos} {is:List Nat} (ha:PD F X E a fa) (hb:PD F X E b fb) (hw:∀v,assign (.Subscript a b p2) X.env v=(do
 let ov←holding [v] (eval a X.env)
 let iv←holding [v,ov] (eval b X.env)
 standAt p2
 holding [v,ov,iv] (setItem ov iv v)
 release [v,ov,iv] []):=by intro _;rfl):PDg F X E (.Subscript a b p2) is (fF fa fb):=by
 have h:=ZR (is:=is) ha hb hw;have e:fF fa fb=(λd ρ=>fa ρ>>=λx=>D.ref x>>=λk=>fb ρ>>=λy=>D.part y>>=λo=>(match o with
  |some i=>M.put k i d
  |none=>M.bad)>>=λ_=>pure ρ):=rfl
 rw[e];exact h
theorem Dj:PDts F X E [] DD:=V8
theorem WO (h:PDt F X E a ga):PDts F X E [a] ga:=V9 h
variable {tg iter elt:Expr} {ifs:List Expr} {scope:Scope} {is:List Nat} {fi:Env->M (List D×Option Nat)} {fg:D->Env->M Env} {ft:Env->M Bool} {fe:Env->M D}
theorem KU (own:List (Str×Nat)) (hN:X.N.Nodup) (hi:PDi F X E tg iter fi) (B:Blk F X tg elt ifs scope (own.map (·.2)) is fg ft fe) (ok:blkC X.N X.env.scope scope own=true:=by decide+kernel) (hc:X.calm=true:=by rfl) (hs:∀x,foldedSetIterable iter X.env x=pure x:=by intro _;rfl):
 PD F X E (.ListComp elt [⟨tg,iter,ifs,0⟩] scope pos) (E1 fi fg ft fe (own.map (·.2))):=lu hc hN (blkOk_by ok) hi B hs
theorem ZV (own:List (Str×Nat)) {i:Nat} {y:Str} {py spos:Pos} (hN:X.N.Nodup) (hi:PDi F X E tg iter fi) (B:Blk F X tg elt ifs scope (own.map (·.2)) is fg ft fe) (hsw:swapsWith (.ListComp elt [⟨tg,iter,ifs,0⟩] scope pos) (some (.Name y py)) spos.line X.env=pure true)
 (ok:blkC X.N X.env.scope scope own=true:=by decide+kernel) (hc:X.calm=true:=by rfl) (hy:X.N[i]? =some y:=by rfl) (hyl:X.env.scope.names.lookup y=some .local:=by rfl) (hs:∀x,foldedSetIterable iter X.env x=pure x:=by intro _;rfl):
 PDs F X E (.Assign [.Name y py] (.ListComp elt [⟨tg,iter,ifs,0⟩] scope pos) spos) (C3 i (E1 fi fg ft fe (own.map (·.2)))):=fD hc hN hy hyl hsw (blkOk_by ok) hi B hs
theorem cH {apos:Pos} (ha:PD F X E a fa) (hb:PD F X E b fb) (hbase:attributeBase a "append" X.env (eval a X.env)=eval a X.env:=by rfl)
 (hfew:((backTo pos (starEach (b::[]) X.env)).all (λx=> !x.1) && (backToKw pos (keywordEach [] X.env)).all (λx=>x.1.isSome)
  && decide ((b::[]).length+([]:List Keyword).length+(if([]:List Keyword).isEmpty then 0 else 1)<30))=true:=by rfl)
 (hline:(apos.endLine==pos.line)=true:=by rfl) (hs:starEach (b::[]) X.env=(false,eval b X.env)::starEach [] X.env:=by rfl) (hplain:(backTo pos (starEach [] X.env)).any (·.1)=false:=by rfl):
 PD F X E (.Call (.Attribute a "append" apos) [b] [] pos) (Gu fa fb):=Uj ha hb hbase hfew hline hs hplain
theorem Cz:PDss F X E [] C1:=WD
theorem DN (h:PDs F X E st f):PDss F X E [st] f:=WC h
theorem DC (h:PDs F X E st f) (h' :PDss F X E sts g):PDss F X E (st::sts) (Cj f g):=Uh h h'
theorem Ct (h:PD F X E e fa):PDs F X E (.Return (some e) pos) (Cu fa):=ZN h
theorem DK (h:PD F X E e fa) (hs:swapsWith e none pos.line X.env=pure false:=by rfl):PDs F X E (.Expr e pos) (C5 fa):=WG h hs
theorem DW {as bs:List Stmt} (hc:PDt F X E c ga) (ha:PDss F X E as f) (hb:PDss F X E bs g):PDs F X E (.If c as bs pos) (Da ga f g):=fB hc ha hb
theorem GU (h:PD F X E e fa) (hg:PDg F X E tg is fg) (hs:swapsWithSole [tg] e pos.line X.env=pure false:=by rfl) (hw:swappedStores [tg] e X.env=pure none:=by rfl) (h1:(assignEach [tg] X.env).map (·.2)=[assign tg X.env]:=by rfl):
 PDs F X E (.Assign [tg] e pos) (FT fa fg):=ZO h hg hs hw h1
theorem DH {x:Str} {p' :Pos} (i:Nat) (hN:X.N.Nodup) (h:PD F X E e fa) (hi:X.N[i]? =some x:=by rfl) (hx:Loc X.env.scope x:=by first|exact Or.inl rfl|exact Or.inr rfl) (hs:swapsWith e (some (.Name x p')) pos.line X.env=pure false:=by rfl)
 (hf:X.fn x=true∨X.env.scope.names.lookup x=some .local:=by first|exact .inl rfl|exact .inr rfl|assumption):PDs F X E (.Assign [.Name x p'] e pos) (C3 i fa):=ZP i hN hi hx h hs hf
theorem Nt (n:Nat) {body:List Stmt} (hc:PDt F X E c ga) (hb:PDss F X E body f) (hp:PassesOwn (model X.prog X.w) X.A X.env X.xe:=by exact PassesOwn.never):PDs F X E (.While c body [] pos) (K6 n ga f):=Ui n hp hc hb
theorem Ip {body:List Stmt} (hi:PDi F X E tg iter fi) (hg:PDg F X E tg is fg) (hb:PDss F X E body f) (hp:PassesOwn (model X.prog X.w) X.A X.env X.xe:=by exact PassesOwn.never) (hc:X.calm=true:=by rfl) (hs:∀x,foldedSetIterable iter X.env x=pure x:=by intro _;rfl):
 PDs F X E (.For tg iter body [] pos) (E4 fi fg f):=ZQ hp hc hi hg hb hs
end
theorem FJ {A:Around} {k:Nat} (r:Room k A):A.units+65<cLine:=by have:=r.un;omega
structure Fn (P:Program) (w:World) (K:PySem.W.Frag) (mg:Str->Option Value) (base:Heap) (F:Nm) (k:Nat) (x:Str) (n:Nat) (dds:List D) (g:List D->M D):Prop where
 ex:∃f fd ps dvs ds,FnOk P w K mg base CX0 k f fd ps (DO K F n g)∧mg x=some (.ref f)∧PySem.W.keepIn K (.ref f)=true∧Binds K fd ps ds∧Vals dvs ds∧∀W,Rps K F W dvs dds
section
variable {F:Nm} {X:Cx} {pos p:Pos} {e:Expr} {es:List Expr} {fs:Env->M (List D)} {x:Str} {j k n:Nat} {gg:List D->M D} {dds:List D}
theorem Dt (c:Fn X.prog X.w X.K X.mg X.base F k x n [] gg) (hr:Room j X.A) (ha:PDa F X DQ (e::es) fs) (hk:k≤j:=by decide) (hg:Gl X x:=by rfl) (hdb:(x==("__debug__" :Str))=false:=by decide) (he:starEach (e::es) X.env=(false,eval e X.env)::starEach es X.env:=by rfl) (hpl:(backTo pos (starEach es X.env)).any (·.1)=false:=by rfl):
 PD F X DQ (.Call (.Name x p) (e::es) [] pos) (Cn n gg fs):=by
 obtain⟨f,fd,ps,dvs,ds,h1,h2,h3,h4,h5,h6⟩:=c;have e0:dvs=[]:=by
  have q:=h6 ⟨[],λ_=>none⟩
  cases q
  rfl
 subst e0
 cases h5
 exact WK h1 (hr.mono hk) hg h2 h3 h4 ha hdb he hpl
theorem ZW (c:Fn X.prog X.w X.K X.mg X.base F k x n dds gg) (hr:Room j X.A) (ha:PDa F X DQ (e::es) fs) (hk:k≤j:=by decide) (hg:Gl X x:=by rfl) (hdb:(x==("__debug__" :Str))=false:=by decide) (he:starEach (e::es) X.env=(false,eval e X.env)::starEach es X.env:=by rfl) (hpl:(backTo pos (starEach es X.env)).any (·.1)=false:=by rfl):
 PD F X DQ (.Call (.Name x p) (e::es) [] pos) (RB n dds gg fs):=by
 obtain⟨f,fd,ps,dvs,ds,h1,h2,h3,h4,h5,h6⟩:=c;exact SY h1 (hr.mono hk) hg h2 h3 h4 h5 h6 ha hdb he hpl
end
theorem Kh {P:Program} {w:World} {K:PySem.W.Frag} {mg:Str->Option Value} {base:Heap} {F:Nm} {k n:Nat} {f:Addr} {fd:FuncData} {ps:List Str} (hn:n=ps.length):FnOk P w K mg base CX0 k f fd ps (DO K F n λ_=>M.bad):=by
 have no:∀vs H Q E,¬DO K F n (λ_=>M.bad) vs H Q E:=λvs H Q E h=>by
  obtain⟨_,W,m,ds,_,_,h⟩:=h;exact h.elim
 exact⟨λvs H Q E h=>(no vs H Q E h).elim,λA outer s H args us vs Q E _ _ _ _ h=>(no vs H Q E h).elim⟩
end Mir
namespace L2
open PySem PySem.Spec PyProof.Rows HT
section
variable {prog:Program} {w:World} {A:Around} {E:Value->Shared->Prop} {s:Shared}
theorem Iq {sl:Addr} {tk:Tok} {n:Nat} {Q:Int×Int×Nat->Shared->Prop} (hs:s.heap.IsSliceOf sl .none .none (.int (-1) tk))
 (h:Q ((n:Int) - 1,-1,n) s):wpAny (model prog w) A (Builtin.Slice.sliceApplied (.ref sl) (pure (n:Int))) Q E s:=by
 obtain⟨os,hos,hcs,hds⟩:=id hs;unfold Builtin.Slice.sliceApplied Builtin.Slice.sliceFields;refine wpAny_bind (wpAny_bind (wpAny_field hos hds (x:= .none) rfl (wpAny_bind (wpAny_field hos hds (x:= .none) rfl (wpAny_bind (wpAny_field hos hds (x:= .int (-1) tk) rfl (wpAny_pure ?_)))))));refine wpAny_bind (slicePart_ (.int (-1) tk) ?_);show wpAny _ _ (if((-1:Int)==0)=true then _ else _) _ _ s;rw[Aq AB];refine wpAny_bind (slicePart_none (wpAny_bind (slicePart_none (wpAny_bind (wpAny_pure ?_)))));have e1:Builtin.Slice.sliceAdjust none none (-1) (n:Int)=((n:Int) - 1,-1):=by
  unfold Builtin.Slice.sliceAdjust;simp
 show wpAny _ _ (match Builtin.Slice.sliceAdjust none none (-1) (n:Int)with|(lo,hi)=>pure (lo,(-1:Int),Builtin.Slice.slicePlaces lo hi (-1))) _ _ s;rw[e1];have e2:Builtin.Slice.slicePlaces ((n:Int) - 1) (-1) (-1)=n:=by
  unfold Builtin.Slice.slicePlaces;simp;omega
 show wpAny _ _ (pure ((n:Int) - 1,(-1:Int),Builtin.Slice.slicePlaces ((n:Int) - 1) (-1) (-1))) _ _ s;rw[e2];exact wpAny_pure h
theorem PZ {A B:Type} {f g:A->Option B}:∀{l:List A},(∀a,a∈l->f a=g a)->l.filterMap f=l.filterMap g
 |[],_=>rfl
 |a::l,h=>by
  have e:=PZ (l:=l) λb hb=>h b (AF _ hb);have e1:=h a AG
  cases q:g a with
  |none=>rw[BC (e1.trans q),BC q,e]
  |some z=>rw[Ax (e1.trans q),Ax q,e]
theorem Ul (xs:Array Value):((List.range xs.size).filterMap λ(m:Nat)=>xs[(((xs.size:Int) - 1)+(m:Int)*(-1)).toNat]?).toArray=xs.toList.reverse.toArray:=by
 have e:(List.range xs.size).filterMap (λ(m:Nat)=>xs[(((xs.size:Int) - 1)+(m:Int)*(-1)).toNat]?)=((List.range xs.size).map (λk=>xs.size - 1 - k)).filterMap (xs[·]?):=by
  rw[CN];refine PZ λm hm=>?_;have:(((xs.size:Int) - 1)+(m:Int)*(-1)).toNat=xs.size - 1 - m:=by
   have:=Bb.mp hm;omega
  simp only[Function.comp,this]
 rw[e,PySem.W.krv_range,List.filterMap_reverse,PySem.W.krv_all]
theorem IF {t sl:Addr} {items:Array Value} {tk:Tok} {Q:Value->Shared->Prop} (ht:IsTup s.heap t items) (hs:s.heap.IsSliceOf sl .none .none (.int (-1) tk))
 (h:Q (.ref s.heap.objs.size) {s with heap:=s.heap.push {cls:= .type "tuple",data:= .seq items.toList.reverse.toArray}})
 (hsz:items.size≤sizeLine):wpAny (model prog w) A (getItem (.ref t) (.ref sl)) Q E s:=by
 have htake:sizeOk (.seq items.toList.reverse.toArray):=by
  show items.toList.reverse.toArray.size≤sizeLine;rw[A7,CK,AU];exact hsz
 obtain⟨os,hos,hcs,hds⟩:=id hs;have hTs:s.TypeIs (.ref sl) "slice" :=⟨os,hos,hcs⟩;unfold getItem
 try with_reducible refine wpAny_holding ?_
 first|refine wpAny_bind (wpAny_pure ?_)|skip
 refine wpAny_bind (wpAny_sequenceKey ht.typeIs AB ?_);refine wpAny_bind (wpAny_callSpecial?_slot (name:=Str.ofString "__getitem__") ht.typeIs Bg
  (wpAny_call_entry Bg ht.typeIs entry_tuple_getitem ?_ (args_tuple_getitem _ _)))
 show wpAny _ _ (Builtin.Tuple.tupleItemsOf (.ref t)>>=_) _ _ s;refine wpAny_bind (tupleItemsOf_ ht ?_);refine wpAny_bind (wpAny_typeOf hTs ?_);rw[An AB];refine wpAny_bind (Iq hs ?_);have hno:¬((((items.size:Int) - 1)==0 && (-1:Int)==1 && items.size==items.size)=true):=by simp
 show wpAny _ _ (if(((items.size:Int) - 1)==0 && (-1:Int)==1 && items.size==items.size)=true then _ else _) _ _ s;rw[Aq hno,Ul]
 first
  |exact wpAny_bind (m:=Builtin.Tuple.tupleExact _) (wpAny_newObj_type (wpAny_pure ⟨_,rfl,wpAny_pure h⟩) htake)
  |exact wpAny_bind (m:=Builtin.Tuple.tupleExact _) (wpAny_newObj_type (wpAny_bind (wpAny_pure (wpAny_pure ⟨_,rfl,wpAny_pure h⟩))) htake)
  |exact wpAny_bind (wpAny_bind (m:=Builtin.Tuple.tupleExact _) (wpAny_newObj_type (wpAny_pure (wpAny_pure ⟨_,rfl,wpAny_pure h⟩)) htake))
  |exact wpAny_bind (wpAny_bind (m:=Builtin.Tuple.tupleExact _) (wpAny_newObj_type (wpAny_pure ⟨_,rfl,wpAny_pure h⟩) htake))
end
section
variable {X:Cx}
def cI (K:PySem.W.Frag):V->Hp->VK->Prop:=λx H1 Q=>∃a xs,x= .ref a∧SqT K H1 a xs∧∀p,H1 p=none->Q (.ref p) (upd H1 p (.tup xs.reverse))
theorem ZX {e:Expr} {te:TE} {k:Nat} {p1 p2 p3 pos:Pos} (he:PE X e te):PE X (.Subscript e (.Slice none none (some (.UnaryOp .USub (.Constant (.int 1) k p1) p2)) p3) pos) (tUn (cI X.K) te):=by
 refine⟨λpins s σ H Q I h=>?_⟩;refine Subscript_ (thn (he.run pins s σ H _ I h) λv s1 ⟨x,H1,I1,r1,q1⟩=>?_);obtain⟨a,xs,ex,hx,q⟩:=q1;subst ex
 cases r1
 have hst:PO X (some (.UnaryOp .USub (.Constant (.int 1) k p1) p2)) (tPart (tUn (rU λi=> .int (-i)) (tC (.int 1)))):=po_some (pe_un un_neg pe_int);refine wpAny_Slice (thn (po_none.run pins s1 σ H1 (λo H2=>o=none∧H2=H1) I1 ⟨rfl,rfl⟩) λvl s2 ⟨l,H2,I2,pl,el,e2⟩=>?_);subst el e2;refine thn (po_none.run pins s2 σ H2 (λo H3=>o=none∧H3=H2) I2 ⟨rfl,rfl⟩) λvu s3 ⟨u,H3,I3,pu,eu,e3⟩=>?_;subst eu e3;refine thn (hst.run pins s3 σ H3 (λo H4=>o=some (-1)∧H4=H3) I3 ⟨1,rfl,-1,rfl,rfl,rfl⟩) λvs s4 ⟨o,H4,I4,ps,eo,e4⟩=>?_;subst eo e4
 cases pl
 cases pu
 cases ps with
 |int _ tk=>
 have I5:Inv X pins σ H4 {s4 with heap:=s4.heap.push {cls:= .type "slice",data:= .fields #[.none,.none,.int (-1) tk]}}:=I4.kept (t' :=s4.toks) λb ob q=>Heap.get?_push_of_some _ q;obtain⟨its,r,ht,hz⟩:=I5.tuple hx;have hlen:=r.length;show wpAny (model X.prog X.w) X.A (subscriptTail e (.Slice none none (some (.UnaryOp .USub (.Constant (.int 1) k p1) p2)) p3) (.ref a) (.ref s4.heap.objs.size)) (EP X pins σ Q) X.xe {s4 with heap:=s4.heap.push {cls:= .type "slice",data:= .fields #[.none,.none,.int (-1) tk]}};refine tail_any (ops:=[.ref a,.ref s4.heap.objs.size]) ht.typeIs (Bg.lookup) ?_ (by with_unfolding_all rfl);refine IF ht (Heap.IsSliceOf.new _ _ _ _) ?_ (by rw[A7];omega);refine⟨.ref _,_,I5.laid (t' :=s4.toks) (o:= .tup xs.reverse) (λb ob q=>Heap.get?_push_of_some _ q) (Ai _) ?_,rfl,q _ (I5.hok.fresh (Ai _))⟩;exact⟨by rw[CK];exact hz,_,r.reverse,⟨_,Heap.get?_push_size _ rfl,rfl,0,AD⟩⟩
end
end L2
namespace Mir
open PySem L2
section
variable {F:Nm} {X:Cx} {E:XK} {e:Expr} {fa:Env->M D}
def D.back (x:D):M D:=x.now>>=λx=>match x with
 | .lst ds=>pure (.lst ds.reverse)
 | .tup ds=>pure (.tup ds.reverse)
 |_=>M.bad
theorem Mn {K:PySem.W.Frag} {te:TE} (q:Ky K F E te fa) {ρ:Env} {m:Mu} {W:Wd} {σ:L2.St} {H:Hp} (s:Sl K F W ρ σ) (k:Ok K F W m H) {d:D} {m1:Mu} (e:(fa ρ).run m= .ok d m1) {Q:VK} (hQ:∀W1 H1,Ext W H W1 H1->Ok K F W1 m1 H1->∀v,Rp K F W1 v d->Q v H1):te σ H Q:=
 q ρ m W σ H s k Q (by rw[e];exact hQ)
theorem fK {k:Nat} {p1 p2 p3 pos:Pos} (h:PD F X E e fa):PD F X E (.Subscript e (.Slice none none (some (.UnaryOp .USub (.Constant (.int 1) k p1) p2)) p3) pos) (Eg D.back fa):=by
 obtain⟨t,p,q⟩:=h;refine⟨fun σ H Q=>tRevL X.K t σ H Q∨tUn (cI X.K) t σ H Q,⟨λpins s σ H Q I h=>?_⟩,fun ρ m W σ H s k Q h=>?_⟩
 ·rcases h with h|h
  ·exact(pe_revL p).run pins s σ H Q I h
  ·exact(ZX p).run pins s σ H Q I h
 have h:DP X.K F ((fa ρ>>=D.back).run m) W H Q E:=h
 cases e1:(fa ρ).run m with
 |bad=>rw[Do,e1]at h;exact h.elim
 |exc c m1=>
  rw[Do,e1]at h;exact .inl (q ρ m W σ H s k _ (by rw[e1];exact h))
 |ok d m1=>
  have h:=PoR.bind h;rw[e1]at h
  cases d with
  |lst ds=>
   refine .inl (Mn q s k e1 λW1 H1 x1 k1 v r1=>?_);have h1:=h W1 H1 x1 k1
   cases r1 with
   |@lst pp vs _ g r1=>exact⟨pp,vs,rfl,.inl (.inl (k1.gh _ _ g)),λp hp=>DY k1 h1 hp (EJ k1 hp r1.reverse)⟩
  |tup ds=>
   refine .inr (Mn q s k e1 λW1 H1 x1 k1 v r1=>?_);have h1:=h W1 H1 x1 k1
   cases r1 with
   |@tup pp vs _ g r1=>exact⟨pp,vs,rfl,MQ k1.gh g,λp hp=>DY k1 h1 hp (Gq k1 hp r1.reverse)⟩
  |ktp ks=>
   refine .inr (Mn q s k e1 λW1 H1 x1 k1 v r1=>?_);have h1:=h W1 H1 x1 k1
   cases r1 with
   |@ktp pp _ g=>exact⟨pp,_,rfl,MQ k1.gh (.inl (.inl g)),λp hp=>DY k1 h1 hp (Gq k1 hp (Kz ks).reverse)⟩
  |tpx ds=>
   refine .inr (Mn q s k e1 λW1 H1 x1 k1 v r1=>?_);have h1:=h W1 H1 x1 k1
   cases r1 with
   |@tpx pp oo vs _ g _ _ r1=>exact⟨pp,vs,rfl,MQ k1.gh (.inl (.inr ⟨oo,g⟩)),λp hp=>DY k1 h1 hp (Gq k1 hp r1.reverse)⟩
  |hnd i=>
   refine .inl (Mn q s k e1 λW1 H1 x1 k1 v r1=>?_);have h1:=h W1 H1 x1 k1
   cases r1 with
   |@hnd pp _ g=>
    have h1:DP X.K F (((D.hnd i).now>>=λx=>match x with
     | .lst ds=>pure (.lst ds.reverse)
     | .tup ds=>pure (.tup ds.reverse)
     |_=>M.bad:M D).run m1) W1 H1 Q E:=h1
    cases e2:m1[i]? with
    |none=>simp only[Do,D.now,e2]at h1;exact h1.elim
    |some o=>
     cases o with
     |lst ds=>
      simp only[Do,D.now,e2]at h1;obtain⟨vs,h2,r2⟩:=k1.ob i pp _ g e2;exact⟨pp,vs,rfl,.inl (.inl h2),λp hp=>DY k1 h1 hp (EJ k1 hp r2.reverse)⟩
     |dic kvs=>simp only[Do,D.now,e2]at h1;exact h1.elim
     |fdc kvs=>simp only[Do,D.now,e2]at h1;exact h1.elim
     |ins _ _=>simp only[Do,D.now,e2]at h1;exact h1.elim
     |dtp _=>simp only[Do,D.now,e2]at h1;exact h1.elim
     |dead=>simp only[Do,D.now,e2]at h1;exact h1.elim
  |_=>exact .inl (Mn q s k e1 λW1 H1 x1 k1 v r1=>((h W1 H1 x1 k1):PoR X.K F _ _ _ _ _).elim)
end
theorem Pa {K:PySem.W.Frag} {F:Nm} {W:Wd}:∀ns:List Int,Rps K F W (ns.map V.int) (ns.map D.int)
 |[]=> .nil
 |n::ns=> .cons (.int n) (Pa ns)
def jF (H:Hp):Hp:=λb=>match H b with
 |some (.tbl _)=>none
 |o=>o
theorem WQ {H:Hp} {b:Addr} {u:HO} (e:H b=some u) (n:∀ps,u≠ .tbl ps):jF H b=some u:=by
 unfold jF;rw[e]
 cases u with
 |tbl ps=>exact(n ps rfl).elim
 |_=>rfl
theorem WS {H:Hp} {b:Addr} {u:HO} (e:jF H b=some u):H b=some u∧∀ps,u≠ .tbl ps:=by
 unfold jF at e
 cases q:H b with
 |none=>rw[q]at e;cases e
 |some u2=>
  rw[q]at e
  cases u2 with
  |tbl ps=>cases e
  |_=>cases e;exact⟨rfl,λ_ z=>by cases z⟩
theorem ZY {K:PySem.W.Frag} {H:Hp} {a:Addr} {xs:List V} (h:SqL K H a xs):SqL K (jF H) a xs:=by
 rcases h with(h|⟨o,h⟩)|h
 ·exact .inl (.inl (WQ h λ_ z=>by cases z))
 ·exact .inl (.inr ⟨o,WQ h λ_ z=>by cases z⟩)
 ·exact .inr h
theorem WT {K:PySem.W.Frag} {F:Nm} {H:Hp} {a:Addr} {ns:List Int} {g:List D->M D} {Q:VK} {E:XK} (hS:SqL K H a (ns.map V.int)) (hm:∃m,(g [.frz (ns.map .int)]).run []= .ok (.bl true) m) (hQ:∀H',Q (.bl true) H') (tb:NdefX.TabsN F.tb H):DO K F 1 g [.ref a] H Q E:=by
 obtain⟨m,e⟩:=hm;refine⟨rfl,⟨[],jF H⟩,[],[.frz (ns.map .int)],.cons (.frz (ZY hS) (Pa ns)) .nil,⟨λ_ _ h=>(WS h).1,B3,λ_ _ _ h _ _=>(by cases h),rfl,λi a o h _=>(by cases h),λa u h=>(WS h).2,tb⟩,?_⟩;rw[e];intro W' H' _ _ v r
 cases r
 exact hQ H'
theorem ZZ {K:PySem.W.Frag} {F:Nm} {H:Hp} {a:Addr} {ns:List Int} {g:List D->M D} {Q:VK} {E:XK} (hS:SqL K H a (ns.map V.int)) (hm:∃m,(g [.frz (ns.map .int)]).run []= .ok (.bl true) m) (hQ:∀H',Q (.bl true) H') (tb:F.tb=[]:=by rfl):DO K F 1 g [.ref a] H Q E:=
 WT hS hm hQ (by rw[tb];intro p hp;cases hp)
end Mir
namespace Mir
open PySem L2
@[simp] theorem El (d:D) (ρ:Env):slot (some d::ρ) 0=pure d:=(rfl)
@[simp] theorem IG (o:Option D) (ρ:Env) (i:Nat):slot (o::ρ) (i+1)=slot ρ i:=(rfl)
@[simp] theorem Mo {A B:Type} (c:Prop) [Decidable c] (x y:M A) (f:A->M B):((if c then x else y)>>=f)=if c then x>>=f else y>>=f:=by split<;>rfl
@[simp] theorem Dq (ρ:Env) (f:Env->M Fl):PU (.nx ρ) f=f ρ:=(rfl)
@[simp] theorem Se (d:D) (f:Env->M Fl):PU (.rt d) f=pure (.rt d):=(rfl)
@[simp] theorem Sf (ρ:Env) (f:Env->M Fl):PU (.bk ρ) f=pure (.bk ρ):=(rfl)
@[simp] theorem Si (ρ:Env) (f:Env->M Fl):PU (.ct ρ) f=pure (.ct ρ):=(rfl)
@[simp] theorem Ir (d:D):endOf (.rt d)=pure d:=(rfl)
@[simp] theorem Pb (ρ:Env):endOf (.nx ρ)=pure .non:=(rfl)
@[simp] theorem Eb:M.guard true=pure ():=(rfl)
@[simp] theorem Ed {A:Type} (a:A):M.opt (some a)=pure a:=(rfl)
@[simp] theorem Mp {A:Type} (c:Prop) [Decidable c] (x y:M A):M.noexc (if c then x else y)=if c then M.noexc x else M.noexc y:=by split<;>rfl
theorem Dm {A B:Type} (a:A) (f:A->M B):((pure a:M A)>>=f)=f a:=(rfl)
theorem WU {A B:Type} (f:A->M B):((M.bad:M A)>>=f)=M.bad:=(rfl)
theorem Za {A:Type} (a:A):M.noexc (pure a:M A)=pure a:=(rfl)
theorem Mq (k:Nat) (i:Int) (d:D):M.puto k (some i) d=M.put k i d:=(rfl)
theorem Iu {p:Prop} [Decidable p] (h:p):M.guard (decide p)=pure ():=by rw[AK h];rfl
@[simp] theorem Sj (i:Int):(D.int i).now=pure (.int i):=(rfl)
@[simp] theorem Sk (i:Str):(D.str i).now=pure (.str i):=(rfl)
@[simp] theorem WV (i:Bool):(D.bl i).now=pure (.bl i):=(rfl)
@[simp] theorem Sm:(D.non).now=pure .non:=(rfl)
@[simp] theorem Sn (i:List D):(D.tup i).now=pure (.tup i):=(rfl)
@[simp] theorem So (i:List D):(D.lst i).now=pure (.lst i):=(rfl)
@[simp] theorem Sq (i:List D):(D.frz i).now=pure (.frz i):=(rfl)
@[simp] theorem add_int (i j:Int):D.add (.int i) (.int j)=pure (.int (i+j)):=(rfl)
theorem add_str (a b:Str) (h:a.length+b.length≤sizeLine):D.add (.str a) (.str b)=pure (.str (a++b)):=by
 show(M.guard (decide (a.length+b.length≤sizeLine))>>=λ_=>(pure (D.str (a++b)):M D))=_;rw[Iu h];rfl
@[simp] theorem sub_int (i j:Int):D.sub (.int i) (.int j)=pure (.int (i - j)):=(rfl)
theorem Zb (i j:Int) (h:(-(2 ^ 64)<i∧i<2 ^ 64)∨(-(2 ^ 64)<j∧j<2 ^ 64)):D.mul (.int i) (.int j)=pure (.int (i*j)):=by
 show(M.guard (decide _)>>=λ_=>(pure (D.int (i*j)):M D))=_;rw[Iu h];rfl
theorem LB (i j:Int) (h:0<j∧j<1073741824):D.fdiv (.int i) (.int j)=pure (.int (i / j)):=by
 show(M.guard (decide _)>>=λ_=>(pure (D.int (i / j)):M D))=_;rw[Iu h];rfl
theorem Yq (i j:Int) (h:0<j):D.mod (.int i) (.int j)=pure (.int (i % j)):=by
 show(M.guard (decide _)>>=λ_=>(pure (D.int (i % j)):M D))=_;rw[Iu h];rfl
theorem Pc (i j:Int) (h:0≤j∧j≤1000000∧i.natAbs<2 ^ 64):D.pow (.int i) (.int j)=pure (.int (i ^ j.toNat)):=by
 show(M.guard (decide _)>>=λ_=>(pure (D.int (i ^ j.toNat)):M D))=_;rw[Iu h];rfl
@[simp] theorem Nu (i j:Int):D.lt (.int i) (.int j)=pure (.bl (decide (i<j))):=(rfl)
@[simp] theorem Sr (i j:Int):D.le (.int i) (.int j)=pure (.bl (decide (i≤j))):=(rfl)
@[simp] theorem Nv (i j:Int):D.gt (.int i) (.int j)=pure (.bl (decide (j<i))):=(rfl)
@[simp] theorem Ss (i j:Int):D.ge (.int i) (.int j)=pure (.bl (decide (j≤i))):=(rfl)
@[simp] theorem Iv (b:Bool):D.bool (.bl b)=pure b:=(rfl)
@[simp] theorem Jh (b:Bool):D.tru (.bl b)=pure b:=(rfl)
@[simp] theorem Su (b:Int):D.tru (.int b)=pure (b !=0):=(rfl)
@[simp] theorem toInt_int (i:Int):D.toInt (.int i)=pure (.int i):=(rfl)
@[simp] theorem Pd (b:Bool):D.toInt (.bl b)=pure (.int (if b then 1 else 0)):=(rfl)
@[simp] theorem Sv (i:Int):D.abs (.int i)=pure (.int (if i<0 then -i else i)):=(rfl)
@[simp] theorem Pe (i j:Int):D.max2 (.int i) (.int j)=pure (.int (if j>i then j else i)):=(rfl)
@[simp] theorem Pf (i j:Int):D.min2 (.int i) (.int j)=pure (.int (if j<i then j else i)):=(rfl)
@[simp] theorem Sw (ds:List D):D.len (.lst ds)=pure (.int ds.length):=(rfl)
@[simp] theorem Nw (ds:List D):D.len (.frz ds)=pure (.int ds.length):=(rfl)
@[simp] theorem Sx (ds:List D):D.len (.tup ds)=pure (.int ds.length):=(rfl)
theorem len_str (x:Str) (h:x.length≤sizeLine):D.len (.str x)=pure (.int x.length):=by
 show(M.guard (decide _)>>=λ_=>(pure (D.int (x.length:Int)):M D))=_;rw[Iu h];rfl
@[simp] theorem Ny (g:D->M D) (x:D):d1 g [x]=g x:=(rfl)
@[simp] theorem WW (g:D->D->M D) (x y:D):d2 g [x,y]=g x y:=(rfl)
@[simp] theorem Sy (k:Nat):D.ref (.hnd k)=pure k:=(rfl)
@[simp] theorem LC (i:Int):D.part (.int i)=pure (some i):=(rfl)
@[simp] theorem Pg (x:Str):D.text (.str x)=pure x:=(rfl)
theorem fL {A:Type} {xs:List A} {i:Int} {n:Nat} {a:A} (h0:i=(n:Int)) (h:xs[n]? =some a):atI xs i=some a:=by
 subst h0;exact atI_nat h
theorem LD (ds:List D) (i:Int):D.ix (.lst ds) (.int i)=M.opt (atI ds i):=(rfl)
theorem Dv (ds:List D) (i:Int):D.ix (.tup ds) (.int i)=M.opt (atI ds i):=(rfl)
theorem fM (ds:List D) (i:Int):D.ix (.frz ds) (.int i)=M.opt (atI ds i):=(rfl)
theorem WY (x:Str) (i:Int) (h:x.length≤sizeLine):D.ix (.str x) (.int i)=M.opt ((atI x.cps.toList i).map λc=> .str ⟨#[c]⟩):=by
 show(M.guard (decide _)>>=λ_=>M.opt ((atI x.cps.toList i).map λc=>D.str ⟨#[c]⟩))=_;rw[Iu h];rfl
theorem LF {A:Type} (x:M A):M.noexc (M.noexc x)=M.noexc x:=by
 refine M.ext λm=>?_;show((x.run m).noexc).noexc=(x.run m).noexc
 cases x.run m<;>rfl
@[simp] theorem KB (b:Bool):M.noexc (M.guard b)=M.guard b:=by cases b<;>rfl
@[simp] theorem Mr {A:Type} (b:Option A):M.noexc (M.opt b)=M.opt b:=by cases b<;>rfl
@[simp] theorem Ms {A:Type}:M.noexc (M.bad:M A)=M.bad:=(rfl)
section
variable {fa fb fc:Env->M D} {ga gb:Env->M Bool} {f g:Env->M Fl} {fs:Env->M (List D)} {ρ:Env} {d:D}
theorem Em (i:Nat):Cg i ρ=slot ρ i:=(rfl)
theorem Ph:eC d ρ=pure d:=(rfl)
theorem Gy (op:D->D->M D):Ck op fa fb ρ=(fa ρ>>=λx=>fb ρ>>=λy=>op x y):=(rfl)
theorem LG (op op' :D->D->M D):Fu op op' fa fb fc ρ=(fa ρ>>=λx=>fb ρ>>=λy=>(op x y>>=D.bool)>>=λt=>if t=true then fc ρ>>=λz=>op' y z else pure (.bl false)):=(rfl)
theorem HL:DA fa ρ=(fa ρ>>=D.bool):=(rfl)
theorem Nz:Ei fa ρ=(fa ρ>>=D.tru):=(rfl)
theorem N0:E7 ga ρ=(ga ρ>>=λt=>pure (!t)):=(rfl)
theorem cJ:MR ga gb ρ=(ga ρ>>=λt=>if t=true then gb ρ else pure false):=(rfl)
theorem Ji:Dg ga gb ρ=(ga ρ>>=λt=>if t=true then pure true else gb ρ):=(rfl)
theorem RF:Fv fa fb ρ=(fa ρ>>=λx=>x.tru>>=λt=>if t=true then fb ρ else pure x):=(rfl)
theorem cK:Yp fa fb ρ=(fa ρ>>=λx=>x.tru>>=λt=>if t=true then pure x else fb ρ):=(rfl)
theorem WZ:fE fa ρ=(fa ρ>>=λx=>x.tru>>=λt=>pure (.bl (!t))):=(rfl)
theorem cL:WL ga fa fb ρ=(ga ρ>>=λt=>if t=true then fa ρ else fb ρ):=(rfl)
theorem Pi (op:D->M D):Eg op fa ρ=(fa ρ>>=op):=(rfl)
theorem Gz:Ci ρ=pure []:=(rfl)
theorem Fw:aC fa fs ρ=(fa ρ>>=λx=>fs ρ>>=λxs=>pure (x::xs)):=(rfl)
theorem RG:DS fs ρ=(fs ρ>>=λxs=>M.guard (decide (xs.length≤sizeLine))>>=λ_=>pure (.tup xs)):=(rfl)
theorem Wc:EG fs ρ=(fs ρ>>=λxs=>M.guard (decide (xs.length≤sizeLine))>>=λ_=>pure (.lst xs)):=(rfl)
theorem Sz:GP fs ρ=(fs ρ>>=λxs=>M.guard (decide (xs.length≤sizeLine))>>=λ_=>M.more (.lst xs)):=(rfl)
theorem LH:GQ ρ=pure none:=(rfl)
theorem LI:GR fa ρ=(fa ρ>>=D.part):=(rfl)
theorem LJ {fl fh:Env->M (Option Int)}:Ej fa fl fh ρ=(fa ρ>>=λx=>fl ρ>>=λl=>fh ρ>>=λu=>D.slice x l u):=(rfl)
theorem Zd (op:List D->M D):eB op fs ρ=(fs ρ>>=op):=(rfl)
theorem S3 (acc:Str):Je ρ acc=pure acc:=(rfl)
theorem Pj {fj:Env->Str->M Str} (acc:Str):DM fa fj ρ acc=(fa ρ>>=λx=>D.onto acc x>>=λacc=>fj ρ acc):=(rfl)
theorem Mv {fj:Env->Str->M Str}:Uk fj ρ=(fj ρ Str.empty>>=λx=>pure (.str x)):=(rfl)
theorem cM (op:Str->D->M D):Nn op fa fb ρ=(fa ρ>>=λx=>D.text x>>=λx=>fb ρ>>=λy=>op x y):=(rfl)
theorem S4:DJ fa ρ=(fa ρ>>=D.iter):=(rfl)
theorem Jj:Kg fa ρ=(fa ρ>>=λx=>D.range1 [x]):=(rfl)
theorem Um:ZT fa fb ρ=(fa ρ>>=λx=>fb ρ>>=λy=>D.range2 [x,y]):=(rfl)
theorem RH (i:Nat):Cq i d ρ=pure (ρ.set i (some d)):=(rfl)
theorem LK:Di [] ρ=pure ρ:=(rfl)
theorem Jk {fg:D->Env->M Env} {fgs:List D->Env->M Env} (ds:List D):Dr fg fgs (d::ds) ρ=(fg d ρ>>=fun ρ=>fgs ds ρ):=(rfl)
theorem Jl (n:Nat) {fgs:List D->Env->M Env}:KR n fgs d ρ=(D.unpack n d>>=λds=>fgs ds ρ):=(rfl)
theorem We:fF fa fb d ρ=(fa ρ>>=λx=>D.ref x>>=λk=>fb ρ>>=λy=>D.part y>>=λo=>M.puto k o d>>=λ_=>pure ρ):=(rfl)
theorem Mw {fi:Env->M (List D×Option Nat)} {fg:D->Env->M Env} {ft:Env->M Bool} {own:List Nat}:E1 fi fg ft fa own ρ=(Du fi fg ft fa own ρ>>=λds=>pure (.lst ds)):=(rfl)
theorem fN {fi:Env->M (List D×Option Nat)} {fg:D->Env->M Env} {ft:Env->M Bool} {own:List Nat}:om fi fg ft fa own ρ=(Du fi fg ft fa own ρ>>=λds=>M.more (.lst ds)):=(rfl)
theorem Wf:DD ρ=pure true:=(rfl)
theorem Wg:Gu fa fb ρ=(fa ρ>>=λx=>D.ref x>>=λk=>M.isL k>>=λ_=>fb ρ>>=λy=>M.app k y>>=λ_=>pure .non):=(rfl)
theorem Ki (n:Nat) (gg:List D->M D):Cn n gg fs ρ=(fs ρ>>=λds=>M.guard (decide (ds.length=n))>>=λ_=>gg ds):=(rfl)
theorem Pk (n:Nat) (dds:List D) (gg:List D->M D):RB n dds gg fs ρ=(fs ρ>>=λds=>M.guard (decide ((ds++dds).length=n))>>=λ_=>gg (ds++dds)):=(rfl)
theorem Iw:C1 ρ=pure (.nx ρ):=(rfl)
theorem Pl:Cj f g ρ=(f ρ>>=λfl=>PU fl g):=(rfl)
theorem N1:Cu fa ρ=(fa ρ>>=λd=>pure (.rt d)):=(rfl)
theorem Ze:ly ρ=pure (.rt .non):=(rfl)
theorem S5:C5 fa ρ=(fa ρ>>=λ_=>pure (.nx ρ)):=(rfl)
theorem G0:Da ga f g ρ=(ga ρ>>=λt=>if t=true then f ρ else g ρ):=(rfl)
theorem N2 {fg:D->Env->M Env}:FT fa fg ρ=(fa ρ>>=λd=>fg d ρ>>=fun ρ=>pure (.nx ρ)):=(rfl)
theorem E6 (i:Nat):C3 i fa ρ=(fa ρ>>=λd=>pure (.nx (ρ.set i (some d)))):=(rfl)
theorem fO (i:Nat):oq i fa ρ=(slot ρ i>>=λx=>fa ρ>>=λy=>D.iadd x y>>=λd=>pure (.nx (ρ.set i (some d)))):=(rfl)
theorem Pm (n:Nat):K6 n ga f ρ=Dz ga f n ρ:=(rfl)
theorem N3 {fi:Env->M (List D×Option Nat)} {fg:D->Env->M Env}:E4 fi fg f ρ=Eh fi fg f ρ:=(rfl)
theorem Wh:fG ρ=pure (.bk ρ):=(rfl)
theorem Zf:mC ρ=pure (.ct ρ):=(rfl)
theorem iadd_int (a b:Int):D.iadd (.int a) (.int b)=pure (.int (a+b)):=(rfl)
end
def ot (k:Nat) (m:Mu) (z:Nat):Prop:=∃x y:Int,m[k]? =some (.lst [.int x,.int y,.int (z:Int)])∧0≤x∧0≤y∧y≤2 ^ 62
def Draws {A:Type} (k c:Nat) (x:M A) (R:A->Prop):Prop:=∀m z,ot k m z->z+c≤1000000->∃a m' z',x.run m= .ok a m'∧ot k m' z'∧z'≤z+c∧R a∧m'.length=m.length∧∀j,j≠k->m'[j]? =m[j]?
section
variable {A B:Type} {k c c' :Nat} {x:M A} {f:A->M B} {R:A->Prop} {R' :B->Prop}
theorem S6 {a:A} (h:R a):Draws k 0 (pure a) R:=λm z b _=>⟨a,m,z,rfl,b,Ai _,h,rfl,λ_ _=>rfl⟩
theorem S7 (h:Draws k c x R) (h' :∀a,R a->Draws k c' (f a) R'):Draws k (c+c') (x>>=f) R' :=λm z b hz=>by
 obtain⟨a,m1,z1,e1,b1,l1,r1,n1,o1⟩:=h m z b AA;obtain⟨a2,m2,z2,e2,b2,l2,r2,n2,o2⟩:=h' a r1 m1 z1 b1 AA;exact⟨a2,m2,z2,by rw[Do,e1];exact e2,b2,AA,r2,n2.trans n1,λj hj=>(o2 j hj).trans (o1 j hj)⟩
theorem mF (h:Draws k c x R) (hc:c≤c'):Draws k c' x R:=λm z b hz=>by
 obtain⟨a,m1,z1,e1,b1,l1,r1,n1,o1⟩:=h m z b AA;exact⟨a,m1,z1,e1,b1,AA,r1,n1,o1⟩
theorem Wi {R' :A->Prop} (h:Draws k c x R) (hR:∀a,R a->R' a):Draws k c x R' :=λm z b hz=>by
 obtain⟨a,m1,z1,e1,b1,l1,r1,n1,o1⟩:=h m z b AA;exact⟨a,m1,z1,e1,b1,l1,hR a r1,n1,o1⟩
theorem Wj (h:Draws k c x R):Draws k c (M.noexc x) R:=λm z b hz=>by
 obtain⟨a,m1,z1,e1,r⟩:=h m z b AA;exact⟨a,m1,z1,by unfold M.noexc;simp only[e1];rfl,r⟩
theorem Wl {p:Prop} [Decidable p] {y:M A} (h:p) (hy:Draws k c y R):Draws k c (M.guard (decide p)>>=λ_=>y) R:=by
 rw[Iu h];exact hy
theorem cN {fg:D->Env->M Env} {fe:Env->M D} {ρ:Env} {R:D->Prop}:∀(ds acc:List D),(∀d,d∈ds->∃ρ',fg d ρ=pure ρ'∧Draws k c (fe ρ') R)->ds.length+acc.length≤100000->(∀d,d∈acc->R d)->
 Draws k (ds.length*c) (EA fg DD fe ρ ds acc) (λes=>es.length=acc.length+ds.length∧∀e,e∈es->R e)
 |[],acc,_,_,ha=>by
  rw[Ah,Nat.zero_mul];exact S6 ⟨rfl,ha⟩
 |d::ds,acc,h,hl,ha=>by
  obtain⟨ρ',e,hd⟩:=h d AG;have e2:(d::ds).length*c=c+ds.length*c:=by rw[AI,Nat.succ_mul];omega
  rw[e2];have hl2:ds.length+acc.length+1≤100000:=by rw[AI]at hl;omega
  show Draws k _ (fg d ρ>>=fun ρ1=>DD ρ1>>=λt=>if t=true then fe ρ1>>=λy=>M.guard (decide (acc.length<sizeLine))>>=λ_=>EA fg DD fe ρ ds (acc++[y])else EA fg DD fe ρ ds acc) _;rw[e];show Draws k _ (fe ρ'>>=λy=>M.guard (decide (acc.length<sizeLine))>>=λ_=>EA fg DD fe ρ ds (acc++[y])) _;refine S7 hd λy hy=>Wl (BA (show acc.length<100000 by omega) AB) ?_;refine Wi (cN ds (acc++[y]) (λz hz=>h z (AF _ hz)) (by rw[AH,AX];omega) λz hz=>?_) λes hes=>?_
  ·rcases Ap.mp hz with q|q
   ·exact ha z q
   ·rw[AR.mp q];exact hy
  ·rw[AH,AX]at hes;exact⟨by rw[hes.1,AI];omega,hes.2⟩
theorem HM {fg:D->Env->M Env} {ft:Env->M Bool} {fe:Env->M D} {ρ:Env} (t:D->Bool) (g:D->D):∀(ds acc:List D),(∀d,d∈ds->∃ρ',fg d ρ=pure ρ'∧ft ρ'=pure (t d)∧(t d=true->fe ρ'=pure (g d)))->ds.length+acc.length≤100000->
 EA fg ft fe ρ ds acc=pure (acc++(ds.filter t).map g)
 |[],acc,_,_=>by simp[EA]
 |d::ds,acc,h,hl=>by
  obtain⟨ρ',e1,e2,e3⟩:=h d AG;have hl2:ds.length+acc.length+1≤100000:=by rw[AI]at hl;omega
  have hr:∀z,z∈ds->∃ρ',fg z ρ=pure ρ'∧ft ρ'=pure (t z)∧(t z=true->fe ρ'=pure (g z)):=λz hz=>h z (AF _ hz);show(fg d ρ>>=fun ρ1=>ft ρ1>>=λt=>if t=true then fe ρ1>>=λy=>M.guard (decide (acc.length<sizeLine))>>=λ_=>EA fg ft fe ρ ds (acc++[y])else EA fg ft fe ρ ds acc)=_;rw[e1,Ft,e2,Ft];by_cases c:t d=true
  ·rw[An c,e3 c,Ft,Iu (BA (show acc.length<100000 by omega) AB),Ft,HM t g ds _ hr (by rw[AH,AX];omega),List.filter_cons_of_pos c];simp
  ·rw[Aq c,HM t g ds acc hr AA,List.filter_cons_of_neg c]
end
theorem FK {k:Nat} {m:Mu} {ds:List D} {d:D} {i:Int} {A:Type} {f:D->M A} (h:m[k]? =some (.lst ds)) (e:atI ds i=some d):(D.ix (.hnd k) (.int i)>>=f).run m=(f d).run m:=by
 show(((D.hnd k).now>>=λx=>D.ix1 x (.int i))>>=f).run m=_;rw[D5,Do];simp only[D.now,h];show((M.opt (atI ds i)>>=f)).run m=_;rw[e];rfl
theorem Kj {k j:Nat} {m:Mu} {ds:List D} {d:D} {i:Int} {A:Type} {f:Unit->M A} (h:m[k]? =some (.lst ds)) (e:ixN ds.length i=some j):(M.put k i d>>=f).run m=(f ()).run (m.set k (.lst (ds.set j d))):=by
 rw[Do];simp only[M.put,h,e];rfl
theorem RI {fi:Env->M (List D×Option Nat)} {fg:D->Env->M Env} {ft:Env->M Bool} {fe:Env->M D} {own:List Nat} {ρ:Env} {ds:List D} (t:D->Bool) (g:D->D) (hi:fi ρ=pure (ds,none))
 (h:∀d,d∈ds->∃ρ',fg d (DB ρ own)=pure ρ'∧ft ρ'=pure (t d)∧(t d=true->fe ρ'=pure (g d))) (hl:ds.length≤100000):Du fi fg ft fe own ρ=pure ((ds.filter t).map g):=by
 unfold Du;rw[hi,Dm];show(M.guard true>>=λ_=>M.noexc (EA fg ft fe (DB ρ own) ds []))=_;rw[Eb,Dm,HM t g ds [] h (by simpa using hl),Za];rfl
theorem HN {fi:Env->M (List D×Option Nat)} {fg:D->Env->M Env} {fe:Env->M D} {own:List Nat} {ρ:Env} {ds:List D} (g:D->D) (hi:fi ρ=pure (ds,none))
 (h:∀d,d∈ds->∃ρ',fg d (DB ρ own)=pure ρ'∧fe ρ'=pure (g d)) (hl:ds.length≤100000):Du fi fg DD fe own ρ=pure (ds.map g):=by
 rw[RI (λ_=>true) g hi (λd hd=>by
  obtain⟨ρ',e1,e2⟩:=h d hd;exact⟨ρ',e1,rfl,λ_=>e2⟩) hl,List.filter_eq_self.mpr (λ_ _=>rfl)]
theorem Pn (x:Str):D.iter (.str x)=pure (signs x,none):=(rfl)
theorem S8 (x:List D):D.iter (.lst x)=pure (x,none):=(rfl)
theorem Wm (x:List D):D.iter (.tup x)=pure (x,none):=(rfl)
theorem cO (n:Int) (h: -(2 ^ 62)≤n∧n<2 ^ 62):D.range1 [.int n]=pure (DL 0 n.toNat,none):=by
 show(M.guard (decide _)>>=λ_=>(pure (DL 0 n.toNat,none):M (List D×Option Nat)))=_;rw[Iu h];rfl
theorem RJ {lo:Int} {n:Nat} {d:D} (h:d∈DL lo n):∃i:Nat,i<n∧d= .int (lo+i):=by
 unfold DL at h;obtain⟨i,hi,e⟩:=AY.mp h;exact⟨i,Bb.mp hi,e.symm⟩
theorem Wn (lo:Int) (n:Nat):(DL lo n).length=n:=by simp[DL]
theorem N4 {A:Type} (p:A->Bool):∀xs:List A,D.bls (xs.map λx=> .bl (p x))=some (xs.map p)
 |[]=>rfl
 |x::xs=>by
  show(D.bls (xs.map λx=> .bl (p x))).map (p x::·)=_;rw[N4 p xs];rfl
theorem all_map {A:Type} (p:A->Bool) (xs:List A):D.all (.lst (xs.map λx=> .bl (p x)))=pure (.bl (xs.all p)):=by
 show M.opt ((D.bls (xs.map λx=> .bl (p x))).map λbs=>D.bl (bs.all id))=_;rw[N4];simp
theorem any_map {A:Type} (p:A->Bool) (xs:List A):D.any (.lst (xs.map λx=> .bl (p x)))=pure (.bl (xs.any p)):=by
 show M.opt ((D.bls (xs.map λx=> .bl (p x))).map λbs=>D.bl (bs.any id))=_;rw[N4];simp
theorem Jm {A:Type} (p:A->Str):∀xs:List A,D.texts (xs.map λx=> .str (p x))=some (xs.map p)
 |[]=>rfl
 |x::xs=>by
  show(D.texts (xs.map λx=> .str (p x))).map (p x::·)=_;rw[Jm p xs];rfl
theorem Mx (c:Nat) (z:Str):K4 ⟨#[c]⟩ z=decide (c∈z.cps.toList):=by
 have h:=PySem.StrLaws.found_one z c;unfold K4
 first|exact h|exact h.symm|(rw[h])
theorem Po (c:Nat) (z:Str):D.isIn (.str ⟨#[c]⟩) (.str z)=pure (.bl (decide (c∈z.cps.toList))):=by
 rw[←Mx];rfl
theorem Jn (x:Str) (lo hi:Option Int) (h:x.length≤sizeLine):D.slice (.str x) lo hi=pure (.str (cutS x lo hi)):=by
 show(M.guard (decide _)>>=λ_=>(pure (D.str (cutS x lo hi)):M D))=_;rw[Iu h];rfl
theorem Uo (x:List D) (lo hi:Option Int):D.slice (.tup x) lo hi=pure (.tup (cut x lo hi)):=(rfl)
theorem LL (a b:Str):D.startswith a (.str b)=pure (.bl (Txt.startswith a b)):=(rfl)
theorem eq_str (a b:Str):D.eq (.str a) (.str b)=pure (.bl (a==b)):=(rfl)
theorem ne_str (a b:Str):D.ne (.str a) (.str b)=pure (.bl (!(a==b))):=(rfl)
theorem HP (a b:Int):D.eq (.int a) (.int b)=pure (.bl (a==b)):=(rfl)
theorem Kk (a b:Int):D.ne (.int a) (.int b)=pure (.bl (!(a==b))):=(rfl)
theorem My (x:Str):x.length=x.cps.toList.length:=by
 show x.cps.size=_;simp
theorem MV (l:List Nat):(⟨l.toArray⟩:Str).cps.toList=l:=by simp
theorem Zg (y:Str) (h:y.length≤sizeLine):D.fmt (.str y)=pure (.str y):=by
 show(M.guard (decide _)>>=λ_=>(pure (D.str y):M D))=_;rw[Iu h];rfl
theorem Zh (i:Int) (h:i.natAbs.log2<1920):D.fmt (.int i)=pure (.str (toString i)):=by
 show(M.guard (decide _)>>=λ_=>(pure (D.str (toString i)):M D))=_;rw[Iu h];rfl
theorem LM (acc y:Str) (h:(acc++y).length≤sizeLine):D.onto acc (.str y)=pure (acc++y):=by
 show(M.guard (decide _)>>=λ_=>(pure (acc++y):M Str))=_;rw[Iu h];rfl
theorem EI (T:String) (d:D) (t:String) (b:Bool) (h0:d.now=pure d) (h1:d.kind=some t) (h2:kitB t T=some b):D.isT T d=pure (.bl b):=by
 unfold D.isT;rw[h0,Dm,h1];show M.opt ((kitB t T).map D.bl)=_;rw[h2];rfl
theorem ou:decide (([]:List D).length≤sizeLine)=true:=AK (by show 0≤16777216;decide)
theorem qR (a0:D):decide (([a0]:List D).length≤sizeLine)=true:=AK (by show 1≤16777216;decide)
theorem qS (a0 a1:D):decide (([a0,a1]:List D).length≤sizeLine)=true:=AK (by show 2≤16777216;decide)
theorem qT (a0 a1 a2:D):decide (([a0,a1,a2]:List D).length≤sizeLine)=true:=AK (by show 3≤16777216;decide)
theorem qU (a0 a1 a2 a3:D):decide (([a0,a1,a2,a3]:List D).length≤sizeLine)=true:=AK (by show 4≤16777216;decide)
theorem qV (a0 a1 a2 a3 a4:D):decide (([a0,a1,a2,a3,a4]:List D).length≤sizeLine)=true:=AK (by show 5≤16777216;decide)
theorem qW (a0 a1 a2 a3 a4 a5:D):decide (([a0,a1,a2,a3,a4,a5]:List D).length≤sizeLine)=true:=AK (by show 6≤16777216;decide)
theorem rX (a0 a1 a2 a3 a4 a5 a6:D):decide (([a0,a1,a2,a3,a4,a5,a6]:List D).length≤sizeLine)=true:=AK (by show 7≤16777216;decide)
theorem rY (a0 a1 a2 a3 a4 a5 a6 a7:D):decide (([a0,a1,a2,a3,a4,a5,a6,a7]:List D).length≤sizeLine)=true:=AK (by show 8≤16777216;decide)
theorem rZ (a0 a1 a2 a3 a4 a5 a6 a7 a8:D):decide (([a0,a1,a2,a3,a4,a5,a6,a7,a8]:List D).length≤sizeLine)=true:=AK (by show 9≤16777216;decide)
theorem oy (a0 a1 a2 a3 a4 a5 a6 a7 a8 a9:D):decide (([a0,a1,a2,a3,a4,a5,a6,a7,a8,a9]:List D).length≤sizeLine)=true:=AK (by show 10≤16777216;decide)
theorem oz (a0 a1 a2 a3 a4 a5 a6 a7 a8 a9 a10:D):decide (([a0,a1,a2,a3,a4,a5,a6,a7,a8,a9,a10]:List D).length≤sizeLine)=true:=AK (by show 11≤16777216;decide)
theorem pA (a0 a1 a2 a3 a4 a5 a6 a7 a8 a9 a10 a11:D):decide (([a0,a1,a2,a3,a4,a5,a6,a7,a8,a9,a10,a11]:List D).length≤sizeLine)=true:=AK (by show 12≤16777216;decide)
theorem pB (a0 a1 a2 a3 a4 a5 a6 a7 a8 a9 a10 a11 a12:D):decide (([a0,a1,a2,a3,a4,a5,a6,a7,a8,a9,a10,a11,a12]:List D).length≤sizeLine)=true:=AK (by show 13≤16777216;decide)
theorem pC (a0 a1 a2 a3 a4 a5 a6 a7 a8 a9 a10 a11 a12 a13:D):decide (([a0,a1,a2,a3,a4,a5,a6,a7,a8,a9,a10,a11,a12,a13]:List D).length≤sizeLine)=true:=AK (by show 14≤16777216;decide)
theorem pD (a0 a1 a2 a3 a4 a5 a6 a7 a8 a9 a10 a11 a12 a13 a14:D):decide (([a0,a1,a2,a3,a4,a5,a6,a7,a8,a9,a10,a11,a12,a13,a14]:List D).length≤sizeLine)=true:=AK (by show 15≤16777216;decide)
theorem pE (a0 a1 a2 a3 a4 a5 a6 a7 a8 a9 a10 a11 a12 a13 a14 a15:D):decide (([a0,a1,a2,a3,a4,a5,a6,a7,a8,a9,a10,a11,a12,a13,a14,a15]:List D).length≤sizeLine)=true:=AK (by show 16≤16777216;decide)
theorem qX:decide (([]:List D).length=0)=true:=(rfl)
theorem qY (a0:D):decide (([a0]:List D).length=1)=true:=(rfl)
theorem n7 (a0 a1:D):decide (([a0,a1]:List D).length=2)=true:=(rfl)
theorem qZ (a0 a1 a2:D):decide (([a0,a1,a2]:List D).length=3)=true:=(rfl)
theorem qd (a0 a1 a2 a3:D):decide (([a0,a1,a2,a3]:List D).length=4)=true:=(rfl)
theorem qe (a0 a1 a2 a3 a4:D):decide (([a0,a1,a2,a3,a4]:List D).length=5)=true:=(rfl)
theorem rf (a0 a1 a2 a3 a4 a5:D):decide (([a0,a1,a2,a3,a4,a5]:List D).length=6)=true:=(rfl)
theorem rg (a0 a1 a2 a3 a4 a5 a6:D):decide (([a0,a1,a2,a3,a4,a5,a6]:List D).length=7)=true:=(rfl)
theorem rj (a0 a1 a2 a3 a4 a5 a6 a7:D):decide (([a0,a1,a2,a3,a4,a5,a6,a7]:List D).length=8)=true:=(rfl)
theorem Uq:M.guard ((none:Option Nat)==none)=pure ():=(rfl)
theorem FL (ρ:Env) (i:Nat):DB ρ [i]=ρ.set i none:=(rfl)
end Mir
namespace PySem.W
open PySem PySem.Spec PySem.Calls PyProof.Rows
section
variable {prog:Program} {w:World} {A:Around} {E:Value->Shared->Prop} {s:Shared}
theorem Pp {v:Value} {items:Array Value} {n i:Nat} {Q:List Value->Shared->Prop} {I ax:Addr} {T:String} {St:Nat->Heap->Prop} {hI:Heap}
 (no:∀R:Bool->Shared->Prop,R false s->wpAny (model prog w) A (notIterableAtAll v) R E s) (it:∀R:Value->Shared->Prop,R (.ref I) {s with heap:=hI}->wpAny (model prog w) A (pyIter v) R E s)
 (dr:∀R:List Value->Shared->Prop,(∀g:Heap,St i g->I<g.objs.size->ax<g.objs.size->(∀b o,s.heap.get? b=some o->b≠I∧g.get? b=some o)->R (items.toList.take i) {s with heap:=g})->wpAny (model prog w) A (draw (.ref I) i) R E {s with heap:=hI})
 (hTm:T="str_ascii_iterator"∨T="str_iterator"∨T="list_iterator"∨T="tuple_iterator") (Wk:Walks prog w A.in1 I [I,ax] [I] items.size (λj u=>items[j]? =some u) St)
 (hT:∀j (u:Shared),St j u.heap->u.TypeIs (.ref I) T) (lo:i<n) (up:n≤items.size+1) (fits:items.size≤sizeLine)
 (done:∀(hp:Heap) tk,(∀b o,s.heap.get? b=some o->hp.get? b=some o)->Q (items.toList.take i++[.ref hp.objs.size]++(items.toList.drop i).drop (items.size+1 - n)) {s with heap:=hp.push {cls:= .type "list",data:= .seq ((items.toList.drop i).take (items.size+1 - n)).toArray},toks:=tk}):
 wpAny (model prog w) A (unpackItems v n (some i)) Q E s:=by
 have l1:(items.toList.take i).length=i:=by
  rw[CW,AU];omega
 have l2:(items.toList.drop i).length=items.size - i:=by
  rw[Ba,AU]
 have l3:(items.toList.drop i).length - (n - 1 - i)=items.size+1 - n:=by
  rw[l2];omega
 unfold unpackItems;refine wpAny_bind (no _ ?_);rw[Aq AB];refine wpAny_bind (wpAny_holding (it _ ?_));dsimp only;refine wpAny_bind (wpAny_holding (dr _ λg st gI gx kp=>?_));rw[Aq (show ¬((items.toList.take i).length<i)from λz=>by omega)];refine wpAny_bind (wpAny_holding (kun_collect (T:=T) hTm Wk hT (k:=i) AA st gI gx (λhp tk hk=>?_) fits));show wpAny (model prog w) A (if(items.toList.drop i).length<n - 1 - i then _ else _) Q E _;rw[Aq (show ¬((items.toList.drop i).length<n - 1 - i)from λz=>by omega)];show wpAny (model prog w) A (newList ((items.toList.drop i).take ((items.toList.drop i).length - (n - 1 - i)))>>=λz=>pure (items.toList.take i++[z]++(items.toList.drop i).drop ((items.toList.drop i).length - (n - 1 - i)))) Q E _;rw[l3];refine wpAny_bind (wpAny_newList (wpAny_pure ?_) (by rw[CW,l2];omega));exact done hp tk λb o e=>hk b o (kp b o e).1 (kp b o e).2
theorem star_T {y:Addr} {items:Array Value} {n i:Nat} {Q:List Value->Shared->Prop} (ht:IsTup s.heap y items) (cold:A.handled=none) (lo:i<n) (up:n≤items.size+1) (fits:items.size≤sizeLine)
 (done:∀(hp:Heap) tk,(∀b o,s.heap.get? b=some o->hp.get? b=some o)->Q (items.toList.take i++[.ref hp.objs.size]++(items.toList.drop i).drop (items.size+1 - n)) {s with heap:=hp.push {cls:= .type "list",data:= .seq ((items.toList.drop i).take (items.size+1 - n)).toArray},toks:=tk}):
 wpAny (model prog w) A (unpackItems (.ref y) n (some i)) Q E s:=by
 have ne:y≠s.heap.objs.size:=by
  obtain⟨o,e,_⟩:=ht;exact A1 (Heap.lt_size e)
 refine Pp (T:="tuple_iterator") (I:=s.heap.objs.size) (ax:=y) (λR hR=>wpAny_bind (wpAny_specialOf ht.typeIs slot_tuple_iter.lookup (wpAny_pure hR))) (λR hR=>iter_tuple ht hR) (λR hR=>?_)
  (.inr (.inr (.inr rfl))) (Walks.tuple (A:=A.in1) cold s.heap.objs.size y ne items) (λj u st=>st.1.typeIs) lo up fits done
 refine draw_tuple ne i 0 _ _ ⟨_,Heap.get?_push_size _ rfl,rfl,rfl⟩ (ht.push _) AA λg ig sg=>?_;rw[CL]at ig;have tg:IsTup g y items:=(ht.push _).extBut sg.extBut ne;refine hR g ⟨ig,tg⟩ ?_ ?_ λb o e=>⟨A1 (Heap.lt_size e),sg.extBut b o (A1 (Heap.lt_size e)) (Heap.get?_push_of_some _ e)⟩
 ·obtain⟨o,e,_⟩:=ig;exact Heap.lt_size e
 ·obtain⟨o,e,_⟩:=tg;exact Heap.lt_size e
theorem star_L {y:Addr} {items:Array Value} {n i:Nat} {Q:List Value->Shared->Prop} (ht:s.heap.IsList y items) (cold:A.handled=none) (lo:i<n) (up:n≤items.size+1) (fits:items.size≤sizeLine)
 (done:∀(hp:Heap) tk,(∀b o,s.heap.get? b=some o->hp.get? b=some o)->Q (items.toList.take i++[.ref hp.objs.size]++(items.toList.drop i).drop (items.size+1 - n)) {s with heap:=hp.push {cls:= .type "list",data:= .seq ((items.toList.drop i).take (items.size+1 - n)).toArray},toks:=tk}):
 wpAny (model prog w) A (unpackItems (.ref y) n (some i)) Q E s:=by
 have ne:y≠s.heap.objs.size:=by
  obtain⟨o,e,_⟩:=ht;exact A1 (Heap.lt_size e)
 refine Pp (T:="list_iterator") (I:=s.heap.objs.size) (ax:=y) (λR hR=>wpAny_bind (wpAny_specialOf ht.typeIs slot_list_iter.lookup (wpAny_pure hR))) (λR hR=>wpAny_pyIter_list ht hR) (λR hR=>?_)
  (.inr (.inr (.inl rfl))) (Walks.list (A:=A.in1) cold s.heap.objs.size y ne items) (λj u st=>st.1.typeIs) lo up fits done
 refine kun_draw ne i 0 _ _ ⟨_,Heap.get?_push_size _ rfl,rfl,rfl⟩ (ht.push _) AA λg ig sg=>?_;rw[CL]at ig;have tg:g.IsList y items:=(ht.push _).extBut sg.extBut ne;refine hR g ⟨ig,tg⟩ ?_ ?_ λb o e=>⟨A1 (Heap.lt_size e),sg.extBut b o (A1 (Heap.lt_size e)) (Heap.get?_push_of_some _ e)⟩
 ·obtain⟨o,e,_⟩:=ig;exact Heap.lt_size e
 ·obtain⟨o,e,_⟩:=tg;exact Heap.lt_size e
end
end PySem.W
namespace L2
open PySem PySem.Spec PyProof.Rows HT
def cP (K:PySem.W.Frag) (i n:Nat) (t:TGs):TG:=λv σ H Q=>∃a xs,v= .ref a∧(SqT K H a xs∨SqL K H a xs)∧i<n∧n≤xs.length+1∧
 ∀p,H p=none->t (xs.take i++[V.ref p]++(xs.drop i).drop (xs.length+1 - n)) σ (upd H p (.lst ((xs.drop i).take (xs.length+1 - n)))) Q
section
variable {X:Cx} {pos:Pos}
theorem Mz {xs:List V} {us:List Value} (r:Vals xs us):∀i,Vals (xs.take i) (us.take i):=by
 induction r with
 |nil=>intro i;cases i<;>exact .nil
 |cons h t ih=>intro i;cases i with
  |zero=>exact .nil
  |succ i=>exact .cons h (ih i)
theorem Jo {xs:List V} {us:List Value} (r:Vals xs us):∀i,Vals (xs.drop i) (us.drop i):=by
 induction r with
 |nil=>intro i;cases i<;>exact .nil
 |cons h t ih=>intro i;cases i with
  |zero=>exact .cons h t
  |succ i=>exact ih i
theorem Pq {xs ys:List V} {us vs:List Value} (r:Vals xs us) (r' :Vals ys vs):Vals (xs++ys) (us++vs):=by
 induction r with
 |nil=>exact r'
 |cons h t ih=>exact .cons h ih
theorem Zi {es:List Expr} {k:Nat} {t:TGs} {i n:Nat} (hc:X.calm=true) (h:PGs X es t)
 (hn:(assignEach es X.env).length=n:=by rfl) (hst:(assignEach es X.env).findIdx? (·.1)=some i:=by rfl):PG X (.Tuple es k pos) (cP X.K i n t):=by
 refine⟨λpins s σ H v u Q I r hw=>?_⟩;obtain⟨a,xs,e1,hq,hi,hl,hw⟩:=hw;subst e1
 cases r
 have core:∀its:List Value,Vals xs its->xs.length≤sizeLine->∀(hp:Heap) (tk:Nat),(∀b o,s.heap.get? b=some o->hp.get? b=some o)->
  wpAny (model X.prog X.w) X.A (assignInOrder ((assignEach es X.env).map (·.2)) (its.toArray.toList.take i++[.ref hp.objs.size]++(its.toArray.toList.drop i).drop (its.toArray.size+1 - n))) (λ_ s'=>∃σ' H',Inv X pins σ' H' s'∧Q σ' H') X.xe
   {s with heap:=hp.push {cls:= .type "list",data:= .seq ((its.toArray.toList.drop i).take (its.toArray.size+1 - n)).toArray},toks:=tk}:=λits rv hz hp tk hk=>by
  have I1:Inv X pins σ H {s with heap:=hp,toks:=tk}:=I.kept (t' :=tk) hk;have hf:H hp.objs.size=none:=I1.hok.fresh (Ai _);have es1:its.toArray.size=xs.length:=by rw[A7,rv.length]
  rw[es1,List.toList_toArray];have rm:Vals ((xs.drop i).take (xs.length+1 - n)) ((its.drop i).take (xs.length+1 - n)):=Mz (Jo rv i) _;have I2:Inv X pins σ (upd H hp.objs.size (.lst ((xs.drop i).take (xs.length+1 - n)))) {s with heap:=hp.push {cls:= .type "list",data:= .seq ((its.drop i).take (xs.length+1 - n)).toArray},toks:=tk}:=
   I1.laid (t' :=tk) (λb u e=>Heap.get?_push_of_some _ e) (Ai _) ⟨by rw[CW,Ba];omega,_,0,rm,Heap.get?_push_size _ rfl⟩
  exact h.run pins _ σ _ _ _ Q I2 (Pq (Pq (Mz rv i) (.cons (show RelV (V.ref hp.objs.size) (Value.ref hp.objs.size)from rfl) .nil)) (Jo (Jo rv i) _)) (hw _ hf)
 rw[PyProof.Rows.assign_Tuple];refine wpAny_bind (wpAny_standAt ?_);unfold unpack;rw[hn,hst];rcases hq with hq|hq
 ·obtain⟨its,rv,ht,hz⟩:=I.tuple hq;have hls:=rv.length;exact wpAny_bind (wpAny_holding (PySem.W.star_T ht (I.ok.hd hc) hi (by rw[A7];omega) (by rw[A7];omega) λhp tk hk=>core its rv hz hp tk hk))
 ·obtain⟨its,rv,pl,hz⟩:=I.list hq;have hls:=rv.length;exact wpAny_bind (wpAny_holding (PySem.W.star_L pl.isList (I.ok.hd hc) hi (by rw[A7];omega) (by rw[A7];omega) λhp tk hk=>core its rv hz hp tk hk))
end
end L2
namespace Mir
open PySem L2
open PyProof.Rows (envOfC)
section
variable {F:Nm} {X:Cx} {E:XK} {pos:Pos} {a b e:Expr} {es:List Expr} {fa fb:Env->M D} {fs:Env->M (List D)}
def Ew (i n:Nat) (ds:List D):List D:=ds.take i++[.lst ((ds.drop i).take (ds.length+1 - n))]++(ds.drop i).drop (ds.length+1 - n)
def D.unstar (i n:Nat) (x:D):M (List D):=x.now>>=λx=>match x with
 | .tup ds=>M.guard (decide (i<n∧n≤ds.length+1))>>=λ_=>pure (Ew i n ds)
 | .lst ds=>M.guard (decide (i<n∧n≤ds.length+1))>>=λ_=>pure (Ew i n ds)
 | .frz ds=>M.guard (decide (i<n∧n≤ds.length+1))>>=λ_=>pure (Ew i n ds)
 |_=>M.bad
theorem N5 {i n:Nat} {is:List Nat} {gs:TGs} {fs:List D->Env->M Env} (q:lr X.K F E is gs fs) {ds:List D} {vs:List V} {pp:Addr} {ρ:Env} {m:Mu} {W:Wd} {σ:L2.St} {H:Hp} (s:Sl X.K F W ρ σ) (k:Ok X.K F W m H) (r:Rps X.K F W vs ds)
 (hs:SqT X.K H pp vs∨SqL X.K H pp vs) (Q:L2.St->Hp->Prop) (h:PoR X.K F (((M.guard (decide (i<n∧n≤ds.length+1))>>=λ_=>(pure (Ew i n ds):M (List D)))>>=λds=>fs ds ρ).run m) W H (λW' H' _ ρ'=>∀σ',Sl X.K F W' ρ' σ'->Out is σ σ'->Q σ' H') E):
 cP X.K i n gs (.ref pp) σ H Q:=by
 rw[D5]at h;obtain⟨g,h⟩:=gd (A:=Env) h;obtain⟨g1,g2⟩:=AN g;have hl:=r.length;refine⟨pp,vs,rfl,hs,g1,by rw[hl];exact g2,λp hp=>?_⟩;have rm:Rps X.K F W ((vs.drop i).take (ds.length+1 - n)) ((ds.drop i).take (ds.length+1 - n)):=(r.drop i).take _;rw[hl];generalize hmv:(vs.drop i).take (ds.length+1 - n)=mv at rm;have x:Ext W H (W.new p (.lst mv)) (upd H p (.lst mv)):=Ext.new k hp;have k2:=k.new (o:= .lst mv) hp;have r2:Rps X.K F (W.new p (.lst mv)) (vs.take i++[V.ref p]++(vs.drop i).drop (ds.length+1 - n)) (Ew i n ds):=
  (((r.take i).mono x).append (.cons (EJ k hp rm) .nil)).append (((r.drop i).drop _).mono x)
 exact q _ ρ m _ σ _ _ (s.mono x) k2 r2 Q ((PoR.bind0 (f:=fun ρ'=>(pure ρ' :M Env)) (by rw[Dy];exact h) x).imp λW1 H1 m1 ρ1 e1 x1 k1 h1 σ1 s1 o1=>by
  exact h1 W1 H1 (x.trans x1) k1 σ1 s1 o1)
theorem Wo {is:List Nat} {kk i n:Nat} {fs:List D->Env->M Env} (hc:X.calm=true) (h:PDgs F X E es is fs) (hn:(assignEach es X.env).length=n:=by rfl) (hst:(assignEach es X.env).findIdx? (·.1)=some i:=by rfl):
 PDg F X E (.Tuple es kk pos) is (λd ρ=>D.unstar i n d>>=λds=>fs ds ρ):=by
 obtain⟨g,p,q⟩:=h;refine⟨_,Zi hc p hn hst,λd ρ m W σ H v s k r Q h=>?_⟩;have h:PoR X.K F ((d.now>>=λx=>(match x with
  | .tup ds=>M.guard (decide (i<n∧n≤ds.length+1))>>=λ_=>pure (Ew i n ds)
  | .lst ds=>M.guard (decide (i<n∧n≤ds.length+1))>>=λ_=>pure (Ew i n ds)
  | .frz ds=>M.guard (decide (i<n∧n≤ds.length+1))>>=λ_=>pure (Ew i n ds)
  |_=>M.bad)>>=λds=>fs ds ρ).run m) W H (λW' H' _ ρ'=>∀σ',Sl X.K F W' ρ' σ'->Out is σ σ'->Q σ' H') E:=by
  unfold D.unstar at h;dsimp only at h;rw[D5]at h;exact h
 obtain⟨d,rx,h⟩:=Df k r h
 cases d with
 |lst ds=>
  obtain⟨pp,vs,rfl,h1,r1⟩:=rx;exact N5 q s k r1 (.inr (.inl (.inl h1))) Q h
 |frz ds=>
  cases rx with
  |@frz pp vs _ h1 r1=>exact N5 q s k r1 (.inr (SU k.gh h1)) Q h
 |tup ds=>
  cases rx with
  |@tup pp vs _ h1 r1=>exact N5 q s k r1 (.inl (MQ k.gh h1)) Q h
 |_=>exact h.elim
theorem MW {p2:Pos} {is:List Nat} {f:D->Env->M Env} {fs:List D->Env->M Env} (h1:PDg F X E e is f) (h2:PDgs F X E es is fs)
 (hs:(assignEach (.Starred e p2::es) X.env).map (·.2)=assign e X.env::(assignEach es X.env).map (·.2):=by rfl):PDgs F X E (.Starred e p2::es) is (λds ρ=>match ds with
  |d::ds=>f d ρ>>=fun ρ=>fs ds ρ
  |_=>M.bad):=by
 obtain⟨g,p,q⟩:=h1;obtain⟨gs,ps,qs⟩:=h2;refine⟨gCons g gs,⟨λpins s σ H vs us Q I r h=>?_⟩,λds ρ m W σ H vs s k r Q h=>?_⟩
 ·obtain⟨v,vr,e1,h⟩:=h;subst e1
  cases r with
  |cons r rr=>
   rw[hs];refine PyProof.Rows.assignInOrder_cons (thn (p.run pins s σ H _ _ _ I r h) λ_ s1 ⟨σ1,H1,I1,q1⟩=>?_);exact ps.run pins s1 σ1 H1 _ _ Q I1 rr q1
 ·cases r with
  |nil=>exact h.elim
  |@cons v vs d ds r1 r2=>
   refine⟨v,vs,rfl,q d ρ m W σ H v s k r1 _ ((PoR.bind h).imp λW1 H1 m1 ρ1 e1 x1 k1 h1 σ1 s1 o1=>?_)⟩;exact qs ds ρ1 m1 W1 σ1 H1 vs s1 k1 (r2.mono x1) Q (h1.imp λW2 H2 m2 ρ2 e2 x2 k2 h2 σ2 s2 o2=>h2 σ2 s2 (Mm o1 o2))
def M.pop (k:Nat) (i:Int):M D:=⟨λm=>match m[k]? with
 |some (.lst ds)=>if -(2 ^ 63)≤i∧i<2 ^ 63 then(match seqIndex? i ds.length with
  |some j=>(match ds[j]? with
   |some d=> .ok d (m.set k (.lst (ds.eraseIdx j)))
   |none=> .bad)
  |none=> .bad)else .bad
 |_=> .bad⟩
theorem Rps.eraseIdx {K:PySem.W.Frag} {W:Wd}:∀{vs:List V} {ds:List D} (n:Nat),Rps K F W vs ds->Rps K F W (vs.eraseIdx n) (ds.eraseIdx n)
 |_,_,_,.nil=> .nil
 |_,_,0,.cons _ r=>r
 |_,_,n+1,.cons q r=> .cons q (Rps.eraseIdx n r)
def Wp (fa fb:Env->M D):Env->M D:=fun ρ=>fa ρ>>=λx=>D.ref x>>=λk=>M.isL k>>=λ_=>fb ρ>>=λy=>D.part y>>=λo=>match o with
 |some i=>M.pop k i
 |none=>M.bad
theorem mG {apos:Pos} (ha:PD F X E a fa) (hb:PD F X E b fb) (hbase:attributeBase a "pop" X.env (eval a X.env)=eval a X.env:=by rfl)
 (hfew:((backTo pos (starEach (b::[]) X.env)).all (λx=> !x.1) && (backToKw pos (keywordEach [] X.env)).all (λx=>x.1.isSome)
  && decide ((b::[]).length+([]:List Keyword).length+(if([]:List Keyword).isEmpty then 0 else 1)<30))=true:=by rfl)
 (hline:(apos.endLine==pos.line)=true:=by rfl) (hs:starEach (b::[]) X.env=(false,eval b X.env)::starEach [] X.env:=by rfl) (hplain:(backTo pos (starEach [] X.env)).any (·.1)=false:=by rfl):
 PD F X E (.Call (.Attribute a "pop" apos) [b] [] pos) (Wp fa fb):=by
 obtain⟨t,p,q⟩:=ha;obtain⟨t',p',q'⟩:=hb;refine⟨_,pe_bm PySem.F.plainAttrs_list PySem.F.slot_list_pop PySem.F.type_list_pop mt_popAt p (pa_cons p' pa_nil hs) hbase hfew hline hs hplain,fun ρ m W σ H s k Q h=>?_⟩;unfold Wp at h;refine q ρ m W σ H s k _ ((PoR.bind h).imp λW1 H1 m1 d e1 x1 k1 h1 v r1=>?_)
 cases r1 with
 |@hnd pp i hp=>
  obtain⟨⟨ds,hd⟩,h1⟩:=WI h1;obtain⟨vs,hH,rv⟩:=k1.ob i pp _ hp hd;refine⟨.inl ⟨rfl,vs,.inl (.inl hH)⟩,q' ρ m1 W1 σ H1 (s.mono x1) k1 _ ((PoR.bind h1).imp λW2 H2 m2 d2 e2 x2 k2 h2 v2 r2=>?_)⟩;have hp2:W2.al[i]? =some pp:=by
   obtain⟨r,q⟩:=x2.al;rw[q,AV (AS.mp hp).1];exact hp
  cases r2 with
  |int j=>
   have h2:DP X.K F ((M.pop i j).run m2) W2 H2 Q E:=h2
   cases e3:m2[i]? with
   |none=>simp only[M.pop,e3]at h2;exact h2.elim
   |some o=>
    cases o with
    |lst es=>
     simp only[M.pop,e3]at h2;obtain⟨us,h3,r3⟩:=k2.ob i pp _ hp2 e3;by_cases hj: -(2 ^ 63)≤j∧j<2 ^ 63
     ·simp only[An hj]at h2
      cases e4:seqIndex? j es.length with
      |none=>simp only[e4]at h2;exact h2.elim
      |some n=>
       simp only[e4]at h2
       cases e5:es[n]? with
       |none=>simp only[e5]at h2;exact h2.elim
       |some d=>
        simp only[e5]at h2;obtain⟨u,hu,ru⟩:=r3.get e5;have ob:ObR X.K F W2 (upd H2 pp (.lst (us.eraseIdx n))) pp (.lst (es.eraseIdx n)):=⟨_,upd_same,r3.eraseIdx n⟩;exact⟨pp,us,j,n,u,rfl,rfl,h3,hj.1,hj.2,by rw[r3.length];exact e4,hu,h2 W2 _ (Ext.write hp2) (k2.write hp2 ob) _ ru⟩
     ·simp only[Aq hj]at h2;exact h2.elim
    |dic kvs=>simp only[M.pop,e3]at h2;exact h2.elim
    |fdc kvs=>simp only[M.pop,e3]at h2;exact h2.elim
    |ins _ _=>simp only[M.pop,e3]at h2;exact h2.elim
    |dtp _=>simp only[M.pop,e3]at h2;exact h2.elim
    |dead=>simp only[M.pop,e3]at h2;exact h2.elim
  |_=>exact h2.elim
 |_=>exact h1.elim
def M.grow (k:Nat) (es:List D):M Unit:=⟨λm=>match m[k]? with
 |some (.lst ds)=>if ds.length+es.length≤sizeLine then .ok () (m.set k (.lst (ds++es)))else .bad
 |_=> .bad⟩
def D.items:D->M (List D)
 | .lst ds=>pure ds
 |_=>M.bad
def pF (fa fb:Env->M D):Env->M D:=fun ρ=>fa ρ>>=λx=>D.ref x>>=λk=>M.isL k>>=λ_=>fb ρ>>=λy=>D.now y>>=λy=>D.items y>>=λes=>M.grow k es>>=λ_=>pure .non
end
end Mir
namespace Mir
open PySem L2
open PyProof.Rows (envOfC)
section
variable {F:Nm} {X:Cx} {E:XK} {pos:Pos} {a b e:Expr} {es:List Expr} {fa fb:Env->M D} {fs:Env->M (List D)}
open Classical in
def M.st (o:Option Nat) (ds:List D):M Unit:=⟨λm=>if Ml o ds m then .ok () m else .bad⟩
theorem cQ {A:Type} {K:PySem.W.Frag} {W:Wd} {H:Hp} {m:Mu} {o:Option Nat} {ds:List D} {fx:M A} {Q:Wd->Hp->Mu->A->Prop} (h:PoR K F ((M.st o ds>>=λ_=>fx).run m) W H Q E):Ml o ds m∧PoR K F (fx.run m) W H Q E:=by
 rw[Do]at h;by_cases c:Ml o ds m
 ·simp only[M.st,An c]at h;exact⟨c,h⟩
 ·simp only[M.st,Aq c]at h;exact h.elim
def Iy (o:Option Nat) (al:List D) (fg:D->Env->M Env) (fb:Env->M Fl):List D->Env->M Fl
 |[],ρ=>M.st o al>>=λ_=>pure (.nx ρ)
 |d::ds,ρ=>M.st o al>>=λ_=>fg d ρ>>=fun ρ=>fb ρ>>=λfl=>match fl with
  | .nx ρ=>Iy o al fg fb ds ρ
  | .ct ρ=>Iy o al fg fb ds ρ
  | .bk ρ=>pure (.nx ρ)
  | .rt d=>pure (.rt d)
def Iz (fi:Env->M (List D×Option Nat)) (fg:D->Env->M Env) (fb:Env->M Fl):Env->M Fl:=fun ρ=>fi ρ>>=λp=>Iy p.2 p.1 fg fb p.1 ρ
variable {tg iter:Expr} {is:List Nat} {fi:Env->M (List D×Option Nat)} {fg:D->Env->M Env} {f:Env->M Fl}
theorem fP {body:List Stmt} (hi:PDi F X E tg iter fi) (hg:PDg F X E tg is fg) (hb:PDss F X E body f) (hp:PassesOwn (model X.prog X.w) X.A X.env X.xe:=by exact PassesOwn.never) (hc:X.calm=true:=by rfl) (hs:∀x,foldedSetIterable iter X.env x=pure x:=by intro _;rfl):
 PDs F X E (.For tg iter body [] pos) (Iz fi fg f):=by
 obtain⟨wi,pi,qi⟩:=hi;obtain⟨gg,pg,qg⟩:=hg;obtain⟨tb,pb,qb⟩:=hb;refine⟨_,ps_for hp hc pi pg pb hs,fun ρ m W σ H s k N h=>?_⟩;unfold Iz at h;refine qi ρ m W σ H s k _ ((PoR.bind0 h (Ext.refl W H)).imp λW1 H1 m1 pr e1 x1 k1 h1 J hJ=>?_);obtain⟨ds,o⟩:=pr;refine⟨λi mm σ2 H2=>mm=ds.length - i∧i≤ds.length∧∃W2 m2 ρ2,Ext W1 H1 W2 H2∧Ok X.K F W2 m2 H2∧Sl X.K F W2 ρ2 σ2∧E8 X.K F ((Iy o ds fg f (ds.drop i) ρ2).run m2) W H N E,⟨ds.length,rfl,BM _,W1,m1,ρ,Ext.refl _ _,k1,s.mono x1,h1⟩,?_⟩;rintro i mm σ2 H2 ⟨rfl,hi2,W2,m2,ρ2,x2,k2,s2,h2⟩;have xx:Ext W H W2 H2:=x1.trans x2;by_cases hlt:i<ds.length
 ·have ed:ds.drop i=ds[i]::ds.drop (i+1):=BK hlt;rw[ed]at h2;obtain⟨st,h2⟩:=cQ h2;obtain⟨items,stop⟩:=hJ W2 m2 H2 x2.wx k2 st;obtain⟨go,yl⟩:=items i ds[i] (Aj hlt);refine .inr ⟨go,fun σ' H'=>∃m',m'<ds.length - i∧(m'=ds.length - (i+1)∧i+1≤ds.length∧∃W2 m2 ρ2,Ext W1 H1 W2 H'∧Ok X.K F W2 m2 H'∧Sl X.K F W2 ρ2 σ'∧E8 X.K F ((Iy o ds fg f (ds.drop (i+1)) ρ2).run m2) W H N E),λ_ _ z=>z,λx H3 hy=>?_⟩;obtain⟨W3,x3,k3,r3⟩:=yl x H3 hy;have xt:Ext W H W3 H3:=xx.trans x3;refine qg ds[i] ρ2 m2 W3 σ2 H3 x (s2.mono x3) k3 r3 _ ((PoR.bind0 h2 xt).imp λW4 H4 m4 ρ4 e4 x4 k4 h4 σ4 s4 o4=>?_);refine qb ρ4 m4 W4 σ4 H4 s4 k4 _ ((PoR.bind0 h4 (xt.trans x4)).imp λW5 H5 m5 fl e5 x5 k5 h5=>?_);have xe:=(xt.trans x4).trans x5;have x15:=x2.trans (x3.trans (x4.trans x5))
  cases fl with
  |nx ρ5=>exact fun σ5 s5=>⟨ds.length - (i+1),AA,rfl,hlt,W5,m5,ρ5,x15,k5,s5,h5⟩
  |ct ρ5=>exact fun σ5 s5=>⟨ds.length - (i+1),AA,rfl,hlt,W5,m5,ρ5,x15,k5,s5,h5⟩
  |bk ρ5=>exact fun σ5 s5=>h5 W5 H5 xe k5 σ5 s5
  |rt d=>exact λv r=>h5 W5 H5 xe k5 v r
 ·have e:i=ds.length:=by omega
  subst e;rw[Bh]at h2;obtain⟨st,h2⟩:=cQ h2;obtain⟨items,stop⟩:=hJ W2 m2 H2 x2.wx k2 st;exact .inl ⟨stop,h2 W2 H2 xx k2 σ2 s2⟩
end
section
variable {F:Nm} {X:Cx} {E:XK} {pos p:Pos} {e:Expr} {es:List Expr} {fs fk:Env->M (List D)} {fa:Env->M D} {x:Str} {j k n:Nat} {gg:List D->M D} {kws:List Keyword} {ks:List Str} {nm:Option Str} {kpos:Pos}
structure PDk (F:Nm) (X:Cx) (E:XK) (kws:List Keyword) (f:Env->M (List D)):Prop where
 ex:∃t,PK X kws t∧Yo X.K F E t f
theorem D4:PDk F X E [] Ci:=⟨_,pk_nil,(Cy (F:=F) (X:=X) (E:=E)).ex.elim λt h=>fun ρ m W σ H s k Q h=>PoR.pure k h _ .nil⟩
theorem DZ (ha:PD F X E e fa) (hr:PDk F X E kws fs):PDk F X E (⟨nm,e,kpos⟩::kws) (aC fa fs):=by
 obtain⟨t,p,q⟩:=ha;obtain⟨tr,pr,qr⟩:=hr;refine⟨_,pk_cons p pr,fun ρ m W σ H s k Q h=>?_⟩;unfold aC at h;refine q ρ m W σ H s k _ ((PoR.bind h).imp λW1 H1 m1 d e1 x1 k1 h1 v r1=>?_);refine qr ρ m1 W1 σ H1 (s.mono x1) k1 _ ((PoR.bind h1).imp λW2 H2 m2 ds e2 x2 k2 h2 vs r2=>?_);exact PoR.pure k2 h2 _ (.cons (r1.mono x2) r2)
structure FnK (P:Program) (w:World) (K:PySem.W.Frag) (mg:Str->Option Value) (base:Heap) (F:Nm) (k:Nat) (x:Str) (npos:Nat) (ks:List Str) (n:Nat) (g:List D->M D):Prop where
 ex:∃f fd ps,FnOk P w K mg base CX0 k f fd ps (DO K F n g)∧mg x=some (.ref f)∧PySem.W.keepIn K (.ref f)=true∧KBn K fd ps npos ks (λus ws=>us++ws) (λvs zs=>vs++zs)
def EX (npos nk n:Nat) (gg:List D->M D) (fs fk:Env->M (List D)):Env->M D:=fun ρ=>fs ρ>>=λds=>fk ρ>>=λzs=>M.guard (decide (ds.length=npos∧zs.length=nk∧(ds++zs).length=n))>>=λ_=>gg (ds++zs)
theorem Fx {npos nk:Nat} (c:FnK X.prog X.w X.K X.mg X.base F k x npos ks n gg) (hr:Room j X.A) (ha:PDa F X DQ (e::es) fs) (hkw:PDk F X DQ kws fk) (hk:k≤j:=by decide) (hg:Gl X x:=by rfl)
 (hall:(backToKw pos (keywordEach kws X.env)).all (·.1.isSome)=true:=by rfl) (hks:(backToKw pos (keywordEach kws X.env)).filterMap (·.1)=ks:=by rfl)
 (hdb:(x==("__debug__" :Str))=false:=by decide) (he:starEach (e::es) X.env=(false,eval e X.env)::starEach es X.env:=by rfl)
 (hpl:((backTo pos (starEach (e::es) X.env)).any (·.1)||(backToKw pos (keywordEach kws X.env)).any (·.1.isNone))=false:=by rfl)
 (hnk:ks.length=nk:=by rfl):PD F X DQ (.Call (.Name x p) (e::es) kws pos) (EX npos nk n gg fs fk):=by
 subst hnk;obtain⟨f,fd,ps,h1,h2,h3,h4⟩:=c;obtain⟨t,pa,qa⟩:=ha;obtain⟨tk,pk,qk⟩:=hkw;refine⟨_,pe_callN h1 (hr.mono hk) hg h2 h3 h4 pass0 pa pk hall hks hdb he hpl,fun ρ m W σ H s k Q h=>?_⟩;unfold EX at h;refine qa ρ m W σ H s k _ ((PoR.bind h).imp λW1 H1 m1 ds e1 x1 k1 h1 vs r1=>?_);refine qk ρ m1 W1 σ H1 (s.mono x1) k1 _ ((PoR.bind h1).imp λW2 H2 m2 zs e2 x2 k2 h2 us r2=>?_);obtain⟨g,h2⟩:=gd (A:=D) h2;obtain⟨g1,g2,g3⟩:=AN g;have r3:=(r1.mono x2).append r2;exact⟨by rw[r1.length];exact g1,by rw[r2.length];exact g2,by rw[r3.length];exact g3,W2,m2,ds++zs,r3,k2,h2⟩
end
end Mir
namespace L2
open PySem PySem.Spec PyProof.Rows HT
structure FnOkG (P:Program) (w:World) (K:PySem.W.Frag) (mg:Str->Option Value) (base:Heap) (CX:CXT) (k:Nat) (f:Addr) (fd:FuncData) (ps:List Str) (sp:Sp):Prop where
 len:∀vs H Q E,sp vs H Q E->vs.length=ps.length
 run:∀(A:Around) (outer:List Env) (s:Shared) (H:Hp) (args:Args) (us:List Value) (vs:List V) (Q:VK) (E:XK),A.guards=some []->Room k A->Env0 P w K mg base A outer s H->BindsTo s fd args (ps.zip us)->Vals vs us->sp vs H Q E->
  codeAny (model P w) A (.call (.ref f) args) (CR CX outer P w H s Q E) s
theorem FnOk.g {P:Program} {w:World} {K:PySem.W.Frag} {mg:Str->Option Value} {base:Heap} {CX:CXT} {k:Nat} {f:Addr} {fd:FuncData} {ps:List Str} {sp:Sp} (o:FnOk P w K mg base CX k f fd ps sp):FnOkG P w K mg base CX k f fd ps sp:=
 ⟨o.len,λA outer s H args us vs Q E _=>o.run A outer s H args us vs Q E⟩
theorem FnOkG.mono {P:Program} {w:World} {K:PySem.W.Frag} {mg:Str->Option Value} {base:Heap} {CX:CXT} {j k:Nat} {f:Addr} {fd:FuncData} {ps:List Str} {sp:Sp} (o:FnOkG P w K mg base CX j f fd ps sp) (h:j≤k):FnOkG P w K mg base CX k f fd ps sp:=
 ⟨o.len,λA outer s H args us vs Q E hg hr=>o.run A outer s H args us vs Q E hg (hr.mono h)⟩
section
variable {P:Program} {w:World} {K:PySem.W.Frag} {mg:Str->Option Value} {base:Heap} {x qual:Str} {params:Arguments} {body:List Stmt} {scope:Scope} {dvs:List V} {kws:List (Str×V)} {f:Addr} {fd:FuncData}
theorem FunD.okG {CX:CXT} {N ps:List Str} {k:Nat} {sp:Sp} (F:FunD K x qual params body scope dvs kws f fd) (S:FnScope N ps scope) (len:∀vs H Q E,sp vs H Q E->vs.length=ps.length)
 (go:∀(cdv:Value) (A:Around) (outer:List Env) (s:Shared) (H:Hp) (vs:List V) (Q:VK) (E:XK),A.guards=some []->Room k (A.deeper (envOfC qual scope s.heap.objs.size f cdv))->sp vs H Q E->
  ∃t,PSs (cxOf CX P w K mg base N qual scope f cdv A outer s H E) body t∧t {nx:=λ_ H'=>Q .non H',rt:=Q} (start N vs) H):FnOkG P w K mg base CX (k+1) f fd ps sp:=by
 obtain⟨oc,od,dV,kV,doc,pm,an,cdv,ct,osl,rfl,lk,code,_,_⟩:=F.ex;refine⟨len,λA outer s H args us vs Q E guards room e0 binds vals want=>?_⟩;have many:=len _ _ _ _ want;have there:K.In s.heap:=e0.mod.kin.keeps λb o e=>(e0.bs b o e).1;refine codeAny_call_function room.depth (there _ _ lk) rfl S.co S.gen rfl (PySem.W.codeRec_of there code) (binds _ _ _ _ (wpAny_newFunctionEnv_cells S.kind (λ⟨n,v⟩ hy=>?_) λenv he s1 made=>?_))
 ·rcases S.par n (List.of_mem_zip hy).1 with q|q
  ·exact Or.inl q
  ·exact Or.inr ⟨q,PySem.W.cellsFrom_some _ _ _ (Or.inl q)⟩
 ·subst he;refine⟨(e0.mod.nolimit.keeps λb o e=>(e0.bs b o e).1).keeps made.toInCall.keep,codeAny_func ?_⟩;obtain⟨t,walks,begins⟩:=go cdv A outer s H vs Q E guards (room.deeper _) want;have I0:=inv_start (CX:=CX) (E:=E) S room.hd e0 many vals made;refine wpAny_mono (walks.run [] s1 (start N vs) H _ I0 begins) (λfl s' ends=>?_) λ_ _ z=>z
  cases fl with
  |ret u=>
   obtain⟨v,σ',H',J,rv,q⟩:=ends;exact⟨v,H',J.os,J.bare,J.base,J.hok,rv,q⟩
  |next=>
   obtain⟨σ',H',J,q⟩:=ends;exact⟨V.non,H',J.os,J.bare,J.base,J.hok,rfl,q⟩
  |brk=>exact ends.elim λ_ z=>z.elim λ_ z=>z.2.elim
  |cont=>exact ends.elim λ_ z=>z.elim λ_ z=>z.2.elim
theorem Fun.toD {st:Stmt} (FF:Fun K x qual st f fd):FunD K x qual (defArgs st) (defBody st) (defScope st) [] [] f fd:=by
 obtain⟨oc,od,kV,doc,pm,an,cdv,ct,osl,e,lk,code⟩:=FF.ex;exact⟨⟨oc,od,.none,kV,doc,pm,an,cdv,ct,osl,e,lk,code,.inl ⟨rfl,rfl⟩,.inl rfl⟩,FF.kp⟩
end
def Ur (K:PySem.W.Frag) (a:Addr) (vs:List Value) (ns:List Int):Hp:=λb=>if(K.lookup a).isNone=true∧b=a then some (.frz {cls:= .type "list",data:= .seq vs.toArray} (.lst (ns.map V.int)))else none
theorem IH {K:PySem.W.Frag} {a b:Addr} {vs:List Value} {ns:List Int} {o:HO} (h:Ur K a vs ns b=some o):K.lookup a=none∧b=a∧o= .frz {cls:= .type "list",data:= .seq vs.toArray} (.lst (ns.map V.int)):=by
 unfold Ur at h;split at h
 ·rename_i c
  exact⟨by simpa using c.1,c.2,(Option.some.inj h).symm⟩
 ·cases h
theorem Us {P:Program} {w:World} {K:PySem.W.Frag} {mg mb:Str->Option Value} {CX:CXT} {k:Nat} {fa a:Addr} {fd:FuncData} {x:Str} {sp:Sp} {t₁:Shared} {vs:List Value} {ns:List Int}
 (there:K.In t₁.heap) (names:t₁.heap.Ns mainGlobals mg) (blt:t₁.heap.Ns builtinsNs mb) (boot:∀x:Str,x≠"__name__"->mb x=bootBuiltins x) (nolim:t₁.heap.NoLimit) (nogens:t₁.gens=#[])
 (script:t₁.heap.get? a=some {cls:= .type "list",data:= .seq vs.toArray}) (are:IntsAre vs ns) (few:ns.length≤sizeLine) (room:Room k callerA)
 (F:∀base:Heap,K.In base->base.Ns mainGlobals mg->FnOkG P w K mg base CX k fa fd [x] sp) (binds:∀(s:Shared) (u:Value),BindsTo s fd ⟨[u],[]⟩ [(x,u)])
 (want:∀H:Hp,Only H->SqL K H a (ns.map V.int)->sp [.ref a] H (λv _=>v= .bl true) λ_ _ _=>False) (noexc:∀H e s',CX [] H t₁ (λ_ _ _=>False) e s'->False):
 codeAny (model P w) callerA (.call (.ref fa) ⟨[.ref a],[]⟩) (λr s'=>r= .ok (.ret (.bool true))∧OldK t₁.heap s'.heap∧s'.os=t₁.os∧AllBare s'.gens) t₁:=by
 have rv:=vals_ints are;have cnt:=are.length;have only:Only (Ur K a vs ns):=λb=>by
  cases q:Ur K a vs ns b with
  |none=>exact .inl rfl
  |some o=>exact .inr ⟨_,_,by rw[(IH q).2.2]⟩
 have sql:SqL K (Ur K a vs ns) a (ns.map V.int):=by
  cases q:K.lookup a with
  |none=>exact .inl (.inr ⟨{cls:= .type "list",data:= .seq vs.toArray},An ⟨by rw[q];rfl,rfl⟩⟩)
  |some o=>
   have e:=there a o q;rw[script]at e
   cases e
   exact .inr ⟨_,vs.toArray,_,q,rfl,rfl,rfl,by rw[A7,cnt];exact few,by simpa using rv⟩
 have hok:HOk P w (Ur K a vs ns) t₁.heap:=λb o q=>by
  obtain⟨_,rfl,rfl⟩:=IH q;exact⟨script,by rw[AJ];exact few,vs,_,rv,script⟩
 have old:∀{b:Addr} {o:Obj},t₁.heap.get? b=some o->b≠a∨(∃z,K.lookup a=some z)->(hidT t₁.heap (Ur K a vs ns)).get? b=some o:=λ{b o} e c=>hidT_get e (by
  cases q:Ur K a vs ns b with
  |none=>rfl
  |some u=>
   obtain⟨q1,q2,_⟩:=IH q;rcases c with c|⟨z,c⟩
   ·exact absurd q2 c
   ·rw[q1]at c;cases c)
 have nsOf:∀{b:Addr} {m:Str->Option Value},t₁.heap.Ns b m->(hidT t₁.heap (Ur K a vs ns)).Ns b m:=λ{b m} ⟨o,es,ep,e,d,r⟩=>⟨o,es,ep,old e (.inl λz=>by
  subst z;rw[script]at e
  cases e
  cases (show Data.seq vs.toArray _=Data.dict es ep from d)),d,r⟩
 have inB:K.In (hidT t₁.heap (Ur K a vs ns)):=λb o e=>old (there b o e) (by
  by_cases z:b=a
  ·subst z;exact .inr ⟨o,e⟩
  ·exact .inl z)
 have modl:Mod K mg (hidT t₁.heap (Ur K a vs ns)):=⟨inB,nsOf names,⟨mb,nsOf blt,boot⟩,nolim.elim λmc z=>⟨mc,nsOf z.1,z.2⟩⟩;have e0:Env0 P w K mg (hidT t₁.heap (Ur K a vs ns)) callerA [] t₁ (Ur K a vs ns):=⟨rfl,modl,λb o e=>of_hidT e,Nat.le_of_eq (hidT_size _ _),trivial,λb z=>(by cases z),hok,.of_eq nogens⟩;refine codeAny_mono ((F _ inB (nsOf names)).run callerA [] t₁ _ ⟨[.ref a],[]⟩ [.ref a] [.ref a] _ _ rfl room e0 (binds t₁ (.ref a)) (.cons rfl .nil) (want _ only sql)) λres s' ends=>?_
 match res,ends with
 | .error ev,ends=>exact(noexc _ ev s' ends).elim
 | .ok (.ret u),ends=>
  obtain⟨v,H',os,bare,un,hok',ru,rfl⟩:=(ends:CE [] P w _ t₁ (λv _=>v= .bl true) u s');obtain rfl:u=Value.bool true:=ru;refine⟨rfl,OldK.of_keep λb o e=>?_,os,bare⟩;rcases only b with q|⟨ob,xs,q⟩
  ·exact un.keep b o e q (λz=>by cases z) (λz=>by cases z)
  ·have q2:=un.frzs b ob _ q;obtain⟨e1,_⟩:=hok b _ q;obtain⟨e2,_⟩:=hok' b _ q2;rw[e]at e1
   cases e1
   exact e2
theorem Wq {l:PySem.W.OpenLaw} {n k:Nat} {q:Program} {loose:List Str} {XP:(Str->Option Value)->Heap->Prop} {YP:World->Heap->Prop} {d:DefRec} {K:Params->PySem.W.Frag} {CX:World->CXT} {sp:World->Sp} {x:Str}
 (hn:l.most=some n) (few:n≤sizeLine) (nodef:d.params.defaults=[]) (room:Room k callerA) (hY:∀(w:World) (h:Heap),YP w h->(K w.params).In h)
 (F:∀(w:World) (mg:Str->Option Value) (fa:Addr) (h:Heap),(K w.params).In h->h.Ns mainGlobals mg->mg d.name=some (.ref fa)->
  ∃fd:FuncData,(∀(s:Shared) (u:Value),BindsTo s fd ⟨[u],[]⟩ [(x,u)])∧∀base:Heap,(K w.params).In base->base.Ns mainGlobals mg->FnOkG l.prog w (K w.params) mg base (CX w) k fa fd [x] (sp w))
 (want:∀(w:World) (H:Hp) (a:Addr) (ns:List Int),ns.length≤n->Only H->SqL (K w.params) H a (ns.map V.int)->sp w [.ref a] H (λv _=>v= .bl true) λ_ _ _=>False)
 (noexc:∀(w:World) (H:Hp) (s:Shared) (e:Value) (s' :Shared),CX w [] H s (λ_ _ _=>False) e s'->False):PySem.W.WalkO q loose XP YP l.row.toRowW d [] (λf vs=>PySem.call f vs):=by
 refine Att.attach_call hn nodef λw s₀ t₁ mg mb fa o pm cd doc a vs ns G Y ho hd code hmg script are count gens=>?_;obtain⟨fd,binds,F2⟩:=F w mg fa _ (hY w _ Y) G.T.g hmg;exact Us (hY w _ Y) G.T.g G.T.b G.T.builtins G.T.nolimit gens script are (Ag count few) room F2 binds (λH z1 z2=>want w H a ns count z1 z2) λH e s' z=>noexc w H t₁ e s' z
def cR (K:PySem.W.Frag):List V->Hp->VK->Prop:=λxs H Q=>∃x d,xs=[x]∧Dp K H x d∧d.showable=true∧d.depth≤64∧d.hasDict=false∧d.shown.length≤sizeLine∧Q (.str d.shown) H
theorem RK {X:Cx} (guards:X.A.guards=some []) (room:X.A.units+66<cLine):CallR X (.builtin "repr") (cR X.K):=by
 intro pins s σ H xs us Q I r h;obtain⟨x,d,rfl,hd,sh,dp,nd,sz,q⟩:=h;obtain⟨u,rfl,ru⟩:=r.one;obtain⟨as,rd⟩:=Dp.reads I d x u hd ru
 cases rd with
 |none=>exact PySem.P.repr_of_none ⟨.str _,H,I.tok _,⟨_,rfl⟩,by simpa only[PyData.shown]using q⟩
 |bool b=>exact PySem.P.repr_of_bool ⟨.str _,H,I.tok _,⟨_,rfl⟩,by simpa only[PyData.shown]using q⟩
 |int i t=>exact PySem.P.repr_of_int (by simpa [PyData.showable]using sh) ⟨.str _,H,I.tok _,⟨_,rfl⟩,by simpa only[PyData.shown]using q⟩
 |str x t=>exact PySem.P.repr_of_str ⟨.str _,H,I.tok _,⟨_,rfl⟩,by simpa only[PyData.shown]using q⟩ (by simpa only[PyData.shown]using sz)
 |list h1 h2 h3 h4=>exact repr_of_reads' (.list h1 h2 h3 h4) sh (λz=>by rw[nd]at z;cases z) guards AA (λ_ _ e=>e) (λh' u tk hk=>⟨.str _,H,I.kept (t' :=tk) hk,⟨_,rfl⟩,q⟩) sz
 |tuple h1 h2 h3 h4=>exact repr_of_reads' (.tuple h1 h2 h3 h4) sh (λz=>by rw[nd]at z;cases z) guards AA (λ_ _ e=>e) (λh' u tk hk=>⟨.str _,H,I.kept (t' :=tk) hk,⟨_,rfl⟩,q⟩) sz
 |dict h1 h2 h3 h4 h5=>simp only[PyData.hasDict]at nd;cases nd
end L2
namespace Mir
open PySem L2
open PyProof.Rows (envOfC)
def D.repr (x:D):M D:=x.now>>=λx=>match x.py with
 |some d=>M.guard (d.showable && decide (d.depth≤64) && !d.hasDict && decide (d.shown.length≤sizeLine))>>=λ_=>pure (.str d.shown)
 |none=>M.bad
section
variable {F:Nm} {X:Cx} {E:XK}
theorem Zj {K:PySem.W.Frag}:MT K F E (cR K) (d1 D.repr):=SV λv d0 m W H Q rx k h=>by
 unfold D.repr at h;obtain⟨d,rx,h⟩:=Df k rx h
 cases e:d.py with
 |none=>simp only[e]at h;exact h.elim
 |some p=>
  simp only[e]at h;obtain⟨g,h⟩:=gd (A:=D) h;simp only[Ao,Ay,Bool.not_eq_true']at g;exact⟨v,p,rfl,Q6 k rx e,g.1.1.1,g.1.1.2,g.1.2,g.2,PoR.pure k h _ (.str _)⟩
theorem b_repr (guards:X.A.guards=some []) (room:X.A.units+66<cLine):Bif F X E "repr" (d1 D.repr):=⟨_,.inl ⟨_,RK guards room,AC⟩,Zj⟩
end
section
variable {F:Nm} {P:Program} {w:World} {K:PySem.W.Frag} {mg:Str->Option Value} {base:Heap}
theorem fQ {x qual:Str} {st:Stmt} {dvs:List V} {kws:List (Str×V)} {f:Addr} {fd:FuncData} {N ps:List Str} {k:Nat} {body:Env->M Fl} (FF:FunD K x qual (defArgs st) (defBody st) (defScope st) dvs kws f fd) (S:FnScope N ps (defScope st))
 (h:∀(cdv:Value) (A:Around) (outer:List PySem.Env) (s:Shared) (H:Hp) (E:XK),A.guards=some []->Room k (A.deeper (envOfC qual (defScope st) s.heap.objs.size f cdv))->PDss F (oj P w K mg base N qual st f cdv A outer s H E) DQ (defBody st) body):
 FnOkG P w K mg base CX0 (k+1) f fd ps (DO K F ps.length (Cv N.length body)):=by
 refine FF.okG S (λvs H Q E h=>h.1) λcdv A outer s H vs Q E hg hr hs=>?_;obtain⟨t,p,q⟩:=h cdv A outer s H E hg hr;exact⟨t,p.nox,RA q (λ_ _ _ _ _ _ h=>h) hs⟩
structure FnG (P:Program) (w:World) (K:PySem.W.Frag) (mg:Str->Option Value) (base:Heap) (F:Nm) (k:Nat) (x:Str) (n:Nat) (dds:List D) (g:List D->M D):Prop where
 ex:∃f fd ps dvs ds,FnOkG P w K mg base CX0 k f fd ps (DO K F n g)∧mg x=some (.ref f)∧PySem.W.keepIn K (.ref f)=true∧Binds K fd ps ds∧Vals dvs ds∧∀W,Rps K F W dvs dds
end
end Mir
namespace Mir
open PySem L2
open PyProof.Rows (envOfC)
def Ut (i n:Nat) (fs:List D->Env->M Env):D->Env->M Env:=λd ρ=>D.unstar i n d>>=λds=>fs ds ρ
section
variable {F:Nm} {X:Cx} {E:XK} {pos:Pos} {e:Expr} {es:List Expr}
theorem RM {i n kk:Nat} {is:List Nat} {fgs:List D->Env->M Env} (h:PDgs F X E es is fgs) (hc:X.calm=true:=by rfl) (hn:(assignEach es X.env).length=n:=by rfl) (hst:(assignEach es X.env).findIdx? (·.1)=some i:=by rfl):
 PDg F X E (.Tuple es kk pos) is (Ut i n fgs):=Wo hc h hn hst
theorem N6 {p2:Pos} {is:List Nat} {fg:D->Env->M Env} {fgs:List D->Env->M Env} (h1:PDg F X E e is fg) (h2:PDgs F X E es is fgs)
 (hs:(assignEach (.Starred e p2::es) X.env).map (·.2)=assign e X.env::(assignEach es X.env).map (·.2):=by rfl):PDgs F X E (.Starred e p2::es) is (Dr fg fgs):=MW h1 h2 hs
end
theorem pG {A:Around} {k:Nat} (r:Room k A):A.units+66<cLine:=by have:=r.un;omega
theorem RN {K:PySem.W.Frag} {h:Heap} {F:Nm} {mg:Str->Option Value} {x:Str} {a:Addr} {od:Option Addr} {its:Array Value} {n:Nat} {sl:Array (Option Value)} {vs:List V} {ds:List D} (g:mg x=some (.ref a))
 (l:K.lookup a=some ⟨.type "tuple",od,.seq its n,sl⟩) (v:Vals vs its.toList) (hs:vs.length≤1000) (r:∀W,Rps K F W vs ds):SZ K F mg x (.tup ds):=by
 have hz:its.size=vs.length:=by rw[v.length,AU]
 exact⟨.ref a,.ref a,g,rfl,λW=> .tup (.inr ⟨_,its,n,l,rfl,rfl,by rw[hz];exact Ag hs AB,v⟩) (r W)⟩
section
variable {ρ:Env} {d:D} {fa fb:Env->M D} {fs fk:Env->M (List D)}
theorem N7 (i n:Nat) {fgs:List D->Env->M Env}:Ut i n fgs d ρ=(D.unstar i n d>>=λds=>fgs ds ρ):=(rfl)
theorem fR:pF fa fb ρ=(fa ρ>>=λx=>D.ref x>>=λk=>M.isL k>>=λ_=>fb ρ>>=λy=>D.now y>>=λy=>D.items y>>=λes=>M.grow k es>>=λ_=>pure .non):=(rfl)
theorem Pr (npos nk n:Nat) (gg:List D->M D):EX npos nk n gg fs fk ρ=(fs ρ>>=λds=>fk ρ>>=λzs=>M.guard (decide (ds.length=npos∧zs.length=nk∧(ds++zs).length=n))>>=λ_=>gg (ds++zs)):=(rfl)
theorem mH (i n:Nat) (ds:List D) (h:i<n∧n≤ds.length+1):D.unstar i n (.tup ds)=pure (Ew i n ds):=by
 show(M.guard (decide (i<n∧n≤ds.length+1))>>=λ_=>(pure (Ew i n ds):M (List D)))=_;rw[Iu h];rfl
theorem RO (i n:Nat) (ds:List D) (h:i<n∧n≤ds.length+1):D.unstar i n (.lst ds)=pure (Ew i n ds):=by
 show(M.guard (decide (i<n∧n≤ds.length+1))>>=λ_=>(pure (Ew i n ds):M (List D)))=_;rw[Iu h];rfl
end
end Mir
namespace Mir
open PySem L2
inductive TabL (K:PySem.W.Frag) (F:Nm) (w:World):List DictEntry->List (Str×D)->Prop
 |nil:TabL K F w [] []
 |cons {e:DictEntry} {x:Str} {v:V} {d:D} {r:List DictEntry} {kvs:List (Str×D)}:(∃t,e.key= .str x t)->e.hash=PyData.keyHash w.params x->RelV v e.val->(∀W,Rp K F W v d)->TabL K F w r kvs->TabL K F w (e::r) ((x,d)::kvs)
def N8 (kvs:List (Str×D)) (z:Str):Option D:=(kvs.find? λp=>p.1==z).map (·.2)
theorem TabL.lit {K:PySem.W.Frag} {F:Nm} {w:World} {es:List DictEntry} {kvs:List (Str×D)} (t:TabL K F w es kvs):PySem.W.KeysLit w.params es:=by
 induction t with
 |nil=>trivial
 |cons h1 h2 _ _ _ ih=>
  obtain⟨t,h1⟩:=h1;exact⟨⟨_,t,h1,h2⟩,ih⟩
theorem TabL.noref {K:PySem.W.Frag} {F:Nm} {w:World} {es:List DictEntry} {kvs:List (Str×D)} (t:TabL K F w es kvs):es.any (·.refKey)=false:=by
 induction t with
 |nil=>rfl
 |cons h1 h2 _ _ _ ih=>
  obtain⟨t,h1⟩:=h1;rw[List.any_cons,ih];unfold DictEntry.refKey;rw[h1];rfl
theorem TabL.find {K:PySem.W.Frag} {F:Nm} {w:World} {es:List DictEntry} {kvs:List (Str×D)} (t:TabL K F w es kvs) (z:Str):
 (N8 kvs z=none∧es.find? (·.key.isStr z)=none)∨∃d v e,N8 kvs z=some d∧es.find? (·.key.isStr z)=some e∧RelV v e.val∧∀W,Rp K F W v d:=by
 induction t with
 |nil=>exact .inl ⟨rfl,rfl⟩
 |@cons e x v d r kvs h1 h2 h3 h4 h5 ih=>
  obtain⟨t,h1⟩:=h1;have hk:e.key.isStr z=(x==z):=by rw[h1];rfl
  unfold N8 at ih ⊢;rw[Cc,Cc,hk]
  cases x==z with
  |true=>exact .inr ⟨d,v,e,rfl,rfl,h3,h4⟩
  |false=>exact ih
structure TabD (K:PySem.W.Frag) (F:Nm) (w:World) (mg:Str->Option Value) (x:Str) (kvs:List (Str×D)):Prop where
 ex:∃a es n,mg x=some (.ref a)∧K.lookup a=some ⟨.type "dict",none,.dict es n,#[]⟩∧(a==sysModules)=false∧TabL K F w es.toList kvs
def D.notInTab (kvs:List (Str×D)):D->M D
 | .str z=>pure (.bl (!(N8 kvs z).isSome))
 |_=>M.bad
def D.ixTab (kvs:List (Str×D)):D->M D
 | .str z=>M.opt (N8 kvs z)
 |_=>M.bad
theorem Wr {K:PySem.W.Frag} {F:Nm} {w:World} {a:Addr} {es:Array DictEntry} {n:Nat} {kvs:List (Str×D)} (l:K.lookup a=some ⟨.type "dict",none,.dict es n,#[]⟩) (t:TabL K F w es.toList kvs) (z:Str):
 (N8 kvs z=none∧PySem.W.nsIn K a z=some none)∨∃d v u,N8 kvs z=some d∧PySem.W.nsIn K a z=some (some u)∧RelV v u∧∀W,Rp K F W v d:=by
 rcases t.find z with⟨h1,h2⟩|⟨d,v,e,h1,h2,h3,h4⟩
 ·refine .inl ⟨h1,?_⟩;unfold PySem.W.nsIn;rw[l];dsimp only;rw[h2,t.noref];rfl
 ·refine .inr ⟨d,v,e.val,h1,?_,h3,h4⟩;unfold PySem.W.nsIn;rw[l];dsimp only;rw[h2]
section
variable {F:Nm} {X:Cx} {E:XK} {pos p:Pos} {a:Expr} {fa:Env->M D} {x:Str} {kvs:List (Str×D)}
theorem RP (T:TabD X.K F X.w X.mg x kvs) (ha:PD F X E a fa) (hg:Gl X x:=by rfl) (hd:(x==("__debug__" :Str))=false:=by decide) (hm:behindInMarks .NotIn (.Name x p)=false:=by first|rfl|exact nomark _):PDt F X E (.Compare a [.NotIn] [.Name x p] pos) (DA (Eg (D.notInTab kvs) fa)):=by
 obtain⟨q,es,n,h1,h2,h3,h4⟩:=T;obtain⟨ta,pa,ea⟩:=ha;refine⟨_,pt_cmpR (op_notIn_kd ⟨h2,h4.lit,h3⟩) pa (pe_glob hg h1 (v:= .ref q) rfl hd) hm,Ni (fa:=Eg (D.notInTab kvs) fa) fun ρ m W σ H s k Q h=>?_⟩;refine ea ρ m W σ H s k _ ((PoR.bind (x:=fa ρ) h).imp λW1 H1 m1 d e1 x1 k1 h1 v r1=>?_)
 cases r1 with
 |str z=>
  have h1:DP X.K F (.ok (.bl (!(N8 kvs z).isSome)) m1) W1 H1 Q E:=h1;rcases Wr h2 h4 z with⟨t1,t2⟩|⟨d,v,u,t1,t2,_,_⟩
  ·rw[t1]at h1;exact⟨z,none,rfl,rfl,t2,PoR.pure k1 h1 _ (.bl _)⟩
  ·rw[t1]at h1;exact⟨z,some u,rfl,rfl,t2,PoR.pure k1 h1 _ (.bl _)⟩
 |_=>exact h1.elim
def pH (K:PySem.W.Frag) (q:Addr) (ty:TE):TE:=fun σ H Q=>ty σ H λy H2=>∃(z:Str) (u0:Value) (v0:V),y= .str z∧PySem.W.nsIn K q z=some (some u0)∧RelV v0 u0∧Q v0 H2
theorem Ws {q:Addr} {es:Array DictEntry} {n:Nat} {ty:TE} (dd:KDict X.K X.w q es n) (h1:X.mg x=some (.ref q)) (hi:PE X a ty) (hs:NoSl a) (hg:Gl X x) (hd:(x==("__debug__" :Str))=false):PE X (.Subscript (.Name x p) a pos) (pH X.K q ty):=
 ⟨λpins s σ H Q I h=>subD_of PySem.F.slot_dict_getitem.lookup hs (ld_glob I hg h1 (thn (hi.run pins s σ H _ I h) λiv s2 ⟨y,H2,I2,ry,z,u0,v0,ey,e,r,q2⟩=>by
  subst ey;exact⟨kd_type dd I2,op_item_kd dd pins s2 σ H2 (.ref q) (.str z) (.ref q) iv Q I2 rfl ry ⟨z,u0,v0,rfl,rfl,e,r,q2⟩⟩) hd)⟩
theorem S9 (T:TabD X.K F X.w X.mg x kvs) (ha:PD F X E a fa) (hs:NoSl a:=by exact λ_ _=>rfl) (hg:Gl X x:=by rfl) (hd:(x==("__debug__" :Str))=false:=by decide):PD F X E (.Subscript (.Name x p) a pos) (Eg (D.ixTab kvs) fa):=by
 obtain⟨q,es,n,h1,h2,h3,h4⟩:=T;obtain⟨ta,pa,ea⟩:=ha;refine⟨_,Ws ⟨h2,h4.lit,h3⟩ h1 pa hs hg hd,fun ρ m W σ H s k Q h=>?_⟩;refine ea ρ m W σ H s k _ ((PoR.bind (x:=fa ρ) h).imp λW1 H1 m1 d e1 x1 k1 h1 v r1=>?_)
 cases r1 with
 |str z=>
  have h1:DP X.K F ((M.opt (N8 kvs z)).run m1) W1 H1 Q E:=h1;rcases Wr h2 h4 z with⟨t1,t2⟩|⟨d,v,u,t1,t2,t3,t4⟩
  ·rw[t1]at h1;exact h1.elim
  ·rw[t1]at h1;exact⟨z,u,v,rfl,t2,t3,PoR.pure k1 h1 _ (t4 _)⟩
 |_=>exact h1.elim
end
end Mir
namespace Mir
open PySem L2
section
variable {F:Nm} {X:Cx} {E:XK} {pos p apos:Pos} {a b c e o:Expr} {fa fb fc:Env->M D} {kvs:List (Str×D)} {keys:List (Option Expr)} {values:List Expr}
theorem M0:∀(more acc:List (Key×V)),((acc++more).map (·.1)).Nodup->mergeK acc more=acc++more
 |[],acc,_=>by rw[A3];rfl
 |q::more,acc,h=>by
  have hn:q.1∉acc.map (·.1):=by
   rw[Aw,AO,Br]at h;exact λz=>h.2.2 _ z _ AG rfl
  have hp:putK acc q.1 q.2=acc++[q]:=by
   unfold putK;rw[Aq (λz=>?_)];obtain⟨y,h1,h2⟩:=CD.mp z;exact hn (by rw[←AN h2];exact BL h1)
  show mergeK (putK acc q.1 q.2) more=_;rw[hp,M0 more (acc++[q]) (by rw[Al];exact h),Al];rfl
structure PDp (F:Nm) (X:Cx) (pos:Pos) (keys:List (Option Expr)) (values:List Expr) (kvs:List (Str×D)):Prop where
 ex:∃(trs:List (TE×TE)) (us:List (Str×V)),PPs X pos keys values trs∧(∀(σ:L2.St) (H:Hp) (Q:List (V×V)->Hp->Prop),Q (us.map λq=>(V.str q.1,q.2)) H->tPairs trs σ H Q)∧us.map (·.1)=kvs.map (·.1)∧∀W,Rps X.K F W (us.map (·.2)) (kvs.map (·.2))
theorem mI:PDp F X pos [] [] []:=⟨[],[],pps_nil,λ_ _ _ h=>h,rfl,λ_=> .nil⟩
def M3 (kvs:List (Str×D)):Env->M D:=λ_=>M.more (.dic (kvs.map λq=>(.inr q.1,q.2)))
theorem fS (h:PDp F X pos keys values kvs) (nd:(kvs.map (·.1)).Nodup:=by decide+kernel) (few:kvs.length≤15:=by decide) (hall:keys.all (·.isSome)=true:=by rfl) (hl:keys.length=values.length:=by rfl) (h0:keys≠[]:=by exact λz=>by cases z) (h15:keys.length≤15:=by decide):
 PD F X E (.Dict keys values pos) (M3 kvs):=by
 obtain⟨trs,us,h1,h2,h3,h4⟩:=h;refine⟨_,pe_disp h1 hall hl h0 h15,fun ρ m W σ H s k Q h=>λp hp=>h2 σ _ _ ⟨upd_same,us.map λq=>(.inr q.1,q.2),by rw[Am];rfl,?_,?_⟩⟩
 ·have:=A9 List.length h3;rw[AJ,AJ]at this;rw[AJ];omega
 ·have hm:mergeK [] (us.map λq=>((Sum.inr q.1:Key),q.2))=us.map λq=>(Sum.inr q.1,q.2):=by
   rw[M0 _ [] ?_]
   ·rfl
   ·rw[BX,Am];have e:(us.map λq=>(Sum.inr q.1:Key))=(us.map (·.1)).map Sum.inr:=by rw[Am];rfl
    show(us.map λq=>(Sum.inr q.1:Key)).Nodup;rw[e,h3];exact List.Pairwise.map Sum.inr (λ_ _ h e=>h (Sum.inr.inj e)) nd
  rw[hm];have hu:upd (upd H p (.dK [])) p (.dK (us.map λq=>((Sum.inr q.1:Key),q.2)))=upd H p (.dK (us.map λq=>((Sum.inr q.1:Key),q.2))):=by
   funext b
   by_cases z:b=p
   ·subst z;rw[upd_same,upd_same]
   ·rw[upd_ne z,upd_ne z,upd_ne z]
  rw[hu];have x:Ext W H (W.more p) (upd H p (.dK (us.map λq=>((Sum.inr q.1:Key),q.2)))):=Ext.more hp;refine h (W.more p) _ x (k.more hp ⟨_,upd_same,?_,?_⟩) _ (.hnd ?_)
  ·rw[Am,Am];have e1:(us.map λq=>(Sum.inr q.1:Key))=(us.map (·.1)).map Sum.inr:=by rw[Am];rfl
   have e2:(kvs.map λq=>(Sum.inr q.1:Key))=(kvs.map (·.1)).map Sum.inr:=by rw[Am];rfl
   show(us.map λq=>(Sum.inr q.1:Key))=kvs.map λq=>(Sum.inr q.1:Key);rw[e1,e2,h3]
  ·rw[Am,Am];exact h4 _
  ·show(W.al++[p])[m.length]? =some p;rw[←k.len];simp
def putD (kvs:List (Key×D)) (k:Key) (d:D):List (Key×D):=
 if(kvs.any λq=>decide (q.1=k))=true then kvs.map (λq=>if q.1=k then(q.1,d)else q)else kvs++[(k,d)]
def Ee (kvs:List (Key×D)) (k:Key):Option D:=(kvs.find? λq=>decide (q.1=k)).map (·.2)
def D.key:D->M Key
 | .str z=>pure (.inr z)
 | .int i=>pure (.inl i)
 |_=>M.bad
def M.putK (k:Nat) (z:Key) (d:D):M Unit:=⟨λm=>match m[k]? with
 |some (.dic ds)=>if ds.length<sizeLine then .ok () (m.set k (.dic (putD ds z d)))else .bad
 |_=> .bad⟩
theorem TB {K:PySem.W.Frag} {W:Wd} {k:Key}:∀{us:List (Key×V)} {ds:List (Key×D)},us.map (·.1)=ds.map (·.1)->Rps K F W (us.map (·.2)) (ds.map (·.2))->
 (us.any λq=>decide (q.1=k))=(ds.any λq=>decide (q.1=k))∧∀{v d},Rp K F W v d->(us.map λq=>if q.1=k then(q.1,v)else q).map (·.1)=(ds.map λq=>if q.1=k then(q.1,d)else q).map (·.1)∧Rps K F W ((us.map λq=>if q.1=k then(q.1,v)else q).map (·.2)) ((ds.map λq=>if q.1=k then(q.1,d)else q).map (·.2))
 |[],[],_,_=>⟨rfl,λ_=>⟨rfl,.nil⟩⟩
 |[],_::_,h,_=>by cases h
 |_::_,[],h,_=>by cases h
 |(a,u)::us,(b,d)::ds,h,.cons r rs=>by
  rw[AO,AO]at h;obtain⟨h1,h2⟩:=List.cons.inj h;have h1:a=b:=h1;subst h1;obtain⟨i1,i2⟩:=TB (k:=k) h2 rs;refine⟨by rw[List.any_cons,List.any_cons,i1],λ{v d'} rv=>?_⟩;obtain⟨j1,j2⟩:=i2 rv;by_cases c:a=k
  ·simp only[AO,An c];exact⟨by rw[j1],.cons rv j2⟩
  ·simp only[AO,Aq c];exact⟨by rw[j1],.cons r j2⟩
theorem Zk {K:PySem.W.Frag} {W:Wd} {k:Key} {us:List (Key×V)} {ds:List (Key×D)} (h:us.map (·.1)=ds.map (·.1)) (r:Rps K F W (us.map (·.2)) (ds.map (·.2))) {v:V} {d:D} (rv:Rp K F W v d):
 (L2.putK us k v).map (·.1)=(putD ds k d).map (·.1)∧Rps K F W ((L2.putK us k v).map (·.2)) ((putD ds k d).map (·.2)):=by
 obtain⟨i1,i2⟩:=TB (k:=k) h r;unfold L2.putK putD;rw[i1];split
 ·exact i2 rv
 ·rw[Aw,Aw,Aw,Aw,h];exact⟨rfl,r.append (.cons rv .nil)⟩
def TC (fo fi fv:Env->M D):Env->M Fl:=fun ρ=>fv ρ>>=λd=>fo ρ>>=λx=>D.ref x>>=λk=>fi ρ>>=λy=>D.key y>>=λz=>M.putK k z d>>=λ_=>pure (.nx ρ)
theorem fT {value:Expr} {pos' :Pos} {fo fi fv:Env->M D} (hu:X.A.units+65<cLine) (ho:PD F X E o fo) (hi:PD F X E e fi) (hv:PD F X E value fv) (hs:swapsWith value (some (.Subscript o e pos')) pos.line X.env=pure false:=by rfl):
 PDs F X E (.Assign [.Subscript o e pos'] value pos) (TC fo fi fv):=by
 obtain⟨to,po,qo⟩:=ho;obtain⟨ti,pi,qi⟩:=hi;obtain⟨tv,pv,qv⟩:=hv;refine⟨_,ps_dput AA po pi pv hs,fun ρ m W σ H s k N h=>?_⟩;unfold TC at h;refine qv ρ m W σ H s k _ ((PoR.bind0 h (Ext.refl W H)).imp λW1 H1 m1 d e1 x1 k1 h1 v rv=>?_);refine qo ρ m1 W1 σ H1 (s.mono x1) k1 _ ((PoR.bind0 h1 x1).imp λW2 H2 m2 dx e2 x2 k2 h2 u r2=>?_)
 cases r2 with
 |@hnd pp i hp=>
  have x12:=x1.trans x2;refine qi ρ m2 W2 σ H2 (s.mono x12) k2 _ ((PoR.bind0 (x:=fi ρ) h2 x12).imp λW3 H3 m3 dz e3 x3 k3 h3 w r3=>?_);have xt:=x12.trans x3;have hp3:W3.al[i]? =some pp:=by
   obtain⟨r,q⟩:=x3.al;rw[q,AV (AS.mp hp).1];exact hp
  have fin:∀z:Key,w=kV z->E8 X.K F ((M.putK i z d>>=λ_=>(pure (Fl.nx ρ):M Fl)).run m3) W H N E->∃a H4,V.ref pp= .ref a∧DPut H3 a w v H4∧N.nx σ H4:=λz ez h3=>by
   subst ez
   cases e4:m3[i]? with
   |none=>simp only[Do,M.putK,e4]at h3;exact h3.elim
   |some q=>
    cases q with
    |lst _=>simp only[Do,M.putK,e4]at h3;exact h3.elim
    |fdc _=>simp only[Do,M.putK,e4]at h3;exact h3.elim
    |ins _ _=>simp only[Do,M.putK,e4]at h3;exact h3.elim
    |dtp _=>simp only[Do,M.putK,e4]at h3;exact h3.elim
    |dead=>simp only[Do,M.putK,e4]at h3;exact h3.elim
    |dic es=>
     simp only[Do,M.putK,e4]at h3;by_cases hl:es.length<sizeLine
     ·simp only[An hl]at h3;obtain⟨ws,hW,hkw,rw'⟩:=k3.ob i pp _ hp3 e4;have many:ws.length=es.length:=by
       have:=A9 List.length hkw
       rwa [AJ,AJ]at this
      have both:=Zk (k:=z) hkw rw' (rv.mono (x2.trans x3));have ob:ObR X.K F W3 (upd H3 pp (.dK (L2.putK ws z v))) pp (.dic (putD es z d)):=⟨_,upd_same,both.1,both.2⟩;exact⟨pp,_,rfl,.k hW (by rw[many];exact hl),h3 W3 _ (xt.trans (Ext.write hp3)) (k3.write hp3 ob) σ (s.mono xt)⟩
     ·simp only[Aq hl]at h3;exact h3.elim
  cases r3 with
  |str z=>exact fin (.inr z) rfl h3
  |int z=>exact fin (.inl z) rfl h3
  |_=>exact h3.elim
 |_=>exact h2.elim
end
end Mir
namespace Mir
open PySem PySem.Spec L2
open PyProof.Rows (strOf StrsAre)
def mJ (w:World) (e:Int×Value):Prop:=∃x t,e=(hashStr w x,Value.str x t)
abbrev FM (e:Int×Value):Str:=strOf e.2
structure TbS (w:World) (es:Array (Int×Value)) (t:SetTable):Prop where
 rows:∀e,e∈es.toList->mJ w e
 once:(es.toList.map FM).Nodup
 few:es.size<scanBound
 fits:t.fits es.size=true
 ris:Ris t.place.toList
 led:w.params.followText "set-order"=true∨t.led=true
def SetS (w:World) (h:Heap) (a:Addr) (S:Str->Bool) (n:Nat):Prop:=
 ∃o es ep t,h.get? a=some o∧o.ExactSet∧o.data= .set es ep t∧TbS w es t∧(∀x,S x=true↔x∈es.toList.map FM)∧es.size=n
theorem SetS.at {w:World} {h h' :Heap} {a:Addr} {S:Str->Bool} {n:Nat} (R:SetS w h a S n) (k:∀o,h.get? a=some o->h'.get? a=some o):SetS w h' a S n:=
 let ⟨o,es,ep,t,ho,r⟩:=R
 ⟨o,es,ep,t,k o ho,r⟩
theorem TbS.perm {w:World} {es es' :Array (Int×Value)} {t t' :SetTable} (T:TbS w es t) (p:es'.toList.Perm es.toList) (f:t'.fits es'.size=true) (r:Ris t'.place.toList) (l:t'.led=t.led):TbS w es' t' :=
 ⟨λe he=>T.rows e (p.mem_iff.mp he),(p.map FM).nodup_iff.mpr T.once,by
  have:=p.length_eq;rw[AU,AU]at this;rw[this];exact T.few,f,r,by rw[l];exact T.led⟩
section
variable {P:Program} {w:World} {A:Around} {E:Value->Shared->Prop} {s:Shared} {a:Addr} {S:Str->Bool} {n:Nat}
theorem TbS.elems {es:Array (Int×Value)} {t:SetTable} (T:TbS w es t):ElemsOf (PySem.strKind P w) es.toList:=λe he=>by
 obtain⟨x,k,rfl⟩:=T.rows e he;exact⟨⟨x,strKind_is P w x k,rfl⟩,rfl⟩
theorem TF {e:Int×Value} (h:mJ w e) (x:Str):(PySem.strKind P w).is x e.2=true↔FM e=x:=by
 obtain⟨y,k,rfl⟩:=h;refine⟨λh=>?_,λh=>?_⟩
 ·obtain⟨t,e⟩:=Value.isStrOf_shape (x:=x) (v:= .str y k) h
  injection e
 ·have e:y=x:=h;subst e;exact strKind_is P w y k
theorem TbS.has {es:Array (Int×Value)} {t:SetTable} (T:TbS w es t) (x:Str):x∈es.toList.map FM↔∃e,e∈es.toList∧(PySem.strKind P w).is x e.2=true:=by
 rw[AY];exact⟨λ⟨e,he,q⟩=>⟨e,he,(TF (T.rows e he) x).mpr q⟩,λ⟨e,he,q⟩=>⟨e,he,(TF (T.rows e he) x).mp q⟩⟩
theorem FX {h:Heap} {o:Obj} {es es' :Array (Int×Value)} {ep:Nat} {t t' :SetTable} (ho:h.get? a=some o) (hx:o.ExactSet) (hd:o.data= .set es ep t) (T:TbS w es' t') (hS:∀x,S x=true↔x∈es'.toList.map FM):
 ∃o',(h.update a (Obj.putSet es' t')).get? a=some o'∧o'.ExactSet∧o'.data= .set es' (ep+1) t'∧SetS w (h.update a (Obj.putSet es' t')) a S es'.size:=by
 have e:=Heap.get?_update_self (Obj.putSet es' t') ho (by rw[putSet_of es' t' hd];rfl);rw[putSet_of es' t' hd]at e;exact⟨_,e,hx,rfl,_,es',ep+1,t',e,hx,rfl,T,hS,rfl⟩
theorem M4 {g:Bool->Sem Unit} (calm:∀b s₁ (Q' :Unit->Shared->Prop),Q' () s₁->wpAny (model P w) A (g b) Q' E s₁) {o:Obj} {es es1:Array (Int×Value)} {ep:Nat} {t t1:SetTable} {dm:Bool} {R:Option Bool->Shared->Prop}
 (ho:s.heap.get? a=some o) (hx:o.ExactSet) (hd:o.data= .set es ep t) (T:TbS w es1 t1) (hS:∀x,S x=true↔x∈es1.toList.map FM)
 (hR:∀h',Heap.SameBut a s.heap h'->SetS w h' a S es1.size->R (some true) {s with heap:=h'}):
 wpAny (model P w) A (storeSet a es1 t1>>=λ_=>if(!dm && t1.tooFull)=true then(g (relayAll t1 es1 (SetTable.grown es1.size)).2.2>>=λ_=>storeSet a (relayAll t1 es1 (SetTable.grown es1.size)).1 (relayAll t1 es1 (SetTable.grown es1.size)).2.1>>=λ_=>pure (some true))else pure (some true)) R E s:=by
 obtain⟨o1,e1,x1,d1,s1⟩:=FX (w:=w) (S:=S) ho hx hd T hS;have b1:Heap.SameBut a s.heap (s.heap.update a (Obj.putSet es1 t1)):= .update s.heap a _;apply wpAny_bind;apply wpAny_storeSet_of ho hd _ (fits_of_scanBound T.few);by_cases full:(!dm && t1.tooFull)=true
 ·rw[An full];have pm:(relayAll t1 es1 (SetTable.grown es1.size)).1.toList.Perm es1.toList:=relayAll_perm _ _ _;have T2:TbS w (relayAll t1 es1 (SetTable.grown es1.size)).1 (relayAll t1 es1 (SetTable.grown es1.size)).2.1:=T.perm pm (relayAll_fits _ _ _) (relayAll_ris _ _ _) (relayAll_led _ _ _);have len:=pm.length_eq;rw[AU,AU]at len;obtain⟨o2,_,_,_,s2⟩:=FX (w:=w) (S:=S) e1 x1 d1 T2 (λx=>(hS x).trans (pm.map FM).mem_iff.symm);rw[len]at s2;exact wpAny_bind (calm _ _ _ (wpAny_bind (wpAny_storeSet_of e1 d1 (wpAny_pure (hR _ (b1.trans (.update _ a _)) s2)) (fits_of_scanBound T2.few))))
 ·rw[Aq full];exact wpAny_pure (hR _ b1 s1)
theorem LN {x:Str} {k:Tok} {Q:Bool->Shared->Prop} (R:SetS w s.heap a S n) (room:n+1<scanBound)
 (hQ:∀h',Heap.SameBut a s.heap h'->SetS w h' a (λy=>S y||decide (y=x)) (if S x=true then n else n+1)->Q (!S x) {s with heap:=h'}):wpAny (model P w) A (setAddHashed a (.str x k) (hashStr w x)) Q E s:=by
 obtain⟨o,es,ep,t,ho,hx,hd,T,hS,hn⟩:=R;have els:ElemsOf (PySem.strKind P w) es.toList:=T.elems;have own:(PySem.strKind P w).is x (.str x k)=true:=strKind_is P w x k;have quiet:∀(b:Bool) (s₁:Shared) (Q' :Unit->Shared->Prop),Q' () s₁->wpAny (model P w) A (match b with|true=>rule "set.scan.the-table-gave-way"|false=>pure ()) Q' E s₁:=λb s₁ Q' q=>by
  cases b
  ·exact wpAny_pure q
  ·exact wpAny_rule q
 unfold setAddHashed setAddHashedIn;apply wpAny_holding;apply wpAny_bind;apply wpAny_setState_of ho hd T.fits;dsimp only;rw[byScan_of (knd:=PySem.strKind P w) rfl T.few els,An rfl];unfold setAddByScan;apply wpAny_bind;apply wpAny_bind;apply wpAny_rule;apply wpAny_bind;apply wpAny_setScan_of (knd:=PySem.strKind P w) own ho hd T.fits els;by_cases c:S x=true
 ·
  obtain⟨e,he,q⟩:=(T.has (P:=P) x).mp ((hS x).mp c)
  cases f:List.findIdx? (λe=>(PySem.strKind P w).is x e.2) es.toList with
  |none=>exact absurd (List.findIdx?_eq_none_iff.mp f e he) (by rw[q];decide)
  |some j=>
   have z:=hQ s.heap (.refl a s.heap) ⟨o,es,ep,t,ho,hx,hd,T,λy=>by
    rw[BJ,hS y,Ay];exact or_iff_left_of_imp λe=>by rw[e];exact(hS x).mp c,by rw[An c];exact hn⟩
   rw[c]at z;exact wpAny_pure (wpAny_pure z)
 ·have cf:S x=false:=by simpa using c
  have nm:x∉es.toList.map FM:=λz=>c ((hS x).mpr z)
  cases f:List.findIdx? (λe=>(PySem.strKind P w).is x e.2) es.toList with
  |some j=>
   obtain⟨hj,q,_⟩:=List.findIdx?_eq_some_iff_getElem.mp f;exact absurd ((T.has (P:=P) x).mpr ⟨_,List.getElem_mem hj,q⟩) nm
  |none=>
   have pm:(layNew t es (hashStr w x) (.str x k)).1.toList.Perm ((hashStr w x,.str x k)::es.toList):=(layNew_perm t es _ _).trans (by rw[Array.toList_push];exact CO _ _);have pk:((layNew t es (hashStr w x) (.str x k)).1.toList.map FM).Perm (x::es.toList.map FM):=pm.map FM;have sz:(layNew t es (hashStr w x) (.str x k)).1.size=n+1:=by
    have z:=pm.length_eq;rw[AU,AI,AU,hn]at z;exact z
   have T1:TbS w (layNew t es (hashStr w x) (.str x k)).1 (layNew t es (hashStr w x) (.str x k)).2.1:=
    ⟨λe he=>by
     rcases AQ.mp (pm.mem_iff.mp he)with z|z
     ·exact⟨x,k,z⟩
     ·exact T.rows e z,pk.nodup_iff.mpr (Au.mpr ⟨nm,T.once⟩),by rw[sz];exact room,layNew_fits _ _ _ _,layNew_ris _ _ _ _ T.ris,by rw[layNew_led];exact T.led⟩
   have S1:∀y,(S y||decide (y=x))=true↔y∈(layNew t es (hashStr w x) (.str x k)).1.toList.map FM:=λy=>by
    rw[BJ,hS y,Ay,pk.mem_iff,AQ];exact Or.comm
   have fin:∀h',Heap.SameBut a s.heap h'->SetS w h' a (λy=>S y||decide (y=x)) (layNew t es (hashStr w x) (.str x k)).1.size->wpAny (model P w) A (pure true) Q E {s with heap:=h'}:=λh' b r=>by
    have z:=hQ h' b;rw[cf]at z;rw[sz]at r;exact wpAny_pure (z r)
   have Tp:TbS w (layNew t es (hashStr w x) (.str x k)).1 {(layNew t es (hashStr w x) (.str x k)).2.1 with plain:=false}:=T1.perm (.refl _) (SetTable.fits_plain_off T1.fits) T1.ris rfl;dsimp only;apply wpAny_bind;apply quiet;by_cases pl:(layNew t es (hashStr w x) (.str x k)).2.1.plain=true
   ·rw[An pl,hashByValue_scannable 8 rfl];apply wpAny_bind;apply wpAny_pure;refine M4 (S:=λy=>S y||decide (y=x)) quiet ho hx hd ?_ S1 λh' b r=>fin h' b r;split
    ·exact T1
    ·exact Tp
   ·rw[Aq pl];exact M4 (S:=λy=>S y||decide (y=x)) quiet ho hx hd T1 S1 λh' b r=>fin h' b r
end
section
variable {P:Program} {w:World} {A:Around} {R:Result->Shared->Prop}
theorem Uu {xs:List Str} {i:Nat} (h:i<xs.length) (y:Str):y∈xs.take (i+1)↔y∈xs.take i∨y=xs.getD i Str.empty:=by
 rw[List.take_succ_eq_append_getElem h,Ap,AR,show xs.getD i Str.empty=xs[i] by simp[List.getD,Aj h]]
theorem M5 {I D:Addr} {fp wr:List Addr} {G:Array GenState->Array GenState->Prop} {xs:List Str} {Pv:Nat->Value->Prop} {St:Nat->Shared->Prop} (W:WalksS P w A.in1 I fp wr G xs.length Pv St) (out:D∉fp)
 (val:∀i v,Pv i v->∃t,v= .str (xs.getD i Str.empty) t) (few:xs.length+1<scanBound):∀(left i:Nat) (s:Shared) (S:Str->Bool) (n:Nat),xs.length - i=left->i≤xs.length->St i s->SetS w s.heap D S n->(∀x,S x=true↔x∈xs.take i)->n≤i->
  (∀s' S' n',Moved (D::wr) G s s'->SetS w s'.heap D S' n'->(∀x,S' x=true↔x∈xs)->n'≤xs.length->R (.ok (.ret .none)) s')->codeAny (model P w) A (.builtin "set.update.loop" ⟨[.ref D,.ref I],[]⟩) R s:=by
 have outw:D∉wr:=λz=>out (W.sub _ z);have more:∀b,b∈wr->b∈D::wr:=λb hb=> .tail _ hb;intro left
 induction left with
 |zero=>
  intro i s S n e hi st hS hm hn fin;have ei:i=xs.length:=by omega
  subst ei;apply codeAny_builtin Bv;rw[Around.under_plainId BY];apply wpAny_bind;refine W.done s _ _ st λs1 mv=>wpAny_pure (fin s1 S n (mv.mono more) (hS.at λo e=>mv.heap D o outw e) (λx=>by rw[hm x,List.take_length]) hn)
 |succ left ih=>
  intro i s S n e hi st hS hm hn fin;have lt:i<xs.length:=by omega
  apply codeAny_builtin Bv;rw[Around.under_plainId BY];apply wpAny_bind;refine W.item i s _ _ lt st λv s1 pv st1 mv=>?_;obtain⟨t,rfl⟩:=val i v pv;have hS1:SetS w s1.heap D S n:=hS.at λo e=>mv.heap D o outw e;show wpAny _ A.in1 (holding [Value.str (xs.getD i Str.empty) t] (setAdd D (.str (xs.getD i Str.empty) t))>>=_) _ _ s1;apply wpAny_bind;apply wpAny_holding;unfold setAdd;apply wpAny_holding;apply wpAny_bind;apply (PySem.strKind P w).pyHash (strKind_is P w (xs.getD i Str.empty) t);refine LN (s:={s1 with toks:=s1.toks+1}) hS1 AA λh' sb hS2=>wpAny_pure ⟨plainId_quiet BY _,?_⟩;refine ih (i+1) _ _ _ AA lt (W.frame _ s1 _ _ st1 (Nat.le_succ _) λb hb o e=>(sb.2 b λz=>out (z▸hb)).trans e) hS2 (λx=>?_) (by split<;>omega) λs2 S' n' mv2=>fin s2 S' n' (Moved.trans W.gtrans ((mv.mono more).then_heap (Nat.le_succ _) λb o hb e=>(sb.2 b λz=>hb (z▸ .head _)).trans e) mv2);rw[BJ,hm x,Ay,Uu lt]
end
section
variable {P:Program} {w:World} {A:Around} {E:Value->Shared->Prop} {s:Shared}
abbrev EL (w:World):Obj:={cls:= .type "set",dict:=none,data:= .set #[] 0 (.fresh 0 0 (!w.params.followText "set-order"))}
theorem I8 {w:World} {h:Heap} {a:Addr} (e:h.get? a=some (EL w)):SetS w h a (λ_=>false) 0:=
 ⟨_,#[],0,_,e,⟨rfl,rfl,rfl⟩,rfl,⟨λe he=>(AM he).elim,B3,AB,rfl,List.Pairwise.nil,by
  show _∨(!w.params.followText "set-order")=true
  cases w.params.followText "set-order"
  ·exact .inr rfl
  ·exact .inl rfl⟩,λx=>by simp,rfl⟩
theorem Pt {vs:List Value} {xs:List Str} (h:StrsAre vs xs) {i:Nat} {v:Value} (e:vs[i]? =some v):∃t,v= .str (xs.getD i Str.empty) t:=by
 obtain⟨x,t,rfl⟩:=h.all v (Av e);refine⟨t,?_⟩;rw[←h.strs];simp[List.getD,A6,e,strOf]
theorem Pu {vs:List Value} {xs:List Str} (h:StrsAre vs xs):xs.length=vs.length:=by rw[←h.strs,AJ]
set_option maxHeartbeats 3200000 in
theorem jG {l:Addr} {items:Array Value} {xs:List Str} {Q:Value->Shared->Prop} (hh:A.handled=none) (hl:s.heap.IsList l items) (hi:StrsAre items.toList xs) (few:xs.length+1<scanBound)
 (fin:∀(h' :Heap) (tk:Nat) S n,SetS w h' s.heap.objs.size S n->(∀x,S x=true↔x∈xs)->n≤xs.length->(∀b o,s.heap.get? b=some o->h'.get? b=some o)->Q (.ref s.heap.objs.size) {s with heap:=h',toks:=tk}):
 wpAny (model P w) A (call (.type "set") [.ref l]) Q E s:=by
 obtain⟨c,tl,hmro⟩:=Ar.mro;have hmade:=Ar.made;have hsub:=Ar.sub;have h1:=Ar.notType;have h2:=Ar.canCreate;have hct:=PySem.F.typeCall_set_1 (.ref l);apply wpAny_call;apply codeAny_of_tree;show wpAny _ _ (callAny (.type "set") ⟨[.ref l],[]⟩) _ _ _;apply wpAny_pure;refine⟨Code.quiet_builtin _ AC,codeAny_builtin PySem.F.entry_type_call ?_⟩;rw[Around.under_plain (weight_type_call_type "set" [.ref l] []) rfl]
 repeat (any_goals (first|assumption|wp_step))
 refine codeAny_mono (code_set_led1 (.ref l) (E:=E) (Q₁:=λv s1=>v= .ref s.heap.objs.size∧s1={s with heap:=s.heap.push (EL w)}) ⟨rfl,rfl⟩) λr s1 hr=>?_
 match r,hr with
 | .error e,hr=>exact hr
 | .ok .next,hr=>exact hr.elim
 | .ok .brk,hr=>exact hr.elim
 | .ok .cont,hr=>exact hr.elim
 | .ok (.ret v),hr=>
  obtain⟨rfl,rfl⟩:=hr;have at0:(s.heap.push (EL w)).get? s.heap.objs.size=some (EL w):=Heap.get?_push_size _ rfl;have hT:Shared.TypeIs {s with heap:=s.heap.push (EL w)} (.ref s.heap.objs.size) "set" :=⟨_,at0,rfl⟩;have hli:=PySem.F.called_set.init.lookup;have hbi:=PySem.F.called_set.init.bind (.ref s.heap.objs.size)
  repeat (any_goals (first|assumption|wp_step))
  refine codeAny_mono (codeAny_call_builtin (R:=wants (λr s2=>r= .none∧∃h' tk S n,s2={s with heap:=h',toks:=tk}∧SetS w h' s.heap.objs.size S n∧(∀x,S x=true↔x∈xs)∧n≤xs.length∧∀b o,s.heap.get? b=some o->h'.get? b=some o) E) PySem.F.called_set.init.plain PySem.F.entry_set_init (check_set_init_1 hT ?_)) λr2 s2 hr2=>?_
  ·obtain⟨ol,hol,hcl,nl,hdl⟩:=hl;obtain⟨oc,od,odt,osl⟩:=ol;simp only at hcl hdl;subst hcl;subst hdl;have hol1:(s.heap.push (EL w)).get? l=some ⟨.type "list",od,.seq items nl,osl⟩:=Heap.get?_push_of_some _ hol;have q1:=PySem.F.sub_list_set;have q2:=PySem.F.sub_list_frozenset;have q3:(Value.type "list"==Value.type "dict")=false:=by decide
   have isL:(s.heap.push (EL w)).IsList l items:=⟨_,hol1,rfl,nl,rfl⟩;have lt:l<s.heap.objs.size:=Heap.lt_size hol;unfold Builtin.«set.__init__» noKeywords Builtin.Frozenset.updateFrom;generalize hPI:pyIter=PI
   wp_walk
   subst hPI;apply wpAny_pyIter_list isL;apply wpAny_bind;apply wpAny_runValue;have hh3:A.in1.in1.in1.handled=none:=by simp[hh]
   have sz:(s.heap.push (EL w)).objs.size=s.heap.objs.size+1:=by rw[Heap.size_push]
   have nI:l≠(s.heap.push (EL w)).objs.size:=by
    rw[sz];exact A1 (BV lt)
   have nD:s.heap.objs.size∉[(s.heap.push (EL w)).objs.size,l]:=by
    rw[sz];simp only[AQ,AM,BR,not_or];exact⟨A1 (Bj _),B4 lt⟩
   have hsz:items.size=xs.length:=by rw[Pu hi,AU]
   have W:=(Walks.list (prog:=P) (w:=w) hh3 _ l nI items).toS;rw[hsz]at W;refine M5 W nD (λi v hv=>Pt hi (by rw[BE];exact hv)) few (xs.length - 0) 0 _ (λ_=>false) 0 rfl (BM _) ⟨⟨_,Heap.get?_push_size _ rfl,rfl,rfl⟩,isL.push _⟩ (I8 (Heap.get?_push_of_some _ at0)) (λx=>by simp) (Ai _) ?_;intro s' S' n' mv hS' hm hn;obtain⟨h',g',d',tk',os'⟩:=s';obtain rfl:g'=s.gens:=mv.gens;obtain rfl:d'=s.drawn:=mv.drawn;obtain rfl:os'=s.os:=mv.os;apply wpAny_pure;show wpAny _ _ (ret Value.none) _ _ _;refine wpAny_pure ⟨rfl,h',tk',S',n',rfl,hS',hm,hn,λb o e=>mv.heap b o ?_ (Heap.get?_push_of_some _ (Heap.get?_push_of_some _ e))⟩;have lb:=Heap.lt_size e;rw[sz];simp only[AQ,AM,BR,not_or];exact⟨A1 lb,A1 (BV lb)⟩
  ·match r2,hr2 with
   | .error e,hr2=>exact hr2
   | .ok .next,hr2=>exact hr2.elim
   | .ok .brk,hr2=>exact hr2.elim
   | .ok .cont,hr2=>exact hr2.elim
   | .ok (.ret r),hr2=>
    obtain⟨rfl,h',tk,S',n',rfl,hS',hm,hn,kp⟩:=hr2
    repeat (any_goals (first|assumption|wp_step))
    exact fin _ _ _ _ hS' hm hn kp
end
end Mir
namespace Mir
open PySem PySem.Spec L2
open PyProof.Rows (strOf StrsAre seqObj sortedS)
section
variable {P:Program} {w:World} {A:Around} {E:Value->Shared->Prop} {s:Shared} {a:Addr} {S:Str->Bool} {n:Nat}
theorem Pw {Q:Value->Shared->Prop} (R:SetS w s.heap a S n) (hh:A.handled=none)
 (hQ:∀s' p (out:Array Value) (c:Nat) (ys:List Str),(∀b o,s.heap.get? b=some o->s'.heap.get? b=some o)->s'.gens=s.gens->s'.os=s.os->s.heap.objs.size≤p->s'.heap.get? p=some (seqObj "list" out c)->StrsAre out.toList ys->sortedS ys=true->ys.Nodup->
  (∀x,x∈ys↔S x=true)->ys.length=n->Q (.ref p) s'):wpAny (model P w) A (call (.builtin "sorted") [.ref a]) Q E s:=by
 obtain⟨o,es,ep,t,ho,hx,hd,T,hS,hn⟩:=R;apply Calls.call_function_entry PyProof.Rows.kind_sorted PyProof.Rows.plain_sorted PyProof.Rows.entry_sorted (PyProof.Rows.args_sorted1 _);unfold Builtin.«sorted»;apply wpAny_bind (m:=checkCount "sorted" 1 1 _);apply wpAny_pure;apply wpAny_bind;refine collect_set (A:=A.in1) hh ⟨o,ho,hx.1,hd⟩ T.fits T.few T.ris T.led λs1 vs kp hz hg hos pm=>?_;have vl:vs.length=n:=by rw[pm.length_eq,AJ,AU];exact hn
 have few:vs.length<scanBound:=by rw[vl,←hn];exact T.few
 have all:StrsAre vs (vs.map strOf):=PyProof.Rows.strsAre_map vs λv hv=>by
  obtain⟨e,he,rfl⟩:=AY.mp (pm.mem_iff.mp hv);obtain⟨x,k,rfl⟩:=T.rows e he;exact⟨x,k,rfl⟩
 have pk:(vs.map strOf).Perm (es.toList.map FM):=by
  have z:=pm.map strOf;rw[Am]at z;exact z
 apply wpAny_bind;refine wpAny_newList ?_ (fits_of_scanBound few);have at1:(s1.heap.push (seqObj "list" vs.toArray 0)).get? s1.heap.objs.size=some (seqObj "list" vs.toArray 0):=Heap.get?_push_size _ rfl;apply wpAny_bind;apply wpAny_holding;refine wpAny_call_entry PyProof.Rows.slot_list_sort ⟨_,at1,rfl⟩ PyProof.Rows.entry_list_sort (PyProof.Rows.list_sort_treeKAny PyProof.Rows.strKind_oneLt at1 all.keysOf (λa b rest e=>PyProof.Rows.keyKind_strs (by rw[←e];exact all)) (fits_of_scanBound few) λst p1 p2=>⟨_,rfl,?_⟩) (PyProof.Rows.args_list_sort _);obtain⟨ys,y1,y2,y3⟩:=PyProof.Rows.sorted_out_str all p1 p2;have py:ys.Perm (es.toList.map FM):=y2.trans pk;obtain⟨c,hc⟩:=PyProof.Rows.sortedHeap_at (vs:=vs) (out:=(PyProof.Rows.arrOf st).map (·.2)) at1;refine wpAny_pure ⟨_,rfl,hQ _ s1.heap.objs.size _ c ys (λb u e=>?_) hg hos hz hc y1 y3 (py.nodup_iff.mpr T.once) (λx=>by rw[py.mem_iff];exact(hS x).symm) (by rw[py.length_eq,AJ,AU];exact hn)⟩;have e1:=kp b u e;have lt:=Heap.lt_size e1;show(PyProof.Rows.sortedHeap (s1.heap.push (seqObj "list" vs.toArray 0)) s1.heap.objs.size vs _).get? b=some u;rw[PyProof.Rows.sortedHeap_old (A1 lt) (by rw[PyProof.Rows.size_push'];exact BV lt)];exact Heap.get?_push_of_some _ e1
end
end Mir
namespace Mir
open PySem L2
open PyProof.Rows (strOf StrsAre sortedS)
def Ex (w:World) (a:Addr) (S:Str->Bool) (n:Nat):HO:= .ext λh=>SetS w h a S n
theorem Px {w:World} {P:Program} {H:Hp} {h:Heap} {a:Addr} {S:Str->Bool} {n:Nat} (R:SetS w h a S n):ObjOk P w H h a (Ex w a S n):=
 ⟨R,let ⟨o,_,_,_,ho,_⟩:=R;⟨o,ho⟩,λh1 h2 p k=>SetS.at p k⟩
section
variable {X:Cx}
def Py (w:World):List V->Hp->VK->Prop:=λvs H Q=>∃(a:Addr) (S:Str->Bool) (n:Nat),vs=[V.ref a]∧H a=some (Ex w a S n)∧∀(ys:List Str) (p:Addr),sortedS ys=true->ys.Nodup->(∀x,x∈ys↔S x=true)->ys.length=n->H p=none->Q (.ref p) (upd H p (.lst (ys.map V.str)))
theorem RQ (hc:X.calm=true):CallR X (.builtin "sorted") (Py X.w):=by
 intro pins s σ H vs us Q I r h;obtain⟨a,S,n,rfl,ha,q⟩:=h;have R:SetS X.w s.heap a S n:=(I.hok a _ ha).1;have few:n<scanBound:=by
  obtain⟨_,es,_,_,_,_,_,T,_,e⟩:=R;rw[←e];exact T.few
 rw[Vals.ref1 r];refine Pw (P:=X.prog) (w:=X.w) R (I.ok.hd hc) λs1 p out c ys kp hg ho hp at1 hv so nd mem len=>?_;have hl:(ys.map V.str).length≤sizeLine:=by rw[AJ,len];exact fits_of_scanBound few
 have hn:H p=none:=I.hok.fresh hp;have J:Inv X pins σ (upd H p (.lst (ys.map V.str))) {s with heap:=s1.heap,gens:=s1.gens,drawn:=s1.drawn,toks:=s1.toks}:=
  I.call (ch:=[]) (Un.laid kp hp hn) (I.hok.laid kp hp ⟨hl,out.toList,c,vals_of_strs hv,at1⟩) (by rw[hg];exact I.bare) (λ_ z=>nomatch z)
 have e:s1={s with heap:=s1.heap,gens:=s1.gens,drawn:=s1.drawn,toks:=s1.toks}:=by
  obtain⟨h1,g1,d1,t1,o1⟩:=s1;obtain rfl:o1=s.os:=ho;rfl
 rw[e];exact⟨.ref p,_,J,rfl,q ys p so nd mem len hn⟩
end
def Q0 (a b:Str):Prop:=a.cps.toList<b.cps.toList
instance:DecidableRel Q0:=λa b=>inferInstanceAs (Decidable (a.cps.toList<b.cps.toList))
theorem Kl (a:Str):¬Q0 a a:=List.lt_irrefl _
theorem RR {a b c:Str} (h:Q0 a b) (h' :Q0 b c):Q0 a c:=List.lt_trans h h'
theorem N9 {a b:Str} (h:¬Q0 a b) (h' :¬Q0 b a):a=b:=by
 have e:a.cps.toList=b.cps.toList:=List.le_antisymm (List.not_lt.mp h') (List.not_lt.mp h);obtain⟨a⟩:=a;obtain⟨b⟩:=b;exact A9 Str.mk (Array.toList_inj.mp e)
abbrev jH (xs:List Str):Prop:=xs.Pairwise Q0
theorem OA:∀{xs ys:List Str},jH xs->jH ys->(∀x,x∈xs↔x∈ys)->xs=ys
 |[],[],_,_,_=>rfl
 |[],y::ys,_,_,h=>absurd ((h y).mpr AG) AM
 |x::xs,[],_,_,h=>absurd ((h x).mp AG) AM
 |x::xs,y::ys,hx,hy,h=>by
  obtain⟨x1,x2⟩:=BS.mp hx;obtain⟨y1,y2⟩:=BS.mp hy;have e:x=y:=by
   rcases AQ.mp ((h x).mp AG)with q|q
   ·exact q
   ·rcases AQ.mp ((h y).mpr AG)with q'|q'
    ·exact q'.symm
    ·exact absurd (RR (x1 y q') (y1 x q)) (Kl x)
  subst e;rw[OA x2 y2 λz=>⟨λhz=>?_,λhz=>?_⟩]
  ·rcases AQ.mp ((h z).mp (AF _ hz))with q|q
   ·subst q;exact absurd (x1 z hz) (Kl z)
   ·exact q
  ·rcases AQ.mp ((h z).mpr (AF _ hz))with q|q
   ·subst q;exact absurd (y1 z hz) (Kl z)
   ·exact q
def OB (x:Str):List Str->List Str
 |[]=>[x]
 |y::r=>if x=y then y::r else if Q0 x y then x::y::r else y::OB x r
def dS (xs:List Str):List Str:=xs.foldr OB []
theorem mem_ins {x z:Str}:∀{r:List Str},z∈OB x r↔z=x∨z∈r
 |[]=>by simp[OB]
 |y::r=>by
  unfold OB;split
  ·rename_i e
   subst e;simp
  ·split
   ·simp
   ·rw[AQ,mem_ins,AQ];constructor
    ·rintro(h|h|h)
     ·exact .inr (.inl h)
     ·exact .inl h
     ·exact .inr (.inr h)
    ·rintro(h|h|h)
     ·exact .inr (.inl h)
     ·exact .inl h
     ·exact .inr (.inr h)
theorem TH {x:Str}:∀{r:List Str},jH r->jH (OB x r)
 |[],_=>by simp[OB]
 |y::r,h=>by
  obtain⟨h1,h2⟩:=BS.mp h;unfold OB;split
  ·exact h
  ·rename_i ne
   split
   ·rename_i lt
    refine BS.mpr ⟨λz hz=>?_,h⟩;rcases AQ.mp hz with q|q
    ·subst q;exact lt
    ·exact RR lt (h1 z q)
   ·rename_i nlt
    refine BS.mpr ⟨λz hz=>?_,TH h2⟩;rcases mem_ins.mp hz with q|q
    ·subst q;by_cases c:Q0 y z
     ·exact c
     ·exact absurd (N9 nlt c) ne
    ·exact h1 z q
theorem LO:∀xs:List Str,jH (dS xs)
 |[]=>List.Pairwise.nil
 |x::xs=>TH (LO xs)
theorem LP {z:Str}:∀{xs:List Str},z∈dS xs↔z∈xs
 |[]=>by simp[dS]
 |x::xs=>by
  show z∈OB x (dS xs)↔_;rw[mem_ins,LP,AQ]
theorem TJ:∀{p:Str} {l:List Str},PyProof.Rows.risingS p l=true->(∀x,x∈l->¬Q0 x p)∧l.Pairwise (λa b=>¬Q0 b a)
 |p,[],_=>⟨λx hx=>(AM hx).elim,List.Pairwise.nil⟩
 |p,x::r,h=>by
  have h:(!PySem.Spec.ltCps x.cps.toList p.cps.toList && PyProof.Rows.risingS x r)=true:=h;rw[Ao,PyProof.Rows.ltCps_eq]at h;obtain⟨h1,h2⟩:=h;have h1:¬Q0 x p:=λq=>by
   rw[AK (show x.cps.toList<p.cps.toList from q)]at h1
   cases h1
  obtain⟨r1,r2⟩:=TJ h2;refine⟨λz hz=>?_,BS.mpr ⟨r1,r2⟩⟩;rcases AQ.mp hz with q|q
  ·subst q;exact h1
  ·intro hzp;by_cases c:Q0 x z
   ·exact h1 (RR c hzp)
   ·have e:=N9 (r1 z q) c;subst e;exact h1 hzp
theorem fU {ys:List Str} (h:sortedS ys=true) (nd:ys.Nodup):jH ys:=by
 cases ys with
 |nil=>exact List.Pairwise.nil
 |cons x r=>
  obtain⟨r1,r2⟩:=TJ (show PyProof.Rows.risingS x r=true from h);have all:(x::r).Pairwise (λa b=>¬Q0 b a):=BS.mpr ⟨r1,r2⟩;refine(all.and nd).imp λ{a b} q=>?_;by_cases c:Q0 a b
  ·exact c
  ·exact absurd (N9 c q.1) q.2
theorem Wt {xs ys:List Str} (h:sortedS ys=true) (nd:ys.Nodup) (m:∀x,x∈ys↔x∈xs):ys=dS xs:=OA (fU h nd) (LO xs) λx=>by rw[m x,LP]
section
variable {F:Nm} {X:Cx} {E:XK} {pos:Pos} {e:Expr} {fa:Env->M D}
theorem OC {K:PySem.W.Frag} {W:Wd}:∀{vs:List V} {ds:List D} {xs:List Str},Rps K F W vs ds->D.texts ds=some xs->vs=xs.map V.str
 |_,[],_,.nil,h=>by cases h;rfl
 |_,d::ds,_,.cons r rs,h=>by
  cases d with
  |str x=>
   cases r
   have h:(D.texts ds).map (x::·)=some _:=h;obtain⟨ys,h1,rfl⟩:=Az.mp h;rw[OC rs h1];rfl
  |_=>cases h
theorem G1 {K:PySem.W.Frag} {W:Wd}:∀xs:List Str,Rps K F W (xs.map V.str) (xs.map D.str)
 |[]=> .nil
 |x::xs=> .cons (.str x) (G1 xs)
def D.sorted (x:D):M D:=x.now>>=λx=>match x with
 | .lst ds=>M.opt (D.texts ds)>>=λxs=>M.guard (decide (xs.length<64∧xs.Nodup))>>=λ_=>pure (.lst ((dS xs).map .str))
 |_=>M.bad
theorem Uv {K:PySem.W.Frag}:MT K F E (rSortedS K) (d1 D.sorted):=SV λv d0 m W H Q rx k h=>by
 unfold D.sorted at h;obtain⟨d,rx,h⟩:=Df k rx h
 cases d with
 |lst ds=>
  obtain⟨p,vs,rfl,h1,r1⟩:=rx;dsimp only at h;rw[Do]at h
  cases e:D.texts ds with
  |none=>rw[e]at h;exact h.elim
  |some xs=>
   rw[e]at h;have h:PoR K F ((M.guard (decide (xs.length<64∧xs.Nodup))>>=λ_=>(pure (D.lst ((dS xs).map .str)):M D)).run m) W H (λW' H' _ d=>∀v,Rp K F W' v d->Q v H') E:=h;obtain⟨g,h⟩:=gd (A:=D) h;obtain⟨g1,g2⟩:=AN g;have ev:=OC r1 e;subst ev;refine⟨p,xs,rfl,.inl (.inl h1),g1,λys q pm so hq=>?_⟩;have ey:ys=dS xs:=Wt so (pm.nodup_iff.mpr g2) λx=>pm.mem_iff;subst ey;exact DY k h hq (EJ k hq (G1 _))
 |_=>exact h.elim
theorem b_sorted:Bif F X E "sorted" (d1 D.sorted):=⟨_,.inl ⟨_,cr_sortedS,AC⟩,Uv⟩
end
end Mir
namespace Mir
open PySem L2
section
variable {F:Nm} {X:Cx} {E:XK} {pos:Pos} {a b e:Expr} {fa fb:Env->M D} {fs:Env->M (List D)}
def D.zip:D->D->M (List D×Option Nat)
 | .lst xs,.lst ys=>pure (List.zipWith (λx y=> .tup [x,y]) xs ys,none)
 |_,_=>M.bad
def OD (i j:Nat) (fs:Env->M (List D)):Env->M Fl:=fun ρ=>fs ρ>>=λds=>match ds with
 |[u,v]=>pure (.nx ((ρ.set i (some u)).set j (some v)))
 |_=>M.bad
theorem Wu {x y:Str} {px py pt pt2:Pos} {kt k2} (i j:Nat) (hN:X.N.Nodup) (ha:PDa F X E [a,b] fs) (hw:swappedStores [.Tuple [.Name x px,.Name y py] kt pt] (.Tuple [a,b] k2 pt2) X.env=pure (some [x,y]):=by rfl) (hi:X.N[i]? =some x:=by rfl) (hj:X.N[j]? =some y:=by rfl) (hij:i≠j:=by decide)
 (hx:X.env.scope.names.lookup x=some .local:=by rfl) (hy:X.env.scope.names.lookup y=some .local:=by rfl) (hc:X.calm=true:=by rfl)
 (hs:swapsWithSole [.Tuple [.Name x px,.Name y py] kt pt] (.Tuple [a,b] k2 pt2) pos.line X.env=pure false:=by rfl):PDs F X E (.Assign [.Tuple [.Name x px,.Name y py] kt pt] (.Tuple [a,b] k2 pt2) pos) (OD i j fs):=by
 obtain⟨t,p,q⟩:=ha;refine⟨_,ps_par hc hN hi hj hij hx hy p hw hs,fun ρ m W σ H s k N h=>?_⟩;unfold OD at h;refine q ρ m W σ H s k _ ((PoR.bind0 h (Ext.refl W H)).imp λW1 H1 m1 ds e1 x1 k1 h1 vs r1=>?_)
 cases r1 with
 |nil=>exact h1.elim
 |cons r1 r2=>
  cases r2 with
  |nil=>exact h1.elim
  |cons r2 r3=>
   cases r3 with
   |nil=>exact⟨_,_,rfl,h1 W1 H1 x1 k1 _ (K5 (K5 (s.mono x1) r1) r2)⟩
   |cons _ _=>exact h1.elim
end
section
variable {ρ:Env} {fa fb:Env->M D} {fs:Env->M (List D)}
theorem fV (i j:Nat):OD i j fs ρ=(fs ρ>>=λds=>match ds with
 |[u,v]=>pure (.nx ((ρ.set i (some u)).set j (some v)))
 |_=>M.bad):=(rfl)
end
end Mir
namespace Mir
open PySem L2
open NdefX (NF FnO fnO_at CellsAt ncx startF NScope NOk nok_of envF)
open LamX (CodeO)
def del (H:Hp) (c:Addr):Hp:=λb=>if b=c then none else H b
theorem del_ne {H:Hp} {b c:Addr} (h:b≠c):del H c b=H b:=Aq h
structure GOk (P:Program) (w:World) (K:PySem.W.Frag) (mg:Str->Option Value) (base:Heap) (CX:CXT) (k:Nat) (f:Addr) (N:NF) (ex:Option Expr) (ps fr:List Str) (sp:List (Option V)->Sp):Prop where
 len:∀ws vs H Q E,sp ws vs H Q E->vs.length=ps.length
 run:∀(A:Around) (outer:List PySem.Env) (s:Shared) (H:Hp) (us:List Value) (vs:List V) (ws:List (Option V)) (Q:VK) (E:XK),Room k A->Env0 P w K mg base A outer s H->H f=some (lI ex f N)->H N.c=some (CodeO N.c N.qual)->
  CellsAt N.cl fr ws s.heap H->Vals vs us->sp ws vs H Q E->codeAny (model P w) A (.call (.ref f) ⟨us,[]⟩) (CR CX outer P w H s Q E) s
end Mir
namespace Mir
open PySem L2
open NdefX (NF FnO fnO_at CellsAt ncx startF NScope NOk nok_of envF)
open LamX (CodeO)
mutual
def D.plain:D->Bool
 | .non=>true
 | .bl _=>true
 | .int _=>true
 | .str _=>true
 | .tup ds=>D.plains ds
 | .lst ds=>D.plains ds
 | .frz ds=>D.plains ds
 | .hnd _=>false
 | .nam _=>true
 | .clo _ _=>false
 | .dct _ ds=>D.plains ds
 | .tpx ds=>D.plains ds
 | .ktp _=>true
def D.plains:List D->Bool
 |[]=>true
 |d::ds=>d.plain && D.plains ds
end
def Wd.bare (W:Wd) (c:Addr):Wd:=⟨[],del W.G c⟩
def Wd.cell (W:Wd) (c:Addr) (o:Obj):Wd:=⟨[],upd W.G c (Vr c o)⟩
end Mir
namespace Mir
open PySem L2
open NdefX (NF FnO fnO_at CellsAt ncx startF NScope NOk nok_of envF)
open LamX (CodeO)
def rk (K:PySem.W.Frag) (F:Nm) (n:Nat) (g:D->List D->M D):List (Option V)->Sp:=λws vs H Q E=>vs.length=n∧∃W v d ds,ws=[some v]∧Rps K F W vs ds∧Rp K F W v d∧Ok K F W [] H∧DP K F ((g d ds).run []) W H Q E
def pI (K:PySem.W.Frag) (F:Nm) (n:Nat) (g:D->List D->M D):List (Option V)->Sp:=λws vs H Q E=>vs.length=n∧∃W ds,ws=[]∧Rps K F W vs ds∧Ok K F W [] H∧DP K F ((g .non ds).run []) W H Q E
structure CloP (X:Cx) (F:Nm) (AP:Str->D->List D->M D) (k n:Nat) (ps:NF->List Str) (yy:NF->Str):Prop where
 ok:∀tag N,F.cl tag N->((∃c,N.cl=[(yy N,c)])∧∀f,GOk X.prog X.w X.K X.mg X.base CX0 k f N (F.lx tag) (ps N) [yy N] (rk X.K F n (AP tag)))∨(N.cl=[]∧∀f,GOk X.prog X.w X.K X.mg X.base CX0 k f N (F.lx tag) (ps N) [] (pI X.K F n (AP tag)))
 len:∀tag N,F.cl tag N->(ps N).length=n
end Mir
namespace Mir
open PySem L2
open NdefX (NF FnO fnO_at CellsAt ncx startF NScope NOk nok_of envF TabsN NTab tNdefM ps_ndefMS)
open LamX
def Wd.fun (W:Wd) (f c' :Addr) (u v:HO):Wd:=⟨W.al,upd (upd W.G c' v) f u⟩
end Mir
namespace Mir
open PySem L2
def Goes (K:PySem.W.Frag) (F:Nm) (W0:Wd) (H0:Hp) (Dl:Addr) (H' :Hp) (m' :Mu) (acc:List D):Prop:=∃W' vs,Ext W0 H0 W' H'∧Ok K F W' m' H'∧H' Dl=some (.lst vs)∧Dl∉W'.al∧W'.G Dl=none∧Rps K F W' vs acc
def Hq (fg:D->Env->M Env) (ft:Env->M Bool) (inner:Env->List D->M (List D)) (ρ:Env):List D->List D->M (List D)
 |[],acc=>pure acc
 |d::ds,acc=>fg d ρ>>=fun ρ1=>ft ρ1>>=λt=>if t=true then inner ρ1 acc>>=λa2=>Hq fg ft inner ρ ds a2 else Hq fg ft inner ρ ds acc
def KW (fi:Env->M (List D×Option Nat)) (fg:D->Env->M Env) (ft:Env->M Bool) (fe:Env->M D) (own:List Nat) (ρ:Env) (acc:List D):M (List D):=
 fi ρ>>=λp=>M.guard (p.2==none)>>=λ_=>EA fg ft fe (DB ρ own) p.1 acc
def LQ (fi:Env->M (List D×Option Nat)) (fg:D->Env->M Env) (ft:Env->M Bool) (fi1:Env->M (List D×Option Nat)) (fg1:D->Env->M Env) (ft1:Env->M Bool) (fe:Env->M D) (own vs1:List Nat) (ρ:Env):M (List D):=
 fi ρ>>=λp=>M.guard (p.2==none)>>=λ_=>M.noexc (Hq fg ft (KW fi1 fg1 ft1 fe vs1) (DB ρ own) p.1 [])
def n8 (K:PySem.W.Frag) (F:Nm) (E:XK) (wi:TI) (fi:Env->M (List D×Option Nat)):Prop:=∀ρ m W σ H,Sl K F W ρ σ->Ok K F W m H->∀R:It->Hp->Prop,PoR K F ((fi ρ).run m) W H (λW' H' _ p=>∀J,PQ K F W' H' J p.1 p.2->R J H') E->wi σ H R
theorem Sl.wx {K:PySem.W.Frag} {F:Nm} {W W' :Wd} {ρ:Env} {σ:L2.St} (x:WX W W') (h:Sl K F W ρ σ):Sl K F W' ρ σ:=⟨h.len,λi d e=>by
 obtain⟨v,e1,r⟩:=h.get i d e;exact⟨v,e1,Rp.mono' x.al x.ex r⟩⟩
theorem Jp {σ σ2:L2.St} {own:List Nat} (q:wipe σ2 own=wipe (wipe σ own) own):wipe σ2 own=wipe σ own:=by
 rw[q];refine Bz λj=>?_;rw[eh,eh,wipe_length];by_cases c:j∈own∧j<σ.length
 ·rw[An c,An c]
 ·rw[Aq c,Aq c]
theorem fW {K:PySem.W.Frag} {F:Nm} {E:XK} {wi wi1:TI} {g g1:TG} {tt tt1:TT} {te:TE} {own vs1 is is1:List Nat} {fi fi1:Env->M (List D×Option Nat)} {fg fg1:D->Env->M Env} {ft ft1:Env->M Bool} {fe:Env->M D}
 (hi:n8 K F E wi fi) (hg:e8 K F DQ is g fg) (ht:Y4 K F DQ tt ft) (hi1:n8 K F DQ wi1 fi1) (hg1:e8 K F DQ is1 g1 fg1) (ht1:Y4 K F DQ tt1 ft1) (he:Ky K F DQ te fe) (hs:∀i,i∈is->i∈own) (hs1:∀i,i∈is1->i∈vs1)
 (ρ:Env) (m:Mu) (W:Wd) (σ:L2.St) (H:Hp) (s:Sl K F W ρ σ) (k:Ok K F W m H) (Q:VK)
 (h:PoR K F ((LQ fi fg ft fi1 fg1 ft1 fe own vs1 ρ).run m) W H (λW' H' m' ds=>∀p vs,H' p=some (.lst vs)->Rps K F W' vs ds->p∉W'.al->W'.G p=none->H p=none->Q (.ref p) H') E):
 tLc2 wi g tt wi1 g1 tt1 te own vs1 σ H Q:=by
 refine hi ρ m W σ H s k _ ((PoR.bind0 h (Ext.refl W H)).imp λW1 H1 m1 pr e1 x1 k1 h1 J hJ=>?_);obtain⟨ds,o⟩:=pr;obtain⟨g0,h1⟩:=gd (A:=List D) h1;have ho:o=none:=by simpa using g0
 subst ho;have h1:=PoR.noexc (E' :=DQ) h1;intro Dl hDl;have s1:=Ii (s.mono x1) own;have hDH:H Dl=none:=x1.un Dl hDl;generalize hQQ:(λW' H' m' (ds:List D)=>∀p vs,H' p=some (.lst vs)->Rps K F W' vs ds->p∉W'.al->W'.G p=none->H p=none->Q (.ref p) H' :Wd->Hp->Mu->List D->Prop)=QQ at h1;refine⟨λi n H'=>n=ds.length - i∧i≤ds.length∧∃m' acc,Goes K F W1 H1 Dl H' m' acc∧PoR K F ((Hq fg ft (KW fi1 fg1 ft1 fe vs1) (DB ρ own) (ds.drop i) acc).run m') W H QQ DQ,
  ⟨ds.length,rfl,BM _,m1,[],⟨W1,[],cE (Ext.refl _ _) hDl,E9 k1 (k1.fresh hDl) (k1.gnone hDl) (λu e=>by rw[hDl]at e;cases e),upd_same,k1.fresh hDl,k1.gnone hDl,.nil⟩,h1⟩,?_⟩
 rintro i n H2 ⟨rfl,hi2,m2,acc,⟨W2,vs,x2,k2,d1,d2,d3,r2⟩,h2⟩;have xx:Ext W H W2 H2:=x1.trans x2;obtain⟨items,stop⟩:=hJ W2 m2 H2 x2.wx k2 trivial;by_cases hlt:i<ds.length
 case neg=>
  have e:i=ds.length:=by omega
  subst e;rw[Bh]at h2;refine .inl ⟨stop,?_⟩;have z:=h2 W2 H2 xx k2;rw[←hQQ]at z;exact z Dl vs d1 r2 d2 d3 hDH
 obtain⟨go,yl⟩:=items i ds[i] (Aj hlt);refine .inr ⟨go,λH'=>∃m' acc,Goes K F W1 H1 Dl H' m' acc∧PoR K F ((Hq fg ft (KW fi1 fg1 ft1 fe vs1) (DB ρ own) (ds.drop (i+1)) acc).run m') W H QQ DQ,
  λH' ⟨m',acc,z⟩=>⟨ds.length - (i+1),AA,rfl,hlt,m',acc,z⟩,λx H3 hy=>?_⟩
 obtain⟨W3,x3,k3,r3⟩:=yl x H3 hy;rw[BK hlt]at h2;have xt:Ext W H W3 H3:=xx.trans x3;obtain⟨d1,d2,d3⟩:=Qz x3 d1 d2 d3 D6;have r2:=r2.mono x3;refine hg ds[i] (DB ρ own) m2 W3 (wipe σ own) H3 x (s1.mono (x2.trans x3)) k3 r3 _ ((PoR.bind0 h2 xt).imp λW4 H4 m4 ρ4 e4 x4 k4 h4 σ4 s4 o4=>⟨Jp (o4 own hs),?_⟩);obtain⟨d1,d2,d3⟩:=Qz x4 d1 d2 d3 D6;have r2:=r2.mono x4;refine ht ρ4 m4 W4 σ4 H4 s4 k4 _ ((PoR.bind0 h4 (xt.trans x4)).imp λW5 H5 m5 t e5 x5 k5 h5=>?_);obtain⟨d1,d2,d3⟩:=Qz x5 d1 d2 d3 D6;have r2:=r2.mono x5;have xb:Ext W1 H1 W5 H5:=x2.trans (x3.trans (x4.trans x5));have xf:Ext W H W5 H5:=(xt.trans x4).trans x5
 cases t with
 |false=>exact⟨m5,acc,⟨W5,vs,xb,k5,d1,d2,d3,r2⟩,h5⟩
 |true=>
  have h5:PoR K F ((fi1 ρ4>>=λp=>M.guard (p.2==none)>>=λ_=>EA fg1 ft1 fe (DB ρ4 vs1) p.1 acc>>=λa2=>Hq fg ft (KW fi1 fg1 ft1 fe vs1) (DB ρ own) (ds.drop (i+1)) a2).run m5) W H QQ DQ:=by
   have h5:PoR K F ((KW fi1 fg1 ft1 fe vs1 ρ4 acc>>=λa2=>Hq fg ft (KW fi1 fg1 ft1 fe vs1) (DB ρ own) (ds.drop (i+1)) a2).run m5) W H QQ DQ:=h5;unfold KW at h5;rw[D5]at h5;simp only[D5]at h5;exact h5
  refine hi1 ρ4 m5 W5 σ4 H5 (s4.mono x5) k5 _ ((PoR.bind0 h5 xf).imp λW6 H6 m6 pr1 e6 x6 k6 h6 J1 hJ1=>?_);obtain⟨ds1,o1⟩:=pr1;obtain⟨g1',h6⟩:=gd (A:=List D) h6;have ho1:o1=none:=by simpa using g1'
  subst ho1;obtain⟨d1,d2,d3⟩:=Qz x6 d1 d2 d3 D6;have r2:=r2.mono x6;have s6:=Ii ((s4.mono x5).mono x6) vs1;have xb6:Ext W1 H1 W6 H6:=xb.trans x6;have xf6:Ext W H W6 H6:=xf.trans x6;generalize hRest:(λa2=>Hq fg ft (KW fi1 fg1 ft1 fe vs1) (DB ρ own) (ds.drop (i+1)) a2)=Rest at h6;refine⟨λj n H'=>n=ds1.length - j∧j≤ds1.length∧∃W' m' acc vs,WX W6 W'∧Ext W1 H1 W' H'∧Ok K F W' m' H'∧H' Dl=some (.lst vs)∧Dl∉W'.al∧W'.G Dl=none∧Rps K F W' vs acc∧PoR K F ((EA fg1 ft1 fe (DB ρ4 vs1) (ds1.drop j) acc>>=Rest).run m') W H QQ DQ,
   ⟨ds1.length,rfl,BM _,W6,m6,acc,vs,WX.refl _,xb6,k6,d1,d2,d3,r2,h6⟩,?_⟩
  rintro j n H7 ⟨rfl,hj,W7,m7,acc7,vs7,w7,x7,k7,c1,c2,c3,r7,h7⟩;obtain⟨items1,stop1⟩:=hJ1 W7 m7 H7 w7 k7 trivial;have xf7:Ext W H W7 H7:=x1.trans x7;by_cases hlt1:j<ds1.length
  case neg=>
   have e:j=ds1.length:=by omega
   subst e;rw[Bh]at h7;have h7:PoR K F ((Rest acc7).run m7) W H QQ DQ:=h7;rw[←hRest]at h7;exact .inl ⟨stop1,m7,acc7,⟨W7,vs7,x7,k7,c1,c2,c3,r7⟩,h7⟩
  obtain⟨go1,yl1⟩:=items1 j ds1[j] (Aj hlt1);refine .inr ⟨go1,λH'=>∃W' m' acc vs,WX W6 W'∧Ext W1 H1 W' H'∧Ok K F W' m' H'∧H' Dl=some (.lst vs)∧Dl∉W'.al∧W'.G Dl=none∧Rps K F W' vs acc∧PoR K F ((EA fg1 ft1 fe (DB ρ4 vs1) (ds1.drop (j+1)) acc>>=Rest).run m') W H QQ DQ,
   λH' ⟨W',m',acc,vs,z⟩=>⟨ds1.length - (j+1),AA,rfl,hlt1,W',m',acc,vs,z⟩,λy H8 hy1=>?_⟩
  obtain⟨W8,x8,k8,r8⟩:=yl1 y H8 hy1;rw[BK hlt1]at h7;have h7:PoR K F ((fg1 ds1[j] (DB ρ4 vs1)>>=fun ρ1=>ft1 ρ1>>=λt=>(if t=true then fe ρ1>>=λy=>M.guard (decide (acc7.length<sizeLine))>>=λ_=>EA fg1 ft1 fe (DB ρ4 vs1) (ds1.drop (j+1)) (acc7++[y])else EA fg1 ft1 fe (DB ρ4 vs1) (ds1.drop (j+1)) acc7)>>=Rest).run m7) W H QQ DQ:=by
   have h7:PoR K F (((fg1 ds1[j] (DB ρ4 vs1)>>=fun ρ1=>ft1 ρ1>>=λt=>(if t=true then fe ρ1>>=λy=>M.guard (decide (acc7.length<sizeLine))>>=λ_=>EA fg1 ft1 fe (DB ρ4 vs1) (ds1.drop (j+1)) (acc7++[y])else EA fg1 ft1 fe (DB ρ4 vs1) (ds1.drop (j+1)) acc7))>>=Rest).run m7) W H QQ DQ:=h7;rw[D5]at h7;simp only[D5]at h7;exact h7
  have xf8:Ext W H W8 H8:=xf7.trans x8;obtain⟨c1,c2,c3⟩:=Qz x8 c1 c2 c3 D6;have r7:=r7.mono x8;refine hg1 ds1[j] (DB ρ4 vs1) m7 W8 (wipe σ4 vs1) H8 y (s6.wx (w7.trans x8.wx)) k8 r8 _ ((PoR.bind0 h7 xf8).imp λW9 H9 m9 ρ9 e9 x9 k9 h9 σ9 s9 o9=>⟨Jp (o9 vs1 hs1),?_⟩);obtain⟨c1,c2,c3⟩:=Qz x9 c1 c2 c3 D6;have r7:=r7.mono x9;refine ht1 ρ9 m9 W9 σ9 H9 s9 k9 _ ((PoR.bind0 h9 (xf8.trans x9)).imp λWa Ha ma t ea xa ka ha=>?_);obtain⟨c1,c2,c3⟩:=Qz xa c1 c2 c3 D6;have r7:=r7.mono xa;have xg:Ext W1 H1 Wa Ha:=x7.trans (x8.trans (x9.trans xa));have wg:WX W6 Wa:=w7.trans (x8.trans (x9.trans xa)).wx
  cases t with
  |false=>exact⟨Wa,ma,acc7,vs7,wg,xg,ka,c1,c2,c3,r7,ha⟩
  |true=>
   have ha:PoR K F ((fe ρ9>>=λy=>M.guard (decide (acc7.length<sizeLine))>>=λ_=>EA fg1 ft1 fe (DB ρ4 vs1) (ds1.drop (j+1)) (acc7++[y])>>=Rest).run ma) W H QQ DQ:=by
    have ha:PoR K F (((fe ρ9>>=λy=>M.guard (decide (acc7.length<sizeLine))>>=λ_=>EA fg1 ft1 fe (DB ρ4 vs1) (ds1.drop (j+1)) (acc7++[y]))>>=Rest).run ma) W H QQ DQ:=ha;rw[D5]at ha;simp only[D5]at ha;exact ha
   refine he ρ9 ma Wa σ9 Ha (s9.mono xa) ka _ ((PoR.bind0 ha ((xf8.trans x9).trans xa)).imp λWb Hb mb y eb xb' kb hb v rv=>?_);obtain⟨c1,c2,c3⟩:=Qz xb' c1 c2 c3 D6;have r7:=r7.mono xb';obtain⟨gb,hb⟩:=gd (A:=List D) hb;exact⟨vs7,c1,by rw[r7.length];exact AN gb,Wb,mb,acc7++[y],vs7++[v],wg.trans xb'.wx,cE (xg.trans xb') hDl,E9 kb c2 c3 (λu e=>by rw[c1]at e;cases e;exact D6),upd_same,c2,c3,r7.append (.cons rv .nil),hb⟩
def qf (C:Cx->Prop) (tg iter:Expr):TI:=fun σ H R=>∀X,C X->∀pins s,Inv X pins σ H s->wpAny (model X.prog X.w) X.A (eval iter X.env) (λv s1=>wpAny (model X.prog X.w) X.A (pyIter v) (PIE X pins σ tg R) X.xe s1) X.xe s
structure Blk2 (F:Nm) (X:Cx) (tg elt tg1 iter1:Expr) (ifs ifs1:List Expr) (scope:Scope) (own vs1 is is1:List Nat) (fg:D->Env->M Env) (ft:Env->M Bool) (fi1:Env->M (List D×Option Nat)) (fg1:D->Env->M Env) (ft1:Env->M Bool) (fe:Env->M D):Prop where
 g:∀(s:Shared) (H:Hp) (C:Addr) (cl:List (Str×Addr)) (fp:List Addr),PDg F (X.blk s H scope (compEnvC scope cl C X.env) fp) DQ tg is fg
 t:∀(s:Shared) (H:Hp) (C:Addr) (cl:List (Str×Addr)) (fp:List Addr),PDts F (X.blk s H scope (compEnvC scope cl C X.env) fp) DQ ifs ft
 i1:∀(s:Shared) (H:Hp) (C:Addr) (cl:List (Str×Addr)) (fp:List Addr),PDi F (X.blk s H scope (compEnvC scope cl C X.env) fp) DQ tg1 iter1 fi1
 g1:∀(s:Shared) (H:Hp) (C:Addr) (cl:List (Str×Addr)) (fp:List Addr),PDg F (X.blk s H scope (compEnvC scope cl C X.env) fp) DQ tg1 is1 fg1
 t1:∀(s:Shared) (H:Hp) (C:Addr) (cl:List (Str×Addr)) (fp:List Addr),PDts F (X.blk s H scope (compEnvC scope cl C X.env) fp) DQ ifs1 ft1
 e:∀(s:Shared) (H:Hp) (C:Addr) (cl:List (Str×Addr)) (fp:List Addr),PD F (X.blk s H scope (compEnvC scope cl C X.env) fp) DQ elt fe
 sub:∀i,i∈is->i∈own
 sub1:∀i,i∈is1->i∈vs1
 in1:∀i∈vs1,i∈own
def Wv (fi:Env->M (List D×Option Nat)) (fg:D->Env->M Env) (ft:Env->M Bool) (fi1:Env->M (List D×Option Nat)) (fg1:D->Env->M Env) (ft1:Env->M Bool) (fe:Env->M D) (own vs1:List Nat):Env->M D:=fun ρ=>LQ fi fg ft fi1 fg1 ft1 fe own vs1 ρ>>=λds=>pure (.lst ds)
section
variable {F:Nm} {X:Cx} {E:XK} {pos:Pos} {tg elt iter tg1 iter1:Expr} {ifs ifs1:List Expr} {scope:Scope} {vs1 is is1:List Nat} {fi fi1:Env->M (List D×Option Nat)} {fg fg1:D->Env->M Env} {ft ft1:Env->M Bool} {fe:Env->M D}
theorem Ww (own:List (Str×Nat)) (hN:X.N.Nodup) (hi:PDi F X E tg iter fi) (B:Blk2 F X tg elt tg1 iter1 ifs ifs1 scope (own.map (·.2)) vs1 is is1 fg ft fi1 fg1 ft1 fe) (ok:blkC X.N X.env.scope scope own=true:=by decide+kernel) (hc:X.calm=true:=by rfl)
 (hs:∀x,foldedSetIterable iter X.env x=pure x:=by intro _;rfl) (hs1:∀env x,foldedSetIterable iter1 env x=pure x:=by intro _ _;rfl):
 PD F X E (.ListComp elt [⟨tg,iter,ifs,0⟩,⟨tg1,iter1,ifs1,0⟩] scope pos) (Wv fi fg ft fi1 fg1 ft1 fe (own.map (·.2)) vs1):=by
 obtain⟨wi,pi,qi⟩:=hi;have B0:Blk F X tg elt ifs scope (own.map (·.2)) is fg ft fe:=⟨B.g,B.t,B.e,B.sub⟩;have B1:Blk F X tg1 elt ifs1 scope vs1 is1 fg1 ft1 fe:=⟨B.g1,B.t1,B.e,B.sub1⟩;have pi1:∀(s:Shared) (H:Hp) (C:Addr) (cl:List (Str×Addr)) (fp:List Addr),PI (X.blk s H scope (compEnvC scope cl C X.env) fp) tg1 iter1 (qf (Gr X scope) tg1 iter1):=λs H C cl fp=>
  ⟨λpins s1 σ H1 R I h=>h _ ⟨s,H,C,cl,fp,rfl⟩ pins s1 I⟩
 have ei1:n8 X.K F DQ (qf (Gr X scope) tg1 iter1) fi1:=fun ρ m W σ H s k R h Y hY pins s1 I=>by
  obtain⟨s0,H0,C,cl,fp,rfl⟩:=hY;obtain⟨w,p,q⟩:=B.i1 s0 H0 C cl fp;exact p.run pins s1 σ H R I (q ρ m W σ H s k R h)
 refine⟨_,pe_lc2 hc hN pi (blkOk_by ok) B.in1 B0.pg B0.pt pi1 B1.pg B1.pt B0.pe hs hs1,fun ρ m W σ H s k Q h=>?_⟩;exact fW qi B0.eg B0.et ei1 B1.eg B1.et B0.ee B.sub B.sub1 ρ m W σ H s k Q ((PoR.bind0 h (Ext.refl W H)).imp λW1 H1 m1 ds e1 x1 k1 h1=>Q9 x1 k1 h1)
end
end Mir
namespace Mir
open PySem PySem.Spec PyProof.Rows L2
theorem Uw {P:Program} {w:World} {A:Around} {E:Value->Shared->Prop} {s:Shared} {a:Addr} {S:Str->Bool} {n:Nat} {x:Str} {k:Tok} {Q:Value->Shared->Prop} (R:SetS w s.heap a S n) (room:n+1<scanBound)
 (fin:∀h',Heap.SameBut a s.heap h'->SetS w h' a (λy=>S y||decide (y=x)) (if S x=true then n else n+1)->Q .none {s with heap:=h',toks:=s.toks+1}):wpAny (model P w) A (call (.builtin "set.add") [.ref a,.str x k]) Q E s:=by
 have ty:Shared.TypeIs s (.ref a) "set" :=by
  obtain⟨o,_,_,_,ho,hx,_⟩:=R;exact⟨o,ho,hx.1⟩
 refine wpAny_call_entry F.slot_set_add ty F.entry_set_add ?_ (F.args_set_add_2 _ _);unfold Builtin.«set.add» Builtin.Frozenset.oneOther;simp only[List.isEmpty_nil,bind_assoc];unfold Builtin.Frozenset.addrOf setAdd;refine wpAny_bind (wpAny_pure ?_)
 try dsimp only
 refine wpAny_bind (wpAny_pure ?_)
 try dsimp only
 refine wpAny_bind (wpAny_holding (wpAny_bind ((PySem.strKind P w).pyHash (strKind_is P w x k) ?_)));refine LN (s:={s with toks:=s.toks+1}) R room λh' sb r=>?_;exact wpAny_pure ⟨_,rfl,fin h' sb r⟩
section
variable {X:Cx}
theorem Zl {pins:List (Addr×Obj)} {σ:L2.St} {H:Hp} {s:Shared} {E:Value->Shared->Prop} {a:Addr} {S:Str->Bool} {n:Nat} {x:Str} {k:Tok} {Q:Value->Shared->Prop} (I:Inv X pins σ H s) (ha:H a=some (Ex X.w a S n)) (room:n+1<scanBound)
 (go:∀s',Inv X pins σ (upd H a (Ex X.w a (λy=>S y||decide (y=x)) (if S x=true then n else n+1))) s'->Q .none s'):wpAny (model X.prog X.w) X.A (call (.builtin "set.add") [.ref a,.str x k]) Q E s:=
 Uw (show SetS X.w s.heap a S n from(I.hok a _ ha).1) room λh' sb r=>go _ (I.write (e:=a) (t' :=s.toks+1) (by rw[ha];trivial) (.inl rfl) (λb u ne e=>(sb.2 b ne).trans e) (let ⟨o,_,_,_,ho,_⟩:=r;⟨o,ho⟩) (Px r))
end
def Wx (w:World) (J:It) (a:Addr) (g:TG) (tt:TT) (te:TE) (vs:List Nat) (σ:L2.St) (Z:Hp->Prop) (W:Nat->Nat->Hp->Prop):Prop:=∀i n H,W i n H->
 (J.stop i H∧Z H)∨(J.go i H∧∃Nx:Hp->Prop,(∀H',Nx H'->∃n',n'<n∧W (i+1) n' H')∧∀x H',J.yld i H x H'->g x (wipe σ vs) H' fun σ2 H2=>wipe σ2 vs=wipe σ vs∧tt σ2 H2 λb H3=>
  if b=true then te σ2 H3 λy H4=>∃(c:Str) (S:Str->Bool) (m:Nat),y= .str c∧H4 a=some (Ex w a S m)∧m+1<scanBound∧Nx (upd H4 a (Ex w a (λz=>S z||decide (z=c)) (if S c=true then m else m+1)))else Nx H3)
def fX (w:World) (wi:TI) (g:TG) (tt:TT) (te:TE) (vs:List Nat):TE:=fun σ H Q=>wi σ H λJ H1=>∀a,H1 a=none->∃W:Nat->Nat->Hp->Prop,(∃n,W 0 n (upd H1 a (Ex w a (λ_=>false) 0)))∧Wx w J a g tt te vs σ (Q (.ref a)) W
section
variable {Y:Cx} {elt tg iter:Expr} {ifs:List Expr} {scope:Scope} {pos:Pos} {J:It} {fp:List Addr} {it a:Addr} {tn:Nat->Heap->Prop} {g:TG} {tt:TT} {te:TE} {vs:List Nat} {σ:L2.St} {Z:Hp->Prop} {W:Nat->Nat->Hp->Prop} {R:Result->Shared->Prop}
theorem mK (calm:Y.calm=true) (quiet:Y.xe=λ_ _=>False) (T:Turn Y.prog Y.w Y.K tg J fp it tn) (pg:PG Y tg g) (pt:PTs Y ifs tt) (pe:PE Y elt te) (turns:Wx Y.w J a g tt te vs σ Z W)
 (safe:∀(σ' :L2.St) (H' :Hp) (s' :Shared),Inv Y [] σ' H' s'->(∀b∈fp,H' b=none)->∀b∈fp,FpOk Y [] H' b) (fin:∀(σ' :L2.St) (H' :Hp) (s' :Shared),Inv Y [] σ' H' s'->Z H'->R (.ok .next) s')
 {n:Nat} {H:Hp} {s:Shared} (I:Inv Y [] (wipe σ vs) H s) (t0:tn 0 s.heap) (nf:∀b∈fp,H b=none) (w0:W 0 n H):
 codeAny (model Y.prog Y.w) Y.A (.compLoop (.SetComp elt [⟨tg,iter,ifs,0⟩] scope pos) 0 (.ref it) (.ref a) Y.env) R s:=by
 refine PpSet.compLoopS_any (λn s'=>∃i H',Inv Y [] (wipe σ vs) H' s'∧tn i s'.heap∧(∀b∈fp,H' b=none)∧W i n H') (λn s1 ⟨i,H1,I1,t1,nf1,w1⟩=>?_) n ⟨0,H,I,t0,nf,w0⟩;have s1f:=safe _ _ _ I1 nf1;rcases turns i n H1 w1 with⟨stop,z⟩|⟨go,Nx,down,step⟩
 ·refine thnF (T.done Y rfl rfl rfl calm i [] s1 _ H1 (λ_ _=>False) I1 s1f t1 stop) λr s2 ⟨e,I2⟩=>?_;subst e;exact fin _ _ _ I2 z
 ·refine thnF (T.item Y rfl rfl rfl calm i [] s1 _ H1 (λ_ _=>False) I1 s1f t1 go) λr s2 ⟨u,e,h2⟩=>?_;subst e;refine thnF h2 λ_ s3 ⟨x,H3,I3,r3,y3,t3,nf3⟩=>?_;have held:=I3.pinned (safe _ _ _ I3 nf3) (T.obj _ _ t3);have pgr:=pg.run _ s3 _ H3 x u _ held r3 (step x H3 y3);rw[quiet]at pgr;refine thnF pgr λ_ s4 ⟨σ4,H4,I4,same,h4⟩=>?_;have ptr:=pt.run _ s4 σ4 H4 _ I4 h4;rw[quiet]at ptr;refine thnF ptr λb s5 ⟨H5,I5,h5⟩=>?_;have next:∀{s' :Shared} {H' :Hp},Inv Y ([]++pinsAt fp s3.heap) σ4 H' s'->Nx H'->∃n',n'<n∧∃i H',Inv Y [] (wipe σ vs) H' s'∧tn i s'.heap∧(∀b∈fp,H' b=none)∧W i n' H' :=λ{s' H'} I' nx=>by
   obtain⟨n',lt,w'⟩:=down H' nx;have stays:∀b∈fp,∀o,s3.heap.get? b=some o->s'.heap.get? b=some o∧H' b=none:=λb hb o e=>
    have z:=I'.pin (b,o) (BP _ (BP _ (mem_pinsAt hb e)))
    ⟨z.1,z.2.1⟩
   refine⟨n',lt,i+1,H',(I'.unpinned (pins:=[])).weak (by rw[←same,wipe_length]) (λj v e=>?_),T.keep _ _ _ t3 λb hb o e=>(stays b hb o e).1,λb hb=>?_,w'⟩
   ·rw[←same]at e;exact(wipe_some e).1
   ·obtain⟨o,e,_⟩:=T.obj _ _ t3 b hb;exact(stays b hb o e).2
  cases b with
  |false=>
   rw[Aq Bool.false_ne_true]at h5 ⊢;exact next I5 h5
  |true=>
   rw[An rfl]at h5 ⊢;have per:=pe.run _ s5 σ4 H5 _ I5 h5;rw[quiet]at per;refine thnF per λz s6 ⟨yv,H6,I6,r6,c,S,m,ey,ha,room,nx⟩=>?_;subst ey;obtain⟨k,rfl⟩:∃k,z=Value.str c k:=r6;exact Zl I6 ha room λs7 I7=>next I7 nx
end
section
variable {X:Cx} {elt tg iter:Expr} {ifs:List Expr} {scope:Scope} {own:List (PySem.Str×Nat)} {pos:Pos} {wi:TI} {g:TG} {tt:TT} {te:TE}
theorem fY (calm:X.calm=true) (nd:X.N.Nodup) (hi:PI X tg iter wi) (ok:BlkOk X.N X.env.scope scope own) (hg:∀(s:Shared) (H:Hp) (C:Addr) (cl:List (PySem.Str×Addr)) (fp:List Addr),PG (X.blk s H scope (compEnvC scope cl C X.env) fp) tg g)
 (ht:∀(s:Shared) (H:Hp) (C:Addr) (cl:List (PySem.Str×Addr)) (fp:List Addr),PTs (X.blk s H scope (compEnvC scope cl C X.env) fp) ifs tt) (he:∀(s:Shared) (H:Hp) (C:Addr) (cl:List (PySem.Str×Addr)) (fp:List Addr),PE (X.blk s H scope (compEnvC scope cl C X.env) fp) elt te)
 (hs:∀x,foldedSetIterable iter X.env x=pure x:=by intro _;rfl):PE X (.SetComp elt [⟨tg,iter,ifs,0⟩] scope pos) (fX X.w wi g tt te (own.map (·.2))):=by
 refine⟨λpins s σ H Q I h=>?_⟩;rw[PpSet.eval_SetComp];have caught:∀y∈scope.names,y.2= .free->∃c,X.env.cells.lookup y.1=some c:=λy hy e=>(ok.free y hy e).elim (λz=>I.ok.has _ (.inl z)) λz=>I.ok.has _ (.inr z);refine wpAny_comprehension_free rfl hs (closure_ok caught) ok.kind (λy hy e=>by rw[ok.uniq y hy,e]) (thn (hi.run pins s σ H _ I h) λxv s1 h1=>thn h1 λitv s2 h2=>?_);obtain⟨it,fp,tn,J,H2,rfl,I2,T,t2,f2,q⟩:=h2;refine PpSet.newSet_ok (newEnv_comp ?_);have fresh:H2 s2.heap.objs.size=none:=I2.hok.fresh (Ai _);obtain⟨W,⟨n,w0⟩,turns⟩:=q s2.heap.objs.size fresh;generalize hS3:({s2 with heap:=s2.heap.push (EL X.w)}:Shared)=s3;generalize hH3:upd H2 s2.heap.objs.size (Ex X.w s2.heap.objs.size (λ_=>false) 0)=H3 at w0;have e3:s3.heap=s2.heap.push (EL X.w):=by rw[←hS3]
 have I3:Inv X pins σ H3 s3:=by
  rw[←hS3,←hH3];exact I2.laid (t' :=s2.toks) (λb o e=>Heap.get?_push_of_some _ e) (Ai _) (Px (I8 (Heap.get?_push_size _ rfl)))
 have lt:∀b∈fp,b<s2.heap.objs.size:=λb hb=>by
  obtain⟨o,e,_⟩:=T.obj _ _ t2 b hb;exact Heap.lt_size e
 have f3:∀b∈fp,FpOk X pins H3 b∧b<s3.heap.objs.size:=λb hb=>by
  refine⟨⟨?_,(f2 b hb).2⟩,by rw[e3,Heap.size_push];exact BV (lt b hb)⟩;rw[←hH3,upd_ne (A1 (lt b hb))];exact(f2 b hb).1
 have t4:tn 0 (pushCells (s3.heap.push {cls:= .type "dict",data:= .dict #[]}) scope.names):=T.keep _ _ _ t2 λb _ o e=>pushCells_keeps _ _ _ _ (Heap.get?_push_of_some _ (by rw[e3];exact Heap.get?_push_of_some _ e));have I4:=block_start I3 ok nd f3;show codeAny _ _ (.compStart (.SetComp elt [⟨tg,iter,ifs,0⟩] scope pos) 0 (.ref it) (.ref s2.heap.objs.size) (compEnvC scope (cellsFrom (s3.heap.objs.size+1) scope.names (cloFrom X.env.cells scope.names [])) s3.heap.objs.size X.env)) (compPost (model X.prog X.w) X.A X.xe none (EP X pins σ Q) (.ref s2.heap.objs.size) s3.heap.objs.size) {s3 with heap:=pushCells (s3.heap.push {cls:= .type "dict",data:= .dict #[]}) scope.names};have pg:=hg s3 H3 s3.heap.objs.size (cellsFrom (s3.heap.objs.size+1) scope.names (cloFrom X.env.cells scope.names [])) fp;have pt:=ht s3 H3 s3.heap.objs.size (cellsFrom (s3.heap.objs.size+1) scope.names (cloFrom X.env.cells scope.names [])) fp;have pe:=he s3 H3 s3.heap.objs.size (cellsFrom (s3.heap.objs.size+1) scope.names (cloFrom X.env.cells scope.names [])) fp;have at_:(compEnvC scope (cellsFrom (s3.heap.objs.size+1) scope.names (cloFrom X.env.cells scope.names [])) s3.heap.objs.size X.env).locals=s3.heap.objs.size:=rfl;generalize hce:compEnvC scope (cellsFrom (s3.heap.objs.size+1) scope.names (cloFrom X.env.cells scope.names [])) s3.heap.objs.size X.env=ce at I4 pg pt pe at_ ⊢;generalize hs4:({s3 with heap:=pushCells (s3.heap.push {cls:= .type "dict",data:= .dict #[]}) scope.names}:Shared)=s4 at I4 ⊢;have t4:tn 0 s4.heap:=by rw[←hs4];exact t4
 have go:=mK (Y:=X.blk s3 H3 scope ce fp) (iter:=iter) (scope:=scope) (pos:=pos) (R:=compPost (model X.prog X.w) X.A X.xe none (EP X pins σ Q) (.ref s2.heap.objs.size) s3.heap.objs.size) calm rfl T pg pt pe turns
  (fun σ' H' s' I' nf b hb=>⟨nf b hb,(I'.ok.exf b hb).1,I'.ok.exfs b hb,.inl hb,λx c e=>(I'.ok.exf b hb).2 x c e,λp hp=>absurd (show p∈([]:List (Addr×Obj))++[]from hp) AD⟩)
  (fun σ' H' s' I' z=>by
   have I7:Inv X pins σ H' s' :=I3.call' (ch:=fp) I'.os I'.base I'.hok I'.bare λb hb=>⟨(f3 b hb).1.2.2.2.1,(f3 b hb).1.2.1,(f3 b hb).1.2.2.2.2.1,(f3 b hb).1.2.2.2.2.2⟩;have nC:H' s3.heap.objs.size=none:=by
    have q:=I'.free;have q:H' ce.locals=none:=q;rw[at_]at q;exact q
   obtain⟨m,ns,_⟩:=I'.loc;have ns:s'.heap.Ns ce.locals m:=ns;rw[at_]at ns;obtain⟨f0,f1,f2,f3,f4,f5⟩:=I3.fpOk (H' :=H') (Ai _) nC;exact⟨m,ns,λh'' sb=>⟨.ref s2.heap.objs.size,H',I7.turned (t' :=s'.toks) (λb o hb e=>(sb.2 b hb).trans e) f0 f1 f3 f4 f5,rfl,z⟩⟩)
  I4 t4 (λb hb=>(f3 b hb).1.1) w0
 exact PpSet.codeAny_compStart_set go (T.self X.A 0 _ _ _ t4 go)
end
end Mir
namespace Mir
open PySem L2
theorem FY {w:World} {a:Addr} {S:Str->Bool} {n:Nat}:¬Sd (Ex w a S n):=λz=>by
 rcases z with⟨c,q,z⟩|⟨ps,z⟩|⟨ps,z⟩
 ·unfold Ex LamX.CodeO at z;have z:=HO.ext.inj z;have z:=(congrFun z ⟨Array.replicate (c+1) ⟨.none,none,.fields #[.none,.str q default],#[]⟩,{}⟩).mpr ⟨⟨.none,none,.fields #[.none,.str q default],#[]⟩,#[.none,.str q default],default,by
   unfold Heap.get?;show(match (Array.replicate (c+1) (⟨.none,none,.fields #[.none,.str q default],#[]⟩:Obj))[c]? with
    |some ⟨_,_,.freed,_⟩=>none
    |o=>o)=_
   rw[CV,An (Bj c)],rfl,rfl⟩
  obtain⟨o,es,ep,t,ho,_,hd,_⟩:=z;unfold Heap.get? at ho;have ho:(match (Array.replicate (c+1) (⟨.none,none,.fields #[.none,.str q default],#[]⟩:Obj))[a]? with
   |some ⟨_,_,.freed,_⟩=>none
   |o=>o)=some o:=ho
  rw[CV]at ho;by_cases lt:a<c+1
  ·rw[An lt]at ho
   cases ho
   cases hd
  ·rw[Aq lt]at ho
   cases ho
 ·unfold Ex at z
  cases z
 ·unfold Ex at z
  cases z
def D.txt:D->M Str
 | .str x=>pure x
 |_=>M.bad
def OE (fg:D->Env->M Env) (ft:Env->M Bool) (fe:Env->M D) (ρ:Env):List D->List Str->M (List Str)
 |[],acc=>pure acc
 |d::ds,acc=>fg d ρ>>=fun ρ1=>ft ρ1>>=λt=>if t=true then fe ρ1>>=λy=>D.txt y>>=λx=>M.guard (decide (acc.length+1<4096))>>=λ_=>OE fg ft fe ρ ds (acc++[x])else OE fg ft fe ρ ds acc
def TM (fi:Env->M (List D×Option Nat)) (fg:D->Env->M Env) (ft:Env->M Bool) (fe:Env->M D) (own:List Nat) (ρ:Env):M (List Str):=
 fi ρ>>=λp=>M.guard (p.2==none)>>=λ_=>M.noexc (OE fg ft fe (DB ρ own) p.1 [])
theorem mL {K:PySem.W.Frag} {F:Nm} {E:XK} {w:World} {wi:TI} {g:TG} {tt:TT} {te:TE} {own is:List Nat} {fi:Env->M (List D×Option Nat)} {fg:D->Env->M Env} {ft:Env->M Bool} {fe:Env->M D}
 (hi:n8 K F E wi fi) (hg:e8 K F DQ is g fg) (ht:Y4 K F DQ tt ft) (he:Ky K F DQ te fe) (hs:∀i,i∈is->i∈own) (ρ:Env) (m:Mu) (W:Wd) (σ:L2.St) (H:Hp) (s:Sl K F W ρ σ) (k:Ok K F W m H) (Q:VK)
 (h:PoR K F ((TM fi fg ft fe own ρ).run m) W H (λW' H' m' xs=>∀a S n,Ext W H W' H'->Ok K F W' m' H'->H' a=some (Ex w a S n)->(∀x,S x=true↔x∈xs)->n≤xs.length->Q (.ref a) H') E):
 fX w wi g tt te own σ H Q:=by
 refine hi ρ m W σ H s k _ ((PoR.bind0 h (Ext.refl W H)).imp λW1 H1 m1 pr e1 x1 k1 h1 J hJ=>?_);obtain⟨ds,o⟩:=pr;obtain⟨g0,h1⟩:=gd (A:=List Str) h1;have ho:o=none:=by simpa using g0
 subst ho;have h1:=PoR.noexc (E' :=DQ) h1;intro a ha;have s1:=Ii (s.mono x1) own;generalize hQQ:(λW' H' m' (xs:List Str)=>∀a S n,Ext W H W' H'->Ok K F W' m' H'->H' a=some (Ex w a S n)->(∀x,S x=true↔x∈xs)->n≤xs.length->Q (.ref a) H' :Wd->Hp->Mu->List Str->Prop)=QQ at h1;refine⟨λi n H'=>n=ds.length - i∧i≤ds.length∧∃W' m' acc S c,Ext W1 H1 W' H'∧Ok K F W' m' H'∧H' a=some (Ex w a S c)∧a∉W'.al∧W'.G a=none∧(∀x,S x=true↔x∈acc)∧c≤acc.length∧PoR K F ((OE fg ft fe (DB ρ own) (ds.drop i) acc).run m') W H QQ DQ,
  ⟨ds.length,rfl,BM _,W1,m1,[],λ_=>false,0,cE (Ext.refl _ _) ha,E9 k1 (k1.fresh ha) (k1.gnone ha) (λu e=>by rw[ha]at e;cases e),upd_same,k1.fresh ha,k1.gnone ha,λx=>by simp,Ai _,h1⟩,?_⟩
 rintro i n H2 ⟨rfl,hi2,W2,m2,acc,S,c,x2,k2,a1,a2,a3,mem,cnt,h2⟩;have xx:Ext W H W2 H2:=x1.trans x2;obtain⟨items,stop⟩:=hJ W2 m2 H2 x2.wx k2 trivial;by_cases hlt:i<ds.length
 case neg=>
  have e:i=ds.length:=by omega
  subst e;rw[Bh]at h2;refine .inl ⟨stop,?_⟩;have z:=h2 W2 H2 xx k2;rw[←hQQ]at z;exact z a S c xx k2 a1 mem cnt
 obtain⟨go,yl⟩:=items i ds[i] (Aj hlt);refine .inr ⟨go,λH'=>∃W' m' acc S c,Ext W1 H1 W' H'∧Ok K F W' m' H'∧H' a=some (Ex w a S c)∧a∉W'.al∧W'.G a=none∧(∀x,S x=true↔x∈acc)∧c≤acc.length∧PoR K F ((OE fg ft fe (DB ρ own) (ds.drop (i+1)) acc).run m') W H QQ DQ,
  λH' z=>⟨ds.length - (i+1),AA,rfl,hlt,z⟩,λx H3 hy=>?_⟩
 obtain⟨W3,x3,k3,r3⟩:=yl x H3 hy;rw[BK hlt]at h2;have xt:Ext W H W3 H3:=xx.trans x3;obtain⟨a1,a2,a3⟩:=Qz x3 a1 a2 a3 FY;refine hg ds[i] (DB ρ own) m2 W3 (wipe σ own) H3 x (s1.mono (x2.trans x3)) k3 r3 _ ((PoR.bind0 h2 xt).imp λW4 H4 m4 ρ4 e4 x4 k4 h4 σ4 s4 o4=>⟨Jp (o4 own hs),?_⟩);obtain⟨a1,a2,a3⟩:=Qz x4 a1 a2 a3 FY;refine ht ρ4 m4 W4 σ4 H4 s4 k4 _ ((PoR.bind0 h4 (xt.trans x4)).imp λW5 H5 m5 t e5 x5 k5 h5=>?_);obtain⟨a1,a2,a3⟩:=Qz x5 a1 a2 a3 FY;have xb:Ext W1 H1 W5 H5:=x2.trans (x3.trans (x4.trans x5))
 cases t with
 |false=>exact⟨W5,m5,acc,S,c,xb,k5,a1,a2,a3,mem,cnt,h5⟩
 |true=>
  refine he ρ4 m5 W5 σ4 H5 (s4.mono x5) k5 _ ((PoR.bind0 h5 ((xt.trans x4).trans x5)).imp λW6 H6 m6 y e6 x6 k6 h6 v6 r6=>?_);obtain⟨a1,a2,a3⟩:=Qz x6 a1 a2 a3 FY
  cases y with
  |str z=>
   have h6:PoR K F ((M.guard (decide (acc.length+1<4096))>>=λ_=>OE fg ft fe (DB ρ own) (ds.drop (i+1)) (acc++[z])).run m6) W H QQ DQ:=h6;obtain⟨g6,h6⟩:=gd (A:=List Str) h6;have g6:=AN g6
   cases r6
   refine⟨z,S,c,rfl,a1,(show c+1<4096 by omega),W6,m6,acc++[z],_,_,cE (xb.trans x6) ha,E9 k6 a2 a3 (λu e=>by rw[a1]at e;cases e;exact FY),upd_same,a2,a3,λx=>?_,?_,h6⟩
   ·rw[BJ,mem x,Ay,Ap,AR]
   ·rw[AH,AX];split<;>omega
  |_=>exact h6.elim
def OF (fi:Env->M (List D×Option Nat)) (fg:D->Env->M Env) (ft:Env->M Bool) (fe:Env->M D) (own:List Nat):Env->M D:=fun ρ=>TM fi fg ft fe own ρ>>=λxs=>pure (.lst ((dS xs).map .str))
section
variable {F:Nm} {X:Cx} {E:XK} {pos:Pos} {tg elt iter:Expr} {ifs:List Expr} {scope:Scope} {is:List Nat} {fi:Env->M (List D×Option Nat)} {fg:D->Env->M Env} {ft:Env->M Bool} {fe:Env->M D}
theorem Wy {p q:Pos} (hm:X.mg "sorted"=none) (own:List (Str×Nat)) (hN:X.N.Nodup) (hi:PDi F X E tg iter fi) (B:Blk F X tg elt ifs scope (own.map (·.2)) is fg ft fe) (ok:blkC X.N X.env.scope scope own=true:=by decide+kernel) (hc:X.calm=true:=by rfl)
 (hs:∀x,foldedSetIterable iter X.env x=pure x:=by intro _;rfl) (hg:Gl X "sorted" :=by rfl)
 (he2:starEach [.SetComp elt [⟨tg,iter,ifs,0⟩] scope q] X.env=(false,eval (.SetComp elt [⟨tg,iter,ifs,0⟩] scope q) X.env)::starEach [] X.env:=by rfl) (hpl2:(backTo pos (starEach [] X.env)).any (·.1)=false:=by rfl):
 PD F X E (.Call (.Name "sorted" p) [.SetComp elt [⟨tg,iter,ifs,0⟩] scope q] [] pos) (OF fi fg ft fe (own.map (·.2))):=by
 obtain⟨wi,pi,qi⟩:=hi;have inner:=fY (pos:=q) hc hN pi (blkOk_by ok) B.pg B.pt B.pe hs;refine⟨_,pe_callB (RQ hc) hg hm AC (pa_cons inner pa_nil he2) AB AB he2 hpl2,fun ρ m W σ H s k Q h=>?_⟩;show fX X.w wi (oh (Gr X scope) tg) (og (Gr X scope) ifs) (oZ (Gr X scope) elt) (own.map (·.2)) σ H (λv H1=>Py X.w [v] H1 Q);refine mL qi B.eg B.et B.ee B.sub ρ m W σ H s k _ ((PoR.bind0 h (Ext.refl W H)).imp λW1 H1 m1 xs e1 _ _ h1 a S n x1 k1 a1 mem cnt=>?_);refine⟨a,S,n,rfl,a1,λys p so nd my len hp=>?_⟩;have ey:ys=dS xs:=Wt so nd λx=>(my x).trans (mem x);subst ey;exact DY k1 (PoR.mono x1 h1) hp (EJ k1 hp (G1 _))
end
end Mir
namespace Mir
open PySem L2
open NdefX (NF NTab TabsN TabN)
open LamX (TabB LawAtS)
structure FunC (K:PySem.W.Frag) (x qual:Str) (st:Stmt) (f:Addr) (fd:FuncData) (c:Addr):Prop where
 ex:∃(oc:Value) (od:Option Addr) (kV doc pm:Value) (an:Option Addr) (ct:Value) (osl:Array (Option Value)),
  fd=PySem.W.fnOf x qual (defArgs st) (defBody st) (defScope st) .none kV doc pm an (.ref c) ct∧K.lookup f=some ⟨oc,od,.func fd,osl⟩∧PySem.W.codeIn K (.ref c) qual=true
 kp:PySem.W.keepIn K (.ref f)=true
section
variable {P:Program} {w:World} {K:PySem.W.Frag} {mg:Str->Option Value} {base:Heap} {F:Nm}
theorem FunC.to {x qual:Str} {st:Stmt} {f:Addr} {fd:FuncData} {c:Addr} (FF:FunC K x qual st f fd c):Fun K x qual st f fd:=by
 obtain⟨oc,od,kV,doc,pm,an,ct,osl,e,lk,cd⟩:=FF.ex;exact⟨⟨oc,od,kV,doc,pm,an,_,ct,osl,e,lk,cd⟩,FF.kp⟩
end
end Mir
namespace Mir
open PySem L2
open Classical in
def M.same (o:Option Nat) (ds:List D):M Unit:=⟨λm=>if Ml o ds m then .ok () m else .bad⟩
end Mir
namespace Mir
open PySem L2
open NdefX (NF FnO CellsAt ncx startF NScope NOk envF TabsN TabN NTab among_app2)
open LamX
end Mir
namespace Mir
open PySem
end Mir
namespace L2
open PySem PySem.Spec PyProof.Rows
section
variable {X:Cx}
def mM (t:TA):TE:=fun σ H Q=>t σ H λxs H1=>xs.length≤sizeLine∧∀(p:Addr) (o:Obj),H1 p=none->o.cls= .type "tuple"->o.dict=none->Q (.ref p) (upd H1 p (.frz o (.tup xs)))
theorem Zm {es:List Expr} {t:TA} {x1} {pos:Pos} (h:PA X es t):PE X (.Tuple es x1 pos) (mM t):=by
 refine⟨λpins s σ H Q I hq=>?_⟩;refine wpAny_Tuple_spliced (thn (h.run pos pins s σ H _ I hq) λus s1 ⟨xs,H1,I1,r,z,q⟩=>⟨by rw[←r.length];exact z,?_⟩);have new:H1 s1.heap.objs.size=none:=I1.hok.fresh (Ai _);refine⟨.ref s1.heap.objs.size,_,I1.laid (t' :=s1.toks) (o:= .frz {cls:= .type "tuple",data:= .seq us.toArray} (.tup xs)) (λb u e=>Heap.get?_push_of_some _ e) (Ai _) ?_,rfl,q _ {cls:= .type "tuple",data:= .seq us.toArray} new rfl rfl⟩;exact⟨Heap.get?_push_size _ rfl,z,us,r,⟨_,Heap.get?_push_size _ rfl,rfl,_,rfl⟩⟩
theorem Pz:CallR X (.type "tuple") (λxs H Q=>∃p ys,xs=[.ref p]∧SqL X.K H p ys∧∀(l:Addr) (o:Obj),H l=none->o.cls= .type "tuple"->o.dict=none->Q (.ref l) (upd H l (.frz o (.tup ys)))):=by
 intro pins s σ H xs us Q I r h;obtain⟨p,ys,rfl,hq,q⟩:=h;obtain⟨u,rfl,rx⟩:=vals1 r
 cases rx
 obtain⟨its,r',pl,hz⟩:=I.list hq;have many:=r'.length;refine call_tuple_list pl.isList (λh' kp=>?_) (by simp only[A7]<;>omega);have J:Inv X pins σ H {s with heap:=h'}:=I.kept (t' :=s.toks) kp;refine⟨.ref h'.objs.size,_,J.laid (t' :=s.toks) (o:= .frz {cls:= .type "tuple",data:= .seq its.toArray} (.tup ys)) (λb o e=>Heap.get?_push_of_some _ e) (Ai _) ?_,rfl,q _ {cls:= .type "tuple",data:= .seq its.toArray} (J.hok.fresh (Ai _)) rfl rfl⟩;exact⟨Heap.get?_push_size _ rfl,hz,its,r',⟨_,Heap.get?_push_size _ rfl,rfl,_,rfl⟩⟩
end
end L2
namespace Mir
open PySem L2
section
variable {F:Nm} {X:Cx} {E:XK} {pos p:Pos} {e:Expr} {es:List Expr} {fs:Env->M (List D)}
def TN (f:Env->M (List D)):Env->M D:=fun ρ=>f ρ>>=λxs=>M.guard (decide (xs.length≤sizeLine))>>=λ_=>pure (.tpx xs)
theorem RS {K:PySem.W.Frag} {W:Wd} {H:Hp} {m:Mu} {p:Addr} {o:Obj} {vs:List V} {ds:List D} (k:Ok K F W m H) (h:H p=none) (h1:o.cls= .type "tuple") (h2:o.dict=none) (r:Rps K F W vs ds):Rp K F (W.new p (.frz o (.tup vs))) (.ref p) (.tpx ds):=by
 refine .tpx (o:=o) upd_same h1 h2 (r.mono' ⟨[],by simp[Wd.new]⟩ λa u e=>?_);exact(upd_ne (ne_of_none e (k.gnone h))).trans e
theorem Wz {x1} (h:PDa F X E es fs):PD F X E (.Tuple es x1 pos) (TN fs):=by
 obtain⟨t,pa,qa⟩:=h;refine⟨_,Zm pa,fun ρ m W σ H s k Q h=>?_⟩;refine qa ρ m W σ H s k _ ((PoR.bind h).imp λW1 H1 m1 ds e1 x1 k1 h1 vs r1=>?_);obtain⟨g,h1⟩:=gd (A:=D) h1;exact⟨by rw[r1.length];exact AN g,λp o hp hc hd=>DY k1 h1 hp (RS k1 hp hc hd r1)⟩
def D.tupleX (x:D):M D:=x.now>>=λx=>match x with
 | .lst ds=>pure (.tpx ds)
 |_=>M.bad
theorem Ux {K:PySem.W.Frag}:MT K F E (λxs H Q=>∃p ys,xs=[.ref p]∧SqL K H p ys∧∀(l:Addr) (o:Obj),H l=none->o.cls= .type "tuple"->o.dict=none->Q (.ref l) (upd H l (.frz o (.tup ys)))) (d1 D.tupleX):=λvs ds m W H Q r k h=>by
 match ds,vs,r with
 |[d],[v],.cons r1 .nil=>
  have h:DP K F ((D.tupleX d).run m) W H Q E:=h;unfold D.tupleX at h;obtain⟨d',r2,h⟩:=Df k r1 h
  cases d' with
  |lst ds=>
   obtain⟨p,vs,rfl,h1,r3⟩:=r2;exact⟨p,vs,rfl,.inl (.inl h1),λl o hl hc hd=>DY k h hl (RS k hl hc hd r3)⟩
  |_=>exact h.elim
 |[],_,_=>exact h.elim
 |_::_::_,_,_=>exact h.elim
theorem XA:Bif F X E "tuple" (d1 D.tupleX):=⟨_,.inr ⟨_,Pz,AC⟩,Ux⟩
end
end Mir
namespace Mir
open PySem L2
def mN (K:PySem.W.Frag) (F:Nm) (W:Wd) (H:Hp) (J:It) (ds:List D) (S:Mu->Prop):Prop:=
 ∀W' m' H',WX W W'->Ok K F W' m' H'->S m'->
  (∀i d,ds[i]? =some d->J.go i H'∧∀x H'',J.yld i H' x H''->∃W'',Ext W' H' W'' H''∧Ok K F W'' m' H''∧Rp K F W'' x d)∧J.stop ds.length H'
def pJ (K:PySem.W.Frag) (F:Nm) (E:XK) (wi:TI) (f:Env->M (List D×(Mu->Prop))):Prop:=∀ρ m W σ H,Sl K F W ρ σ->Ok K F W m H->∀R:It->Hp->Prop,PoR K F ((f ρ).run m) W H (λW' H' _ p=>∀J,mN K F W' H' J p.1 p.2->R J H') E->wi σ H R
structure PDiS (F:Nm) (X:Cx) (E:XK) (tg iter:Expr) (f:Env->M (List D×(Mu->Prop))):Prop where
 ex:∃wi,PI X tg iter wi∧pJ X.K F E wi f
def LsS (K:PySem.W.Frag) (F:Nm) (W:Wd) (p:Addr) (ds:List D) (S:Mu->Prop):Prop:=∀W' m' H',WX W W'->Ok K F W' m' H'->S m'->∃vs,SqL K H' p vs∧Rps K F W' vs ds
theorem LsS.wx {K:PySem.W.Frag} {F:Nm} {W W2:Wd} {p:Addr} {ds:List D} {S:Mu->Prop} (h:LsS K F W p ds S) (x:WX W W2):LsS K F W2 p ds S:=λW' m' H' y=>h W' m' H' (x.trans y)
open Classical in
def M.hold (S:Mu->Prop):M Unit:=⟨λm=>if S m then .ok () m else .bad⟩
end Mir
namespace L2
open PySem PySem.Spec PyProof.Rows
set_option maxHeartbeats 1000000 in
theorem O7 {v:Value} {o:Obj} {H:Heap->Prop} (B:Begins v o H):
 Meets (Builtin.«enumerate.__new__» ⟨[.type "enumerate",v],[]⟩) (λ_ R s=>H s.heap∧
  R (.ok (.ret (.ref (s.heap.push o).objs.size))) {s with heap:=(s.heap.push o).push {cls:= .type "enumerate",data:= .fields #[.none,.bool false,.ref s.heap.objs.size,rawInt 0,.none,.none]}}):=
 .of_wp λprog w A R s h=>by
  obtain⟨hp,g,d,tk,os⟩:=s;obtain⟨h1,h⟩:=h;have hsub:=sub_enumerate;have q1:∀{A' :Around} {E:Value->Shared->Prop} {Q:Value->Shared->Prop},Q (.ref hp.objs.size) ⟨hp.push o,g,d,tk,os⟩->wpAny (model prog w) A' (pyIter v) Q E ⟨hp,g,d,tk,os⟩:=
   λq=>B.iter prog w _ _ ⟨hp,g,d,tk,os⟩ _ h1 q
  wp_walk using q1
  refine wpAny_stack_any λst=>wpAny_pure ?_;split
  ·rename_i c _ _ _ _ _
   cases (c==Value.type "enumerate")
   ·wp_walk using q1
    exact⟨_,rfl,h⟩
   ·wp_walk using q1
    exact⟨_,rfl,h⟩
  ·wp_walk using q1
   exact⟨_,rfl,h⟩
end L2
namespace Mir
open PySem L2
end Mir
namespace L2
open PySem PySem.Spec PyProof.Rows PySem.W
end L2
namespace Mir
open PySem L2
open PySem.W (dataLe AllAlike alike)
def D.pyE (d:D):PyData:=d.py.getD .none
end Mir
namespace Mir
open PySem L2
section
variable {F:Nm} {X:Cx} {E:XK} {pos p apos:Pos} {a b c e o:Expr} {fa fb fc fo fi:Env->M D}
theorem fZ:PD F X E (.Dict [] [] pos) (M3 []):=by
 refine⟨_,pe_dnewK,fun ρ m W σ H s k Q h=>λp hp=>?_⟩;have x:Ext W H (W.more p) (upd H p (.dK [])):=Ext.more hp;refine h (W.more p) _ x (k.more hp ⟨[],upd_same,rfl,.nil⟩) _ (.hnd ?_);show(W.al++[p])[m.length]? =some p;rw[←k.len];simp
def M.ixK (k:Nat) (z:Key):M D:=⟨λm=>match m[k]? with
 |some (.dic ds)=>(M.opt (Ee ds z)).run m
 |some (.fdc ds)=>(M.opt (Ee ds z)).run m
 |_=> .bad⟩
theorem I9 {K:PySem.W.Frag} {W:Wd} {k:Key}:∀{us:List (Key×V)} {ds:List (Key×D)},us.map (·.1)=ds.map (·.1)->Rps K F W (us.map (·.2)) (ds.map (·.2))->∀{d},Ee ds k=some d->∃v,valV us k=some v∧Rp K F W v d
 |[],[],_,_,_,h=>by cases h
 |[],_::_,h,_,_,_=>by cases h
 |_::_,[],h,_,_,_=>by cases h
 |(a,u)::us,(b,d)::ds,h,.cons r rs,d',hd=>by
  rw[AO,AO]at h;obtain⟨h1,h2⟩:=List.cons.inj h;have h1:a=b:=h1;subst h1;by_cases c:a=k
  ·unfold Ee at hd;rw[B5 (by exact AK c)]at hd
   cases hd
   exact⟨u,valV_pos c,r⟩
  ·rw[valV_neg c];unfold Ee at hd;rw[B7 (by simpa using c)]at hd;exact I9 h2 rs hd
def MX (fo fi:Env->M D):Env->M D:=fun ρ=>fo ρ>>=D.ref>>=λk=>fi ρ>>=D.key>>=λz=>M.ixK k z
theorem TQ (hu:X.A.units+65<cLine) (ho:PD F X E o fo) (hi:PD F X E e fi) (hs:NoSl e:=by intro _ _;rfl):PD F X E (.Subscript o e pos) (MX fo fi):=by
 obtain⟨to,po,qo⟩:=ho;obtain⟨ti,pi,qi⟩:=hi;refine⟨_,pe_dget AA po pi hs,fun ρ mu W σ H s k Q h=>?_⟩;unfold MX at h;rw[D5]at h;refine qo ρ mu W σ H s k _ ((PoR.bind h).imp λW1 H1 m1 d e1 x1 k1 h1 v r1=>?_)
 cases r1 with
 |@hnd pp i hp=>
  have h1:DP X.K F ((fi ρ>>=D.key>>=λz=>M.ixK i z).run m1) W1 H1 Q E:=h1;rw[D5]at h1;refine qi ρ m1 W1 σ H1 (s.mono x1) k1 _ ((PoR.bind h1).imp λW2 H2 m2 d2 e2 x2 k2 h2 v2 r2=>?_);have hp2:W2.al[i]? =some pp:=by
   obtain⟨r,q⟩:=x2.al;rw[q,AV (AS.mp hp).1];exact hp
  have key:∀z:Key,v2=kV z->DP X.K F ((M.ixK i z).run m2) W2 H2 Q E->∃a v,V.ref pp= .ref a∧DGet H2 a v2 (some v)∧Q v H2:=λz ez h2=>by
   subst ez
   cases e4:m2[i]? with
   |none=>simp only[M.ixK,e4]at h2;exact h2.elim
   |some o=>
    cases o with
    |lst _=>simp only[M.ixK,e4]at h2;exact h2.elim
    |ins _ _=>simp only[M.ixK,e4]at h2;exact h2.elim
    |dtp _=>simp only[M.ixK,e4]at h2;exact h2.elim
    |dead=>simp only[M.ixK,e4]at h2;exact h2.elim
    |dic es=>
     simp only[M.ixK,e4]at h2;obtain⟨ws,hW,hkw,rw'⟩:=k2.ob i pp _ hp2 e4
     cases e5:Ee es z with
     |none=>rw[e5]at h2;exact h2.elim
     |some d5=>
      rw[e5]at h2;obtain⟨v5,e6,r5⟩:=I9 hkw rw' e5;exact⟨pp,v5,rfl,.inl ⟨ws,z,.inl hW,rfl,e6.symm⟩,PoR.ok k2 h2 _ r5⟩
    |fdc es=>
     simp only[M.ixK,e4]at h2;obtain⟨ws,ob,hW,_,hkw,rw'⟩:=k2.ob i pp _ hp2 e4
     cases e5:Ee es z with
     |none=>rw[e5]at h2;exact h2.elim
     |some d5=>
      rw[e5]at h2;obtain⟨v5,e6,r5⟩:=I9 hkw rw' e5;exact⟨pp,v5,rfl,.inl ⟨ws,z,.inr ⟨ob,hW⟩,rfl,e6.symm⟩,PoR.ok k2 h2 _ r5⟩
  cases r2 with
  |str z=>exact key (.inr z) rfl h2
  |int z=>exact key (.inl z) rfl h2
  |_=>exact h2.elim
 |_=>exact h1.elim
end
section
variable {K:PySem.W.Frag} {F:Nm} {W:Wd} {d:Addr} {ob:Obj} {us:List (Key×V)}
def Wd.lift (W:Wd) (d:Addr):Wd:=⟨W.al,del W.G d⟩
theorem Uy {G:Hp} {a:Addr} {u:HO} (hd:G d=some (.frz ob (.dK us))) (h:G a=some u) (n:u≠ .frz ob (.dK us)):del G d a=some u:=by
 rw[del_ne (λz=>n (by rw[z,hd]at h;exact(Option.some.inj h).symm))];exact h
theorem Zo {xs:List V} {a:Addr} {G:Hp} (hd:G d=some (.frz ob (.dK us))) (h:SqL K G a xs):SqL K (del G d) a xs:=by
 rcases h with(h|⟨o,h⟩)|h
 ·exact .inl (.inl (Uy hd h nofun))
 ·exact .inl (.inr ⟨o,Uy hd h nofun⟩)
 ·exact .inr h
theorem Zp {xs:List V} {a:Addr} {G:Hp} (hd:G d=some (.frz ob (.dK us))) (h:SqT K G a xs):SqT K (del G d) a xs:=by
 rcases h with(h|⟨o,h⟩)|h
 ·exact .inl (.inl (Uy hd h nofun))
 ·exact .inl (.inr ⟨o,Uy hd h nofun⟩)
 ·exact .inr h
mutual
theorem Rp.del (hd:W.G d=some (.frz ob (.dK us))):∀{v:V} {x:D},Rp K F W v x->Rp K F (W.lift d) v x
 |_,_,.non=> .non
 |_,_,.bl b=> .bl b
 |_,_,.int i=> .int i
 |_,_,.str x=> .str x
 |_,_,.lst h r=> .lst (Uy hd h nofun) (Rps.del hd r)
 |_,_,.frz h r=> .frz (Zo hd h) (Rps.del hd r)
 |_,_,.tup h r=> .tup (Zp hd h) (Rps.del hd r)
 |_,_,.hnd h=> .hnd h
 |_,_,.nam h=> .nam h
 |_,_,.clo h1 h2 h3 h3c h4 h5 h6 r=> .clo h1 h2 (Uy hd h3 (by unfold lI;nofun)) (Uy hd h3c (by unfold LamX.CodeO;nofun)) (Uy hd h4 (by unfold Vr;nofun)) h5 h6 (Rp.del hd r)
 |_,_,.clo0 h1 h2 h3 h3c=> .clo0 h1 h2 (Uy hd h3 (by unfold lI;nofun)) (Uy hd h3c (by unfold LamX.CodeO;nofun))
 |_,_,.dct h1 h2 r=> .dct (Uy hd h1 nofun) h2 (Rps.del hd r)
 |_,_,.tpx h1 h2 h3 r=> .tpx (Uy hd h1 nofun) h2 h3 (Rps.del hd r)
 |_,_,.ktp h1=> .ktp (Uy hd h1 nofun)
theorem Rps.del (hd:W.G d=some (.frz ob (.dK us))):∀{vs:List V} {xs:List D},Rps K F W vs xs->Rps K F (W.lift d) vs xs
 |_,_,.nil=> .nil
 |_,_,.cons h r=> .cons (Rp.del hd h) (Rps.del hd r)
end
theorem Sl.del {ρ:Env} {σ:L2.St} (hd:W.G d=some (.frz ob (.dK us))) (h:Sl K F W ρ σ):Sl K F (W.lift d) ρ σ:=⟨h.len,λi x e=>by
 obtain⟨v,e1,r⟩:=h.get i x e;exact⟨v,e1,r.del hd⟩⟩
end
theorem Zq {F:Nm} {X:Cx} {E:XK} {st:Stmt}:PDs F X E st (λ_=>M.bad):=⟨_,(⟨λ_ _ _ _ _ _ h=>h.elim⟩:PS X st λ_ _ _=>False),λ_ _ _ _ _ _ _ _ h=>h.elim⟩
def II:Env->M Fl:=λ_=>M.bad
theorem M6 {F:Nm} {X:Cx} {E:XK} {st:Stmt}:PDs F X E st II:=Zq
def pick {A:Type} (pi:List Nat) (l:List A):List A:=pi.filterMap (l[·]?)
theorem JA {K:PySem.W.Frag} {F:Nm} {W:Wd} {vs:List V} {ds:List D} (r:Rps K F W vs ds):∀pi:List Nat,Rps K F W (pick pi vs) (pick pi ds)
 |[]=> .nil
 |i::pi=>by
  unfold pick
  cases e:ds[i]? with
  |none=>
   have e2:vs[i]? =none:=by
    rw[CS]at e ⊢;rw[r.length];exact e
   rw[BC e2,BC e];exact JA r pi
  |some d=>
   obtain⟨v,hv,rv⟩:=r.get e;rw[Ax hv,Ax e];exact .cons rv (JA r pi)
theorem FZ {vs:List V} {us:List Value} (r:Vals vs us):∀pi:List Nat,Vals (pick pi vs) (pick pi us)
 |[]=> .nil
 |i::pi=>by
  unfold pick
  cases e:vs[i]? with
  |none=>
   have e2:us[i]? =none:=by
    rw[CS]at e ⊢;rw[←r.length];exact e
   rw[BC e2,BC e];exact FZ r pi
  |some d=>
   obtain⟨v,hv,rv⟩:=r.get e;rw[Ax hv,Ax e];exact .cons rv (FZ r pi)
structure FnP (P:Program) (w:World) (K:PySem.W.Frag) (mg:Str->Option Value) (base:Heap) (F:Nm) (k:Nat) (x:Str) (ks:List Str) (pi:List Nat) (n:Nat) (g:List D->M D):Prop where
 ex:∃f fd ps,FnOk P w K mg base CX0 k f fd ps (DO K F n g)∧mg x=some (.ref f)∧PySem.W.keepIn K (.ref f)=true∧KBn K fd ps 0 ks (λus ws=>pick pi ws) (λvs zs=>pick pi zs)
end Mir
namespace Mir
open PySem L2
def JB {A:Type} (f:Str) (v:A):List (Str×A)->List (Str×A)
 |[]=>[(f,v)]
 |(g,x)::r=>if g=f then(g,v)::r else(g,x)::JB f v r
section
variable {K:PySem.W.Frag} {F:Nm} {W:Wd}
theorem LR {f:Str}:∀{us:List (Str×V)} {fs:List (Str×D)},us.map (·.1)=fs.map (·.1)->Rps K F W (us.map (·.2)) (fs.map (·.2))->(us.lookup f=none∧fs.lookup f=none)∨∃v d,us.lookup f=some v∧fs.lookup f=some d∧Rp K F W v d
 |[],[],_,_=> .inl ⟨rfl,rfl⟩
 |[],_::_,h,_=>by cases h
 |_::_,[],h,_=>by cases h
 |(a,u)::us,(b,d)::fs,h,.cons r rs=>by
  rw[AO,AO]at h;obtain⟨h1,h2⟩:=List.cons.inj h;have h1:a=b:=h1;subst h1;rw[Bk,Bk]
  cases f==a with
  |true=>exact .inr ⟨u,d,rfl,rfl,r⟩
  |false=>exact LR h2 rs
theorem P1 {f:Str} {y:V} {d:D} (ry:Rp K F W y d):∀{us:List (Str×V)} {fs:List (Str×D)},us.map (·.1)=fs.map (·.1)->Rps K F W (us.map (·.2)) (fs.map (·.2))->(L2.putF f y us).map (·.1)=(JB f d fs).map (·.1)∧Rps K F W ((L2.putF f y us).map (·.2)) ((JB f d fs).map (·.2))
 |[],[],_,_=>⟨rfl,.cons ry .nil⟩
 |[],_::_,h,_=>by cases h
 |_::_,[],h,_=>by cases h
 |(a,u)::us,(b,x)::fs,h,.cons r rs=>by
  rw[AO,AO]at h;obtain⟨h1,h2⟩:=List.cons.inj h;have h1:a=b:=h1;subst h1;unfold L2.putF JB;by_cases c:a=f
  ·rw[An c,An c,AO,AO,AO,AO,h2];exact⟨rfl,.cons ry rs⟩
  ·rw[Aq c,Aq c];obtain⟨i1,i2⟩:=P1 (f:=f) ry h2 rs;rw[AO,AO,i1];exact⟨rfl,.cons r i2⟩
end
def M.fld (cls:Str) (k:Nat) (f:Str):M D:=⟨λm=>match m[k]? with
 |some (.ins c fs)=>if c=cls then(M.opt (fs.lookup f)).run m else .bad
 |_=> .bad⟩
def M.putF (cls:Str) (k:Nat) (f:Str) (d:D):M Unit:=⟨λm=>match m[k]? with
 |some (.ins c fs)=>if c=cls∧fs.length<1000 then .ok () (m.set k (.ins c (JB f d fs)))else .bad
 |_=> .bad⟩
def M.meth (cls:Str) (k:Nat) (f:Str):M Unit:=⟨λm=>match m[k]? with
 |some (.ins c fs)=>if c=cls∧fs.lookup f=none then .ok () m else .bad
 |_=> .bad⟩
def D.isNon:D->M Unit
 | .non=>pure ()
 |_=>M.bad
def D.addI:D->D->M D
 | .int i,.int j=>pure (.int (i+j))
 |_,_=>M.bad
structure ClsD (K:PySem.W.Frag) (F:Nm) (cls:Str) (C:Addr):Prop where
 nm:F cls=some (.ref C)
 c:Cls K C
section
variable {K:PySem.W.Frag} {F:Nm} {W:Wd} {H:Hp} {m:Mu} {cls f:Str} {C:Addr} {k:Nat} {p:Addr} {B:Type} {Q:Wd->Hp->Mu->B->Prop} {E:XK}
theorem OG (c:ClsD K F cls C) (ok:Ok K F W m H) (hp:W.al[k]? =some p) {fs:List (Str×D)} (e:m[k]? =some (.ins cls fs)):∃us dx,H p=some (.ins C dx us)∧us.map (·.1)=fs.map (·.1)∧Rps K F W (us.map (·.2)) (fs.map (·.2)):=by
 obtain⟨us,C',dx,h1,h2,h3,h4⟩:=ok.ob k p _ hp e;rw[c.nm]at h2
 cases h2
 exact⟨us,dx,h1,h3,h4⟩
theorem XC {g:D->M B} (c:ClsD K F cls C) (ok:Ok K F W m H) (hp:W.al[k]? =some p) (h:PoR K F ((M.fld cls k f>>=g).run m) W H Q E):∃us dx v d,H p=some (.ins C dx us)∧us.lookup f=some v∧Rp K F W v d∧PoR K F ((g d).run m) W H Q E:=by
 rw[Do]at h
 cases e:m[k]? with
 |none=>simp only[M.fld,e]at h;exact h.elim
 |some o=>
  cases o with
  |ins c' fs=>
   simp only[M.fld,e]at h;by_cases ec:c'=cls
   ·subst ec;rw[An rfl]at h;obtain⟨us,dx,h1,h2,h3⟩:=OG c ok hp e;rcases LR (f:=f) h2 h3 with⟨_,z⟩|⟨v,d,l1,l2,r⟩
    ·rw[z]at h;exact h.elim
    ·rw[l2]at h;exact⟨us,dx,v,d,h1,l1,r,h⟩
   ·rw[Aq ec]at h;exact h.elim
  |_=>simp only[M.fld,e]at h;exact h.elim
theorem TR {g:Unit->M B} {y:V} {d:D} (c:ClsD K F cls C) (ok:Ok K F W m H) (hp:W.al[k]? =some p) (ry:Rp K F W y d) (h:PoR K F ((M.putF cls k f d>>=g).run m) W H Q E):
 ∃us dx m',H p=some (.ins C dx us)∧us.length<1000∧Ok K F W m' (upd H p (.ins C dx (L2.putF f y us)))∧Ext W H W (upd H p (.ins C dx (L2.putF f y us)))∧PoR K F ((g ()).run m') W (upd H p (.ins C dx (L2.putF f y us))) Q E:=by
 rw[Do]at h
 cases e:m[k]? with
 |none=>simp only[M.putF,e]at h;exact h.elim
 |some o=>
  cases o with
  |ins c' fs=>
   simp only[M.putF,e]at h;by_cases ec:c'=cls∧fs.length<1000
   ·rw[An ec]at h;obtain⟨ec,el⟩:=ec;subst ec;obtain⟨us,dx,h1,h2,h3⟩:=OG c ok hp e;have many:us.length=fs.length:=by have:=A9 List.length h2;rwa [AJ,AJ]at this
    obtain⟨b1,b2⟩:=P1 (f:=f) ry h2 h3;have x:Ext W H W (upd H p (.ins C dx (L2.putF f y us))):=Ext.write hp;have ob:ObR K F W (upd H p (.ins C dx (L2.putF f y us))) p (.ins c' (JB f d fs)):=⟨_,C,dx,upd_same,c.nm,b1,b2⟩;exact⟨us,dx,_,h1,by rw[many];exact el,ok.write hp ob ⟨_,e,rfl⟩,x,PoR.mono x h⟩
   ·rw[Aq ec]at h;exact h.elim
  |_=>simp only[M.putF,e]at h;exact h.elim
theorem JC {g:Unit->M B} (c:ClsD K F cls C) (ok:Ok K F W m H) (hp:W.al[k]? =some p) (h:PoR K F ((M.meth cls k f>>=g).run m) W H Q E):∃us dx,H p=some (.ins C dx us)∧us.lookup f=none∧PoR K F ((g ()).run m) W H Q E:=by
 rw[Do]at h
 cases e:m[k]? with
 |none=>simp only[M.meth,e]at h;exact h.elim
 |some o=>
  cases o with
  |ins c' fs=>
   simp only[M.meth,e]at h;by_cases ec:c'=cls∧fs.lookup f=none
   ·rw[An ec]at h;obtain⟨ec,el⟩:=ec;subst ec;obtain⟨us,dx,h1,h2,h3⟩:=OG c ok hp e;rcases LR (f:=f) h2 h3 with⟨z,_⟩|⟨v,d,l1,l2,r⟩
    ·exact⟨us,dx,h1,z,h⟩
    ·rw[el]at l2;cases l2
   ·rw[Aq ec]at h;exact h.elim
  |_=>simp only[M.meth,e]at h;exact h.elim
end
def En (cls f:Str) (fa:Env->M D):Env->M D:=fun ρ=>fa ρ>>=D.ref>>=λk=>M.fld cls k f
def LS (cls f:Str) (fo fv:Env->M D):Env->M Fl:=fun ρ=>fv ρ>>=λd=>fo ρ>>=D.ref>>=λk=>M.putF cls k f d>>=λ_=>pure (.nx ρ)
def ET (cls f:Str) (fo fv:Env->M D):Env->M Fl:=fun ρ=>fo ρ>>=D.ref>>=λk=>M.fld cls k f>>=λx=>fv ρ>>=λy=>D.addI x y>>=λd=>M.putF cls k f d>>=λ_=>pure (.nx ρ)
section
variable {F:Nm} {X:Cx} {E:XK} {cls f:Str} {C:Addr} {pos pos' tpos:Pos} {e o value:Expr} {fa fo fv:Env->M D}
theorem Ef (c:ClsD X.K F cls C) (n:NoAttr X.K C f) (ha:PD F X E e fa) (hb:attributeBase e f X.env (eval e X.env)=eval e X.env:=by rfl):PD F X E (.Attribute e f pos) (En cls f fa):=by
 obtain⟨ta,pa,qa⟩:=ha;refine⟨_,pe_fld pa hb,fun ρ m W σ H s k Q h=>?_⟩;unfold En at h;rw[D5]at h;refine qa ρ m W σ H s k _ ((PoR.bind h).imp λW1 H1 m1 d e1 x1 k1 h1 v r1=>?_)
 cases r1 with
 |@hnd p i hp=>
  have h1:DP X.K F ((M.fld cls i f>>=λd=>(pure d:M D)).run m1) W1 H1 Q E:=by rw[Dy];exact h1
  obtain⟨us,dx,u,d,g1,g2,g3,g4⟩:=XC c k1 hp h1;exact⟨p,C,dx,us,u,rfl,g1,c.c,n,g2,PoR.pure k1 g4 _ g3⟩
 |_=>exact h1.elim
theorem OH (c:ClsD X.K F cls C) (n:NoAttr X.K C f) (ho:PD F X E o fo) (hv:PD F X E value fv) (hs:swapsWith value (some (.Attribute o f pos')) pos.line X.env=pure false:=by rfl):PDs F X E (.Assign [.Attribute o f pos'] value pos) (LS cls f fo fv):=by
 obtain⟨to,po,qo⟩:=ho;obtain⟨tv,pv,qv⟩:=hv;refine⟨_,ps_fld po pv hs,fun ρ m W σ H s k N h=>?_⟩;unfold LS at h;simp only[D5]at h;refine qv ρ m W σ H s k _ ((PoR.bind h).imp λW1 H1 m1 d e1 x1 k1 h1 y ry=>?_);refine qo ρ m1 W1 σ H1 (s.mono x1) k1 _ ((PoR.bind h1).imp λW2 H2 m2 dx e2 x2 k2 h2 v r2=>?_)
 cases r2 with
 |@hnd p i hp=>
  obtain⟨us,dx,m',g1,g2,k3,x3,g3⟩:=TR (g:=λ_=>(pure (Fl.nx ρ):M Fl)) c k2 hp (ry.mono x2) h2;exact⟨p,C,dx,us,rfl,g1,c.c,n,g2,PoR.pure k3 g3 σ (((s.mono x1).mono x2).mono x3)⟩
 |_=>exact h2.elim
theorem EM (c:ClsD X.K F cls C) (n:NoAttr X.K C f) (ho:PD F X E o fo) (hv:PD F X E value fv):PDs F X E (.AugAssign (.Attribute o f tpos) .Add value pos) (ET cls f fo fv):=by
 obtain⟨to,po,qo⟩:=ho;obtain⟨tv,pv,qv⟩:=hv;refine⟨_,ps_fldaug po pv in_add,fun ρ m W σ H s k N h=>?_⟩;unfold ET at h;simp only[D5]at h;refine qo ρ m W σ H s k _ ((PoR.bind h).imp λW1 H1 m1 dh e1 x1 k1 h1 v r1=>?_)
 cases r1 with
 |@hnd p i hp=>
  obtain⟨us,dx,u,d,g1,g2,g3,g4⟩:=XC (g:=λx=>fv ρ>>=λy=>D.addI x y>>=λd=>M.putF cls i f d>>=λ_=>(pure (Fl.nx ρ):M Fl)) c k1 hp h1;refine⟨p,C,dx,us,u,rfl,g1,c.c,n,g2,qv ρ m1 W1 σ H1 (s.mono x1) k1 _ ((PoR.bind g4).imp λW2 H2 m2 dy e2 x2 k2 h2 y r2=>?_)⟩;have hp2:W2.al[i]? =some p:=by
   obtain⟨r,q⟩:=x2.al;rw[q,AV (AS.mp hp).1];exact hp
  cases g3 with
  |int a=>
   cases r2 with
   |int b=>
    have h2:PoR X.K F ((M.putF cls i f (.int (a+b))>>=λ_=>(pure (Fl.nx ρ):M Fl)).run m2) W2 H2 _ E:=h2;obtain⟨us2,dx2,m',j1,j2,k3,x3,j3⟩:=TR (y:= .int (a+b)) c k2 hp2 (.int _) h2;exact⟨a,b,rfl,rfl,dx2,us2,j1,j2,PoR.pure k3 j3 σ (((s.mono x1).mono x2).mono x3)⟩
   |_=>exact h2.elim
  |_=>exact h2.elim
 |_=>exact h1.elim
end
structure MethD (P:Program) (w:World) (K:PySem.W.Frag) (mg:Str->Option Value) (base:Heap) (F:Nm) (k:Nat) (C:Addr) (x:Str) (n:Nat) (dds:List D) (g:List D->M D):Prop where
 ex:∃f fd ps dvs ds,FnOk P w K mg base CX0 k f fd ps (DO K F n g)∧Meth K C x f∧Binds K fd ps ds∧Vals dvs ds∧∀W,Rps K F W dvs dds
def Cw (cls x:Str) (n:Nat) (dds:List D) (gg:List D->M D) (fo:Env->M D) (fs:Env->M (List D)):Env->M D:=fun ρ=>fo ρ>>=λh=>D.ref h>>=λk=>M.meth cls k x>>=λ_=>fs ρ>>=λxs=>M.guard (decide ((D.hnd k::(xs++dds)).length=n))>>=λ_=>gg (D.hnd k::(xs++dds))
section
variable {F:Nm} {X:Cx} {cls x:Str} {C:Addr} {pos apos:Pos} {e o:Expr} {es:List Expr} {fo:Env->M D} {fs:Env->M (List D)} {j k n:Nat} {gg:List D->M D} {dds:List D} {dvs:List V} {pl:Sem Bool}
theorem TU {ta:TE} {t:TA} (c:ClsD X.K F cls C) (hd:∀W,Rps X.K F W dvs dds) (qo:Ky X.K F DQ ta fo) (qa:Yo X.K F DQ t fs):Ky X.K F DQ (tMeth C x (DO X.K F n gg) dvs DQ ta t) (Cw cls x n dds gg fo fs):=fun ρ m W σ H s k Q h=>by
 unfold Cw at h;refine qo ρ m W σ H s k _ ((PoR.bind h).imp λW1 H1 m1 d e1 x1 k1 h1 v r1=>?_)
 cases r1 with
 |@hnd p i hp=>
  obtain⟨us,dx,g1,g2,g3⟩:=JC (g:=λ_=>fs ρ>>=λxs=>M.guard (decide ((D.hnd i::(xs++dds)).length=n))>>=λ_=>gg (D.hnd i::(xs++dds))) c k1 hp h1;refine⟨p,dx,us,rfl,g1,g2,qa ρ m1 W1 σ H1 (s.mono x1) k1 _ ((PoR.bind g3).imp λW2 H2 m2 xs e2 x2 k2 h2 vs r2=>?_)⟩;obtain⟨g,h2⟩:=gd (A:=D) h2;have rh:Rp X.K F W2 (.ref p) (.hnd i):=(Rp.hnd hp).mono x2;have ra:Rps X.K F W2 (.ref p::(vs++dvs)) (D.hnd i::(xs++dds)):= .cons rh (r2.append (hd W2));exact⟨by rw[ra.length];exact AN g,W2,m2,_,ra,k2,h2⟩
 |_=>exact h1.elim
theorem DG (c:ClsD X.K F cls C) (mt:MethD X.prog X.w X.K X.mg X.base F k C x n dds gg) (hr:Room j X.A) (ho:PD F X DQ o fo) (ha:PDa F X DQ (e::es) fs) (hk:k≤j:=by decide)
 (hst:starEach (e::es) X.env=(false,eval e X.env)::starEach es X.env:=by rfl) (hpl:(backTo pos (starEach es X.env)).any (·.1)=false:=by rfl)
 (ht:eval (.Call (.Attribute o x apos) (e::es) [] pos) X.env=(do
  let ov←eval o X.env
  standAt apos.atName
  let (f,first)←holding [ov] (getMethod ov x pl)
  callWith pos f first (backTo pos (starEach (e::es) X.env)) (backToKw pos (keywordEach [] X.env))):=by rfl):
 PD F X DQ (.Call (.Attribute o x apos) (e::es) [] pos) (Cw cls x n dds gg fo fs):=by
 obtain⟨f,fd,ps,dvs,ds,h1,h2,h3,h4,h5⟩:=mt;obtain⟨to,po,qo⟩:=ho;obtain⟨t,pa,qa⟩:=ha;exact⟨_,pe_meth po c.c h2 h1 (hr.mono hk) h3 h4 pass0 pa hst hpl ht,TU c h5 qo qa⟩
theorem OI (c:ClsD X.K F cls C) (mt:MethD X.prog X.w X.K X.mg X.base F k C x n dds gg) (hr:Room j X.A) (ho:PD F X DQ o fo) (hk:k≤j:=by decide)
 (ht:eval (.Call (.Attribute o x apos) [] [] pos) X.env=(do
  let ov←eval o X.env
  standAt apos.atName
  let (f,first)←holding [ov] (getMethod ov x pl)
  callWith pos f first (backTo pos (starEach [] X.env)) (backToKw pos (keywordEach [] X.env))):=by rfl):
 PD F X DQ (.Call (.Attribute o x apos) [] [] pos) (Cw cls x n dds gg fo Ci):=by
 obtain⟨f,fd,ps,dvs,ds,h1,h2,h3,h4,h5⟩:=mt;obtain⟨to,po,qo⟩:=ho;refine⟨_,pe_meth0 po c.c h2 h1 (hr.mono hk) h3 h4 pass0 ht,TU c h5 qo (t:=tNil) fun ρ m W σ H s k Q h=>PoR.pure k h _ .nil⟩
end
structure MkD (P:Program) (w:World) (K:PySem.W.Frag) (mg:Str->Option Value) (base:Heap) (F:Nm) (k:Nat) (C:Addr) (n:Nat) (dds:List D) (g:List D->M D):Prop where
 ex:∃f fd ps dvs ds,FnOk P w K mg base CX0 k f fd ps (DO K F n g)∧L2.Mk K C f∧Binds K fd ps ds∧Vals dvs ds∧∀W,Rps K F W dvs dds
def EU (cls:Str) (n:Nat) (dds:List D) (gg:List D->M D) (fs:Env->M (List D)):Env->M D:=fun ρ=>fs ρ>>=λxs=>M.more (.ins cls [])>>=λs=>M.guard (decide ((s::(xs++dds)).length=n))>>=λ_=>gg (s::(xs++dds))>>=λr=>D.isNon r>>=λ_=>pure s
section
variable {F:Nm} {X:Cx} {cls x:Str} {C:Addr} {pos p:Pos} {e:Expr} {es:List Expr} {fs:Env->M (List D)} {j k n:Nat} {gg:List D->M D} {dds:List D} {dvs:List V}
theorem TV {t:TA} (c:ClsD X.K F cls C) (hd:∀W,Rps X.K F W dvs dds) (qa:Yo X.K F DQ t fs):Ky X.K F DQ (tMake C (DO X.K F n gg) dvs DQ t) (EU cls n dds gg fs):=fun ρ m W σ H s k Q h=>by
 unfold EU at h;refine qa ρ m W σ H s k _ ((PoR.bind h).imp λW1 H1 m1 xs e1 x1 k1 h1 vs r1=>λy dx hy hdx hne=>?_);have k2:Ok X.K F W1 m1 (upd H1 dx (.own y)):=E9 k1 (k1.fresh hdx) (k1.gnone hdx) (λu e=>by rw[hdx]at e;cases e);have x2:Ext W1 H1 W1 (upd H1 dx (.own y)):=cE (Ext.refl _ _) hdx;have hy2:upd H1 dx (.own y) y=none:=by rw[upd_ne (Ne.symm hne)];exact hy
 have x3:Ext W1 (upd H1 dx (.own y)) (W1.more y) (upd (upd H1 dx (.own y)) y (.ins C dx [])):=Ext.more hy2;have k3:Ok X.K F (W1.more y) (m1++[.ins cls []]) (upd (upd H1 dx (.own y)) y (.ins C dx [])):=k2.more hy2 ⟨[],C,dx,upd_same,c.nm,rfl,.nil⟩;have hal:(W1.more y).al[m1.length]? =some y:=by
  show(W1.al++[y])[m1.length]? =some y;rw[←k1.len];simp
 have h1:DP X.K F ((M.guard (decide ((D.hnd m1.length::(xs++dds)).length=n))>>=λ_=>gg (D.hnd m1.length::(xs++dds))>>=λr=>D.isNon r>>=λ_=>(pure (D.hnd m1.length):M D)).run (m1++[.ins cls []])) (W1.more y) (upd (upd H1 dx (.own y)) y (.ins C dx [])) Q DQ:=PoR.mono (x2.trans x3) h1;obtain⟨g,h1⟩:=gd (A:=D) h1;have ra:Rps X.K F (W1.more y) (.ref y::(vs++dvs)) (D.hnd m1.length::(xs++dds)):= .cons (.hnd hal) (((r1.mono x2).mono x3).append (hd _));refine⟨by rw[ra.length];exact AN g,_,_,_,ra,k3,(PoR.bind h1).imp λW4 H4 m4 d e4 x4 k4 h4 v r4=>?_⟩
 cases r4 with
 |non=>
  refine⟨rfl,PoR.pure k4 h4 _ (.hnd ?_)⟩;obtain⟨r,q⟩:=x4.al;rw[q,AV (AS.mp hal).1];exact hal
 |_=>exact h4.elim
theorem XD (c:ClsD X.K F cls C) (mk:MkD X.prog X.w X.K X.mg X.base F k C n dds gg) (hm:X.mg x=some (.ref C)) (hr:Room j X.A) (ha:PDa F X DQ (e::es) fs) (hk:k+1≤j:=by decide) (hg:Gl X x:=by rfl) (hdb:(x==("__debug__" :Str))=false:=by decide)
 (he:starEach (e::es) X.env=(false,eval e X.env)::starEach es X.env:=by rfl) (hpl:(backTo pos (starEach es X.env)).any (·.1)=false:=by rfl):PD F X DQ (.Call (.Name x p) (e::es) [] pos) (EU cls n dds gg fs):=by
 obtain⟨f,fd,ps,dvs,ds,h1,h2,h3,h4,h5⟩:=mk;obtain⟨t,pa,qa⟩:=ha;exact⟨_,pe_make h2 h1 (hr.mono hk) hg hm h3 h4 pass0 pa hdb he hpl,TV c h5 qa⟩
theorem Zr (c:ClsD X.K F cls C) (mk:MkD X.prog X.w X.K X.mg X.base F k C n dds gg) (hm:X.mg x=some (.ref C)) (hr:Room j X.A) (hk:k+1≤j:=by decide) (hg:Gl X x:=by rfl) (hdb:(x==("__debug__" :Str))=false:=by decide):PD F X DQ (.Call (.Name x p) [] [] pos) (EU cls n dds gg Ci):=by
 obtain⟨f,fd,ps,dvs,ds,h1,h2,h3,h4,h5⟩:=mk;exact⟨_,pe_make0 h2 h1 (hr.mono hk) hg hm h3 h4 pass0 hdb,TV c h5 (t:=tNil) fun ρ m W σ H s k Q h=>PoR.pure k h _ .nil⟩
end
end Mir
namespace Mir
open PySem L2
structure MethK (P:Program) (w:World) (K:PySem.W.Frag) (mg:Str->Option Value) (base:Heap) (F:Nm) (k:Nat) (C:Addr) (x:Str) (npos:Nat) (ks:List Str) (pi:List Nat) (n:Nat) (g:List D->M D):Prop where
 ex:∃f fd ps,FnOk P w K mg base CX0 k f fd ps (DO K F n g)∧Meth K C x f∧KBn K fd ps (npos+1) ks (λus ws=>us++pick pi ws) (λvs zs=>vs++pick pi zs)
def Dc (cls x:Str) (npos nk n:Nat) (pi:List Nat) (gg:List D->M D) (fo:Env->M D) (fs fk:Env->M (List D)):Env->M D:=fun ρ=>fo ρ>>=λh=>D.ref h>>=λk=>M.meth cls k x>>=λ_=>fs ρ>>=λxs=>fk ρ>>=λzs=>M.guard (decide (xs.length=npos∧zs.length=nk∧(D.hnd k::(xs++pick pi zs)).length=n))>>=λ_=>gg (D.hnd k::(xs++pick pi zs))
def RT (C:Addr) (m:Str) (npos nk:Nat) (pi:List Nat) (sp:Sp) (E:XK) (ta:TE) (t tk:TA):TE:=fun σ H Q=>ta σ H λx H1=>∃a dx fs,x= .ref a∧H1 a=some (.ins C dx fs)∧fs.lookup m=none∧
 t σ H1 λvs H2=>tk σ H2 λzs H3=>vs.length=npos∧zs.length=nk∧sp ((x::vs)++pick pi zs) H3 Q E
section
variable {F:Nm} {X:Cx} {CX:CXT} {cls x:Str} {C f:Addr} {fd:FuncData} {ps:List Str} {sp:Sp} {E:XK} {pos apos:Pos} {e o:Expr} {es:List Expr} {kws:List Keyword} {ks:List Str} {pi:List Nat} {fo:Env->M D} {fs fk:Env->M (List D)} {j k n npos nk:Nat} {gg:List D->M D} {pl:Sem Bool} {ta:TE} {t tk:TA}
theorem XF (he:PE X o ta) (c:Cls X.K C) (hm:Meth X.K C x f) (Fn:FnOk X.prog X.w X.K X.mg X.base CX k f fd ps sp) (hr:Room k X.A) (hb:KBn X.K fd ps (npos+1) ks (λus ws=>us++pick pi ws) (λvs zs=>vs++pick pi zs)) (hx:Passes CX X E) (ha:PA X (e::es) t) (hkw:PK X kws tk)
 (hall:(backToKw pos (keywordEach kws X.env)).all (·.1.isSome)=true:=by rfl) (hks:(backToKw pos (keywordEach kws X.env)).filterMap (·.1)=ks:=by rfl)
 (hst:starEach (e::es) X.env=(false,eval e X.env)::starEach es X.env:=by rfl) (hpl:((backTo pos (starEach (e::es) X.env)).any (·.1)||(backToKw pos (keywordEach kws X.env)).any (·.1.isNone))=false:=by rfl)
 (ht:eval (.Call (.Attribute o x apos) (e::es) kws pos) X.env=(do
  let ov←eval o X.env
  standAt apos.atName
  let (f,first)←holding [ov] (getMethod ov x pl)
  callWith pos f first (backTo pos (starEach (e::es) X.env)) (backToKw pos (keywordEach kws X.env))):=by rfl):
 PE X (.Call (.Attribute o x apos) (e::es) kws pos) (RT C x npos ks.length pi sp E ta t tk):=by
 refine⟨λpins s σ H Q I h=>?_⟩;refine PySem.W.methodCall_KW (pl:=pl) (thn (he.run pins s σ H _ I h) λu s1 ⟨y,H1,I1,rx,a,dx,fs,ex,ea,l,q⟩=>?_) ht;subst ex;obtain rfl:u=Value.ref a:=rx;refine getmeth_ok I1 ea c hm l ?_;refine PySem.W.callWith_KW (first:=[.ref a]) (h₀:=X.base) I1.ok.mod.kin hm.kp hall (thn (ha.run pos pins s1 σ H1 _ I1 q) λus s2 ⟨vs,H2,I2,r,q2⟩=>?_) hpl hst;refine thn (hkw.run pos pins s2 σ H2 _ I2 q2) λws s3 ⟨zs,H3,I3,rz,l1,l2,q3⟩=>⟨I3.kIn,?_⟩;rw[hks];exact run_fnN (us:= .ref a::us) (vs:= .ref a::vs) Fn hr hb hx I3 (.cons rfl r) rz (A9 (·+1) l1) l2 q3
theorem Uz (he:PE X o ta) (c:Cls X.K C) (hm:Meth X.K C x f) (Fn:FnOk X.prog X.w X.K X.mg X.base CX k f fd ps sp) (hr:Room k X.A) (hb:KBn X.K fd ps (0+1) ks (λus ws=>us++pick pi ws) (λvs zs=>vs++pick pi zs)) (hx:Passes CX X E) (hkw:PK X kws tk)
 (hall:(backToKw pos (keywordEach kws X.env)).all (·.1.isSome)=true:=by rfl) (hks:(backToKw pos (keywordEach kws X.env)).filterMap (·.1)=ks:=by rfl)
 (hpl:((backTo pos (starEach [] X.env)).any (·.1)||(backToKw pos (keywordEach kws X.env)).any (·.1.isNone))=false:=by rfl)
 (ht:eval (.Call (.Attribute o x apos) [] kws pos) X.env=(do
  let ov←eval o X.env
  standAt apos.atName
  let (f,first)←holding [ov] (getMethod ov x pl)
  callWith pos f first (backTo pos (starEach [] X.env)) (backToKw pos (keywordEach kws X.env))):=by rfl):
 PE X (.Call (.Attribute o x apos) [] kws pos) (RT C x 0 ks.length pi sp E ta tNil tk):=by
 refine⟨λpins s σ H Q I h=>?_⟩;refine PySem.W.methodCall_KW (pl:=pl) (thn (he.run pins s σ H _ I h) λu s1 ⟨y,H1,I1,rx,a,dx,fs,ex,ea,l,q⟩=>?_) ht;subst ex;obtain rfl:u=Value.ref a:=rx;refine getmeth_ok I1 ea c hm l ?_;have q:tk σ H1 λzs H3=>([]:List V).length=0∧zs.length=ks.length∧sp ((.ref a::[])++pick pi zs) H3 Q E:=q;refine PySem.W.callWith_KW0 (first:=[.ref a]) (h₀:=X.base) I1.ok.mod.kin hm.kp hall (thn (hkw.run pos pins s1 σ H1 _ I1 q) λws s3 ⟨zs,H3,I3,rz,l1,l2,q3⟩=>⟨I3.kIn,?_⟩) hpl;rw[hks];exact run_fnN (us:=[.ref a]) (vs:=[.ref a]) Fn hr hb hx I3 (.cons rfl .nil) rz rfl l2 q3
theorem P2 (c:ClsD X.K F cls C) (qo:Ky X.K F DQ ta fo) (qa:Yo X.K F DQ t fs) (qk:Yo X.K F DQ tk fk):Ky X.K F DQ (RT C x npos nk pi (DO X.K F n gg) DQ ta t tk) (Dc cls x npos nk n pi gg fo fs fk):=fun ρ m W σ H s k Q h=>by
 unfold Dc at h;refine qo ρ m W σ H s k _ ((PoR.bind h).imp λW1 H1 m1 d e1 x1 k1 h1 v r1=>?_)
 cases r1 with
 |@hnd p i hp=>
  obtain⟨us,dx,g1,g2,g3⟩:=JC (g:=λ_=>fs ρ>>=λxs=>fk ρ>>=λzs=>M.guard (decide (xs.length=npos∧zs.length=nk∧(D.hnd i::(xs++pick pi zs)).length=n))>>=λ_=>gg (D.hnd i::(xs++pick pi zs))) c k1 hp h1;refine⟨p,dx,us,rfl,g1,g2,qa ρ m1 W1 σ H1 (s.mono x1) k1 _ ((PoR.bind g3).imp λW2 H2 m2 xs e2 x2 k2 h2 vs r2=>?_)⟩;refine qk ρ m2 W2 σ H2 ((s.mono x1).mono x2) k2 _ ((PoR.bind h2).imp λW3 H3 m3 zs e3 x3 k3 h3 ws r3=>?_);obtain⟨g,h3⟩:=gd (A:=D) h3;obtain⟨j1,j2,j3⟩:=AN g;have rh:Rp X.K F W3 (.ref p) (.hnd i):=((Rp.hnd hp).mono x2).mono x3;have ra:Rps X.K F W3 ((.ref p::vs)++pick pi ws) (D.hnd i::(xs++pick pi zs)):= .cons rh ((r2.mono x3).append (JA r3 pi));exact⟨by rw[r2.length];exact j1,by rw[r3.length];exact j2,by rw[ra.length];exact j3,W3,m3,_,ra,k3,h3⟩
 |_=>exact h1.elim
theorem TX (c:ClsD X.K F cls C) (mt:MethK X.prog X.w X.K X.mg X.base F k C x npos ks pi n gg) (hr:Room j X.A) (ho:PD F X DQ o fo) (ha:PDa F X DQ (e::es) fs) (hkw:PDk F X DQ kws fk) (hk:k≤j:=by decide)
 (hall:(backToKw pos (keywordEach kws X.env)).all (·.1.isSome)=true:=by rfl) (hks:(backToKw pos (keywordEach kws X.env)).filterMap (·.1)=ks:=by rfl)
 (hst:starEach (e::es) X.env=(false,eval e X.env)::starEach es X.env:=by rfl) (hpl:((backTo pos (starEach (e::es) X.env)).any (·.1)||(backToKw pos (keywordEach kws X.env)).any (·.1.isNone))=false:=by rfl)
 (ht:eval (.Call (.Attribute o x apos) (e::es) kws pos) X.env=(do
  let ov←eval o X.env
  standAt apos.atName
  let (f,first)←holding [ov] (getMethod ov x pl)
  callWith pos f first (backTo pos (starEach (e::es) X.env)) (backToKw pos (keywordEach kws X.env))):=by rfl) (hnk:ks.length=nk:=by rfl):
 PD F X DQ (.Call (.Attribute o x apos) (e::es) kws pos) (Dc cls x npos nk n pi gg fo fs fk):=by
 subst hnk;obtain⟨f,fd,ps,h1,h2,h3⟩:=mt;obtain⟨to,po,qo⟩:=ho;obtain⟨t,pa,qa⟩:=ha;obtain⟨tk,pk,qk⟩:=hkw;exact⟨_,XF po c.c h2 h1 (hr.mono hk) h3 pass0 pa pk hall hks hst hpl ht,P2 c qo qa qk⟩
theorem Vm (c:ClsD X.K F cls C) (mt:MethK X.prog X.w X.K X.mg X.base F k C x 0 ks pi n gg) (hr:Room j X.A) (ho:PD F X DQ o fo) (hkw:PDk F X DQ kws fk) (hk:k≤j:=by decide)
 (hall:(backToKw pos (keywordEach kws X.env)).all (·.1.isSome)=true:=by rfl) (hks:(backToKw pos (keywordEach kws X.env)).filterMap (·.1)=ks:=by rfl)
 (hpl:((backTo pos (starEach [] X.env)).any (·.1)||(backToKw pos (keywordEach kws X.env)).any (·.1.isNone))=false:=by rfl)
 (ht:eval (.Call (.Attribute o x apos) [] kws pos) X.env=(do
  let ov←eval o X.env
  standAt apos.atName
  let (f,first)←holding [ov] (getMethod ov x pl)
  callWith pos f first (backTo pos (starEach [] X.env)) (backToKw pos (keywordEach kws X.env))):=by rfl) (hnk:ks.length=nk:=by rfl):
 PD F X DQ (.Call (.Attribute o x apos) [] kws pos) (Dc cls x 0 nk n pi gg fo Ci fk):=by
 subst hnk;obtain⟨f,fd,ps,h1,h2,h3⟩:=mt;obtain⟨to,po,qo⟩:=ho;obtain⟨tk,pk,qk⟩:=hkw;exact⟨_,Uz po c.c h2 h1 (hr.mono hk) h3 pass0 pk hall hks hpl ht,P2 c qo (t:=tNil) (fun ρ m W σ H s k Q h=>PoR.pure k h _ .nil) qk⟩
end
end Mir
namespace Mir
open PySem L2
def cS (K:PySem.W.Frag):Nm:=⟨λx=>match PySem.W.nsIn K mainGlobals x with
 |some (some (.ref C))=>some (.ref C)
 |_=>none,λ_ _=>False,[],λ_=>none⟩
theorem EY {K:PySem.W.Frag} {x:Str} {C:Addr} (h:PySem.W.nsIn K mainGlobals x=some (some (.ref C))):(cS K) x=some (.ref C):=by
 show(match PySem.W.nsIn K mainGlobals x with
 |some (some (.ref C))=>some (V.ref C)
 |_=>none)=_
 rw[h]
end Mir
namespace Mir
open PySem L2
section
variable {F:Nm} {X:Cx} {pos p:Pos} {a b c:Expr} {fa fb fc:Env->M D} {kvs:List (Str×D)} {keys:List (Option Expr)} {values:List Expr}
theorem cT {z y:Str} {j j2:Nat} {p1 p2:Pos} (h:PDp F X pos keys values kvs):PDp F X pos (some (.Constant (.str z) j p1)::keys) (.Constant (.str y) j2 p2::values) ((z,.str y)::kvs):=by
 obtain⟨trs,us,h1,h2,h3,h4⟩:=h;refine⟨_,(z,.str y)::us,pps_cons pe_str pe_str h1,fun σ H Q q=>?_,?_,λW=> .cons (.str y) (h4 W)⟩
 ·exact h2 σ H _ q
 ·rw[AO,AO,h3]
end
def rangeDn (i:Int) (n:Nat):List D:=(List.range n).map λ(k:Nat)=> .int (i - (k:Int))
def D.rangeDn:List D->M (List D×Option Nat)
 |[.int i,.int j,.int c]=>M.guard (decide (c= -1∧ -(2 ^ 62)≤i∧i<2 ^ 62∧ -(2 ^ 62)≤j∧j<2 ^ 62))>>=λ_=>pure (Mir.rangeDn i (i - j).toNat,none)
 |_=>M.bad
def Zt (fs:Env->M (List D)):Env->M (List D×Option Nat):=fun ρ=>fs ρ>>=D.rangeDn
theorem M7 {z:Str}:∀{xs:List Str},z∈xs->xs[xs.idxOf z]? =some z∧∀j,j<xs.idxOf z->xs[j]? ≠some z
 |x::xs,h=>by
  rw[List.idxOf_cons];by_cases c:x=z
  ·subst c;rw[Ak,cond_true];exact⟨rfl,λj hj=>by omega⟩
  ·have hz:z∈xs:=(AQ.mp h).resolve_left (λe=>c e.symm);obtain⟨h1,h2⟩:=M7 hz;have e:(x==z)=false:=AZ.mpr c;rw[e,cond_false];refine⟨by rw[By];exact h1,λj hj=>?_⟩
   cases j with
   |zero=>exact λq=>c (Option.some.inj q)
   |succ j=>rw[By];exact h2 j AA
def D.indexL:D->D->M D
 | .lst ds,.str z=>M.opt (D.texts ds)>>=λxs=>M.guard (decide (z∈xs))>>=λ_=>pure (.int (xs.idxOf z:Nat))
 |_,_=>M.bad
def D.isLst:D->M Unit
 | .lst _=>pure ()
 |_=>M.bad
def Zu (fa fb:Env->M D):Env->M D:=fun ρ=>fa ρ>>=λx=>D.isLst x>>=λ_=>fb ρ>>=λy=>D.indexL x y
end Mir
namespace L2
open PySem PySem.Spec PyProof.Rows
section
variable {X:Cx}
def cU:R2:=λx y H Q=>∃(a b:Addr) (o o2:Obj) (xs ys:List V),x= .ref a∧y= .ref b∧H a=some (.frz o (.tup xs))∧H b=some (.frz o2 (.tup ys))∧xs≠[]∧xs.length+ys.length≤sizeLine∧(ys=[]->Q (.ref a) H)∧
 (ys≠[]->∀(p:Addr) (o' :Obj),H p=none->o'.cls= .type "tuple"->o'.dict=none->Q (.ref p) (upd H p (.frz o' (.tup (xs++ys)))))
theorem Zv:OpR X (binaryOp .Add) cU:=by
 intro pins s σ H x y v u Q I rx ry h;obtain⟨a,b,o,o2,xs,ys,rfl,rfl,ha,hb,hx,hz,q1,q2⟩:=h
 cases rx
 cases ry
 obtain⟨its,r1,p1,_⟩:=I.tuple (.inl (.inr ⟨o,ha⟩));obtain⟨its2,r2,p2,_⟩:=I.tuple (.inl (.inr ⟨o2,hb⟩));have l1:=r1.length;have l2:=r2.length;refine HT.cat_tup p1 p2 (λz=>hx ?_) (λz=>?_) (λz=>?_) AA
 ·rw[z]at l1;exact A8.mp l1
 ·rw[z]at l2;exact⟨.ref a,H,I,rfl,q1 (A8.mp l2)⟩
 ·have hy:ys≠[]:=λe=>by
   rw[e]at l2;exact z (A8.mp l2.symm)
  have new:H s.heap.objs.size=none:=I.hok.fresh (Ai _);refine⟨.ref s.heap.objs.size,_,I.laid (t' :=s.toks) (o:= .frz {cls:= .type "tuple",data:= .seq (its++its2).toArray} (.tup (xs++ys))) (λb u e=>Heap.get?_push_of_some _ e) (Ai _) ?_,rfl,q2 hy _ {cls:= .type "tuple",data:= .seq (its++its2).toArray} new rfl rfl⟩;exact⟨Heap.get?_push_size _ rfl,by rw[AH];exact hz,its++its2,r1.append r2,⟨_,Heap.get?_push_size _ rfl,rfl,_,rfl⟩⟩
def pK (r:V->List V->Hp->VK->Prop) (to:TE) (t:TA):TE:=fun σ H Q=>to σ H λx H1=>(∃(p:Addr) (o:Obj) (xs:List V),x= .ref p∧H1 p=some (.frz o (.tup xs))∧o.cls= .type "tuple"∧o.dict=none)∧t σ H1 λxs H2=>r x xs H2 Q
variable {o e:Expr} {es:List Expr} {to:TE} {t:TA} {name:Str} {apos cpos:Pos} {id:String} {r:V->List V->Hp->VK->Prop}
theorem ff (pa:PlainAttrs "tuple") (slot:Slot "tuple" name id) (hty:typeOf (.builtin id)=pure (.type "method_descriptor")) (hm:MtR X id r) (ho:PE X o to) (ha:PA X (e::es) t)
 (hbase:attributeBase o name X.env (eval o X.env)=eval o X.env:=by rfl)
 (hfew:((backTo cpos (starEach (e::es) X.env)).all (λx=> !x.1) && (backToKw cpos (keywordEach [] X.env)).all (λx=>x.1.isSome)
  && decide ((e::es).length+([]:List Keyword).length+(if([]:List Keyword).isEmpty then 0 else 1)<30))=true:=by rfl)
 (hline:(apos.endLine==cpos.line)=true:=by rfl) (hs:starEach (e::es) X.env=(false,eval e X.env)::starEach es X.env:=by rfl) (hplain:(backTo cpos (starEach es X.env)).any (·.1)=false:=by rfl):
 PE X (.Call (.Attribute o name apos) (e::es) [] cpos) (pK r to t):=by
 refine⟨λpins s σ H Q I h=>?_⟩;refine wpAny_Call_method_late hbase hfew hline rfl (thn (ho.run pins s σ H _ I h) λv s1 ⟨x,H1,I1,r1,ty,q1⟩=>?_);obtain⟨p,ob,xs,rfl,hp,hc,hd⟩:=ty;obtain rfl:v=Value.ref p:=r1;have hg:s1.heap.get? p=some ob:=(I1.hok p _ hp).1;refine⟨"tuple",id,pa,slot,hty,⟨ob,hg,hc⟩,λa e=>by cases e;exact⟨ob,hg,hd⟩,?_⟩;have hA:=ha.run cpos pins s1 σ H1 _ I1 q1;rw[hs]at hA ⊢;refine Calls.callWith_builtin (by show(false||(backTo cpos (starEach es X.env)).any (·.1))=false;rw[hplain]<;>rfl) (Calls.evalArgs_plain ?_);exact thn hA λus s2 ⟨vs,H2,I2,r2,q2⟩=>hm pins s2 σ H2 (.ref p) vs _ us Q I2 rfl r2 q2
end
end L2
namespace Mir
open PySem L2
def D.addX:D->D->M D
 | .tpx ds,.tpx es=>M.guard (decide (ds≠[]∧ds.length+es.length≤sizeLine))>>=λ_=>pure (.tpx (ds++es))
 |_,_=>M.bad
def D.indexX:D->D->M D
 | .tpx ds,.str z=>M.opt (D.texts ds)>>=λxs=>M.guard (decide (z∈xs))>>=λ_=>pure (.int (xs.idxOf z:Nat))
 |_,_=>M.bad
def D.isTpx:D->M Unit
 | .tpx _=>pure ()
 |_=>M.bad
def Km (fa fb:Env->M D):Env->M D:=fun ρ=>fa ρ>>=λx=>D.isTpx x>>=λ_=>fb ρ>>=λy=>D.indexX x y
section
variable {F:Nm} {X:Cx} {E:XK} {pos apos:Pos} {a b:Expr} {fa fb:Env->M D}
theorem XG (ha:PD F X E a fa) (hb:PD F X E b fb) (hbase:attributeBase a "index" X.env (eval a X.env)=eval a X.env:=by rfl)
 (hfew:((backTo pos (starEach (b::[]) X.env)).all (λx=> !x.1) && (backToKw pos (keywordEach [] X.env)).all (λx=>x.1.isSome)
  && decide ((b::[]).length+([]:List Keyword).length+(if([]:List Keyword).isEmpty then 0 else 1)<30))=true:=by rfl)
 (hline:(apos.endLine==pos.line)=true:=by rfl) (hs:starEach (b::[]) X.env=(false,eval b X.env)::starEach [] X.env:=by rfl) (hplain:(backTo pos (starEach [] X.env)).any (·.1)=false:=by rfl):
 PD F X E (.Call (.Attribute a "index" apos) [b] [] pos) (Km fa fb):=by
 obtain⟨t,p,q⟩:=ha;obtain⟨t',p',q'⟩:=hb;refine⟨_,ff PySem.F.plainAttrs_tuple PySem.F.slot_tuple_index PySem.F.type_tuple_index mt_tup_index p (pa_cons p' pa_nil hs) hbase hfew hline hs hplain,fun ρ m W σ H s k Q h=>?_⟩;unfold Km at h;refine q ρ m W σ H s k _ ((PoR.bind h).imp λW1 H1 m1 d e1 x1 k1 h1 v r1=>?_)
 cases r1 with
 |@tpx pp ob vs ds g1 g2 g3 rv=>
  have h1:DP X.K F ((fb ρ>>=λy=>D.indexX (.tpx ds) y).run m1) W1 H1 Q E:=h1;refine⟨⟨pp,ob,vs,rfl,k1.gh _ _ g1,g2,g3⟩,q' ρ m1 W1 σ H1 (s.mono x1) k1 _ ((PoR.bind h1).imp λW2 H2 m2 d2 e2 x2 k2 h2 v2 r2=>?_)⟩
  cases r2 with
  |str z=>
   have h2:DP X.K F ((M.opt (D.texts ds)>>=λxs=>M.guard (decide (z∈xs))>>=λ_=>(pure (.int (xs.idxOf z:Nat)):M D)).run m2) W2 H2 Q E:=h2;rw[Do]at h2
   cases e:D.texts ds with
   |none=>rw[e]at h2;exact h2.elim
   |some xs=>
    rw[e]at h2;have h2:DP X.K F ((M.guard (decide (z∈xs))>>=λ_=>(pure (.int (xs.idxOf z:Nat)):M D)).run m2) W2 H2 Q E:=h2;obtain⟨g,h2⟩:=gd (A:=D) h2;have hz:=AN g;have ev:=OC rv e;subst ev;obtain⟨i1,i2⟩:=M7 hz;exact⟨pp,xs,z,xs.idxOf z,rfl,rfl,.inl (.inr ⟨ob,k2.gh _ _ (x2.ex _ _ g1)⟩),i1,i2,PoR.pure k2 h2 _ (.int _)⟩
  |_=>exact h2.elim
 |_=>exact h1.elim
theorem XH {K:PySem.W.Frag}:Jb K F E cU D.addX:=λx y d0 e0 m W H Q rx ry k h=>by
 cases rx with
 |@tpx a o vs ds g1 g2 g3 rv=>
  cases ry with
  |@tpx b o2 ws es j1 j2 j3 rw'=>
   have h:DP K F ((M.guard (decide (ds≠[]∧ds.length+es.length≤sizeLine))>>=λ_=>(pure (.tpx (ds++es)):M D)).run m) W H Q E:=h;obtain⟨g,h⟩:=gd (A:=D) h;obtain⟨n1,n2⟩:=AN g;have l1:=rv.length;have l2:=rw'.length;refine⟨a,b,o,o2,vs,ws,rfl,rfl,k.gh _ _ g1,k.gh _ _ j1,λz=>n1 ?_,by rw[l1,l2];exact n2,λz=>?_,λz p o' hp hc hd=>?_⟩
   ·rw[z]at l1;exact A8.mp l1.symm
   ·rw[z]at l2;have e:es=[]:=A8.mp l2.symm;subst e;refine PoR.pure k h _ ?_;rw[A3];exact .tpx g1 g2 g3 rv
   ·exact DY k h hp (RS k hp hc hd (rv.append rw'))
  |_=>exact h.elim
 |_=>exact h.elim
theorem XI (ha:PD F X E a fa) (hb:PD F X E b fb):PD F X E (.BinOp a .Add b pos) (Ck D.addX fa fb):=Gp Zv XH ha hb
end
end Mir
namespace L2
open PySem PySem.Spec PyProof.Rows HT
section
variable {X:Cx}
def mO (K:PySem.W.Frag):V->V->Hp->VK->Prop:=λx y H Q=>∃p xs i z,x=V.ref p∧y=V.int i∧i<0∧SqL K H p xs∧atI xs i=some z∧Q z H
theorem U0:PGet X (mO X.K):=by
 intro pins s σ H x y v u Q I rx ry h;obtain⟨p,xs,i,z,rfl,rfl,neg,hq,he,q⟩:=h
 cases rx
 obtain⟨t,rfl⟩:=ry;obtain⟨its,r,pl,hz⟩:=I.list hq;obtain⟨j,h1,h2,h3,h4,h5⟩:=atI_get he;obtain⟨w,ew,rw'⟩:=r.get h2;have hl:=r.length;have hn:=line63;have fin:EP X pins σ Q w s:=⟨z,H,I,rw',q⟩;have hj:(i+(its.toArray.size:Int)).toNat=j:=by
  rw[seqIndex_neg AA h4]at h1;rw[A7,←hl];exact Option.some.inj h1
 exact wpAny_getItem_list_neg pl.isList AA (by rw[A7]<;>omega) AA (by rw[hj];simpa using ew) fin
end
end L2
namespace Mir
open PySem L2
def M.getL (k:Nat) (i:Int):M D:=⟨λm=>match m[k]? with
 |some (.lst ds)=>if i<0 then(M.opt (atI ds i)).run m else .bad
 |_=> .bad⟩
def D.addS:D->D->M D
 | .str a,.str b=>M.guard (decide (a.length+b.length≤sizeLine))>>=λ_=>pure (.str (a++b))
 |_,_=>M.bad
def D.num:D->M Int
 | .int i=>pure i
 |_=>M.bad
def JD (fo fi fv:Env->M D):Env->M Fl:=fun ρ=>fo ρ>>=λh=>D.ref h>>=λk=>fi ρ>>=λy=>D.num y>>=λi=>M.getL k i>>=λx=>fv ρ>>=λv=>D.addS x v>>=λz=>M.put k i z>>=λ_=>pure (.nx ρ)
section
variable {F:Nm} {X:Cx} {E:XK} {pos tpos:Pos} {o i e:Expr} {fo fi fv:Env->M D}
theorem XJ (ho:PD F X E o fo) (hi:PD F X E i fi) (hv:PD F X E e fv)
 (ha:∀ov iv new,augStore i ov iv new=(do holding [new,ov,iv] (setItem ov iv new);release [new,ov,iv] [];pure .next):=by intros;rfl):PDs F X E (.AugAssign (.Subscript o i tpos) .Add e pos) (JD fo fi fv):=by
 obtain⟨to,po,qo⟩:=ho;obtain⟨ti,pi,qi⟩:=hi;obtain⟨tv,pv,qv⟩:=hv;refine⟨_,ps_augS po pi U0 pv iop_add_str set_list ha,fun ρ m W σ H s k N h=>?_⟩;unfold JD at h;refine qo ρ m W σ H s k _ ((PoR.bind h).imp λW1 H1 m1 d e1 x1 k1 h1 v1 r1=>?_)
 cases r1 with
 |@hnd pp j hp=>
  have h1:E8 X.K F ((fi ρ>>=λy=>D.num y>>=λi=>M.getL j i>>=λx=>fv ρ>>=λv=>D.addS x v>>=λz=>M.put j i z>>=λ_=>(pure (Fl.nx ρ):M Fl)).run m1) W1 H1 N E:=h1;refine qi ρ m1 W1 σ H1 (s.mono x1) k1 _ ((PoR.bind h1).imp λW2 H2 m2 y e2 x2 k2 h2 v2 r2=>?_)
  cases r2 with
  |int n=>
   have h2:E8 X.K F ((M.getL j n>>=λx=>fv ρ>>=λv=>D.addS x v>>=λz=>M.put j n z>>=λ_=>(pure (Fl.nx ρ):M Fl)).run m2) W2 H2 N E:=h2;have hp2:W2.al[j]? =some pp:=by
    obtain⟨r,q⟩:=x2.al;rw[q,AV (AS.mp hp).1];exact hp
   rw[Do]at h2
   cases e4:m2[j]? with
   |none=>simp only[M.getL,e4]at h2;exact h2.elim
   |some ob=>
    cases ob with
    |lst ds=>
     simp only[M.getL,e4]at h2;by_cases neg:n<0
     ·rw[An neg]at h2
      cases e5:atI ds n with
      |none=>rw[e5]at h2;exact h2.elim
      |some x=>
       rw[e5]at h2;have h2:E8 X.K F ((fv ρ>>=λv=>D.addS x v>>=λz=>M.put j n z>>=λ_=>(pure (Fl.nx ρ):M Fl)).run m2) W2 H2 N E:=h2;obtain⟨us,hH,rv⟩:=k2.ob j pp _ hp2 e4;obtain⟨xv,ex,rx⟩:=Nj rv e5;refine⟨pp,us,n,xv,rfl,rfl,neg,.inl (.inl hH),ex,qv ρ m2 W2 σ H2 ((s.mono x1).mono x2) k2 _ ((PoR.bind h2).imp λW3 H3 m3 d3 e3 x3 k3 h3 v3 r3=>?_)⟩;have hp3:W3.al[j]? =some pp:=by
        obtain⟨r,q⟩:=x3.al;rw[q,AV (AS.mp hp2).1];exact hp2
       cases rx with
       |str a=>
        cases r3 with
        |str b=>
         have h3:E8 X.K F (((M.guard (decide (a.length+b.length≤sizeLine))>>=λ_=>(pure (D.str (a++b)):M D))>>=λz=>M.put j n z>>=λ_=>(pure (Fl.nx ρ):M Fl)).run m3) W3 H3 N E:=h3;rw[D5]at h3;obtain⟨g,h3⟩:=gd (A:=D) h3;have h3:E8 X.K F ((M.put j n (.str (a++b))>>=λ_=>(pure (Fl.nx ρ):M Fl)).run m3) W3 H3 N E:=h3;rw[Do]at h3;refine⟨a,b,rfl,rfl,AN g,?_⟩
         cases e6:m3[j]? with
         |none=>simp only[M.put,e6]at h3;exact h3.elim
         |some o3=>
          cases o3 with
          |lst es=>
           simp only[M.put,e6]at h3;obtain⟨ws,hW,rw'⟩:=k3.ob j pp _ hp3 e6
           cases e7:ixN es.length n with
           |none=>simp only[e7]at h3;exact h3.elim
           |some q=>
            simp only[e7]at h3;have ob:ObR X.K F W3 (upd H3 pp (.lst (ws.set q (.str (a++b))))) pp (.lst (es.set q (.str (a++b)))):=⟨_,upd_same,rw'.set (.str _) q⟩;exact⟨pp,ws,n,q,rfl,rfl,hW,by rw[rw'.length];exact e7,h3 W3 _ (Ext.write hp3) (k3.write hp3 ob) σ (((s.mono x1).mono x2).mono x3)⟩
          |_=>simp only[M.put,e6]at h3;exact h3.elim
        |_=>exact h3.elim
       |_=>exact h3.elim
     ·rw[Aq neg]at h2;exact h2.elim
    |_=>simp only[M.getL,e4]at h2;exact h2.elim
  |_=>exact h2.elim
 |_=>exact h1.elim
end
end Mir
namespace Mir
open PySem L2 PySem.Spec PyProof.Rows HT
def KY (gs:List (Str×(List D->M D))) (y:Str):Option (List D->M D):=(gs.find? (·.1==y)).map (·.2)
def OJ (i n:Nat) (gs:List (Str×(List D->M D))) (fs:Env->M (List D)):Env->M D:=fun ρ=>slot ρ i>>=λd=>match d with
 | .nam y=>match KY gs y with
  |some g=>fs ρ>>=λds=>M.guard (decide (ds.length=n))>>=λ_=>g ds
  |none=>M.bad
 |_=>M.bad
structure WrD (P:Program) (w:World) (K:PySem.W.Frag) (mg:Str->Option Value) (base:Heap) (F:Nm) (k n:Nat) (gs:List (Str×(List D->M D))):Prop where
 ex:∀y g,KY gs y=some g->∃k',k'≤k∧Fn P w K mg base F k' y n [] g
 nm:∀y g v f,KY gs y=some g->F y=some v->mg y=some (.ref f)->v=V.ref f
theorem fm {P:Program} {w:World} {K:PySem.W.Frag} {mg:Str->Option Value} {base:Heap} {F:Nm} {k n:Nat}:WrD P w K mg base F k n []:=⟨λ_ _ h=>(by cases h),λ_ _ _ _ h=>(by cases h)⟩
theorem Zw {P:Program} {w:World} {K:PySem.W.Frag} {mg:Str->Option Value} {base:Heap} {F:Nm} {k k' n:Nat} {y:Str} {g:List D->M D} {gs:List (Str×(List D->M D))} (c:Fn P w K mg base F k' y n [] g) (hn:∀v f,F y=some v->mg y=some (.ref f)->v=V.ref f) (r:WrD P w K mg base F k n gs) (hk:k'≤k:=by omega):WrD P w K mg base F k n ((y,g)::gs):=by
 have st:∀z,KY ((y,g)::gs) z=if y==z then some g else KY gs z:=λz=>by
  unfold KY;rw[Cc]
  cases h:y==z<;>simp[h]
 refine⟨λz q h=>?_,λz q v f h hz=>?_⟩
 ·rw[st]at h;by_cases e:y=z
  ·subst e;rw[An AD]at h
   cases h
   exact⟨k',hk,c⟩
  ·rw[Aq (by simpa using e)]at h;exact r.ex z q h
 ·rw[st]at h;by_cases e:y=z
  ·subst e;exact hn v f hz
  ·rw[Aq (by simpa using e)]at h;exact r.nm z q v f h hz
theorem JE {K:PySem.W.Frag} {mg:Str->Option Value} {F:Nm} {y:Str} {f:Addr} (hF:F=cS K) (a:PySem.W.nsIn K mainGlobals y=some (some (.ref f))) (m:mg y=some (.ref f)):∀v f',F y=some v->mg y=some (.ref f')->v=V.ref f' :=λv f' h1 h2=>by
 rw[m]at h2
 cases h2
 rw[hF,EY a]at h1
 cases h1
 rfl
section
variable {F:Nm} {X:Cx} {pos p:Pos} {e:Expr} {es:List Expr} {fs:Env->M (List D)} {x:Str} {i j k n:Nat} {gs:List (Str×(List D->M D))} {t:TA} {E:XK}
def fq (K:PySem.W.Frag) (F:Nm) (mg:Str->Option Value) (i n:Nat) (gs:List (Str×(List D->M D))) (E:XK) (t:TA):TE:=fun σ H Q=>∃f y g,σ[i]? =some (some (V.ref f))∧KY gs y=some g∧mg y=some (.ref f)∧t σ H λvs H1=>DO K F n g vs H1 Q E
theorem XM (A:WrD X.prog X.w X.K X.mg X.base F k n gs) (hr:Room k X.A) (hN:X.N[i]? =some x) (hv:Vis X.env.scope x) (ha:PA X (e::es) t)
 (hdb:(x==("__debug__" :Str))=false:=by decide) (hcd:(x==("__classdict__" :Str))=false:=by decide)
 (he:starEach (e::es) X.env=(false,eval e X.env)::starEach es X.env:=by rfl) (hpl:(backTo pos (starEach es X.env)).any (·.1)=false:=by rfl):PE X (.Call (.Name x p) (e::es) [] pos) (fq X.K F X.mg i n gs DQ t):=by
 refine⟨λpins s σ H Q I h=>?_⟩;obtain⟨f,y,g,hs,hg,hy,ht⟩:=h;obtain⟨k',hk',f',fd,ps,dvs,ds,h1,h2,h3,h4,h5,h6⟩:=A.ex y g hg;rw[hy]at h2
 cases h2
 have e0:dvs=[]:=by
  have q:=h6 ⟨[],λ_=>none⟩
  cases q
  rfl
 subst e0
 cases h5
 refine(pe_callL (i:=i) (f:=f) (dvs:=[]) (E:=DQ) h1 (hr.mono hk') hN hv h3 h4 .nil pass0 ha hdb hcd he hpl).run pins s σ H Q I ⟨hs,?_⟩;have e0:(λ(vs:List V) (H1:Hp)=>DO X.K F n g (vs++[]) H1 Q DQ)=λvs H1=>DO X.K F n g vs H1 Q DQ:=by
  funext vs H1
  rw[A3]
 rw[e0];exact ht
theorem Zx (A:WrD X.prog X.w X.K X.mg X.base F k n gs) (hr:Room j X.A) (i:Nat) (ha:PDa F X DQ (e::es) fs) (hk:k≤j:=by omega) (hN:X.N[i]? =some x:=by rfl) (hv:Vis X.env.scope x:=by first|exact Or.inl rfl|exact Or.inr (Or.inl rfl)|exact Or.inr (Or.inr rfl))
 (hdb:(x==("__debug__" :Str))=false:=by decide) (hcd:(x==("__classdict__" :Str))=false:=by decide)
 (he:starEach (e::es) X.env=(false,eval e X.env)::starEach es X.env:=by rfl) (hpl:(backTo pos (starEach es X.env)).any (·.1)=false:=by rfl):PD F X DQ (.Call (.Name x p) (e::es) [] pos) (OJ i n gs fs):=by
 obtain⟨t,pa,qa⟩:=ha;refine⟨_,XM A (hr.mono hk) hN hv pa hdb hcd he hpl,fun ρ m W σ H s k' Q h=>?_⟩;unfold OJ slot at h
 cases e1:(ρ[i]?).join with
 |none=>rw[e1]at h;exact h.elim
 |some d=>
  have e2:ρ[i]? =some (some d):=by
   cases q:ρ[i]? with
   |none=>rw[q]at e1;cases e1
   |some o=>rw[q]at e1;exact A9 some e1
  rw[e1]at h
  cases d with
  |nam y=>
   cases e3:KY gs y with
   |none=>
    have h:DP X.K F ((match KY gs y with
     |some g=>fs ρ>>=λds=>M.guard (decide (ds.length=n))>>=λ_=>g ds
     |none=>M.bad:M D).run m) W H Q DQ:=h
    rw[e3]at h;exact h.elim
   |some g=>
    have h:DP X.K F ((match KY gs y with
     |some g=>fs ρ>>=λds=>M.guard (decide (ds.length=n))>>=λ_=>g ds
     |none=>M.bad:M D).run m) W H Q DQ:=h
    rw[e3]at h;obtain⟨v,hs,rv⟩:=s.get i _ e2;obtain⟨k2,hk2,f',fd,ps,dvs,ds,h1,h2,h3,h4,h5,h6⟩:=A.ex y g e3
    cases rv with
    |nam hF=>
     have:=A.nm y g v f' e3 hF h2;subst this;refine⟨f',y,g,hs,e3,h2,?_⟩;refine qa ρ m W σ H s k' _ ((PoR.bind h).imp λW1 H1 m1 ds e1 x1 k1 h1 vs r=>?_);obtain⟨gg,h1⟩:=gd (A:=D) h1;exact⟨by rw[r.length];exact AN gg,W1,m1,ds,r,k1,h1⟩
  |_=>exact h.elim
end
section
variable {F:Nm} {X:Cx} {E:XK} {pos:Pos} {a b c:Expr} {fs:Env->M (List D)} {ρ:Env}
def mP (i j l:Nat) (fs:Env->M (List D)):Env->M Fl:=fun ρ=>fs ρ>>=λds=>match ds with
 |[u,v,w]=>pure (.nx (((ρ.set i (some u)).set j (some v)).set l (some w)))
 |_=>M.bad
theorem Zy (i j l:Nat):mP i j l fs ρ=(fs ρ>>=λds=>match ds with
 |[u,v,w]=>pure (.nx (((ρ.set i (some u)).set j (some v)).set l (some w)))
 |_=>M.bad):=(rfl)
end
end Mir
namespace Mir
open PySem L2 PySem.Spec PyProof.Rows HT
def cV (i j:Int):Prop:=0≤j∧j≤100000∧i.natAbs<2 ^ 256
theorem XN {a:Int} (h:a.natAbs<2 ^ 256):Builtin.Int.intBits a≤256:=by
 unfold Builtin.Int.intBits;split
 ·omega
 ·rename_i q
  have q:a.natAbs≠0:=λe=>q (by simpa using e);have:=(Nat.log2_lt q).mpr h;omega
def D.powB:D->D->M D:=D.arith (λi j=>decide (0≤j∧j≤100000∧i.natAbs<2 ^ 256)) λi j=> .int (i ^ j.toNat)
theorem fu (i j:Int) (q:decide (0≤j∧j≤100000∧i.natAbs<2 ^ 256)=true):cV i j:=by
 have q' :=AN q;exact q'
theorem XO (i j:Int) (h:0≤j∧j≤100000∧i.natAbs<2 ^ 256):D.powB (.int i) (.int j)=pure (.int (i ^ j.toNat)):=by
 show(M.guard (decide _)>>=λ_=>(pure (D.int (i ^ j.toNat)):M D))=_;rw[Iu h];rfl
section
variable {F:Nm} {X:Cx} {E:XK} {pos:Pos} {a b:Expr} {fa fb:Env->M D}
theorem Zz:OpR X (binaryOp .Pow) (rI cV λi j=> .int (i ^ j.toNat)):=opI λi j _ _ _ _ _ hc q=>pow_int hc.1 (by
 have h1:=XN hc.2.2;have h0:=hc.1;have h2:=hc.2.1;have h3:(Builtin.Int.intBits i:Int)*j≤256*j:=Bl AA h0;omega) q
theorem fy (ha:PD F X E a fa) (hb:PD F X E b fb):PD F X E (.BinOp a .Pow b pos) (Ck D.powB fa fb):=Gp Zz (dj fu λW i j=> .int _) ha hb
end
end Mir
namespace Mir
open PySem L2
section
variable {F:Nm} {X:Cx} {E:XK} {pos:Pos} {a:Expr} {fa:Env->M D}
theorem Rps.dropLast {K:PySem.W.Frag} {W:Wd}:∀{vs:List V} {ds:List D},Rps K F W vs ds->Rps K F W vs.dropLast ds.dropLast
 |_,_,.nil=> .nil
 |_,_,.cons q .nil=> .nil
 |_,_,.cons q (.cons q2 r)=> .cons q (Rps.dropLast (.cons q2 r))
end
end Mir
namespace L2
open PySem PySem.Spec PyProof.Rows
end L2
namespace Mir
open PySem L2
end Mir
namespace L2
open PySem PySem.Spec PyProof.Rows
inductive NamesL (X:Cx):List Expr->List Value->Prop
 |nil:NamesL X [] []
 |cons {x:Str} {p:Pos} {c:Value} {es:List Expr} {cs:List Value}:Names X x c->NamesL X es cs->NamesL X (.Name x p::es) (c::cs)
theorem NamesL.suite {X:Cx} {a:Addr} {pn:List (Addr×Obj)}:∀{es:List Expr} {cs:List Value},NamesL X es cs->NamesL (X.suite a pn) es cs
 |_,_,.nil=> .nil
 |_,_,.cons h r=> .cons h r.suite
end L2
namespace Mir
open PySem L2 PyProof.Rows Calls
structure FnR (P:Program) (w:World) (K:PySem.W.Frag) (mg:Str->Option Value) (base:Heap) (F:Nm) (k:Nat) (x:Str) (n:Nat) (dds:List D) (g:List D->M D):Prop where
 ex:∃f fd ps dvs ds,FnOk P w K mg base (L2N.CX P w) k f fd ps (DO K F n g)∧mg x=some (.ref f)∧PySem.W.keepIn K (.ref f)=true∧Binds K fd ps ds∧Vals dvs ds∧∀W,Rps K F W dvs dds
structure FnRK (P:Program) (w:World) (K:PySem.W.Frag) (mg:Str->Option Value) (base:Heap) (F:Nm) (k:Nat) (x:Str) (npos:Nat) (ks:List Str) (n:Nat) (g:List D->M D):Prop where
 ex:∃f fd ps,FnOk P w K mg base (L2N.CX P w) k f fd ps (DO K F n g)∧mg x=some (.ref f)∧PySem.W.keepIn K (.ref f)=true∧KBn K fd ps npos ks (λus ws=>us++ws) (λvs zs=>vs++zs)
section
variable {F:Nm} {X:Cx} {E:XK} {pos p:Pos} {e:Expr} {es:List Expr} {kws:List Keyword} {fs fk:Env->M (List D)} {x:Str} {j k n:Nat} {gg:List D->M D} {dds:List D} {ks:List Str}
theorem XQ {X:Cx}:L2N.Takes X (λcls d _ H'=>DQ cls d H'):=λ_ _ y=>by
 obtain⟨_,_,_,_,_,_,_,_,_,_,_,_,_,_,_,_,z⟩:=y;exact z.elim
end
structure ExD (K:PySem.W.Frag) (F:Nm) (mg:Str->Option Value) (bmB:List Value) (newId:String) (x:Str) (C:Addr):Prop where
 mg:mg x=some (.ref C)
 keep:PySem.W.keepIn K (.ref C)=true
 own:PySem.W.excIn K C bmB newId=true
 sub:PySem.W.subIn K (.ref C) (.type "BaseException")=some true
 typ:PySem.W.typeIn K (.ref C)=some (.type "type")
 nm:F x=some (.ref C)
end Mir
namespace L2
open PySem PySem.Spec PyProof.Rows
structure FnZ (P:Program) (w:World) (K:PySem.W.Frag) (mg:Str->Option Value) (base:Heap) (CX:CXT) (k:Nat) (f:Addr) (fd:FuncData) (ps:List Str) (sp:Addr×Obj->Sp):Prop where
 len:∀p vs H Q E,sp p vs H Q E->vs.length=ps.length
 run:∀(p:Addr×Obj) (A:Around) (outer:List Env) (s:Shared) (H:Hp) (args:Args) (us:List Value) (vs:List V) (Q:VK) (E:XK),L2H.RoomH k A->L2H.Hot1 A p->L2H.PinOk outer H s p->Env0 P w K mg base A outer s H->BindsTo s fd args (ps.zip us)->Vals vs us->sp p vs H Q E->
  codeAny (model P w) A (.call (.ref f) args) (CR CX outer P w H s Q E) s
end L2
namespace L2
open PySem PySem.Spec PyProof.Rows
end L2
namespace Mir
open PySem L2
open PyProof.Rows (envOfC)
end Mir
namespace Mir
open PySem L2
open PyProof.Rows (envOfC)
abbrev rl:Str:="!e"
def Nm.exc (F:Nm) (a:Addr):Nm:=⟨λy=>if y=rl then some (.ref a)else F.nm y,F.cl,F.tb,F.lx⟩
end Mir
namespace Mir
open PySem L2
open PyProof.Rows (envOfC)
section
variable {F:Nm} {P:Program} {w:World} {K:PySem.W.Frag} {mg:Str->Option Value} {base:Heap} {kn:List Str}
structure ExAt (K:PySem.W.Frag) (F:Nm) (kn:List Str) (p:Addr×Obj) (x:Xc) (C:Addr):Prop where
 kn:x.cls∈kn
 at_:F x.cls=some (.ref C)
 zn:L2N.Zn (.ref C) none p.2
 fd:∃vs,p.2.data= .fields vs
def rn (K:PySem.W.Frag) (F:Nm) (n:Nat) (kn:List Str) (g:Xc->List D->M D):Addr×Obj->Sp:=λp vs H Q E=>∃(x:Xc) (C:Addr),ExAt K F kn p x C∧DO K (F.exc p.1) n (g x) vs H Q E
structure FnE (P:Program) (w:World) (K:PySem.W.Frag) (mg:Str->Option Value) (base:Heap) (F:Nm) (k:Nat) (x:Str) (n:Nat) (kn:List Str) (g:Xc->List D->M D):Prop where
 ex:∃f fd ps,FnZ P w K mg base CX0 k f fd ps (rn K F n kn g)∧mg x=some (.ref f)∧PySem.W.keepIn K (.ref f)=true∧Binds K fd ps []
structure ExIs (K:PySem.W.Frag) (F:Nm) (mg:Str->Option Value) (y c:Str) (b:Bool):Prop where
 is:∃(v:V) (cv:Value),((mg c=some cv)∨(mg c=none∧bootBuiltins c=some cv))∧RelV v cv∧(∀u,RelV v u->u=cv)∧∀C,F y=some (.ref C)->ExcC K C∧PySem.W.kitOne K (.ref C) cv=some b
end
end Mir
theorem L2H.RoomH.units {k:Nat} {A:PySem.Around} (r:L2H.RoomH k A):A.units+64<PySem.cLine:=by
 have:=r.un;omega
namespace Mir
open PySem L2
open PyProof.Rows (envOfC)
def pL (mg:Str->Option Value):List Str->List Value->Prop
 |[],[]=>True
 |n::ns,c::cs=>mg n=some c∧pL mg ns cs
 |_,_=>False
structure TryC (K:PySem.W.Frag) (F:Nm) (mg:Str->Option Value) (kn ns:List Str):Prop where
 is:∃cs,pL mg ns cs∧∀y,y∈kn->∀C,F y=some (.ref C)->∃P:Value->Bool,(∀c,c∈cs->PySem.W.exmOne K (.ref C) c=some (P c))∧cs.any P=true
def mQ (K:PySem.W.Frag) (C:Addr):List Value->List Bool->Prop
 |[],[]=>True
 |c::cs,b::bs=>PySem.W.exmOne K (.ref C) c=some b∧mQ K C cs bs
 |_,_=>False
end Mir
namespace Mir
open PySem L2
open PyProof.Rows (envOfC)
structure MkK (P:Program) (w:World) (K:PySem.W.Frag) (mg:Str->Option Value) (base:Heap) (F:Nm) (k:Nat) (C:Addr) (npos:Nat) (ks:List Str) (pi:List Nat) (n:Nat) (g:List D->M D):Prop where
 ex:∃f fd ps,FnOk P w K mg base CX0 k f fd ps (DO K F n g)∧L2.Mk K C f∧KBn K fd ps (npos+1) ks (λus ws=>us++pick pi ws) (λvs zs=>vs++pick pi zs)
def FN (cls:Str) (npos nk n:Nat) (pi:List Nat) (gg:List D->M D) (fs fk:Env->M (List D)):Env->M D:=fun ρ=>fs ρ>>=λxs=>fk ρ>>=λzs=>M.more (.ins cls [])>>=λs=>M.guard (decide (xs.length=npos∧zs.length=nk∧(s::(xs++pick pi zs)).length=n))>>=λ_=>gg (s::(xs++pick pi zs))>>=λr=>D.isNon r>>=λ_=>pure s
section
variable {F:Nm} {X:Cx} {cls x:Str} {C:Addr} {pos p:Pos} {e:Expr} {es:List Expr} {kws:List Keyword} {ks:List Str} {pi:List Nat} {fs fk:Env->M (List D)} {j k n npos nk:Nat} {gg:List D->M D}
theorem XS {t tk:TA} (c:ClsD X.K F cls C) (qa:Yo X.K F DQ t fs) (qk:Yo X.K F DQ tk fk):Ky X.K F DQ (tMakeK C npos nk (DO X.K F n gg) (λvs zs=>vs++pick pi zs) DQ t tk) (FN cls npos nk n pi gg fs fk):=fun ρ m W σ H s k Q h=>by
 unfold FN at h;refine qa ρ m W σ H s k _ ((PoR.bind h).imp λW0 H0 m0 xs e0 x0 k0 h0 vs r0=>?_);refine qk ρ m0 W0 σ H0 (s.mono x0) k0 _ ((PoR.bind h0).imp λW1 H1 m1 zs e1 x1 k1 h1 ws r1=>?_);have h1:PoR X.K F ((M.guard (decide (xs.length=npos∧zs.length=nk∧(D.hnd m1.length::(xs++pick pi zs)).length=n))>>=λ_=>gg (D.hnd m1.length::(xs++pick pi zs))>>=λr=>D.isNon r>>=λ_=>(pure (D.hnd m1.length):M D)).run (m1++[.ins cls []])) W1 H1 (λW' H' _ d=>∀v,Rp X.K F W' v d->Q v H') DQ:=h1;have gl:xs.length=npos∧zs.length=nk∧(D.hnd m1.length::(xs++pick pi zs)).length=n:=by
  have h2:=h1;obtain⟨g,_⟩:=gd (A:=D) h2;exact AN g
 refine⟨by rw[r0.length];exact gl.1,by rw[r1.length];exact gl.2.1,λy dx hy hdx hne=>?_⟩;have k2:Ok X.K F W1 m1 (upd H1 dx (.own y)):=E9 k1 (k1.fresh hdx) (k1.gnone hdx) (λu e=>by rw[hdx]at e;cases e);have x2:Ext W1 H1 W1 (upd H1 dx (.own y)):=cE (Ext.refl _ _) hdx;have hy2:upd H1 dx (.own y) y=none:=by rw[upd_ne (Ne.symm hne)];exact hy
 have x3:Ext W1 (upd H1 dx (.own y)) (W1.more y) (upd (upd H1 dx (.own y)) y (.ins C dx [])):=Ext.more hy2;have k3:Ok X.K F (W1.more y) (m1++[.ins cls []]) (upd (upd H1 dx (.own y)) y (.ins C dx [])):=k2.more hy2 ⟨[],C,dx,upd_same,c.nm,rfl,.nil⟩;have hal:(W1.more y).al[m1.length]? =some y:=by
  show(W1.al++[y])[m1.length]? =some y;rw[←k1.len];simp
 have h1:=PoR.mono (x2.trans x3) h1;obtain⟨g,h1⟩:=gd (A:=D) h1;have ra:Rps X.K F (W1.more y) ((.ref y::vs)++pick pi ws) (D.hnd m1.length::(xs++pick pi zs)):= .cons (.hnd hal) ((((r0.mono x1).mono x2).mono x3).append (JA ((r1.mono x2).mono x3) pi));refine⟨by rw[ra.length];exact gl.2.2,_,_,_,ra,k3,(PoR.bind h1).imp λW4 H4 m4 d e4 x4 k4 h4 v r4=>?_⟩
 cases r4 with
 |non=>
  refine⟨rfl,PoR.pure k4 h4 _ (.hnd ?_)⟩;obtain⟨r,q⟩:=x4.al;rw[q,AV (AS.mp hal).1];exact hal
 |_=>exact h4.elim
end
end Mir
namespace Mir
open PySem L2
def D.listH (x:D):M D:=D.list x>>=λd=>match d with
 | .lst ds=>M.more (.lst ds)
 |_=>M.bad
section
variable {F:Nm} {X:Cx} {E:XK}
theorem XT {K:PySem.W.Frag}:MT K F E (λxs H Q=>∃p ys,xs=[.ref p]∧(SqL K H p ys∨SqT K H p ys)∧∀l,H l=none->Q (.ref l) (upd H l (.lst ys))) (d1 D.listH):=SV λv d0 m W H Q rx k h=>by
 unfold D.listH D.list at h;rw[D5]at h;obtain⟨d,rx,h⟩:=Df k rx h
 cases d with
 |lst ds=>
  obtain⟨p,vs,rfl,h1,r1⟩:=rx;exact⟨p,vs,rfl,.inl (.inl (.inl h1)),λl hl=>Kf k hl r1 h⟩
 |frz ds=>
  cases rx with
  |@frz p vs _ h1 r1=>exact⟨p,vs,rfl,.inl (SU k.gh h1),λl hl=>Kf k hl r1 h⟩
 |tup ds=>
  cases rx with
  |@tup p vs _ h1 r1=>exact⟨p,vs,rfl,.inr (MQ k.gh h1),λl hl=>Kf k hl r1 h⟩
 |_=>exact h.elim
theorem Z0:Bif F X E "list" (d1 D.listH):=⟨_,.inr ⟨_,call_list_of,AC⟩,XT⟩
end
end Mir
namespace Mir
open PySem L2
theorem Z1 {K:PySem.W.Frag} {F:Nm} {W:Wd} {a:Addr} {od:Option Addr} {its:Array Value} {n:Nat} {sl:Array (Option Value)} (l:K.lookup a=some ⟨.type "tuple",od,.seq its n,sl⟩) (v:Vals [] its.toList):Rp K F W (.ref a) (.tup []):=by
 have hz:its.size=([]:List V).length:=by rw[v.length,AU]
 exact .tup (.inr ⟨_,its,n,l,rfl,rfl,by rw[hz];decide,v⟩) .nil
end Mir
namespace Mir
open PySem L2
end Mir
namespace Mir
open PySem L2
def TY:List D->Option (List Key)
 |[]=>some []
 | .str z::ds=>(TY ds).map (.inr z::·)
 | .int i::ds=>(TY ds).map (.inl i::·)
 |_::_=>none
end Mir
namespace L2
open PySem PySem.Spec PyProof.Rows PySem.W
end L2
namespace Mir
open PySem L2
open PySem.W (dataLe AllAlike alike)
end Mir
namespace Mir
open PySem L2
end Mir
set_option maxHeartbeats 1000000
namespace ZSt
open PySem
open PySem.Builtin.SmallTypes (nextOrEnd)
abbrev Zs (h:Heap) (z TI TO:Addr) (v:Value):Prop:=h.get? z=some {cls:= .type "zip",dict:=none,data:= .fields #[v,.bool false,.bool true,.ref TI,.ref TO],slots:=#[]}
section
variable {P:Program} {w:World} {A:Around} {E:Value->Shared->Prop} {s:Shared} {z TI TO i j p q it:Addr} {m n k:Nat} {us vs:Array Value} {u v a b:Value}
theorem M8 {Q:Option Value->Shared->Prop} (h1:s.heap.IsTupleIter it p k) (h2:s.heap.IsTuple p us) (e:us[k]? =some u) (f:∀g,g.IsTupleIter it p (k+1)->Heap.SameBut it s.heap g->Q (some u) {s with heap:=g}):wpAny (model P w) A (nextOrEnd (.ref it)) Q E s:=by
 unfold nextOrEnd;exact wpAny_bind (wpAny_attempt (RZ.nextOf_tuple_item h1 h2 e λg x y=>wpAny_pure (f g x y)))
theorem item {Q:Value->Shared->Prop} (D:ZipApart z TI TO i j p q) (hz:Zs s.heap z TI TO .none) (hI:IsPair s.heap TI (.ref i) (.ref j)) (hO:IsPair s.heap TO a b) (c1:s.heap.IsTupleIter i p m) (c2:s.heap.IsTupleIter j q n) (t1:s.heap.IsTuple p us) (t2:s.heap.IsTuple q vs) (e1:us[m]? =some u) (e2:vs[n]? =some v)
 (f:∀g,Zs g z TI TO (rawInt s.heap.objs.size)->IsPair g TO u v->g.IsTupleIter i p (m+1)->g.IsTupleIter j q (n+1)->IsPair g s.heap.objs.size u v->g.objs.size=s.heap.objs.size+1->
  (∀c o,c≠z->c≠TO->c≠i->c≠j->s.heap.get? c=some o->g.get? c=some o)->Q (.ref s.heap.objs.size) {s with heap:=g}):
 wpAny (model P w) A (Builtin.«zip.__next__» ⟨[.ref z],[]⟩) (λr s'=>∃y,r= .done (.ret y)∧Q y s') E s:=by
 show wpAny _ _ (field (.ref z) 2>>=_) _ _ _;apply wpAny_bind;apply wpAny_field hz rfl (x:= .bool true) rfl;show wpAny _ _ (field (.ref z) 3>>=_) _ _ _;apply wpAny_bind;apply wpAny_field hz rfl (x:= .ref TI) rfl;apply wpAny_bind;apply wpAny_seqItems hI rfl;show wpAny _ _ (Builtin.SmallTypes.ownedTupleIsFree (.ref z)>>=_) _ _ _;apply wpAny_bind;unfold Builtin.SmallTypes.ownedTupleIsFree;apply wpAny_bind;apply wpAny_field hz rfl (x:= .none) rfl;apply wpAny_pure;simp only[if_true];apply wpAny_bind;apply wpAny_rule;apply wpAny_bind;apply wpAny_field hz rfl (x:= .ref TO) rfl;apply wpAny_bind;refine wpAny_setField_rec hz AD λg1 hz1 s1=>?_;have hz1:Zs g1 z TI TO .ellipsis:=hz1;apply wpAny_bind;simp only[List.forIn_cons,List.forIn_nil,List.zipIdx_cons,List.zipIdx_nil];apply wpAny_bind;apply wpAny_bind;apply wpAny_onRaise;show wpAny _ _ (nextOrEnd (.ref i)) _ _ _;refine M8 (c1.extBut s1.extBut D.i1z) (t1.extBut s1.extBut D.l1z) e1 λg2 d1 s2=>?_;have hO2:IsPair g2 TO a b:=s2.extBut _ _ D.TOi1 (s1.extBut _ _ D.TOz hO);apply wpAny_bind;apply wpAny_seqItems hO2 rfl;apply wpAny_bind;refine wpAny_updateSeq_pair hO2 λg3 hO3 s3=>?_;have hO3:IsPair g3 TO u b:=hO3;apply wpAny_bind;apply wpAny_letGo;apply wpAny_pure;apply wpAny_bind;apply wpAny_bind;apply wpAny_onRaise;show wpAny _ _ (nextOrEnd (.ref j)) _ _ _;refine M8 (((c2.extBut s1.extBut D.i2z).extBut s2.extBut D.i12.symm).extBut s3.extBut D.TOi2.symm) (((t2.extBut s1.extBut D.l2z).extBut s2.extBut D.l2i1).extBut s3.extBut D.l2TO) e2 λg4 d2 s4=>?_;have hO4:IsPair g4 TO u b:=s4.extBut _ _ D.TOi2 hO3;apply wpAny_bind;apply wpAny_seqItems hO4 rfl;apply wpAny_bind;refine wpAny_updateSeq_pair hO4 λg5 hO5 s5=>?_;have hO5:IsPair g5 TO u v:=hO5;apply wpAny_bind;apply wpAny_letGo;apply wpAny_pure;apply wpAny_pure;apply wpAny_bind;apply wpAny_seqItems hO5 rfl;apply wpAny_bind;refine wpAny_newTuple ?_;have sz:g5.objs.size=s.heap.objs.size:=s5.1.trans (s4.1.trans (s3.1.trans (s2.1.trans s1.1)));have hz5:Zs g5 z TI TO .ellipsis:=s5.extBut _ _ D.TOz.symm (s4.extBut _ _ D.i2z.symm (s3.extBut _ _ D.TOz.symm (s2.extBut _ _ D.i1z.symm hz1)));have kp:∀c o,c≠z->c≠TO->c≠i->c≠j->s.heap.get? c=some o->g5.get? c=some o:=λc o n1 n2 n3 n4 e=>s5.extBut _ _ n2 (s4.extBut _ _ n4 (s3.extBut _ _ n2 (s2.extBut _ _ n3 (s1.extBut _ _ n1 e))));have d1:g5.IsTupleIter i p (m+1):=((d1.extBut s3.extBut D.TOi1.symm).extBut s4.extBut D.i12).extBut s5.extBut D.TOi1.symm;have d2:g5.IsTupleIter j q (n+1):=d2.extBut s5.extBut D.TOi2.symm;have lz:z<g5.objs.size:=Heap.lt_size hz5;show wpAny _ _ (Builtin.SmallTypes.ownedTupleHandOut (.ref z) (.ref g5.objs.size)>>=_) _ _ _;apply wpAny_bind;unfold Builtin.SmallTypes.ownedTupleHandOut;have hz6:Zs (g5.push {cls:= .type "tuple",data:= .seq #[u,v]}) z TI TO .ellipsis:=Heap.get?_push_of_some _ hz5;apply wpAny_bind;refine wpAny_setField_rec hz6 AD λg7 hz7 s7=>?_;have hz7:Zs g7 z TI TO (rawInt g5.objs.size):=hz7;refine wpAny_setField_rec hz7 AD λg8 hz8 s8=>?_;have hz8:Zs g8 z TI TO (rawInt g5.objs.size):=hz8;have up:∀c o,c≠z->g5.get? c=some o->g8.get? c=some o:=λc o n e=>s8.extBut _ _ n (s7.extBut _ _ n (Heap.get?_push_of_some _ e));have new:IsPair g8 g5.objs.size u v:=s8.extBut _ _ (B4 lz) (s7.extBut _ _ (B4 lz) (Heap.get?_push_size _ rfl));have sz8:g8.objs.size=g5.objs.size+1:=by rw[s8.1,s7.1,Heap.size_push]
 apply wpAny_pure;refine⟨_,rfl,?_⟩;have fin:=f g8;rw[←sz]at fin;exact fin hz8 (up _ _ D.TOz hO5) (d1.at λo e=>up _ o D.i1z e) (d2.at λo e=>up _ o D.i2z e) new sz8 λc o n1 n2 n3 n4 e=>up c o n1 (kp c o n1 n2 n3 n4 e)
theorem starts (l1 l2:Addr) (xs ys:Array Value) (y:Value) (e:y= .bool true):
 Meets (Builtin.«zip.__new__» ⟨[.type "zip",.ref l1,.ref l2],[(Str.ofString "strict",y)]⟩) (λ_ R s=>s.heap.IsTuple l1 xs∧s.heap.IsTuple l2 ys∧
  R (.ok (.ret (.ref (RZ.zipTH4 s.heap l1 l2).objs.size))) {s with heap:=(RZ.zipTH4 s.heap l1 l2).push {cls:= .type "zip",data:= .fields #[.none,.bool false,.bool true,.ref (RZ.zipTH2 s.heap l1 l2).objs.size,.ref (RZ.zipTH3 s.heap l1 l2).objs.size]}}):=
 .of_wp λP w A R s h=>by
  subst e;obtain⟨hp,g,d,tk,os⟩:=s;obtain⟨t1,t2,h⟩:=h;have k0:=sub_zip;have k1:Heap.IsTuple (Shared.heap ⟨hp,g,d,tk,os⟩) l1 xs:=t1;have k2:Heap.IsTuple (Shared.heap ⟨hp.push {cls:= .type "tuple_iterator",data:= .fields #[.ref l1,.int 0 0]},g,d,tk,os⟩) l2 ys:=Heap.IsTuple.push t2 _;have q1:(Str.ofString "strict" !=("strict" :Str))=false:=by decide+kernel
  wp_walk using wpAny_pyIter_tuple k1,wpAny_pyIter_tuple k2
  exact⟨_,rfl,h⟩
theorem tc (x y v:Value):checkTypeCall "zip" ⟨[x,y],[(Str.ofString "strict",v)]⟩=pure ():=by kernel_rfl
theorem nc (x y v:Value):checkBuiltinCall "zip.__new__" ⟨[.type "zip",x,y],[(Str.ofString "strict",v)]⟩=pure ():=by kernel_rfl
theorem oi (o x y v:Value):argsOk "object.__init__" ⟨[o,x,y],[(Str.ofString "strict",v)]⟩:=by
 unfold argsOk
 kernel_rfl
theorem made {l1 l2:Addr} {xs ys:Array Value} {Q:Value->Shared->Prop} (t1:s.heap.IsTuple l1 xs) (t2:s.heap.IsTuple l2 ys)
 (f:∀g,Zs g (s.heap.objs.size+4) (s.heap.objs.size+2) (s.heap.objs.size+3) .none->IsPair g (s.heap.objs.size+2) (.ref s.heap.objs.size) (.ref (s.heap.objs.size+1))->IsPair g (s.heap.objs.size+3) .none .none->g.IsTupleIter s.heap.objs.size l1 0->g.IsTupleIter (s.heap.objs.size+1) l2 0->
  (∀c o,s.heap.get? c=some o->g.get? c=some o)->Q (.ref (s.heap.objs.size+4)) {s with heap:=g}):
 wpAny (model P w) A (call (.type "zip") [.ref l1,.ref l2] [(Str.ofString "strict",.bool true)]) Q E s:=by
 refine callType_newKw F.called_zip AB (tc _ _ _) (nc _ _ _) (λo=>oi o _ _ _) F.entry_zip_new (starts l1 l2 xs ys _ rfl) ⟨t1,t2,?_⟩;generalize hG:(RZ.zipTH4 s.heap l1 l2).push {cls:= .type "zip",data:= .fields #[.none,.bool false,.bool true,.ref (RZ.zipTH2 s.heap l1 l2).objs.size,.ref (RZ.zipTH3 s.heap l1 l2).objs.size]}=G;have n1:(RZ.zipTH1 s.heap l1).objs.size=s.heap.objs.size+1:=Heap.size_push ..;have n2:(RZ.zipTH2 s.heap l1 l2).objs.size=s.heap.objs.size+2:=(Heap.size_push ..).trans (by rw[n1]);have n3:(RZ.zipTH3 s.heap l1 l2).objs.size=s.heap.objs.size+3:=(Heap.size_push ..).trans (by rw[n2]);have n4:(RZ.zipTH4 s.heap l1 l2).objs.size=s.heap.objs.size+4:=(Heap.size_push ..).trans (by rw[n3]);have up:∀c o,(RZ.zipTH4 s.heap l1 l2).get? c=some o->G.get? c=some o:=λc o e=>by rw[←hG];exact Heap.get?_push_of_some _ e
 have a5:=Heap.get?_push_size (RZ.zipTH4 s.heap l1 l2) (o:=({cls:= .type "zip",data:= .fields #[.none,.bool false,.bool true,.ref (RZ.zipTH2 s.heap l1 l2).objs.size,.ref (RZ.zipTH3 s.heap l1 l2).objs.size]}:Obj)) rfl;rw[hG]at a5;have a4:G.get? (RZ.zipTH3 s.heap l1 l2).objs.size=some _:=up _ _ (Heap.get?_push_size _ rfl);have a3:G.get? (RZ.zipTH2 s.heap l1 l2).objs.size=some _:=up _ _ (Heap.get?_push_of_some _ (Heap.get?_push_size _ rfl));have a2:G.get? (RZ.zipTH1 s.heap l1).objs.size=some _:=up _ _ (Heap.get?_push_of_some _ (Heap.get?_push_of_some _ (Heap.get?_push_size _ rfl)));have a1:G.get? s.heap.objs.size=some _:=up _ _ (Heap.get?_push_of_some _ (Heap.get?_push_of_some _ (Heap.get?_push_of_some _ (Heap.get?_push_size _ rfl))));show _∧_;rw[n4,n2,n3]at a5;rw[n3]at a4;rw[n2,n1]at a3;rw[n1]at a2;rw[n4];exact⟨⟨_,a5,rfl⟩,f G a5 a3 a4 ⟨_,a1,rfl,rfl⟩ ⟨_,a2,rfl,rfl⟩ λc o x=>up _ _ (Heap.get?_push_of_some _ (Heap.get?_push_of_some _ (Heap.get?_push_of_some _ (Heap.get?_push_of_some _ x))))⟩
end
open PySem.Spec PyProof.Rows L2
end ZSt
namespace ZSt
open PySem PySem.Spec PyProof.Rows L2
end ZSt
namespace Mir
open PySem L2
end Mir
namespace Mir
open PySem L2
def cW (fb:Env->M Fl):Env->M Fl:=fun ρ=>M.noexc (fb ρ)
section
variable {F:Nm} {X:Cx} {n x:Str} {T:String} {i:Nat} {body suite:List Stmt} {b₀:Stmt} {np pos hpos:Pos} {fb:Env->M Fl}
theorem fz (hm:X.mg x=none) (hT:bootBuiltins x=some (.type T)) (hb:∀(pn:List (Addr×Obj)) (xe:Value->Shared->Prop) (E:XK),L2N.Takes (X.tr pn xe) (λcls d _ H'=>E cls d H')->PassesOwn (model X.prog X.w) X.A X.env xe->PDss F (X.tr pn xe) E body fb)
 (nd:X.N.Nodup) (nn:x≠"__name__" :=by decide) (hg:Gl X x:=by rfl) (hdb:(x==("__debug__" :Str))=false:=by decide) (stk:X.stack=X.env::X.outer:=by rfl) (frm:X.env.frame=some X.env.locals:=by rfl) (at_:X.N[i]? =some n:=by rfl) (lcl:X.env.kindOf n=some .local:=by rfl):
 PDs F X DQ (.Try body [.ExceptHandler (some (.Name x np)) (some n) (b₀::suite) hpos] [] [] pos) (cW fb):=by
 have names:Names X x (.type T):=⟨hg,hdb,.inr ⟨hm,hT,nn⟩⟩;refine⟨_,L2N.ps_try_as (tb:=λW D σ H=>∃ρ m Wd,Sl X.K F Wd ρ σ∧Ok X.K F Wd m H∧E8 X.K F ((M.noexc (fb ρ)).run m) Wd H D DQ) (ts:=λ_ _ _ _ _ _=>False) (Wout:=λcls d _ H'=>DQ cls d H') stk frm nd at_ lcl names XQ (λW pn xe tk ps=>?_) (λa oe cls d pn hz hf=>⟨λ_ _ _ _ _ _ h=>h.elim⟩),fun ρ m W σ H sl k N h=>⟨ρ,m,W,sl,k,h⟩⟩;obtain⟨t,p,q⟩:=hb pn xe (λcls d H'=>∀σ' :L2.St,σ'.length=X.N.length->W cls d σ' H') (λu s' y=>by
  obtain⟨a,B,sI,pins,σ,H,cls,d,e,I,y1,y2,y3,y4,y5,y6,w⟩:=y;exact tk u s' ⟨a,B,sI,pins,σ,H,cls,d,e,I,y1,y2,y3,y4,y5,y6,w σ I.len⟩) ps
 refine⟨λpins s σ H D I h=>?_⟩;obtain⟨ρ,m,Wd,sl,k,h⟩:=h;refine p.run pins s σ H D I (q ρ m Wd σ H sl k D ?_)
 cases e:(fb ρ).run m with
 |bad=>unfold M.noexc at h;simp only[e]at h;exact h.elim
 |ok a m'=>unfold M.noexc at h;simp only[e]at h;exact h
 |exc y m'=>unfold M.noexc at h;simp only[e]at h;exact h.elim
end
end Mir
namespace Mir
open PySem L2
def D.still:D->M D
 | .hnd k=>⟨λm=>match m[k]? with
  |some (.lst ds)=> .ok (.lst ds) (m.set k .dead)
  |_=> .bad⟩
 |d=>pure d
end Mir
namespace L2
open PySem PySem.Spec PyProof.Rows PySem.W PySem.SeqAt
open PySem.AutoSeq1 (wpAny_loadPart')
open PySem.MeetsSeq PySem.MeetsSeq2 PySem.MeetsSeq3 PySem.SeqRoads2
mutual
def ppl:PyData->Bool
 | .int _=>true
 | .str _=>true
 | .tuple xs=>mR xs
 |_=>false
def mR:List PyData->Bool
 |[]=>true
 |x::xs=>ppl x && mR xs
end
mutual
def wal:PyData->PyData->Bool
 | .int _,.int _=>true
 | .str _,.str _=>true
 | .tuple xs,.tuple ys=>mS xs ys
 |_,_=>false
def mS:List PyData->List PyData->Bool
 |[],_=>true
 |_::_,[]=>true
 |x::xs,y::ys=>if PyData.eqv x y=true then mS xs ys else wal x y
end
structure WData (ds:List PyData):Prop where
 ppl:∀d,d∈ds->L2.ppl d=true
 lay:∀d,d∈ds->d.canLay0=true
 wal:∀d,d∈ds->∀e,e∈ds->L2.wal d e=true
 str:∀d,d∈ds->∃z r,d= .tuple (.str z::r)
end L2
namespace Mir
open PySem L2
open PySem.W (dataLe)
def gA:PyData->Bool
 | .tuple (.str _::_)=>true
 |_=>false
def pM (ps:List PyData):Bool:=(ps.all λp=>ppl p && p.canLay0 && gA p && decide (p.depth≤60)) && ps.all λp=>ps.all λq=>wal p q
end Mir
namespace Mir
open PySem PySem.Spec L2
def O8 (m:Nat):Nat->Nat×Nat->Nat×Nat
 |0,q=>q
 |n+1,q=>O8 m n (SetTable.leap m q.1 q.2)
theorem TZ (m:Nat):∀(a b:Nat) (q:Nat×Nat),O8 m (a+b) q=O8 m b (O8 m a q)
 |0,b,q=>by rw[CL];rfl
 |a+1,b,q=>by
  rw[Nat.succ_add];show O8 m (a+b) _=O8 m b (O8 m a _);exact TZ m a b _
theorem Tc (m:Nat):∀(n i b:Nat),(O8 m n (i,b)).2=b / 32 ^ n
 |0,i,b=>by rw[Nat.pow_zero,Nat.div_one];rfl
 |n+1,i,b=>by
  show(O8 m n (SetTable.leap m i b)).2=_;rw[show SetTable.leap m i b=((SetTable.leap m i b).1,b / 32)from rfl,Tc m n,Nat.div_div_eq_div_mul,Nat.pow_succ,Nat.mul_comm]
def XU (m:Nat):Nat->Nat->List Nat
 |0,_=>[]
 |n+1,i=>i::XU m n ((i*5+1) % (m+1))
theorem M9 {m j:Nat}:∀{n i:Nat},j∈XU m n i->∃r,r<n∧(O8 m r (i,0)).1=j
 |0,_,h=>(AM h).elim
 |n+1,i,h=>by
  rcases AQ.mp h with rfl|h
  ·exact⟨0,Nat.succ_pos n,rfl⟩
  ·obtain⟨r,hr,e⟩:=M9 h;refine⟨r+1,Nat.succ_lt_succ hr,?_⟩;show(O8 m r (SetTable.leap m i 0)).1=j;exact e
def Eo (m:Nat):Bool:=(List.range (m+1)).all λi=>(List.range (m+1)).all λj=>(XU m (m+1) i).contains j
theorem P3:Eo 7=true:=by decide+kernel
theorem U1:Eo 15=true:=by decide+kernel
theorem U2:Eo 31=true:=by decide+kernel
theorem U3:Eo 63=true:=by decide+kernel
theorem U4 {m i j:Nat} (hc:Eo m=true) (hi:i≤m) (hj:j≤m):∃r,r<m+1∧(O8 m r (i,0)).1=j:=by
 have a:=A4.mp hc i (Bb.mpr (Nat.lt_succ_of_le hi));have b:=A4.mp a j (Bb.mpr (Nat.lt_succ_of_le hj));exact M9 (List.contains_iff_mem.mp b)
def bare (ow:Array (Option Nat)) (j:Nat):Bool:=(ow.getD j (some 0)).isNone
theorem Td {ow:Array (Option Nat)} {j:Nat}:bare ow j=true↔ow.toList[j]? =some none:=by
 unfold bare;rw[Bs,←BE]
 cases e:ow.toList[j]? with
 |none=>simp
 |some o=>cases o<;>simp
abbrev seek (m:Nat) (ow:Array (Option Nat)) (f i b:Nat):Option Nat:=SetTable.layClean.free m ow f i b
theorem NA (m:Nat) (ow:Array (Option Nat)) (f i b:Nat):seek m ow (f+1) i b=match (List.range (SetTable.runEnd m i+1 - i)).find? λk=>bare ow (i+k)with
 |some k=>some (i+k)
 |none=>seek m ow f (SetTable.leap m i b).1 (SetTable.leap m i b).2:=rfl
theorem NB {m:Nat} {ow:Array (Option Nat)}:∀{f i b j:Nat},seek m ow f i b=some j->bare ow j=true
 |0,_,_,_,h=>nomatch h
 |f+1,i,b,j,h=>by
  rw[NA]at h;split at h
  ·rename_i k e
   cases h
   exact List.find?_some (p:=λk=>bare ow (i+k)) e
  ·exact NB h
theorem NC {m:Nat} {ow:Array (Option Nat)}:∀{f i b:Nat},seek m ow f i b=none->∀r,r<f->bare ow (O8 m r (i,b)).1=false
 |0,_,_,_,r,h=>absurd h (Bp r)
 |f+1,i,b,h,r,hr=>by
  rw[NA]at h;split at h
  ·cases h
  ·rename_i e
   cases r with
   |zero=>
    have z:=List.find?_eq_none.mp e 0 (Bb.mpr (by unfold SetTable.runEnd;split<;>omega));have z:bare ow i=false:=by simpa using z
    exact z
   |succ r=>exact NC h r (B9 hr)
theorem bits_lt (h:Int):SetTable.bits h<2 ^ 64:=by unfold SetTable.bits;omega
theorem leap_le {m i b:Nat}:(SetTable.leap m i b).1≤m:=Nat.le_of_lt_succ (Nat.mod_lt _ (Nat.succ_pos m))
theorem XW {m:Nat}:∀(n:Nat) {i b:Nat},i≤m->(O8 m n (i,b)).1≤m
 |0,_,_,h=>h
 |n+1,i,b,_=>by
  show(O8 m n (SetTable.leap m i b)).1≤m;rw[show SetTable.leap m i b=((SetTable.leap m i b).1,(SetTable.leap m i b).2)from rfl];exact XW n leap_le
theorem Z2 {m:Nat} (hc:Eo m=true) (ow:Array (Option Nat)) (h:Int) {j:Nat} (hj:j≤m) (hb:bare ow j=true):∃k,seek m ow (SetTable.turns m) (SetTable.bits h % (m+1)) (SetTable.bits h)=some k∧bare ow k=true:=by
 cases e:seek m ow (SetTable.turns m) (SetTable.bits h % (m+1)) (SetTable.bits h)with
 |some k=>exact⟨k,rfl,NB e⟩
 |none=>
  exfalso
  have i0:SetTable.bits h % (m+1)≤m:=Nat.le_of_lt_succ (Nat.mod_lt _ (Nat.succ_pos m));have z:(O8 m 13 (SetTable.bits h % (m+1),SetTable.bits h)).2=0:=by
   rw[Tc];exact Nat.div_eq_of_lt (BA (bits_lt h) AB)
  obtain⟨r,hr,er⟩:=U4 hc (XW 13 i0 (b:=SetTable.bits h)) hj;have q:=NC e (13+r) (by unfold SetTable.turns;omega);rw[TZ,show O8 m 13 (SetTable.bits h % (m+1),SetTable.bits h)=((O8 m 13 (SetTable.bits h % (m+1),SetTable.bits h)).1,0)from by rw[←z],er,hb]at q
  cases q
def Jq (ow:Array (Option Nat)):List Nat:=ow.toList.filterMap id
theorem ND:∀{l:List (Option Nat)},(l.filterMap id).length<l.length->∃j:Nat,l[j]? =some none
 |[],h=>absurd h (Nat.lt_irrefl _)
 |none::l,_=>⟨0,rfl⟩
 |some k::l,h=>by
  obtain⟨j,e⟩:=ND (l:=l) (by
   rw[Ax (show id (some k)=some k from rfl),AI,AI]at h;omega)
  exact⟨j+1,e⟩
theorem LU:∀{l:List (Option Nat)} {j k:Nat},l[j]? =some none->((l.set j (some k)).filterMap id).Perm (k::l.filterMap id)
 |[],_,_,h=>nomatch h
 |o::l,0,k,h=>by
  cases Option.some.inj h
  exact Bt _
 |none::l,j+1,k,h=>LU (l:=l) h
 |some a::l,j+1,k,h=>by
  have ih:=LU (l:=l) (j:=j) (k:=k) h;show(a::(l.set j (some k)).filterMap id).Perm (k::a::l.filterMap id);exact(ih.cons a).trans (List.Perm.swap _ _ _)
structure Laying (m k:Nat) (ow:Array (Option Nat)):Prop where
 size:ow.size=m+1
 vals:(Jq ow).Perm (List.range k)
def Kn (m:Nat) (acc:Option (Array (Option Nat)×Nat)) (h:Int):Option (Array (Option Nat)×Nat):=acc.bind λq=>(seek m q.1 (SetTable.turns m) (SetTable.bits h % (m+1)) (SetTable.bits h)).bind λj=>some (q.1.setIfInBounds j (some q.2),q.2+1)
theorem P4 (m:Nat) (hs:Array Int):SetTable.layClean m hs=(hs.toList.foldl (Kn m) (some (Array.replicate (m+1) none,0))).map (·.1):=by
 unfold SetTable.layClean;rw[←Array.foldl_toList];rfl
theorem P5 {m:Nat} (hc:Eo m=true):∀(hs:List Int) (ow:Array (Option Nat)) (k:Nat),Laying m k ow->k+hs.length≤m+1->∃ow',hs.foldl (Kn m) (some (ow,k))=some (ow',k+hs.length)∧Laying m (k+hs.length) ow'
 |[],ow,k,W,_=>⟨ow,rfl,W⟩
 |h::hs,ow,k,W,hl=>by
  rw[AI]at hl;obtain⟨j,ej⟩:=ND (l:=ow.toList) (by
   have:=W.vals.length_eq;rw[Bf]at this;show(Jq ow).length<ow.toList.length;rw[this,AU,W.size];omega)
  have jl:j≤m:=by
   have:=(AS.mp ej).1;rw[AU,W.size]at this;omega
  obtain⟨i,e1,e2⟩:=Z2 hc ow h jl (Td.mpr ej);have W' :Laying m (k+1) (ow.setIfInBounds i (some k)):=⟨by rw[Array.size_setIfInBounds];exact W.size,by
   unfold Jq;rw[Array.toList_setIfInBounds,Cd];exact(LU (Td.mp e2)).trans ((W.vals.cons k).trans (CO _ _).symm)⟩
  obtain⟨ow',f,W2⟩:=P5 hc hs _ _ W' AA;refine⟨ow',?_,by rw[AI,show k+(hs.length+1)=k+1+hs.length by omega];exact W2⟩;rw[List.foldl_cons,AI,show k+(hs.length+1)=k+1+hs.length by omega];rw[show Kn m (some (ow,k)) h=some (ow.setIfInBounds i (some k),k+1)from by
   unfold Kn;rw[Option.bind_some];dsimp only;rw[e1,Option.bind_some]]
  exact f
theorem gB {m:Nat} (hc:Eo m=true) {hs:Array Int} (hn:hs.size≤m):∃ow,SetTable.layClean m hs=some ow∧Laying m hs.size ow:=by
 have W0:Laying m 0 (Array.replicate (m+1) none):=⟨Array.size_replicate,by
  unfold Jq;rw[Array.toList_replicate,List.range_zero];have:∀n,(List.replicate n (none:Option Nat)).filterMap id=[]:=λn=>by
   induction n with
   |zero=>rfl
   |succ n ih=>rw[List.replicate_succ,BC rfl,ih]
  rw[this]⟩
 obtain⟨ow,e,W⟩:=P5 hc hs.toList _ 0 W0 (by rw[AU];omega);rw[CL,AU]at e W;exact⟨ow,by rw[P4,e];rfl,W⟩
theorem OK {m:Nat} (hc:Eo m=true) {hs:Array Int} (hn:hs.size≤m) (fi mo:Nat) (le pl:Bool):∃t ord,SetTable.laid m fi mo le pl hs=some (t,ord)∧ord.toList.Perm (List.range hs.size)∧Ris t.place.toList∧t.place.size=hs.size∧t.dummies=#[]∧t.mask=m∧t.led=le:=by
 obtain⟨ow,e,W⟩:=gB hc hn;have el:(((List.range (m+1)).filterMap λj=>(ow.getD j none).map (j,·)).map (·.2))=Jq ow:=by
  rw[CP];unfold Jq;have:ow.toList=(List.range (m+1)).map λj=>ow.getD j none:=by
   apply Bz;intro i;rw[A6];by_cases c:i<m+1
   ·rw[List.getElem?_range c,Option.map_some,Bs,BE];rw[Array.getElem?_eq_getElem (by rw[W.size];exact c),Option.getD_some]
   ·rw[BF (by rw[AU,W.size];omega),BF (by rw[Bf];omega)];rfl
  rw[this,CN]
  congr 1
  funext j
  show Option.map _ ((ow.getD j none).map _)=ow.getD j none
  cases ow.getD j none<;>rfl
 refine⟨{mask:=m,place:=(((List.range (m+1)).filterMap λj=>(ow.getD j none).map (j,·)).map (·.1)).toArray,dummies:=#[],finger:=fi,led:=le,moves:=mo,plain:=pl},(((List.range (m+1)).filterMap λj=>(ow.getD j none).map (j,·)).map (·.2)).toArray,?_,?_,?_,?_,rfl,rfl,rfl⟩
 rotate_left
 ·show(((List.range (m+1)).filterMap λj=>(ow.getD j none).map (j,·)).map (·.2)).Perm _;rw[el];exact W.vals
 ·exact(ris_live (λj=>ow.getD j none) (List.range (m+1)) (by
   unfold Ris
   first|exact List.pairwise_lt_range|exact List.pairwise_lt_range _)).1
 ·rw[A7,AJ];have:=A9 List.length el;rw[AJ]at this;rw[this,W.vals.length_eq,Bf]
 ·unfold SetTable.laid;rw[e];rfl
theorem Fy {es:Array (Int×Value)} {ord:Array Nat} (hp:ord.toList.Perm (List.range es.size)):(ord.filterMap (es[·]?)).toList.Perm es.toList:=by
 rw[Array.toList_filterMap];refine(hp.filterMap _).trans (List.Perm.of_eq ?_);have key:∀(l:List (Int×Value)),(List.range l.length).filterMap (λi=>l[i]?)=l:=λl=>by
  induction l with
  |nil=>rfl
  |cons x l ih=>
   rw[AI,List.range_succ_eq_map,Ax (show(x::l)[0]? =some x from rfl),CN]
   congr 1
 have:=key es.toList;rw[AU]at this;simpa using this
theorem IJ {es:Array (Int×Value)} {ord:Array Nat} (hp:ord.toList.Perm (List.range es.size)):(ord.filterMap (es[·]?)).size=es.size:=by
 have:=(Fy hp).length_eq;rw[AU,AU]at this;exact this
section
variable {P:Program} {w:World} {A:Around} {E:Value->Shared->Prop} {s:Shared} {a:Addr} {S:Str->Bool} {n:Nat}
theorem TbS.clean {es:Array (Int×Value)} {t t' :SetTable} {ord:Array Nat} (T:TbS w es t) (hp:ord.toList.Perm (List.range es.size)) (r:Ris t'.place.toList) (hs:t'.place.size=es.size) (hd:t'.dummies=#[]) (hm:es.size≤t'.mask)
 (hl:w.params.followText "set-order"=true∨t'.led=true):TbS w (ord.filterMap (es[·]?)) t' :=by
 have p:=Fy hp;have z:=IJ hp;refine⟨λe he=>T.rows e (p.mem_iff.mp he),(p.map FM).nodup_iff.mpr T.once,by rw[z];exact T.few,?_,r,hl⟩;unfold SetTable.fits SetTable.fill;rw[hd,hs,z,Ao,Bc,Ay];exact⟨rfl,by show es.size+0≤_;omega⟩
theorem Z3 {wanted M:Nat} (R:SetS w s.heap a S n) (hw:SetTable.sizeAbove wanted - 1=M) (hc:Eo M=true) (hM:M≤1000) (hn:n≤M) {Q:Unit->Shared->Prop}
 (hQ:∀h',Heap.SameBut a s.heap h'->SetS w h' a S n->Q () {s with heap:=h'}):wpAny (model P w) A (setRelay a wanted) Q E s:=by
 obtain⟨o,es,ep,t,ho,hx,hd,T,hS,hz⟩:=R;obtain⟨t',ord,e,hp,r,hs,hdm,hmk,hld⟩:=OK hc (hs:=es.map (·.1)) (by rw[Bu,hz];exact hn) t.finger (t.movedTo M) t.led t.plain;rw[Bu]at hp hs;have T' :TbS w (ord.filterMap (es[·]?)) t' :=T.clean hp r hs hdm (by rw[hmk,hz];exact hn) (by rw[hld];exact T.led);have p:=Fy hp;have z:=IJ hp;rw[setRelay_eq];refine wpAny_bind (wpAny_setState_of ho hd T.fits ?_);dsimp only;refine wp_if_neg (by rw[sizeLine_eq];omega) ?_
 try refine wpAny_bind (wpAny_pure ?_)
 rw[show t.relaid (es.map (·.1)) wanted=some (t',ord)from by unfold SetTable.relaid;rw[hw];exact e];dsimp only;refine wpAny_bind ?_;refine wp_if_neg (by rw[z];simp) ?_
 try refine wpAny_bind (wpAny_pure ?_)
 refine wpAny_pure ?_;dsimp only;obtain⟨_,_,_,_,r2⟩:=FX (w:=w) (S:=S) ho hx hd T' (λx=>(hS x).trans (p.map FM).mem_iff.symm);rw[z,hz]at r2;exact wpAny_storeSet_of ho hd (hQ _ (.update _ a _) r2) (fits_of_scanBound T'.few)
end
end Mir
namespace Mir
open PySem PySem.Spec L2
section
variable {P:Program} {w:World} {A:Around} {E:Value->Shared->Prop} {s:Shared} {a o:Addr} {S S' :Str->Bool} {n n' :Nat}
theorem gC {ob:Obj} {es:Array (Int×Value)} {ep:Nat} {t:SetTable} (ho:s.heap.get? o=some ob) (hd:ob.data= .set es ep t) (T:TbS w es t) (hf:w.params.followText "set-order"=true∨t.plain=true∨es.size≤1)
 {Q:Array (Int×Value)->Shared->Prop} (hQ:∀rows:Array (Int×Value),rows.toList.Perm es.toList->Q rows s):wpAny (model P w) A (setWalk o) Q E s:=by
 unfold setWalk;refine wpAny_bind (wpAny_setState_of ho hd T.fits ?_);dsimp only;refine wpAny_bind (wpAny_byText ?_);by_cases c:w.params.followText "set-order"=true
 ·refine wp_if_pos c ?_;exact wpAny_bind (wpAny_askSetting (wpAny_pure (hQ _ (pick_perm _ _))))
 ·refine wp_if_neg c ?_;have pl:¬(!t.plain && decide (es.size>1))=true:=by
   rcases hf with h|h|h
   ·exact absurd h c
   ·rw[h];simp
   ·rw[AW AA,Bool.and_false];decide
  try refine wpAny_bind (wpAny_pure ?_)
  refine wp_if_neg pl ?_
  try refine wpAny_bind (wpAny_pure ?_)
  have ld:t.led=true:=T.led.resolve_left c;have nl:¬(!t.led && decide (es.size>1))=true:=by rw[ld];simp
  refine wpAny_bind (wp_if_neg nl (wpAny_pure ?_));exact wpAny_pure (hQ _ (Bt _))
theorem Z4 {sets:List Addr} (h:∀b,b∈sets->∃ob es ep t,s.heap.get? b=some ob∧ob.data= .set es ep t∧TbS w es t) {Q:Bool->Shared->Prop} (hQ:Q true s):wpAny (model P w) A (setsQuiet sets) Q E s:=by
 unfold setsQuiet;refine wpAny_bind ?_;refine wpAny_forIn_list _ (λrest b s'=>b.1=none∧s'=s∧∀x,x∈rest->x∈sets) _ ?_ ?_ sets _ ⟨rfl,rfl,λx hx=>hx⟩
 ·rintro x rest b s' ⟨hb,rfl,hm⟩;obtain⟨ob,es,ep,t,ho,hd,T⟩:=h x (hm x AG);refine wpAny_bind (wpAny_setEntries_of ho hd T.fits ?_);refine wpAny_bind ?_;refine wpAny_forIn_array' _ (λrest b s''=>b.1=none∧s''=s'∧∀x,x∈rest->x∈es.toList) _ ?_ ?_ es _ ⟨rfl,rfl,λx hx=>hx⟩
  ·rintro⟨y1,y2⟩ rest2 b2 s2 ⟨hb2,rfl,hm2⟩;obtain⟨z,k,e⟩:=T.rows _ (hm2 _ AG);have e2:y2= .str z k:=A9 Prod.snd e;subst e2;exact wpAny_pure ⟨rfl,rfl,λx hx=>hm2 x (AF _ hx)⟩
  ·rintro⟨b1,b2⟩ s2 ⟨hb2,rfl,_⟩;simp only at hb2;subst hb2;exact wpAny_pure ⟨rfl,rfl,λx hx=>hm x (AF _ hx)⟩
 ·rintro⟨b1,b2⟩ s' ⟨hb,rfl,_⟩;simp only at hb;subst hb;exact wpAny_pure hQ
theorem XX (hne:a≠o) (R:SetS w s.heap a S n) {ob:Obj} {es:Array (Int×Value)} {ep:Nat} {t:SetTable} (ho:s.heap.get? o=some ob) (hd:ob.data= .set es ep t) (T:TbS w es t)
 {Q:Array (Int×Value)->Shared->Prop} (hQ:∀(rows:Array (Int×Value)) h',rows.toList.Perm es.toList->Heap.SameBut a s.heap h'->SetS w h' a S n->Q rows {s with heap:=h'}):wpAny (model P w) A (setWalkUnseen o [a] (some a)) Q E s:=by
 unfold setWalkUnseen;refine wpAny_bind (wpAny_setState_of ho hd T.fits ?_);dsimp only;refine wpAny_bind (wpAny_byText ?_);have here:∀rows:Array (Int×Value),rows.toList.Perm es.toList->Q rows s:=λrows p=>hQ rows s.heap p (.refl a s.heap) R;by_cases c:(w.params.followText "set-order"||(t.led && t.plain)||decide (es.size≤1))=true
 ·refine wp_if_pos c ?_;rw[BJ,BJ,Ao,Ay]at c;exact(gC ho hd T (by
   rcases c with(c|c)|c
   ·exact .inl c
   ·exact .inr (.inl c.2)
   ·exact .inr (.inr c)) λrows p=>here rows p)
 ·refine wp_if_neg c ?_
  try refine wpAny_bind (wpAny_pure ?_)
  obtain⟨oa,ea,pa,ta,ha,xa,da,Ta,Sa,za⟩:=R;refine wpAny_bind (Z4 (s:=s) (λb hb=>by
   simp only[AQ,AM,BR]at hb;rcases hb with rfl|rfl
   ·exact⟨ob,es,ep,t,ho,hd,T⟩
   ·exact⟨oa,ea,pa,ta,ha,da,Ta⟩) ?_)
  refine wp_if_neg AB ?_
  try refine wpAny_bind (wpAny_pure ?_)
  refine wpAny_bind (wpAny_rule ?_)
  try dsimp only
  refine wpAny_bind (wpAny_setState_of ha da Ta.fits ?_);dsimp only;have nb:¬w.params.followText "set-order"=true:=λh=>c (by rw[h];rfl);have ld:t.led=true:=T.led.resolve_left nb;have la:ta.led=true:=Ta.led.resolve_left nb;by_cases d:(ta.led && !t.led||ta.plain && !t.plain)=true
  ·refine wp_if_pos d ?_;have T2:TbS w ea {ta with led:=ta.led && t.led,plain:=ta.plain && t.plain}:=⟨Ta.rows,Ta.once,Ta.few,Ta.fits,Ta.ris,.inr (by show(ta.led && t.led)=true;rw[la,ld];rfl)⟩;obtain⟨_,_,_,_,r2⟩:=FX (w:=w) (S:=S) ha xa da T2 Sa;rw[za]at r2;exact wpAny_bind (wpAny_storeSet_of ha da (wpAny_pure (hQ es _ (Bt _) (.update _ a _) r2)) (fits_of_scanBound Ta.few))
  ·refine wp_if_neg d ?_;exact wpAny_pure (hQ es s.heap (Bt _) (.refl a s.heap) ⟨oa,ea,pa,ta,ha,xa,da,Ta,Sa,za⟩)
end
end Mir
namespace Mir
open PySem PySem.Spec L2
theorem LV:∀k,k<63->k≤SetTable.sizeAbove k - 1∧(SetTable.sizeAbove k - 1=7∨SetTable.sizeAbove k - 1=15∨SetTable.sizeAbove k - 1=31∨SetTable.sizeAbove k - 1=63):=by decide+kernel
theorem LX {k:Nat} (h:k<63):Eo (SetTable.sizeAbove k - 1)=true∧SetTable.sizeAbove k - 1≤1000:=by
 rcases(LV k h).2 with e|e|e|e<;>rw[e]
 ·exact⟨P3,AB⟩
 ·exact⟨U1,AB⟩
 ·exact⟨U2,AB⟩
 ·exact⟨U3,AB⟩
section
variable {P:Program} {w:World} {A:Around} {E:Value->Shared->Prop} {s:Shared} {a o:Addr} {S S' :Str->Bool} {n n' :Nat}
theorem LY {es:Array (Int×Value)} {t:SetTable} (h:t.fits es.size=true):t.place.size=es.size:=by
 unfold SetTable.fits at h;rw[Ao,Bc]at h;exact h.1
theorem gD (R:SetS w s.heap a S n) {more:Nat} (hl:n+more≤31) {Q:Unit->Shared->Prop} (hQ:∀h',Heap.SameBut a s.heap h'->SetS w h' a S n->Q () {s with heap:=h'}):wpAny (model P w) A (setRoomFor a more) Q E s:=by
 obtain⟨oa,es,ep,t,ha,xa,da,T,hS,hz⟩:=id R;unfold setRoomFor;refine wpAny_bind (wpAny_setState_of ha da T.fits ?_);dsimp only
 cases e:t.roomFor more with
 |none=>exact wpAny_pure (hQ s.heap (.refl a s.heap) R)
 |some wanted=>
  unfold SetTable.roomFor at e;split at e
  ·have ew:(t.place.size+more)*2=wanted:=Option.some.inj e;have lw:wanted<63:=by rw[←ew,LY T.fits,hz];omega
   obtain⟨c1,c2⟩:=LX lw;exact Z3 R rfl c1 c2 (by have:=(LV wanted lw).1;rw[←ew,LY T.fits,hz]at this ⊢;omega) hQ
  ·cases e
structure Void (w:World) (h:Heap) (a:Addr) (more:Nat):Prop where
 at_:∃oa ep t,h.get? a=some oa∧oa.ExactSet∧oa.data= .set #[] ep t∧t.place=#[]∧t.dummies=#[]∧(w.params.followText "set-order"=true∨t.led=true)∧Eo t.mask=true∧more≤t.mask
theorem U5 {t:SetTable} (hp:t.place=#[]) (hd:t.dummies=#[]):t.fits (#[]:Array (Int×Value)).size=true:=by
 unfold SetTable.fits SetTable.fill;rw[hp,hd];simp
theorem Te (w:World):w.params.followText "set-order"=true∨(!w.params.followText "set-order")=true:=by
 cases w.params.followText "set-order"
 ·exact .inr rfl
 ·exact .inl rfl
theorem gE (ha:s.heap.get? a=some (EL w)) {more:Nat} (hl:more≤31) {Q:Unit->Shared->Prop} (hQ:∀h',Heap.SameBut a s.heap h'->Void w h' a more->Q () {s with heap:=h'}):wpAny (model P w) A (setRoomFor a more) Q E s:=by
 unfold setRoomFor;refine wpAny_bind (wpAny_setState_of ha rfl AE ?_);dsimp only;by_cases c:more≤4
 ·rw[show(SetTable.fresh 0 0 (!w.params.followText "set-order")).roomFor more=none from by
   unfold SetTable.roomFor;rw[Aq];show ¬((0+0+more)*5≥7*3);omega]
  exact wpAny_pure (hQ s.heap (.refl a s.heap) ⟨_,0,_,ha,⟨rfl,rfl,rfl⟩,rfl,rfl,rfl,Te w,P3,by show more≤7;omega⟩)
 ·rw[show(SetTable.fresh 0 0 (!w.params.followText "set-order")).roomFor more=some (more*2)from by
   unfold SetTable.roomFor;rw[An]
   ·show some ((0+more)*2)=_;rw[CL]
   ·show(0+0+more)*5≥7*3;omega]
  dsimp only;obtain⟨c1,c2⟩:=LX (show more*2<63 by omega);have c3:=(LV (more*2) AA).1;obtain⟨t',ord,e,hp,r,hs,hdm,hmk,hld⟩:=OK c1 (hs:=#[]) (BM _) 0 ((SetTable.fresh 0 0 (!w.params.followText "set-order")).movedTo (SetTable.sizeAbove (more*2) - 1)) (!w.params.followText "set-order") true;have ho:ord=#[]:=by
   have:=hp.length_eq;rw[AU]at this;exact BU this
  subst ho;rw[setRelay_eq];refine wpAny_bind (wpAny_setState_of ha rfl AE ?_);dsimp only;refine wp_if_neg (by rw[sizeLine_eq];omega) ?_
  try refine wpAny_bind (wpAny_pure ?_)
  rw[show(SetTable.fresh 0 0 (!w.params.followText "set-order")).relaid ((#[]:Array (Int×Value)).map (·.1)) (more*2)=some (t',#[])from by unfold SetTable.relaid;rw[Array.map_empty];exact e];dsimp only;refine wpAny_bind ?_;refine wp_if_neg AB ?_
  try refine wpAny_bind (wpAny_pure ?_)
  refine wpAny_pure ?_;dsimp only;have hd0:(EL w).data= .set #[] 0 (.fresh 0 0 (!w.params.followText "set-order")):=rfl;have e2:=Heap.get?_update_self (Obj.putSet (#[]:Array (Int×Value)) t') ha (by rw[putSet_of _ t' hd0];rfl);rw[putSet_of _ t' hd0]at e2;refine wpAny_storeSet_of ha hd0 (hQ _ (.update _ a _) ⟨_,1,t',e2,⟨rfl,rfl,rfl⟩,rfl,BU hs,hdm,by rw[hld];exact Te w,by rw[hmk];exact c1,by rw[hmk];omega⟩) AB
theorem P6 (hne:a≠o):(a==o)=false:=AZ.mpr hne
theorem Tf (hne:a≠o) (ha:s.heap.get? a=some (EL w)) (Ro:SetS w s.heap o S' n') (hl:n'≤31) (each:Sem Unit) {Q:Unit->Shared->Prop}
 (hQ:∀h',Heap.SameBut a s.heap h'->SetS w h' a S' n'->(n'=0->h'.get? a=some (EL w))->Q () {s with heap:=h'}):wpAny (model P w) A (setMerge a o each) Q E s:=by
 obtain⟨ob,es,ep,t,ho,xo,hd,T,hS,hz⟩:=Ro;unfold setMerge;refine wp_if_neg (by rw[P6 hne];decide) ?_
 try refine wpAny_bind (wpAny_pure ?_)
 refine wpAny_bind (wpAny_setState_of ho hd T.fits ?_);dsimp only;by_cases c:es.isEmpty=true
 ·refine wp_if_pos c ?_;have e0:es=#[]:=CT.mp c;subst e0;have hz:0=n' :=hz;subst hz;have R0:=I8 (w:=w) ha;obtain⟨oa,ea,pa,ta,h1,h2,h3,h4,h5,h6⟩:=R0;refine wpAny_pure (hQ s.heap (.refl a s.heap) ⟨oa,ea,pa,ta,h1,h2,h3,h4,λx=>?_,h6⟩ λ_=>ha);rw[hS x,←h5 x];simp
 ·refine wp_if_neg c ?_
  try refine wpAny_bind (wpAny_pure ?_)
  refine wpAny_bind (gE ha (by rw[hz];exact hl) λh1 sb V=>?_);obtain⟨oa,pa,ta,ga,xa,da,pl,dm,ld,cv,mr⟩:=V.at_;refine wpAny_bind (wpAny_setState_of (s:={s with heap:=h1}) ga da (U5 pl dm) ?_);dsimp only;have f0:(ta.fill !=0)=false:=by
   unfold SetTable.fill;rw[pl,dm];rfl
  have led:w.params.followText "set-order"=true∨(ta.led && t.led)=true:=by
   rcases ld with h|h
   ·exact .inl h
   ·rcases T.led with h2|h2
    ·exact .inl h2
    ·exact .inr (by rw[h,h2];rfl)
  have nz:n'≠0:=λe=>c (by
   rw[←hz]at e;exact CT.mpr (BU e))
  unfold SetTable.road;rw[f0,Aq AB];by_cases r:(ta.mask==t.mask && t.dummies.isEmpty)=true
  ·rw[An r];dsimp only;have T2:TbS w es {t with finger:=ta.finger,led:=ta.led && t.led,moves:=ta.moves,plain:=ta.plain && t.plain}:=⟨T.rows,T.once,T.few,T.fits,T.ris,led⟩;obtain⟨_,_,_,_,r2⟩:=FX (w:=w) (S:=S') ga xa da T2 hS;rw[hz]at r2;exact wpAny_storeSet_of (s:={s with heap:=h1}) ga da (hQ _ (sb.trans (.update _ a _)) r2 λe=>absurd e nz) (fits_of_scanBound T.few)
  ·rw[Aq r];dsimp only;obtain⟨t',ord,e,hp,ri,hs,hdm,hmk,hld⟩:=OK cv (hs:=es.map (·.1)) (by rw[Bu];exact mr) ta.finger ta.moves (ta.led && t.led) (ta.plain && t.plain);rw[Bu]at hp hs;have T2:TbS w (ord.filterMap (es[·]?)) t' :=T.clean hp ri hs hdm (by rw[hmk];exact mr) (by rw[hld];exact led);have p:=Fy hp;have z:=IJ hp;rw[e];refine wpAny_bind ?_;refine wp_if_neg (c:=((ord.filterMap (es[·]?)).size !=es.size)=true) (by rw[z];simp) ?_;refine wpAny_pure ?_;dsimp only;obtain⟨_,_,_,_,r2⟩:=FX (w:=w) (S:=S') ga xa da T2 (λx=>(hS x).trans (p.map FM).mem_iff.symm);rw[z,hz]at r2;exact wpAny_storeSet_of (s:={s with heap:=h1}) ga da (hQ _ (sb.trans (.update _ a _)) r2 λe=>absurd e nz) (fits_of_scanBound T2.few)
theorem Z5 (hne:a≠o) (Ra:SetS w s.heap a S n) (h1:1≤n) (Ro:SetS w s.heap o S' n') (hl:n+n'≤31) (each:Sem Unit) (hE:∀(s₁:Shared) (Q' :Unit->Shared->Prop),s₁.heap.get? o=s.heap.get? o->Q' () s₁->wpAny (model P w) A each Q' E s₁) {Q:Unit->Shared->Prop}
 (hQ:∀h' S2 n2,Heap.SameBut a s.heap h'->SetS w h' a S2 n2->(∀x,S2 x=true↔S x=true∨S' x=true)->n2≤n+n'->Q () {s with heap:=h'}):wpAny (model P w) A (setMerge a o each) Q E s:=by
 obtain⟨ob,es,ep,t,ho,xo,hd,T,hS,hz⟩:=Ro;unfold setMerge;refine wp_if_neg (by rw[P6 hne];decide) ?_
 try refine wpAny_bind (wpAny_pure ?_)
 refine wpAny_bind (wpAny_setState_of ho hd T.fits ?_);dsimp only;by_cases c:es.isEmpty=true
 ·refine wp_if_pos c ?_;have e0:es=#[]:=CT.mp c;subst e0;refine wpAny_pure (hQ s.heap S n (.refl a s.heap) Ra (λx=>?_) (CY _ _));rw[hS x];simp
 ·refine wp_if_neg c ?_
  try refine wpAny_bind (wpAny_pure ?_)
  refine wpAny_bind (gD Ra (by rw[hz];exact hl) λh2 sb R2=>?_);obtain⟨oa,ea,pa,ta,ga,xa,da,Ta,Sa,za⟩:=id R2;refine wpAny_bind (wpAny_setState_of (s:={s with heap:=h2}) ga da Ta.fits ?_);dsimp only;have f0:(ta.fill !=0)=true:=by
   unfold SetTable.fill;have:=LY Ta.fits;rw[this,za,bne_iff_ne];omega
  unfold SetTable.road;rw[f0,An rfl];dsimp only;have ho2:h2.get? o=some ob:=(sb.2 o hne.symm).trans ho;refine wpAny_bind (XX (s:={s with heap:=h2}) hne R2 ho2 hd T λrows h3 pm sb3 R3=>?_);have ho3:∀h',Heap.SameBut a h2 h'->h'.get? o=some ob:=λh' sb'=>(sb'.2 o hne.symm).trans ho2;refine wpAny_bind (wpAny_forIn_array' _ (λrest b s'=>∃h' S2 n2,s'={s with heap:=h'}∧Heap.SameBut a h2 h'∧SetS w h' a S2 n2∧(∀x,S2 x=true∨x∈rest.map FM↔S x=true∨S' x=true)∧n2+rest.length≤n+n'∧∀e,e∈rest->e∈es.toList) _ ?_ ?_ rows _ ?_)
  ·rintro⟨hh,x⟩ rest b s' ⟨h',S2,n2,rfl,sb',R',mem,len,sub⟩;obtain⟨y,k,e⟩:=T.rows _ (sub _ AG);have e1:hh=hashStr w y:=A9 Prod.fst e;have e2:x= .str y k:=A9 Prod.snd e;subst e1;subst e2;rw[AI]at len;refine wpAny_bind (wpAny_holding (LN (s:={s with heap:=h'}) R' (by have:(4096:Nat)=scanBound:=rfl;omega) λh4 sb4 R4=>?_));have ho4:=ho3 h4 (sb'.trans sb4);refine wpAny_bind (hE _ _ (by show h4.get? o=s.heap.get? o;rw[ho4,ho]) ?_);refine wpAny_bind (wpAny_setState_of (s:={s with heap:=h4}) ho4 hd T.fits ?_);dsimp only;refine wp_if_neg AD ?_
   try refine wpAny_bind (wpAny_pure ?_)
   refine wpAny_pure ⟨h4,_,_,rfl,sb'.trans sb4,R4,λz=>?_,by split<;>omega,λe he=>sub e (AF _ he)⟩;rw[←mem z,AO,AQ,BJ,Ay];show(S2 z=true∨z=y)∨_↔S2 z=true∨z=y∨_;exact or_assoc
  ·rintro b s' ⟨h',S2,n2,rfl,sb',R',mem,len,_⟩;refine wpAny_pure (hQ h' S2 n2 (sb.trans sb') R' (λx=>?_) (by rw[Ah]at len;exact len));rw[←mem x];simp
  ·refine⟨h3,S,n,rfl,sb3,R3,λx=>?_,?_,λe he=>pm.mem_iff.mp he⟩
   ·rw[hS x,(pm.map FM).mem_iff]
   ·rw[pm.length_eq,AU,hz];exact Ai _
end
end Mir
namespace Mir
open PySem PySem.Spec L2
open PyProof.Rows (strOf StrsAre sortedS)
section
variable {P:Program} {w:World} {A:Around} {E:Value->Shared->Prop} {s:Shared}
theorem OL:entryFor table "set.__or__"=some Builtin.«frozenset.__or__» :=entryFor_alias (id' :="frozenset.__or__") (by kernel_rfl) rfl AC (by kernel_rfl)
theorem NG {a:Addr} {S:Str->Bool} {n:Nat} (R:SetS w s.heap a S n):s.TypeIs (.ref a) "set" :=by
 obtain⟨o,es,ep,t,ho,hx,_⟩:=R;exact⟨o,ho,hx.1⟩
theorem NH {h h' :Heap} {a:Addr} {S:Str->Bool} {n:Nat} (R:SetS w h a S n) (k:h'.get? a=h.get? a):SetS w h' a S n:=by
 obtain⟨o,es,ep,t,ho,r⟩:=R;exact⟨o,es,ep,t,k.trans ho,r⟩
set_option maxHeartbeats 3200000 in
theorem n9 {a b:Addr} {S S' :Str->Bool} {n n' :Nat} (hne:a≠b) (Ra:SetS w s.heap a S n) (Rb:SetS w s.heap b S' n') (hl:n+n'≤31) {Q:Value->Shared->Prop}
 (hQ:∀(h' :Heap) S2 n2,SetS w h' s.heap.objs.size S2 n2->(∀x,S2 x=true↔S x=true∨S' x=true)->n2≤n+n'->(∀b o,s.heap.get? b=some o->h'.get? b=some o)->Q (.ref s.heap.objs.size) {s with heap:=h'}):
 wpAny (model P w) A (binaryOp .BitOr (.ref a) (.ref b)) Q E s:=by
 have Ta:=NG Ra;have Tb:=NG Rb;refine wpAny_binaryOp_same Ta Tb PySem.F.fills_set_or PySem.F.slot_set_or ?_;refine wpAny_call_entry PySem.F.slot_set_or Ta OL ?_ (PySem.F.args_set_or_2 _ _);have ss:=PySem.sub_set_self;unfold Builtin.«frozenset.__or__»
 wp_walk
 obtain⟨oa,ha,ca⟩:=id Ta;refine wpAny_loadPart ha ?_;refine wpAny_pure ?_;rw[ca];refine wpAny_of_eq ss ?_;dsimp only[toBool];refine wpAny_pure ?_;dsimp only;unfold Builtin.Frozenset.isAnySet;refine wpAny_bind (wpAny_isInstance Tb ss ?_);dsimp only[toBool];refine wpAny_pure ?_;refine wp_if_neg AB ?_;refine wpAny_bind (wpAny_pure ?_);refine wpAny_bind ?_;refine wpAny_bind ?_;unfold Builtin.Frozenset.copyOf;refine wpAny_bind ?_;unfold Builtin.Frozenset.baseOf;refine wpAny_bind (wpAny_isInstance Ta ss ?_);refine wpAny_pure ?_;refine wpAny_bind ?_;rw[An rfl];unfold newSet;refine wpAny_bind (wpAny_byText ?_);dsimp only;refine wpAny_newObj_type ?_;refine wpAny_bind (wpAny_pure ?_);refine wpAny_bind ?_;have at0:(s.heap.push (EL w)).get? s.heap.objs.size=some (EL w):=Heap.get?_push_size _ rfl;have R1:SetS w (s.heap.push (EL w)) a S n:=NH Ra ((Heap.get?_push_of_some _ ha).trans ha.symm);refine Tf (s:={s with heap:=s.heap.push (EL w)}) (B4 (Heap.lt_size ha)) at0 R1 AA _ λh1 sb R2 e0=>?_;refine wpAny_pure ?_;dsimp only at sb ⊢;refine wp_if_pos (by simp[Ne.symm hne]) ?_;refine wpAny_bind (wpAny_pure ?_);refine wpAny_bind (wpAny_holding ?_);have nb:b≠s.heap.objs.size:=by
  obtain⟨_,hb,_⟩:=id Tb;exact A1 (Heap.lt_size hb)
 obtain⟨ob,hb,cb⟩:=id Tb;have gb:h1.get? b=some ob:=(sb.2 b nb).trans (Heap.get?_push_of_some _ hb);have Rb1:SetS w h1 b S' n' :=NH Rb (gb.trans hb.symm);have kp:∀h',Heap.SameBut s.heap.objs.size h1 h'->∀c o,s.heap.get? c=some o->h'.get? c=some o:=λh' sb' c o e=>by
  have nc:c≠s.heap.objs.size:=A1 (Heap.lt_size e);exact(sb'.2 c nc).trans ((sb.2 c nc).trans (Heap.get?_push_of_some _ e))
 unfold Builtin.Frozenset.updateFrom;unfold Builtin.Frozenset.isAnySet;refine wpAny_bind (wpAny_bind (wpAny_isInstance (s:={s with heap:=h1}) ⟨ob,gb,cb⟩ ss ?_));dsimp only[toBool];refine wpAny_pure ?_;refine wp_if_pos rfl ?_;refine wpAny_bind (wpAny_pure ?_);refine wpAny_bind ?_;obtain⟨o2,es2,ep2,t2,g2,x2,d2,T2,hS2,z2⟩:=id Rb1;refine wpAny_setEpoch_of (s:={s with heap:=h1}) g2 d2 T2.fits ?_;by_cases n0:n=0
 ·subst n0;have z0:∀x,S x=true->False:=λx h=>by
   obtain⟨_,es,_,_,_,_,_,_,hS,hz⟩:=Ra;have:x∈es.toList.map FM:=(hS x).mp h;rw[show es=#[]from BU hz]at this;exact AM this
  refine Tf (s:={s with heap:=h1}) (Ne.symm nb) (e0 rfl) Rb1 AA _ λh2 sb2 R3 _=>?_;exact wpAny_pure (wpAny_pure ⟨_,rfl,nofun,hQ h2 S' n' R3 (λx=>⟨.inr,λh=>h.elim (λh=>(z0 x h).elim) id⟩) AA (kp h2 sb2)⟩)
 ·refine Z5 (s:={s with heap:=h1}) (Ne.symm nb) R2 AA Rb1 hl _ (λs₁ Q' e q=>?_) λh2 S2 n2 sb2 R3 mem len=>?_
  ·unfold Builtin.Frozenset.unchanged;refine wpAny_bind (wpAny_setEpoch_of (e.trans g2) d2 T2.fits ?_);refine wp_if_neg AD ?_;exact wpAny_pure q
  ·exact wpAny_pure (wpAny_pure ⟨_,rfl,nofun,hQ h2 S2 n2 R3 mem len (kp h2 sb2)⟩)
set_option maxHeartbeats 3200000 in
theorem gF {l:Addr} {items:Array Value} {xs:List Str} {Q:Value->Shared->Prop} (hh:A.handled=none) (hl:s.heap.IsTuple l items) (hi:StrsAre items.toList xs) (few:xs.length+1<scanBound)
 (fin:∀(h' :Heap) (tk:Nat) S n,SetS w h' s.heap.objs.size S n->(∀x,S x=true↔x∈xs)->n≤xs.length->(∀b o,s.heap.get? b=some o->h'.get? b=some o)->Q (.ref s.heap.objs.size) {s with heap:=h',toks:=tk}):
 wpAny (model P w) A (call (.type "set") [.ref l]) Q E s:=by
 obtain⟨c,tl,hmro⟩:=Ar.mro;have hmade:=Ar.made;have hsub:=Ar.sub;have h1:=Ar.notType;have h2:=Ar.canCreate;have hct:=PySem.F.typeCall_set_1 (.ref l);apply wpAny_call;apply codeAny_of_tree;show wpAny _ _ (callAny (.type "set") ⟨[.ref l],[]⟩) _ _ _;apply wpAny_pure;refine⟨Code.quiet_builtin _ AC,codeAny_builtin PySem.F.entry_type_call ?_⟩;rw[Around.under_plain (weight_type_call_type "set" [.ref l] []) rfl]
 repeat (any_goals (first|assumption|wp_step))
 refine codeAny_mono (code_set_led1 (.ref l) (E:=E) (Q₁:=λv s1=>v= .ref s.heap.objs.size∧s1={s with heap:=s.heap.push (EL w)}) ⟨rfl,rfl⟩) λr s1 hr=>?_
 match r,hr with
 | .error e,hr=>exact hr
 | .ok .next,hr=>exact hr.elim
 | .ok .brk,hr=>exact hr.elim
 | .ok .cont,hr=>exact hr.elim
 | .ok (.ret v),hr=>
  obtain⟨rfl,rfl⟩:=hr;have at0:(s.heap.push (EL w)).get? s.heap.objs.size=some (EL w):=Heap.get?_push_size _ rfl;have hT:Shared.TypeIs {s with heap:=s.heap.push (EL w)} (.ref s.heap.objs.size) "set" :=⟨_,at0,rfl⟩;have hli:=PySem.F.called_set.init.lookup;have hbi:=PySem.F.called_set.init.bind (.ref s.heap.objs.size)
  repeat (any_goals (first|assumption|wp_step))
  refine codeAny_mono (codeAny_call_builtin (R:=wants (λr s2=>r= .none∧∃h' tk S n,s2={s with heap:=h',toks:=tk}∧SetS w h' s.heap.objs.size S n∧(∀x,S x=true↔x∈xs)∧n≤xs.length∧∀b o,s.heap.get? b=some o->h'.get? b=some o) E) PySem.F.called_set.init.plain PySem.F.entry_set_init (check_set_init_1 hT ?_)) λr2 s2 hr2=>?_
  ·obtain⟨ol,hol,hcl,nl,hdl⟩:=hl;obtain⟨oc,od,odt,osl⟩:=ol;simp only at hcl hdl;subst hcl;subst hdl;have hol1:(s.heap.push (EL w)).get? l=some ⟨.type "tuple",od,.seq items nl,osl⟩:=Heap.get?_push_of_some _ hol;have q1:=PySem.F.sub_tuple_set;have q2:=PySem.F.sub_tuple_frozenset;have q3:(Value.type "tuple"==Value.type "dict")=false:=by decide
   have isL:(s.heap.push (EL w)).IsTuple l items:=⟨_,hol1,rfl,nl,rfl⟩;have lt:l<s.heap.objs.size:=Heap.lt_size hol;unfold Builtin.«set.__init__» noKeywords Builtin.Frozenset.updateFrom;generalize hPI:pyIter=PI
   wp_walk
   subst hPI;apply wpAny_pyIter_tuple isL;apply wpAny_bind;apply wpAny_runValue;have hh3:A.in1.in1.in1.handled=none:=by simp[hh]
   have sz:(s.heap.push (EL w)).objs.size=s.heap.objs.size+1:=by rw[Heap.size_push]
   have nI:l≠(s.heap.push (EL w)).objs.size:=by
    rw[sz];exact A1 (BV lt)
   have nD:s.heap.objs.size∉[(s.heap.push (EL w)).objs.size,l]:=by
    rw[sz];simp only[AQ,AM,BR,not_or];exact⟨A1 (Bj _),B4 lt⟩
   have hsz:items.size=xs.length:=by rw[Pu hi,AU]
   have W:=(Walks.tuple (prog:=P) (w:=w) hh3 _ l nI items).toS;rw[hsz]at W;refine M5 W nD (λi v hv=>Pt hi (by rw[BE];exact hv)) few (xs.length - 0) 0 _ (λ_=>false) 0 rfl (BM _) ⟨⟨_,Heap.get?_push_size _ rfl,rfl,rfl⟩,isL.push _⟩ (I8 (Heap.get?_push_of_some _ at0)) (λx=>by simp) (Ai _) ?_;intro s' S' n' mv hS' hm hn;obtain⟨h',g',d',tk',os'⟩:=s';obtain rfl:g'=s.gens:=mv.gens;obtain rfl:d'=s.drawn:=mv.drawn;obtain rfl:os'=s.os:=mv.os;apply wpAny_pure;show wpAny _ _ (ret Value.none) _ _ _;refine wpAny_pure ⟨rfl,h',tk',S',n',rfl,hS',hm,hn,λb o e=>mv.heap b o ?_ (Heap.get?_push_of_some _ (Heap.get?_push_of_some _ e))⟩;have lb:=Heap.lt_size e;rw[sz];simp only[AQ,AM,BR,not_or];exact⟨A1 lb,A1 (BV lb)⟩
  ·match r2,hr2 with
   | .error e,hr2=>exact hr2
   | .ok .next,hr2=>exact hr2.elim
   | .ok .brk,hr2=>exact hr2.elim
   | .ok .cont,hr2=>exact hr2.elim
   | .ok (.ret r),hr2=>
    obtain⟨rfl,h',tk,S',n',rfl,hS',hm,hn,kp⟩:=hr2
    repeat (any_goals (first|assumption|wp_step))
    exact fin _ _ _ _ hS' hm hn kp
end
end Mir
namespace Mir
open PySem L2
open PyProof.Rows (strOf StrsAre sortedS)
def D.strs (x:D):M (List Str):=x.now>>=λx=>match x with
 | .lst ds=>M.opt (D.texts ds)
 | .tup ds=>M.opt (D.texts ds)
 |_=>M.bad
end Mir
namespace Mir
open PySem L2
open PyProof.Rows (strOf StrsAre sortedS)
end Mir
namespace L2
open PySem PySem.Spec PyProof.Rows
end L2
namespace Mir
open PySem L2
end Mir
namespace L2
open PySem PySem.Spec PyProof.Rows
end L2
namespace Mir
open PySem L2
inductive XisL (X:Cx) (F:Nm) (y:Str):List Expr->Bool->Prop
 |nil:XisL X F y [] false
 |cons {c:Str} {p:Pos} {es:List Expr} {b b' :Bool}:ExIs X.K F X.mg y c b->Gl X c->c≠"__name__"->(c==("__debug__" :Str))=false->XisL X F y es b'->XisL X F y (.Name c p::es) (b||b')
theorem XisL.pa {X:Cx} {F:Nm} {y:Str} {C:Addr} (hC:F y=some (.ref C)) {es:List Expr} {b:Bool} (h:XisL X F y es b):∃(cs:List V) (cvs:List Value) (ta:TA),PA X es ta∧(∀σ H Q,Q cs H->ta σ H Q)∧(∀us,Vals cs us->us=cvs)∧PySem.W.kitAny X.K (.ref C) cvs=some b∧cs.length=es.length∧(es≠[]->ExcC X.K C):=by
 induction h with
 |nil=>exact⟨[],[],_,pa_nil,fun σ H Q q=>q,λus r=>by cases r;rfl,rfl,rfl,λz=>absurd rfl z⟩
 |@cons c p es b b' hx hg hn hd _ ih=>
  obtain⟨cs,cvs,ta,h1,h2,h3,h4,h5,_⟩:=ih;obtain⟨v,cv,at_,rv,only,kit⟩:=hx.is;have pc:PE X (.Name c p) (tC v):=by
   rcases at_ with h|⟨h1,h2⟩
   ·exact pe_glob hg h rv hd
   ·exact pe_bltn hg h1 h2 rv hn hd
  obtain⟨k1,k2⟩:=kit C hC;refine⟨v::cs,cv::cvs,_,pa_cons pc h1,fun σ H Q q=>h2 σ H _ q,λus r=>?_,?_,by rw[AI,AI,h5],λ_=>k1⟩
  ·cases r with
   |cons r1 r2=>rw[only _ r1,h3 _ r2]
  ·unfold PySem.W.kitAny;rw[k2]
   cases b with
   |true=>rfl
   |false=>exact h4
end Mir
namespace L2
open PySem PySem.Spec PyProof.Rows HT
end L2
namespace Mir
open PySem L2 PySem.Spec PyProof.Rows
open PySem.W PySem.Calls
open NdefX (NF CellsAt)
end Mir
namespace Mir
open PySem L2 PySem.Spec PyProof.Rows
open PySem.W (dataLe)
open NdefX (NF NScope envF ncx startF TabsN)
open LamX (TabB CodeO)
def spL (K:PySem.W.Frag) (F:Nm) (n:Nat) (g:List D->M D):List (Option V)->Sp:=λws vs H Q E=>ws=[]∧DO K F n g vs H Q E
structure KeysOf' (g:List D->M D) (ds ks:List D) (m:Mu):Prop where
 len:ks.length=ds.length
 run:∀(i:Nat) (d k:D),ds[i]? =some d->ks[i]? =some k->(g [d]).run m= .ok k m
 py:∀k,k∈ks->k.py.isSome=true
 wal:pM (ks.map D.pyE)=true
end Mir
namespace Mir
open PySem L2 PySem.Spec PyProof.Rows
open PySem.W (dataLe)
end Mir
namespace Mir
open PySem L2 PySem.Spec PyProof.Rows
def M.fill (ks:List Str) (ds:List D) (k:Nat):M D:=⟨λm=>match m[k]? with
 |some (.dic [])=>if ds.length=ks.length then .ok (.hnd k) (m.set k (.dic ((ks.zip ds).map λq=>(.inr q.1,q.2))))else .bad
 |_=> .bad⟩
section
variable {F:Nm} {X:Cx} {E:XK} {pos:Pos} {keys:List (Option Expr)} {values:List Expr} {ks:List Str} {fs:Env->M (List D)} {fa:Env->M D} {e:Expr}
structure PDe (F:Nm) (X:Cx) (E:XK) (pos:Pos) (keys:List (Option Expr)) (values:List Expr) (ks:List Str) (fs:Env->M (List D)):Prop where
 ex:∃trs:List (TE×TE),PPs X pos keys values trs∧∀ρ m W σ H,Sl X.K F W ρ σ->Ok X.K F W m H->∀(Q:List (V×V)->Hp->Prop),
  PoR X.K F ((fs ρ).run m) W H (λW' H' _ ds=>∀vs,Rps X.K F W' vs ds->Q ((ks.zip vs).map λq=>(V.str q.1,q.2)) H') E->tPairs trs σ H Q
end
end Mir
namespace Mir
open PySem L2
section
variable {K:PySem.W.Frag} {F:Nm} {W:Wd} {H:Hp} {m:Mu} {p:Addr} {o:HO}
theorem ObR.mono' {W' :Wd} {H' :Hp} {a:Addr} {o:MO} (ea:∃r,W'.al=W.al++r) (ex:∀a u,W.G a=some u->W'.G a=some u) (h:ObR K F W H a o) (e:H' a=H a):ObR K F W' H' a o:=by
 cases o with
 |lst ds=>obtain⟨vs,e1,r⟩:=h;exact⟨vs,e.trans e1,r.mono' ea ex⟩
 |dic kvs=>obtain⟨vs,e1,q,r⟩:=h;exact⟨vs,e.trans e1,q,r.mono' ea ex⟩
 |dtp kvs=>obtain⟨vs,e1,q,r⟩:=h;exact⟨vs,e.trans e1,q,r.mono' ea ex⟩
 |dead=>obtain⟨vs,e1,e2⟩:=h;exact⟨vs,e.trans e1,ex _ _ e2⟩
 |fdc kvs=>obtain⟨vs,ob,e1,e2,q,r⟩:=h;exact⟨vs,ob,e.trans e1,ex _ _ e2,q,r.mono' ea ex⟩
 |ins c kvs=>obtain⟨vs,C,dx,e1,e2,q,r⟩:=h;exact⟨vs,C,dx,e.trans e1,e2,q,r.mono' ea ex⟩
end
end Mir
set_option maxHeartbeats 1000000
namespace TT
open PySem PySem.Spec PyProof.Rows L2
structure SKind (P:Program) (w:World) (K:Type) [DecidableEq K] where
 k:HeapKind P w K
 seq:∀{h:Heap} {x:K} {b:Addr},k.is h x b->∃o its n,h.get? b=some o∧o.data= .seq its n
 stay:∀{h h' :Heap} {x:K} {b:Addr},k.is h x b->(∀c o its n,h.get? c=some o->o.data= .seq its n->h'.get? c=some o)->k.is h' x b
 stm:∀{A:Around} {E:Value->Shared->Prop} {s:Shared} {x:K} {b:Addr} {Q:Bool->Shared->Prop},k.is s.heap x b->Q false s->wpAny (model P w) A (ofAClassStatement 8 (.ref b)) Q E s
 byv:∀{A:Around} {E:Value->Shared->Prop} {s:Shared} {x:K} {b:Addr} {Q:Bool->Shared->Prop},k.is s.heap x b->(∀v,Q v s)->wpAny (model P w) A (hashByValue 8 (.ref b)) Q E s
section
variable {P:Program} {w:World} {K:Type} [DecidableEq K] {Z:SKind P w K} {A:Around} {E:Value->Shared->Prop} {s:Shared}
abbrev SKind.hs (Z:SKind P w K) (x:K):Int:=Z.k.hash x
abbrev SKind.row (Z:SKind P w K) (p:Addr×K):Int×Value:=(Z.hs p.2,.ref p.1)
abbrev at_ (Z:SKind P w K) (t:SetTable) (x:K) (c:Nat):SetTable.Probe:=nth t.mask (runAt t.mask (SetTable.bits (Z.hs x) % (t.mask+1)) (SetTable.bits (Z.hs x))) c
theorem XY (t:SetTable) (x:K) (c q:Nat):nth t.mask (at_ Z t x c) q=at_ Z t x (c+q):=(nth_add t.mask c _ q).symm
theorem XZ (t:SetTable) (x:K) (c:Nat):(at_ Z t x c).dummy=none:=by
 have z:∀(n:Nat) (p:SetTable.Probe),p.dummy=none->(nth t.mask p n).dummy=none:=λn=>by
  induction n with
  |zero=>exact λp h=>h
  |succ n ih=>exact λp h=>ih _ (by unfold adv;split<;>exact h)
 exact z c _ rfl
structure Tab (Z:SKind P w K) (h:Heap) (a:Addr) (L:List (Addr×K)) (es:Array (Int×Value)) (ep:Nat) (t:SetTable):Prop where
 ob:∃o,h.get? a=some o∧o.ExactSet∧o.data= .set es ep t
 rows:es.toList=L.map Z.row
 tab:TabOk t (L.map λp=>Z.hs p.2)
 nd:(L.map (·.2)).Nodup
 el:∀p∈L,Z.k.is h p.2 p.1
 led:w.params.followText "set-order"=true∨t.led=true
 room:L.length*5<t.mask*3
variable {a:Addr} {L:List (Addr×K)} {es:Array (Int×Value)} {ep:Nat} {t:SetTable}
theorem Fb (h:es.toList=L.map Z.row):es.size=L.length:=by
 have:=A9 List.length h
 rwa [AU,AJ]at this
theorem IK (R:Tab Z s.heap a L es ep t):t.place.size=L.length:=by have:=R.tab.sz;rwa [AJ]at this
theorem fits_of {n:Nat} (h1:t.place.size=n) (h2:t.dummies=#[]) (h3:n≤t.mask):t.fits n=true:=by
 unfold SetTable.fits SetTable.fill;rw[h2,Ao,Bc,Ay];exact⟨h1,by show t.place.size+0≤_;omega⟩
theorem Tab.fits (R:Tab Z s.heap a L es ep t):t.fits es.size=true:=by
 have h1:=Fb R.rows;have h2:=IK R;have h3:=R.room;exact fits_of AA R.tab.dm AA
theorem RU (h:es.toList=L.map Z.row) {i:Nat} {p:Addr×K} (e:L[i]? =some p):es[i]? =some (Z.hs p.2,.ref p.1):=by
 rw[←BE,h,A6,e];rfl
theorem Xa (m:MaskOk t.mask):¬t.gaveWay=true:=by
 unfold SetTable.gaveWay;rw[mask_odd m];decide
theorem gG {y:Value} (R:Tab Z s.heap a L es ep t) {h:Int} (hy:y∈((es.filter (·.1==h)).toList.map (·.2))):∃x c,y= .ref c∧Z.k.is s.heap x c:=by
 obtain⟨e,he,ee⟩:=AY.mp hy;have h1:e∈es.toList:=by
  have:=(show e∈es∧e.1=h by simpa using he).1;simpa using this
 rw[R.rows]at h1;obtain⟨p,hp,e2⟩:=AY.mp h1;exact⟨p.2,p.1,by rw[←ee,←e2],R.el p hp⟩
theorem gH {x:K} {b:Addr} {Q:Bool->Shared->Prop} (hx:Z.k.is s.heap x b) {ys:List Value} (hy:∀y∈ys,∃x' c,y= .ref c∧Z.k.is s.heap x' c) (q:Q false s):wpAny (model P w) A (searchCouldBeSeen (.ref b) ys) Q E s:=by
 unfold searchCouldBeSeen;refine wpAny_bind (wpAny_forIn_list _ (λl r s1=>(r.1=none∧s1=s)∧∀y∈l,∃x' c,y=Value.ref c∧Z.k.is s.heap x' c) _ ?_ ?_ _ _ ⟨⟨rfl,rfl⟩,hy⟩)
 ·rintro v l r s1 ⟨⟨e1,rfl⟩,all⟩;obtain⟨x',c,rfl,hc⟩:=all v AG;have all' :=λy (hy:y∈l)=>all y (AF _ hy);dsimp only;by_cases z:(b==c||(carriedByValue (.ref b) && carriedByValue (.ref c)))=true
  ·exact wp_if_pos z (wpAny_pure ⟨⟨rfl,rfl⟩,all'⟩)
  ·refine wp_if_neg z (wpAny_bind (Z.k.quiet hx ?_));simp only[BZ,BI,CZ];refine wpAny_bind (Z.k.quiet hc ?_);simp only[BZ,BI,CZ];refine wpAny_bind (Z.stm hx ?_);simp only[BI,CZ];refine wpAny_bind (Z.stm hc ?_);simp only[BI,CZ];exact wpAny_pure ⟨⟨rfl,rfl⟩,all'⟩
 ·rintro⟨r1,r2⟩ s1 ⟨⟨e1,rfl⟩,_⟩
  cases (show r1=none from e1)
  exact wpAny_pure q
theorem pN (R:Tab Z s.heap a L es ep t) {x:K} {b:Addr} (hx:Z.k.is s.heap x b) (hu:Z.k.room A) {i j f:Nat} {p:Addr×K} {nx:SetTable.Probe} {Q:SetFound->Shared->Prop} (hp:L[i]? =some p) (hi:t.place.toList[i]? =some j)
 (q1:p.2=x->Q (.there none) s) (q2:p.2≠x->wpAny (model P w) A (setSearchFrom a (.ref b) (Z.hs x) true f (some nx)) Q E s):
 wpAny (model P w) A (searchRest a (.ref b) (Z.hs x) true f es t j i nx) Q E s:=by
 obtain⟨o,ho,_,hd⟩:=R.ob;unfold searchRest;rw[RU R.rows hp];dsimp only;refine wpAny_bind (wpAny_holding (Z.k.eqBool hu (R.el p (Av hp)) hx (wpAny_bind (wpAny_setState_of ho hd R.fits ?_))));dsimp only;by_cases z:p.2=x
 ·exact wp_if_pos (by simp[z]) (wpAny_pure (q1 z))
 ·refine wp_if_neg (by simp[z]) ?_
  try refine wpAny_bind (wpAny_pure ?_)
  rw[sameMem];dsimp only;simp only[if_true,slot_live R.tab.ris hi,RU R.rows hp];refine wpAny_bind (wpAny_isSame_ref_self (wpAny_bind (wpAny_pure ?_)));simp only[if_true];exact wp_if_neg (by simp[z]) (q2 z)
theorem seek (R:Tab Z s.heap a L es ep t) {x:K} {b:Addr} (hx:Z.k.is s.heap x b) (hu:Z.k.room A) {N:Nat} (hN:N<10*SetTable.turns t.mask) (hK:(at_ Z t x N).j∉t.place.toList) (hb:∀c,c<N->(at_ Z t x c).j∈t.place.toList) {Q:SetFound->Shared->Prop}
 (q1:x∈L.map (·.2)->Q (.there none) s) (q2:x∉L.map (·.2)->Q (.free (at_ Z t x N).j false) s):
 ∀(f c:Nat) (st:Option SetTable.Probe),st.getD (t.probeStart (Z.hs x))=at_ Z t x c->c≤N->N - c<f->(∀(i:Nat) p,L[i]? =some p->p.2=x->∃d,c≤d∧d<N∧t.place.toList[i]? =some (at_ Z t x d).j)->
  wpAny (model P w) A (setSearchFrom a (.ref b) (Z.hs x) true f st) Q E s:=by
 intro f
 induction f with
 |zero=>exact λc st _ _ h=>absurd h (Bp _)
 |succ f ih=>
  intro c st hst hc hf hr;obtain⟨o,ho,_,hd⟩:=R.ob;rw[setSearchFrom_succ];refine wpAny_bind (wpAny_setState_of ho hd R.fits ?_);dsimp only;refine wp_if_neg (Xa R.tab.mok) ?_
  try refine wpAny_bind (wpAny_pure ?_)
  have ej:∀q,(nth t.mask (at_ Z t x c) q).j=(at_ Z t x (c+q)).j:=λq=>A9 _ (XY t x c q);have eN:c+(N - c)=N:=by omega
  have hash:∀{i:Nat} {p:Addr×K},L[i]? =some p->(λ(i:Nat)=>(es[i]?.map (·.1)).getD 0) i=Z.hs p.2:=λh=>by
   dsimp only;rw[RU R.rows h];rfl
  have sp:=go_spec t R.tab.ris R.tab.dm (λi=>(es[i]?.map (·.1)).getD 0) (Z.hs x) (10*SetTable.turns t.mask) (N - c) (at_ Z t x c) (XZ t x c) AA (λq hq=>by rw[ej];exact hb _ AA) (by rw[ej,eN];exact hK);have pr:∀m,SetTable.probe.go t (λi=>(es[i]?.map (·.1)).getD 0) (Z.hs x) (10*SetTable.turns t.mask) (at_ Z t x c)=some m->t.probe (λi=>(es[i]?.map (·.1)).getD 0) (Z.hs x) (st.getD (t.probeStart (Z.hs x)))=some m:=λm h=>by rw[hst];exact h
  rcases sp with⟨q,i,hq,hi,_,no,e⟩|⟨no,e⟩
  ·rw[ej,XY]at e;rw[ej]at hi;rw[pr _ e];dsimp only;have hil:i<L.length:=by
    have h1:=(AS.mp hi).1;rw[AU,IK R]at h1;exact h1
   have hp:L[i]? =some L[i]:=Aj hil;generalize L[i]=p at hp;have rest:wpAny (model P w) A (searchRest a (.ref b) (Z.hs x) true f es t (at_ Z t x (c+q)).j i (at_ Z t x (c+(q+1)))) Q E s:=by
    refine pN R hx hu hp hi (λz=>q1 (AY.mpr ⟨p,Av hp,z⟩)) λz=>ih (c+(q+1)) _ rfl AA AA λi0 p0 h0 k0=>?_;obtain⟨d,d1,d2,d3⟩:=hr i0 p0 h0 k0;refine⟨d,?_,d2,d3⟩;rcases Nat.lt_trichotomy d (c+q)with g|g|g
    ·refine absurd ((hash h0).trans (A9 Z.hs k0)) (no (d - c) i0 AA ?_);rw[ej,show c+(d - c)=d by omega];exact d3
    ·rw[g]at d3;have e1:=slot_live R.tab.ris hi;rw[slot_live R.tab.ris d3]at e1
     injection e1 with e1
     rw[e1,hp]at h0;exact absurd ((A9 Prod.snd (Option.some.inj h0)).trans k0) z
    ·omega
   by_cases hl:t.led=true
   ·refine wp_if_neg (by simp[hl]) ?_
    try refine wpAny_bind (wpAny_pure ?_)
    exact rest
   ·refine wp_if_pos (by simp[hl]) (wpAny_bind (gH hx (λy hy=>gG R hy) (wp_if_neg AB ?_)))
    try refine wpAny_bind (wpAny_pure ?_)
    exact rest
  ·rw[ej,eN]at e;rw[pr _ e];dsimp only;refine wpAny_pure (q2 λhm=>?_);obtain⟨p,hp,kp⟩:=AY.mp hm;obtain⟨i,hi⟩:=CC.mp hp;obtain⟨d,d1,d2,d3⟩:=hr i p hi kp;refine absurd ((hash hi).trans (A9 Z.hs kp)) (no (d - c) i AA ?_);rw[ej,show c+(d - c)=d by omega];exact d3
theorem mT (R:Tab Z s.heap a L es ep t) {x:K} {b:Addr} (hx:Z.k.is s.heap x b) (hu:Z.k.room A) {Q:SetFound->Shared->Prop} (q1:x∈L.map (·.2)->Q (.there none) s)
 (q2:∀N,x∉L.map (·.2)->(at_ Z t x N).j∉t.place.toList->(∀c,c<N->(at_ Z t x c).j∈t.place.toList)->Q (.free (at_ Z t x N).j false) s):
 wpAny (model P w) A (setSearch a (.ref b) (Z.hs x) true) Q E s:=by
 have r:=R.room;obtain⟨N,n1,n2,n3⟩:=R.tab.first (by rw[AJ];omega) (Z.hs x);have big:N<100000:=by
  have:SetTable.turns t.mask≤142:=by
   unfold SetTable.turns;rcases R.tab.mok with e|e|e<;>omega
  omega
 unfold setSearch;refine seek R hx hu n1 n2 n3 q1 (λz=>q2 N z n2 n3) 100000 0 none rfl (BM _) AA λi p hp kp=>?_;have h1:(L.map λp=>Z.hs p.2)[i]? =some (Z.hs x):=by rw[A6,hp,←kp];rfl
 have h2:i<t.place.toList.length:=by
  rw[AU,IK R];exact(AS.mp hp).1
 obtain⟨d,d1,d2⟩:=R.tab.before n2 h1 (Aj h2);exact⟨d,BM _,d1,by rw[Aj h2];exact A9 some d2.symm⟩
theorem all_of {α:Type} (l:List α):∀n,n≤l.length->(List.range n).filterMap (λi=>l[i]?)=l.take n:=λn=>by
 induction n with
 |zero=>exact λ_=>rfl
 |succ n ih=>
  intro h;have hl:l[n]? =some l[n]:=Aj h;rw[Cd,List.filterMap_append,ih AA,List.take_succ,hl,Ax hl];rfl
theorem moved (hr:es.toList=L.map Z.row) {ord:Array Nat} (hp:ord.toList.Perm (List.range L.length)):
 ∃L2:List (Addr×K),(ord.filterMap (es[·]?)).toList=L2.map Z.row∧L2.Perm L∧(L2.map λp=>Z.hs p.2)=ord.toList.map λi=>(es.map (·.1)).getD i 0:=by
 have g:∀i:Nat,es[i]? =(L[i]?).map Z.row:=λi=>by rw[←BE,hr,A6]
 refine⟨ord.toList.filterMap λi=>L[i]?,?_,?_,?_⟩
 ·rw[CP,Array.toList_filterMap];exact A9 (λf=>List.filterMap f ord.toList) (funext g)
 ·have:=hp.filterMap λi=>L[i]?
  rwa [all_of L _ (Ai _),List.take_length]at this
 ·rw[CP];have key:∀l:List Nat,(∀i∈l,i<L.length)->(l.filterMap λi=>(L[i]?).map λp=>Z.hs p.2)=l.map λi=>(es.map (·.1)).getD i 0:=λl=>by
   induction l with
   |nil=>exact λ_=>rfl
   |cons i l ih=>
    intro h;have hi:=h i AG;have e1:L[i]? =some L[i]:=Aj hi;have e2:(es.map (·.1)).getD i 0=Z.hs (L[i]).2:=by
     rw[Bs,Array.getElem?_map,g i,e1];rfl
    rw[Ax (b:=Z.hs (L[i]).2) (by rw[e1];rfl),AO,e2,ih λj hj=>h j (AF _ hj)]
  exact key _ λi hi=>Bb.mp (hp.mem_iff.mp hi)
theorem still {h h' :Heap} {x:K} {b:Addr} {o:Obj} (hx:Z.k.is h x b) (ho:h.get? a=some o) (hd:o.data= .set es ep t) (e:Heap.SameBut a h h'):Z.k.is h' x b:=
 Z.stay hx λc u its n hc hs=>(e.2 c (λz=>by
  rw[z,ho]at hc
  cases hc
  rw[hd]at hs
  cases hs)).trans hc
structure Pre (Z:SKind P w K) (h:Heap) (a:Addr) (L:List (Addr×K)) (es:Array (Int×Value)) (ep:Nat) (t:SetTable):Prop where
 ob:∃o,h.get? a=some o∧o.ExactSet∧o.data= .set es ep t
 rows:es.toList=L.map Z.row
 sz:t.place.size=L.length
 dm:t.dummies=#[]
 le:L.length≤t.mask
 nd:(L.map (·.2)).Nodup
 el:∀p∈L,Z.k.is h p.2 p.1
 led:w.params.followText "set-order"=true∨t.led=true
theorem mU (R:Pre Z s.heap a L es ep t) {n M:Nat} (hn:SetTable.sizeAbove n - 1=M) (hM:MaskOk M) (hl:L.length*5<M*3) {Q:Unit->Shared->Prop}
 (q:∀h' L' es' ep' t',Heap.SameBut a s.heap h'->Tab Z h' a L' es' ep' t'->L'.Perm L->Q () {s with heap:=h'}):wpAny (model P w) A (setRelay a n) Q E s:=by
 obtain⟨o,ho,hx,hd⟩:=R.ob;have hz:=Fb R.rows;obtain⟨t',ord,e,pm,T,em,el,_,_⟩:=relaid_ok t (hs:=es.map (·.1)) (wanted:=n) hn hM (by rw[Bu,hz];omega);rw[Bu,hz]at pm;obtain⟨L2,r1,r2,r3⟩:=moved R.rows pm;rw[←r3]at T;have hz2:=(Fb r1).trans r2.length_eq;have le:M≤127:=by rcases hM with e|e|e<;>omega
 rw[setRelay_eq];refine wpAny_bind (wpAny_setState_of ho hd (fits_of (R.sz.trans hz.symm) R.dm (by rw[hz];exact R.le)) ?_);dsimp only;refine wp_if_neg (by rw[sizeLine_eq];omega) ?_
 try refine wpAny_bind (wpAny_pure ?_)
 rw[e];dsimp only;refine wpAny_bind (wp_if_neg (by rw[hz2,hz];simp) ?_)
 try refine wpAny_bind (wpAny_pure ?_)
 refine wpAny_pure ?_;dsimp only;refine wpAny_storeSet_of ho hd (q _ L2 _ (ep+1) t' (Heap.SameBut.update ..) ⟨⟨_,store_at ho hd,⟨hx.1,hx.2.1,hx.2.2⟩,rfl⟩,r1,T,(r2.map (·.2)).nodup_iff.mpr R.nd,λp hp=>still (R.el p (r2.mem_iff.mp hp)) ho hd (Heap.SameBut.update ..),by rw[el];exact R.led,by rw[r2.length_eq,em];exact hl⟩ r2) (by rw[hz2,sizeLine_eq];omega)
theorem U6 {t:SetTable} {hs:List Int} (T:TabOk t hs):TabOk {t with plain:=false} hs:=⟨T.ris,T.dm,T.sz,T.mok,T.bd,T.reach⟩
theorem add1 (R:Tab Z s.heap a L es ep t) {x:K} {b:Addr} (hx:Z.k.is s.heap x b) (hu:Z.k.room A) (few:x∉L.map (·.2)->L.length<75) {Q:Bool->Shared->Prop}
 (q:∀v h' L' es' ep' t',Heap.SameBut a s.heap h'->Tab Z h' a L' es' ep' t'->(x∈L.map (·.2)->L'=L)->(x∉L.map (·.2)->L'.Perm ((b,x)::L))->Q v {s with heap:=h'}):
 wpAny (model P w) A (setAddHashed a (.ref b) (Z.hs x)) Q E s:=by
 obtain⟨o,ho,hex,hd⟩:=R.ob;have hz:=Fb R.rows;have hr:=R.room;unfold setAddHashed;refine wpAny_holding ?_;rw[show(100000:Nat)=99999+1 from rfl,setAddHashedIn_succ];refine wpAny_bind (wpAny_setState_of ho hd R.fits ?_);dsimp only;refine wp_if_neg (by simp[byScan,Value.scannable]) ?_
 try refine wpAny_bind (wpAny_pure ?_)
 refine wpAny_bind (mT R hx hu (λm=>?_) λN m n2 n3=>?_)
 ·dsimp only;exact wpAny_pure (q false s.heap L es ep t (Heap.SameBut.refl a s.heap) R (λ_=>rfl) λz=>absurd m z)
 ·dsimp only;have fw:=few m;refine wpAny_bind (wpAny_setState_of ho hd R.fits ?_);dsimp only;obtain⟨p1,p2,p3,p4,p5,_,_,_,p9⟩:=R.tab.put n2 n3;generalize hpt:t.put (at_ Z t x N).j=pt at p1 p3 p4 p5 p9 ⊢;obtain⟨t1,p⟩:=pt;dsimp only at p1 p3 p4 p5 p9 ⊢;have hin:(SetTable.insertAt es p (Z.hs x,Value.ref b)).toList=(L.take p++(b,x)::L.drop p).map Z.row:=by
   rw[SetTable.toList_insertAt,R.rows,Aw,AO,List.map_take,List.map_drop]
  have pm:(L.take p++(b,x)::L.drop p).Perm ((b,x)::L):=put_perm L p (b,x);rw[←p1]at p3;have e3:(L.map λp=>Z.hs p.2).take p++Z.hs x::(L.map λp=>Z.hs p.2).drop p=(L.take p++(b,x)::L.drop p).map λp=>Z.hs p.2:=by
   rw[Aw,AO,List.map_take,List.map_drop]
  rw[e3]at p3;generalize SetTable.insertAt es p (Z.hs x,Value.ref b)=es1 at hin ⊢;generalize L.take p++(b,x)::L.drop p=L1 at pm p3 hin;have len:L1.length=L.length+1:=pm.length_eq;have hz1:=Fb hin;have go:∀t2:SetTable,TabOk t2 (L1.map λp=>Z.hs p.2)->t2.mask=t.mask->t2.led=t.led->t2.fill=t1.fill->wpAny (model P w) A (storeSet a es1 t2>>=λ_=>if(!false && t2.tooFull)=true then setRelay a (SetTable.grown (es.size+1))>>=λ_=>pure true else pure true) Q E s:=by
   intro t2 T m2 l2 f2;refine wpAny_bind (wpAny_storeSet_of ho hd ?_ (by rw[hz1,len,sizeLine_eq];omega));have sb:Heap.SameBut a s.heap (s.heap.update a (Obj.putSet es1 t2)):=Heap.SameBut.update ..;have ho1:=store_at (es' :=es1) (t' :=t2) ho hd;generalize s.heap.update a (Obj.putSet es1 t2)=h1 at sb ho1 ⊢;have el:∀p∈L1,Z.k.is h1 p.2 p.1:=λp hp=>by
    rcases AQ.mp (pm.mem_iff.mp hp)with e|hp
    ·rw[e];exact still hx ho hd sb
    ·exact still (R.el p hp) ho hd sb
   have nd:(L1.map (·.2)).Nodup:=by
    refine(pm.map (·.2)).nodup_iff.mpr ?_;rw[AO];exact Au.mpr ⟨m,R.nd⟩
   have ld:w.params.followText "set-order"=true∨t2.led=true:=by rw[l2];exact R.led
   have ob1:∃o,h1.get? a=some o∧o.ExactSet∧o.data= .set es1 (ep+1) t2:=⟨_,ho1,⟨hex.1,hex.2.1,hex.2.2⟩,rfl⟩;have full:t2.tooFull=decide ((L.length+1)*5≥t.mask*3):=by
    unfold SetTable.tooFull;rw[f2,p9,m2,AJ]
   by_cases hf:(L.length+1)*5≥t.mask*3
   ·refine wp_if_pos (by rw[full];simpa using hf) (wpAny_bind ?_);have pre:Pre Z h1 a L1 es1 (ep+1) t2:=⟨ob1,hin,by have:=T.sz;rwa [AJ]at this,T.dm,by rw[m2];omega,nd,el,ld⟩;have two:(t.mask=7∧L.length=4)∨(t.mask=31∧L.length=18):=by
     rcases R.tab.mok with e|e|e<;>omega
    have end_:∀M,SetTable.sizeAbove (SetTable.grown (es.size+1)) - 1=M->MaskOk M->L1.length*5<M*3->wpAny (model P w) A (setRelay a (SetTable.grown (es.size+1))) (λ_ s1=>wpAny (model P w) A (pure true) Q E s1) E {s with heap:=h1}:=λM g1 g2 g3=>
     mU (s:={s with heap:=h1}) pre g1 g2 g3 λh' L' es' ep' t' sb' R' pm'=>wpAny_pure (q true h' L' es' ep' t' (sb.trans sb') R' (λz=>absurd z m) λ_=>pm'.trans pm)
    rcases two with⟨_,e⟩|⟨_,e⟩
    ·exact end_ 31 (by rw[hz,e,size_20]) (.inr (.inl rfl)) AA
    ·exact end_ 127 (by rw[hz,e,size_76]) (.inr (.inr rfl)) AA
   ·refine wp_if_neg (by rw[full];simpa using hf) (wpAny_pure (q true h1 L1 es1 (ep+1) t2 sb ⟨ob1,hin,T,nd,el,ld,by rw[m2,len];omega⟩ (λz=>absurd z m) λ_=>pm))
  by_cases hp:t1.plain=true
  ·rw[An hp];refine wpAny_bind (Z.byv hx λv=>?_)
   cases v
   ·exact go _ (U6 p3) p4 p5 rfl
   ·exact go _ p3 p4 p5 rfl
  ·rw[Aq hp];exact wpAny_bind (wpAny_pure (go _ p3 p4 p5 rfl))
theorem short {α:Type}:∀(l B:List α),l.Nodup->(∀x∈l,x∈B)->l.length≤B.length
 |[],_,_,_=>BM _
 |x::l,B,n,h=>by
  obtain⟨h1,h2⟩:=Au.mp n;obtain⟨B1,B2,rfl⟩:=List.append_of_mem (h x AG);have:=short l (B1++B2) h2 λy hy=>by
   rcases Ap.mp (h y (AF _ hy))with m|m
   ·exact Be _ m
   ·rcases AQ.mp m with e|m
    ·exact absurd (e▸hy) h1
    ·exact BP _ m
  simp only[AH,AI]at this ⊢;omega
theorem Tab.mono {h h' :Heap} (R:Tab Z h a L es ep t) (k:∀o,h.get? a=some o->h'.get? a=some o) (e:∀p∈L,Z.k.is h' p.2 p.1):Tab Z h' a L es ep t:=by
 obtain⟨o,ho,r⟩:=R.ob;exact⟨⟨o,k o ho,r⟩,R.rows,R.tab,R.nd,e,R.led,R.room⟩
abbrev RV (w:World):Obj:={cls:= .type "set",dict:=none,data:= .set #[] 0 (.fresh 0 0 (!w.params.followText "set-order"))}
theorem Xb (w:World):w.params.followText "set-order"=true∨(!w.params.followText "set-order")=true:=by
 cases w.params.followText "set-order"
 ·exact .inr rfl
 ·exact .inl rfl
theorem Z6 {h:Heap} (ho:h.get? a=some (RV w)):Tab Z h a [] #[] 0 (.fresh 0 0 (!w.params.followText "set-order")) where
 ob:=⟨_,ho,⟨rfl,rfl,rfl⟩,rfl⟩
 rows:=rfl
 tab:=⟨List.Pairwise.nil,rfl,rfl,.inl rfl,λx hx=>(by cases hx),λi h j hi=>(by simp at hi)⟩
 nd:=B3
 el:=λp hp=>absurd hp AM
 led:=Xb w
 room:=(show 0*5<7*3 by decide)
structure Has (ks:List (Addr×K)) (i:Nat) (L:List (Addr×K)):Prop where
 sub:∀p∈L,p∈ks
 all:∀(j:Nat) p,j<i->ks[j]? =some p->p.2∈L.map (·.2)
theorem upd_loop {I:Addr} {fp wr:List Addr} {G:Array GenState->Array GenState->Prop} {n:Nat} {Pv:Nat->Value->Prop} {St:Nat->Shared->Prop} {R:Result->Shared->Prop} (W:WalksS P w A.in1 I fp wr G n Pv St) (S:Addr) (hS:S∉fp) (ks:List (Addr×K)) (B:List K)
 (hn:n=ks.length) (hB:∀p∈ks,p.2∈B) (few:B.length≤75) (hv:∀i v,Pv i v->∃p,ks[i]? =some p∧v= .ref p.1) (h0:Heap) (hk:∀p∈ks,Z.k.is h0 p.2 p.1) (hS0:h0.get? S=none) (hw0:∀b∈wr,h0.get? b=none) (hu:Z.k.room A.in1):
 ∀(r i:Nat) (s:Shared),n - i=r->i≤n->St i s->(∀b o,h0.get? b=some o->s.heap.get? b=some o)->(∃L es ep t,Tab Z s.heap S L es ep t∧Has ks i L)->
  (∀s' L es ep t,Moved (S::wr) G s s'->Tab Z s'.heap S L es ep t->Has ks n L->(∀b o,h0.get? b=some o->s'.heap.get? b=some o)->R (.ok (.ret .none)) s')->
  codeAny (model P w) A (.builtin "set.update.loop" ⟨[.ref S,.ref I],[]⟩) R s:=by
 have hSw:S∉wr:=λh=>hS (W.sub _ h);have old:∀{h' :Heap} {p:Addr×K},p∈ks->(∀b o,h0.get? b=some o->h'.get? b=some o)->Z.k.is h' p.2 p.1:=λhp k=>Z.stay (hk _ hp) λc o _ _ e _=>k c o e;have kept:∀{s s' :Shared},Moved wr G s s'->(∀b o,h0.get? b=some o->s.heap.get? b=some o)->∀b o,h0.get? b=some o->s'.heap.get? b=some o:=λm k b o e=>m.heap b o (λz=>by rw[hw0 b z]at e;cases e) (k b o e);intro r
 induction r with
 |zero=>
  intro i s hr hi st k ⟨L,es,ep,t,T,g⟩ q;obtain rfl:i=n:=by omega
  refine codeAny_builtin F.entry_set_update_loop ?_;rw[Around.under_plainId F.plain_set_update_loop _];show wpAny _ A.in1 (pyNext (.ref I)>>=_) _ _ s;refine wpAny_bind (W.done s _ _ st λs1 m=>?_);have k1:=kept m k;exact wpAny_pure (q s1 L es ep t (m.mono λb hb=>AF _ hb) (T.mono (λo e=>m.heap S o hSw e) λp hp=>old (g.sub p hp) k1) g k1)
 |succ r ih=>
  intro i s hr hi st k ⟨L,es,ep,t,T,g⟩ q;have hlt:i<n:=by omega
  refine codeAny_builtin F.entry_set_update_loop ?_;rw[Around.under_plainId F.plain_set_update_loop _];show wpAny _ A.in1 (pyNext (.ref I)>>=_) _ _ s;refine wpAny_bind (W.item i s _ _ hlt st λv s1 hP st1 m=>?_);obtain⟨p,hp,rfl⟩:=hv i v hP;have pk:=Av hp;have k1:=kept m k;have T1:Tab Z s1.heap S L es ep t:=T.mono (λo e=>m.heap S o hSw e) λp hp=>old (g.sub p hp) k1;show wpAny _ A.in1 (holding [Value.ref p.1] (setAdd S (.ref p.1))>>=_) _ _ s1;refine wpAny_bind (wpAny_holding ?_);unfold setAdd;refine wpAny_holding (wpAny_bind (Z.k.pyHash hu (old pk k1) ?_));refine add1 (s:={s1 with toks:=s1.toks+Z.k.draws p.2}) T1 (old pk k1) hu (λnm=>?_) λv h' L' es' ep' t' sb T' c1 c2=>?_
  ·have:=short (p.2::L.map (·.2)) B (Au.mpr ⟨nm,T.nd⟩) λy hy=>by
    rcases AQ.mp hy with e|hy
    ·rw[e];exact hB p pk
    ·obtain⟨z,hz,e⟩:=AY.mp hy;rw[←e];exact hB z (g.sub z hz)
   rw[AI,AJ]at this;omega
  have g1:Has ks (i+1) L' :=by
   rcases Classical.em (p.2∈L.map (·.2))with c|c
   ·rw[c1 c];exact⟨g.sub,λj z hj hz=>by
     rcases Nat.lt_or_ge j i with l|l
     ·exact g.all j z l hz
     ·obtain rfl:j=i:=by omega
      rw[hp]at hz
      cases hz
      exact c⟩
   ·have pm:=c2 c;refine⟨λz hz=>?_,λj z hj hz=>(pm.map (·.2)).mem_iff.mpr ?_⟩
    ·rcases AQ.mp (pm.mem_iff.mp hz)with e|m
     ·rw[e];exact pk
     ·exact g.sub z m
    ·rw[AO];rcases Nat.lt_or_ge j i with l|l
     ·exact AF _ (g.all j z l hz)
     ·obtain rfl:j=i:=by omega
      rw[hp]at hz
      cases hz
      exact AG
  have k2:∀b o,h0.get? b=some o->h'.get? b=some o:=λb o e=>(sb.2 b (λz=>by rw[z,hS0]at e;cases e)).trans (k1 b o e);refine wpAny_pure ⟨plainId_quiet F.plain_set_update_loop _,ih (i+1) _ AA hlt (W.frame _ s1 _ _ st1 (CY _ _) λb hb o e=>?_) k2 ⟨L',es',ep',t',T',g1⟩ λs2 L2 es2 ep2 t2 m2 T2 g2 k3=>?_⟩
  ·exact(sb.2 b (λz=>hS (z▸hb))).trans e
  ·exact q s2 L2 es2 ep2 t2 (Moved.trans W.gtrans ((m.mono λb hb=>AF _ hb).then_heap (CY _ _) λb o hb e=>(sb.2 b (λz=>hb (z▸AG))).trans e) m2) T2 g2 k3
theorem P7 {h:Heap} {b:Addr} (hb:h.objs.size≤b):h.get? b=none:=by
 cases q:h.get? b with
 |none=>rfl
 |some o=>exact absurd (BA (Heap.lt_size q) hb) (Nat.lt_irrefl _)
abbrev Left (Z:SKind P w K) (s:Shared) (ks:List (Addr×K)) (s2:Shared):Prop:=
 ∃h' tk L es ep t,s2={s with heap:=h',toks:=tk}∧Tab Z h' s.heap.objs.size L es ep t∧Has ks ks.length L∧∀b o,s.heap.get? b=some o->h'.get? b=some o
theorem Xd {l:Addr} {its:Array Value} (ks:List (Addr×K)) (B:List K) {A0:Around} (hA:A0.handled=none) (hu:Z.k.room A0.in1) (hl:s.heap.IsList l its) (hit:its.toList=ks.map λp=>Value.ref p.1) (hk:∀p∈ks,Z.k.is s.heap p.2 p.1) (hB:∀p∈ks,p.2∈B) (few:B.length≤75)
 {R:Result->Shared->Prop} (hR:∀s2,Left Z s ks s2->R (.ok (.ret .none)) s2):
 codeAny (model P w) A0 (.builtin "set.update.loop" ⟨[.ref s.heap.objs.size,.ref (s.heap.objs.size+1)],[]⟩) R {s with heap:=(s.heap.push (RV w)).push {cls:= .type "list_iterator",data:= .fields #[.ref l,.int 0 0]}}:=by
 have hz:(s.heap.push (RV w)).objs.size=s.heap.objs.size+1:=Heap.size_push ..;have hlt:l<s.heap.objs.size:=by
  obtain⟨o,ho,_⟩:=hl;exact Heap.lt_size ho
 have hsz:its.size=ks.length:=by
  have:=A9 List.length hit
  rwa [AU,AJ]at this
 have hl1:(s.heap.push (RV w)).IsList l its:=hl.push _;have h2:((s.heap.push (RV w)).push {cls:= .type "list_iterator",data:= .fields #[.ref l,.int 0 0]}).get? s.heap.objs.size=some (RV w):=Heap.get?_push_of_some _ (Heap.get?_push_size _ rfl);have hget:((s.heap.push (RV w)).push {cls:= .type "list_iterator",data:= .fields #[.ref l,.int 0 0]}).get? (s.heap.objs.size+1)=some {cls:= .type "list_iterator",data:= .fields #[.ref l,.int 0 0]}:=by
  have:=Heap.get?_push_size (h:=s.heap.push (RV w)) (o:={cls:= .type "list_iterator",data:= .fields #[.ref l,.int 0 0]}) rfl
  rwa [hz]at this
 refine upd_loop ((Walks.list (prog:=P) (w:=w) (A:=A0.in1) (by simpa using hA) (s.heap.objs.size+1) l (A1 (BV hlt)) its).toS) s.heap.objs.size (by simp only[AQ,AM,BR,not_or];exact⟨A1 (Bj _),B4 hlt⟩) ks B hsz hB few (λi v hv=>?_) s.heap hk (P7 (Ai _)) (λb hb=>P7 (by rw[AR.mp hb];exact Nat.le_succ _)) hu (its.size - 0) 0 _ rfl (BM _)
  ⟨⟨_,hget,rfl,rfl⟩,hl1.push _⟩ (λb o e=>Heap.get?_push_of_some _ (Heap.get?_push_of_some _ e)) ⟨[],#[],0,_,Z6 h2,λp hp=>absurd hp AM,λj p hj=>absurd hj (Bp _)⟩ λs' L es ep t m T g k=>hR s' ?_
 ·have q:its.toList[i]? =some v:=by rw[BE];exact hv
  rw[hit,A6]at q
  cases e:ks[i]? with
  |none=>rw[e]at q;cases q
  |some p=>
   rw[e]at q;exact⟨p,rfl,(Option.some.inj q).symm⟩
 ·obtain⟨h',g2,d2,tk,o2⟩:=s';obtain rfl:g2=s.gens:=m.gens;obtain rfl:d2=s.drawn:=m.drawn;obtain rfl:o2=s.os:=m.os;rw[hsz]at g;exact⟨h',tk,L,es,ep,t,rfl,T,g,k⟩
set_option maxHeartbeats 3200000 in
theorem mV {l:Addr} {its:Array Value} (ks:List (Addr×K)) (B:List K) {Q:Value->Shared->Prop} (hh:A.handled=none) (hu:∀A' :Around,A'.units≤A.units+6->Z.k.room A') (hl:s.heap.IsList l its) (hit:its.toList=ks.map λp=>Value.ref p.1) (hk:∀p∈ks,Z.k.is s.heap p.2 p.1) (hB:∀p∈ks,p.2∈B) (few:B.length≤75)
 (hQ:∀s2,Left Z s ks s2->Q (.ref s.heap.objs.size) s2):wpAny (model P w) A (call (.type "set") [.ref l]) Q E s:=by
 obtain⟨c,tl,hmro⟩:=F.called_set.mro;have hmade:=F.called_set.made;have hsub:=F.called_set.sub;refine wpAny_call (codeAny_of_tree ?_);show wpAny _ _ (callAny (.type "set") _) _ _ _;refine wpAny_pure ⟨Code.quiet_builtin _ AC,codeAny_builtin F.entry_type_call ?_⟩;rw[Around.under_plain (weight_type_call_type "set" [.ref l] []) rfl];have h1:=F.called_set.notType;have h2:=F.called_set.canCreate;have hct:=F.typeCall_set_1 (.ref l)
 repeat (any_goals (first|assumption|wp_step))
 refine codeAny_mono (code_set_led1 (.ref l) (E:=E) (Q₁:=λob s1=>ob= .ref s.heap.objs.size∧s1={s with heap:=s.heap.push (RV w)}) ⟨rfl,rfl⟩) λr s1 hr=>?_
 cases r with
 |error e=>exact hr
 |ok fl=>
  cases fl with
  |ret ob=>
   obtain⟨rfl,rfl⟩:=hr;have hS:(s.heap.push (RV w)).get? s.heap.objs.size=some (RV w):=Heap.get?_push_size _ rfl;have hT:Shared.TypeIs {s with heap:=s.heap.push (RV w)} (.ref s.heap.objs.size) "set" :=⟨_,hS,rfl⟩;have hli:=F.called_set.init.lookup;have hbi:=F.called_set.init.bind (.ref s.heap.objs.size)
   repeat (any_goals (first|assumption|wp_step))
   refine codeAny_mono (codeAny_call_builtin (R:=wants (λr s2=>r= .none∧Left Z s ks s2) E) F.called_set.init.plain F.entry_set_init (check_set_init_1 hT ?_)) λr2 s2 hr2=>?_
   ·obtain⟨ol,hol,hcl,nl,hdl⟩:=id hl;obtain⟨oc,od,odt,osl⟩:=ol;simp only at hcl hdl;subst hcl;subst hdl;have hol' :(s.heap.push (RV w)).get? l=some {cls:= .type "list",dict:=od,data:= .seq its nl,slots:=osl}:=Heap.get?_push_of_some _ hol;have y1:=F.sub_list_set;have y2:=F.sub_list_frozenset;have y3:(Value.type "list"==Value.type "dict")=false:=by decide
    have hl1:(s.heap.push (RV w)).IsList l its:=⟨_,hol',rfl,nl,rfl⟩;unfold Builtin.«set.__init__» noKeywords Builtin.Frozenset.updateFrom;generalize hPI:pyIter=PI
    wp_walk
    subst hPI;refine wpAny_pyIter_list hl1 (wpAny_bind (wpAny_runValue ?_));have hz:(s.heap.push (RV w)).objs.size=s.heap.objs.size+1:=Heap.size_push ..;rw[hz];refine Xd ks B (by simp[hh]) (hu _ ?_) hl hit hk hB few λs2 h=>?_
    ·simp
    ·exact wpAny_pure (wpAny_pure ⟨rfl,h⟩)
   ·cases r2 with
    |error e=>exact hr2
    |ok f2=>
     cases f2 with
     |ret r=>
      obtain⟨rfl,h⟩:=hr2
      repeat (any_goals (first|assumption|wp_step))
      exact hQ _ h
     |_=>exact hr2.elim
  |_=>exact hr.elim
end
end TT
set_option maxHeartbeats 1000000
namespace TT
open PySem PySem.Spec PyProof.Rows PySem.W L2
section
variable {P:Program} {w:World} {K:Type} [DecidableEq K]
structure Tab1 (Z:SKind P w K) (h:Heap) (a:Addr) (L:List (Addr×K)):Prop where
 ex:∃(es:Array (Int×Value)) (ep:Nat) (t:SetTable),(∃o,h.get? a=some o∧o.ExactSet∧o.data= .set es ep t)∧es.toList=L.map Z.row∧TabOk t (L.map λp=>Z.hs p.2)∧(L.map (·.2)).Nodup∧
  (w.params.followText "set-order"=true∨t.led=true)∧L.length*5<t.mask*3
theorem Tab.t1 {Z:SKind P w K} {h:Heap} {a:Addr} {L:List (Addr×K)} {es:Array (Int×Value)} {ep:Nat} {t:SetTable} (R:Tab Z h a L es ep t):Tab1 Z h a L:=⟨es,ep,t,R.ob,R.rows,R.tab,R.nd,R.led,R.room⟩
theorem Tab1.full {Z:SKind P w K} {h:Heap} {a:Addr} {L:List (Addr×K)} (R:Tab1 Z h a L) (e:∀p∈L,Z.k.is h p.2 p.1):∃es ep t,Tab Z h a L es ep t:=by
 obtain⟨es,ep,t,h1,h2,h3,h4,h5,h6⟩:=R.ex;exact⟨es,ep,t,h1,h2,h3,h4,e,h5,h6⟩
end
end TT
namespace Mir
open PySem L2 TT
open PySem.W (dataLe AllAlike alike)
def D.kt:D->Option (List Key)
 | .tup ds=>TY ds
 | .tpx ds=>TY ds
 | .ktp ks=>some ks
 |_=>none
end Mir
namespace Mir
open PySem L2
end Mir
set_option maxHeartbeats 2000000
namespace OX
open PySem PySem.HandSPX Builtin Builtin.ObjectAttr
structure XB (Bn B newId initId:String) (bmB:List Value):Prop where
 by_:∃inN bmN,ExcBaseFacts Bn newId inN bmN
 hasN:bmB.contains (.type Bn)=true
 hasB:bmB.contains (.type B)=true
 noAttr:bmB.contains (.type "AttributeError")=false
 noName:bmB.contains (.type "NameError")=false
 init:Slot B "__init__" initId
 initEntry:entryFor table initId=some Builtin.«BaseException.__init__»
 initSplit:splitId initId=some (B,"__init__")
 initKind:builtinKind initId=some .slot
 initRow:Manifest.signature? initId=some ⟨.positional,"*",B,.self,[⟨"args",.varPos,false⟩]⟩
 noStar:(B !="*")=true
 sto:StoreFacts B bmB "object.__setattr__" "object"
theorem XB.of {B newId initId:String} {bmB:List Value} (F:ExcBaseFacts B newId initId bmB) (S:StoreFacts B bmB "object.__setattr__" "object"):XB B B newId initId bmB:=
 ⟨⟨_,_,F⟩,F.hasB,F.hasB,F.noAttr,F.noName,F.init,F.initEntry,F.initSplit,F.initKind,F.initRow,F.noStar,S⟩
end OX
namespace OX
open PySem
structure OxC (K:PySem.W.Frag) (C:Addr) (bmB:List Value) (newId:String):Prop where
 own:PySem.W.excInitIn K C bmB newId=true
 ov:PySem.W.excOver K C bmB=true
 hd:PySem.W.hasDictIn K C=true
 sa:PySem.W.findIn K (.ref C) "__setattr__"=some (some (.builtin "object.__setattr__"))
 exC:PySem.W.subIn K (.ref C) (.type "BaseException")=some true
 tyC:PySem.W.typeIn K (.ref C)=some (.type "type")
 kC:PySem.W.keepIn K (.ref C)=true
section
open PySem.HandSPX Builtin Builtin.ObjectAttr
variable {prog:Program} {w:World} {A:Around} {R:Result->Shared->Prop} {hp:Heap} {g:Array GenState} {d:Drawn} {t:Nat} {os:OsState} {Bn B newId initId:String} {bmB:List Value} {K:PySem.W.Frag} {C:Addr}
end
end OX
namespace OX
open PySem PySem.Spec PyProof.Rows L2
end OX
namespace OX
open PySem PySem.Spec PyProof.Rows L2
structure BN (K:PySem.W.Frag) (x:Str) (B initId:String):Prop where
 boot:bootBuiltins x=some (.type B)
 typ:typeOf (.type B)=pure (.type "type")
 stub:Manifest.isStub B=false
 fc:PySem.W.findCls K (.type B) (.type "type") "__init__"=some (.val (.builtin initId))
 hnd:PySem.W.handedIn (.builtin initId)=true
def qj (C:Addr) (f:Str):Sp:=λvs H Q _=>∃(a:Addr) (y:V),vs=[.ref a,y]∧H a=some (exo a C none)∧∀dx,H dx=none->dx≠a->Q .non (upd (upd H dx (exd dx [(f,y)])) a (exo a C (some dx)))
end OX
namespace OX
open PySem PySem.Spec PyProof.Rows HotX
end OX
namespace OX
open PySem PySem.Spec PyProof.Rows L2 HotX
end OX
namespace OX
open PySem PySem.HandSPX
end OX
namespace OX
open PySem PySem.Spec PyProof.Rows L2 HotX
end OX
namespace OX
open PySem PySem.Spec PyProof.Rows L2 HotX
end OX
namespace OX
open PySem PySem.Spec PyProof.Rows L2 HotX
abbrev Cl:=Value×Option Nat×(Addr->Value->Option Addr->TS)
inductive ClsOk (X:Cx):List ExceptHandler->List Cl->Prop
 |nil:ClsOk X [] []
 |bare {x:Str} {c:Value} {ts:Addr->Value->Option Addr->TS} {b₀:Stmt} {suite:List Stmt} {np pos' :Pos} {hds:List ExceptHandler} {l:List Cl} (hc:Names X x c)
  (hsu:∀(a:Addr) (oe:Obj) (cls:Value) (d:Option Addr) (pn:List (Addr×Obj)),Zc cls d oe->(∃vs,oe.data= .fields vs)->PSs (X.suite a ((a,oe)::pn)) (b₀::suite) (ts a cls d)) (r:ClsOk X hds l):
  ClsOk X (.ExceptHandler (some (.Name x np)) none (b₀::suite) pos' ::hds) ((c,none,ts)::l)
 |named {x n:Str} {i:Nat} {c:Value} {ts:Addr->Value->Option Addr->TS} {b₀:Stmt} {suite:List Stmt} {np pos' :Pos} {hds:List ExceptHandler} {l:List Cl} (hi:X.N[i]? =some n) (hln:X.env.kindOf n=some .local) (hc:Names X x c)
  (hsu:∀(a:Addr) (oe:Obj) (cls:Value) (d:Option Addr) (pn:List (Addr×Obj)),Zc cls d oe->(∃vs,oe.data= .fields vs)->PSs (X.suite a ((a,oe)::pn)) (b₀::suite) (ts a cls d)) (r:ClsOk X hds l):
  ClsOk X (.ExceptHandler (some (.Name x np)) (some n) (b₀::suite) pos' ::hds) ((c,some i,ts)::l)
end OX
set_option maxHeartbeats 2000000
namespace Mir
open PySem L2 PyProof.Rows Calls OX
structure FnR2 (P:Program) (w:World) (K:PySem.W.Frag) (mg:Str->Option Value) (base:Heap) (F:Nm) (k:Nat) (x:Str) (n:Nat) (dds:List D) (g:List D->M D):Prop where
 ex:∃f fd ps dvs ds,FnOk P w K mg base (L2.CX P w) k f fd ps (DO K F n g)∧mg x=some (.ref f)∧PySem.W.keepIn K (.ref f)=true∧Binds K fd ps ds∧Vals dvs ds∧∀W,Rps K F W dvs dds
structure MethR2 (P:Program) (w:World) (K:PySem.W.Frag) (mg:Str->Option Value) (base:Heap) (F:Nm) (k:Nat) (C:Addr) (x:Str) (n:Nat) (dds:List D) (g:List D->M D):Prop where
 ex:∃f fd ps dvs ds,FnOk P w K mg base (L2.CX P w) k f fd ps (DO K F n g)∧Meth K C x f∧Binds K fd ps ds∧Vals dvs ds∧∀W,Rps K F W dvs dds
structure ExF (w:World) (K:PySem.W.Frag) (mg:Str->Option Value) (F:Nm) (x f:Str) (C:Addr):Prop where
 ex:∃(Bn B newId initId:String) (bmB:List Value) (fI:Addr) (fd:FuncData) (y0:Str),XB Bn B newId initId bmB∧OxC K C bmB newId∧PySem.W.findIn K (.ref C) "__init__"=some (some (.ref fI))∧PySem.W.typeIn K (.ref fI)=some (.type "function")∧
  (∀(P:Program) (base:Heap),FnOk P w K mg base CX0 1 fI fd ["self",y0] (qj C f))∧(∀(P:Program) (base:Heap),L2H.FnH P w K mg base CX0 1 fI fd ["self",y0] (qj C f))∧Binds K fd ["self",y0] []
 mg:mg x=some (.ref C)
 nm:F x=some (.ref C)
end Mir
namespace OX
open PySem PySem.Spec PyProof.Rows L2 HotX
end OX
namespace Mir
open PySem L2 PyProof.Rows Calls OX
end Mir
namespace Mir
open PySem L2 PyProof.Rows Calls OX
abbrev gJ:=Xc->Option D
def rp (K:PySem.W.Frag) (F:Nm) (h:gJ) (o:Option Nat) (a:Addr) (cls:Value) (d:Option Addr):TS:=λN σ H=>∃(x:Xc) (m:Mu) (W:Wd) (dd:D),Ok K F W m H∧XR K F W H x cls d∧(∀i,o=some i->σ[i]? =some (some (.ref a)))∧h x=some dd∧
 ∀W' H',Ext W H W' H'->Ok K F W' m H'->∀v,Rp K F W' v dd->N.rt v H'
structure HdOk (F:Nm) (X:Cx) (o:Option Nat) (suite:List Stmt) (h:gJ):Prop where
 ps:∀(a:Addr) (oe:Obj) (cls:Value) (d:Option Addr) (pn:List (Addr×Obj)),Zc cls d oe->(∃vs,oe.data= .fields vs)->PSs (X.suite a ((a,oe)::pn)) suite (rp X.K F h o a cls d)
inductive HdsX (F:Nm) (X:Cx):List ExceptHandler->List Str->List (Option Nat)->List gJ->Prop
 |nil:HdsX F X [] [] [] []
 |bare {x:Str} {h:gJ} {b₀:Stmt} {suite:List Stmt} {np pos' :Pos} {hds:List ExceptHandler} {ns:List Str} {os:List (Option Nat)} {hs:List gJ} (hg:Gl X x) (hdb:(x==("__debug__" :Str))=false) (hk:HdOk F X none (b₀::suite) h) (r:HdsX F X hds ns os hs):
  HdsX F X (.ExceptHandler (some (.Name x np)) none (b₀::suite) pos' ::hds) (x::ns) (none::os) (h::hs)
 |named {x n:Str} {i:Nat} {h:gJ} {b₀:Stmt} {suite:List Stmt} {np pos' :Pos} {hds:List ExceptHandler} {ns:List Str} {os:List (Option Nat)} {hs:List gJ} (hi:X.N[i]? =some n) (hln:X.env.kindOf n=some .local) (hg:Gl X x) (hdb:(x==("__debug__" :Str))=false)
  (hk:HdOk F X (some i) (b₀::suite) h) (r:HdsX F X hds ns os hs):HdsX F X (.ExceptHandler (some (.Name x np)) (some n) (b₀::suite) pos' ::hds) (x::ns) (some i::os) (h::hs)
structure ClT (K:PySem.W.Frag) (F:Nm) (mg:Str->Option Value) (kn ns:List Str) (bt:Str->List Bool):Prop where
 is:∃cs,pL mg ns cs∧∀y,y∈kn->∀C,F y=some (.ref C)->mQ K C cs (bt y)
structure XfD (K:PySem.W.Frag) (F:Nm) (y f:Str):Prop where
 is:∃C,F y=some (.ref C)∧XfC K C∧PySem.W.findIn K (.ref C) f=some none
end Mir
set_option maxHeartbeats 2000000
namespace Mir
open PySem L2
end Mir
set_option maxHeartbeats 2000000
namespace Mir
open PySem L2
section
variable {F:Nm} {K:PySem.W.Frag} {W:Wd} {X:Cx} {E:XK} {pos:Pos} {o e:Expr} {fo fi:Env->M D}
theorem NI {k:Key}:∀{us:List (Key×V)} {ds:List (Key×D)},us.map (·.1)=ds.map (·.1)->Ee ds k=none->valV us k=none
 |[],[],_,_=>rfl
 |[],_::_,h,_=>by cases h
 |_::_,[],h,_=>by cases h
 |(a,u)::us,(b,d)::ds,h,hd=>by
  rw[AO,AO]at h;obtain⟨h1,h2⟩:=List.cons.inj h;have h1:a=b:=h1;subst h1;by_cases c:a=k
  ·unfold Ee at hd;rw[B5 (by exact AK c)]at hd
   cases hd
  ·rw[valV_neg c];unfold Ee at hd;rw[B7 (by simpa using c)]at hd;exact NI h2 hd
end
end Mir
set_option maxHeartbeats 2000000
namespace Mir
open PySem L2
structure FnR2K (P:Program) (w:World) (K:PySem.W.Frag) (mg:Str->Option Value) (base:Heap) (F:Nm) (k:Nat) (x:Str) (npos:Nat) (ks:List Str) (n:Nat) (g:List D->M D):Prop where
 ex:∃f fd ps,FnOk P w K mg base (L2.CX P w) k f fd ps (DO K F n g)∧mg x=some (.ref f)∧PySem.W.keepIn K (.ref f)=true∧KBn K fd ps npos ks (λus ws=>us++ws) (λvs zs=>vs++zs)
end Mir
set_option maxHeartbeats 2000000
namespace Mir
open PySem L2
end Mir
set_option maxHeartbeats 2000000
namespace Mir
open PySem L2
end Mir
set_option maxHeartbeats 2000000
namespace OX
open PySem PySem.Spec PyProof.Rows L2 HotX
structure BO (K:PySem.W.Frag) (mg:Str->Option Value) (x:Str) (Cb:Addr) (initId:String):Prop where
 mg:mg x=some (.ref Cb)
 ty:PySem.W.typeIn K (.ref Cb)=some (.type "type")
 op:PySem.W.nsIn K cStatics "thirdparty.any"=some none
 fc:PySem.W.findCls K (.ref Cb) (.type "type") "__init__"=some (.val (.builtin initId))
 hnd:PySem.W.handedIn (.builtin initId)=true
section
open PySem.W
variable {prog:Program} {w:World} {A:Around} {E:Value->Shared->Prop} {s:Shared} {h₀:Heap} {L:Addr} {K:PySem.W.Frag} {m:Str->Option Value}
end
end OX
namespace SP
open PySem PySem.Builtin
section
variable {prog:Program} {w:World} {A:Around} {E:Value->Shared->Prop} {s:Shared} {K:PySem.W.Frag} {x C f:Addr} {ox:Obj} {odd:Option Obj}
theorem len_fn {Q:Value->Shared->Prop} (X:K.In s.heap) (I:PySem.W.InstAt s.heap x ox C odd) (hs:PySem.W.findIn K (.ref C) "__len__"=some (some (.ref f))) (hf:PySem.W.isFn K (.ref f)=true)
 (hcall:wpAny (model prog w) A.in1 (call (.ref f) [.ref x]) (λr s'=>∃n u,r= .int n u∧0≤n∧n<2 ^ 63∧Q (.int n s'.toks) {s' with toks:=s'.toks+1}) E s):
 wpAny (model prog w) A (call (.builtin "len") [.ref x]) Q E s:=by
 refine Calls.call_function_entry kind_len plain_len entry_len (args_len1 _) ?_;unfold Builtin.«len»;refine wpAny_bind (m:=oneArg "len" _) (wpAny_pure ?_);refine wpAny_bind (m:=callSpecial? (.ref x) (Str.ofString "__len__")) (PySem.W.special_fn X I hs (Bc.mp hf) (wpAny_mono hcall (λr s' hr=>?_) λ_ _ y=>y));obtain⟨n,u,rfl,h0,h1,hq⟩:=hr;refine wpAny_bind (wpAny_holding (wpAny_pure ?_));refine wpAny_bind (wpAny_letGo ?_);show wpAny _ _ (if n<0 then _ else _) _ _ _;rw[Aq AA];show wpAny _ _ (if n≥2 ^ 63 then _ else _) _ _ _;rw[Aq AA];exact wpAny_bind (wpAny_mkInt (wpAny_pure ⟨_,rfl,hq⟩))
theorem str_fn {Q:Value->Shared->Prop} (X:K.In s.heap) (I:PySem.W.InstAt s.heap x ox C odd) (hs:PySem.W.findIn K (.ref C) "__str__"=some (some (.ref f))) (hf:PySem.W.isFn K (.ref f)=true) (hu:A.units+2<cLine)
 (hcall:wpAny (model prog w) A.in1.in1 (call (.ref f) [.ref x]) (λr s'=>∃m tk,r= .str m tk∧Q (.str m tk) s') E s):
 wpAny (model prog w) A (call (.type "str") [.ref x]) Q E s:=by
 refine callType_codes (T:="str") (Bi:=Builtin.«object.__init__») (Q₁:=λr s₁=>∃m tk,r=Value.str m tk∧Q r s₁) CQ (PySem.F.typeCall_str_1 _) PySem.F.entry_object_init ?_ ?_
 ·refine codeAny_of_tree ?_;show wpAny _ A.in1.in1 (do checkBuiltinCall "str.__new__" ⟨[.type "str",.ref x],[]⟩;again (.builtin "str.__new__" ⟨[.type "str",.ref x],[]⟩)) _ _ s;refine wpAny_bind (wpAny_of_eq (PySem.F.newCall_str_1 _) (wpAny_pure ⟨plainId_quiet AC _,codeAny_builtin PySem.F.entry_str_new ?_⟩));rw[Around.under_plainId AC _];rw[str_new_tree (.ref x)];refine wpAny_bind (wpAny_pure ?_);refine wpAny_bind (wpAny_of_eq PySem.isSubtype_str_str ?_);refine wpAny_bind ?_;unfold Builtin.Str.strOf;refine wpAny_bind (m:=cRoomFor _ _) (wpAny_cRoomFor (by show A.units+1+1<cLine;omega) ?_);refine wpAny_bind (m:=callSpecial? (.ref x) (Str.ofString "__str__")) (PySem.W.special_fn X I hs (Bc.mp hf) (wpAny_mono hcall (λr s' hr=>?_) λ_ _ y=>y));obtain⟨m,tk,rfl,hq⟩:=hr;exact wpAny_pure (wpAny_pure ⟨_,_,rfl,hq⟩)
 ·rintro obj s₁ ⟨m,tk,rfl,hq⟩;exact⟨typeIs_str _ _ _,PySem.F.args_object_init_2 _ _,object_init_meets PySem.F.called_str.init.lookup CQ.made AB prog w A.in1 _ s₁ ⟨typeIs_str _ _ _,rfl,hq⟩⟩
theorem repr_fn {Q:Value->Shared->Prop} (X:K.In s.heap) (I:PySem.W.InstAt s.heap x ox C odd) (hs:PySem.W.findIn K (.ref C) "__repr__"=some (some (.ref f))) (hf:PySem.W.isFn K (.ref f)=true) (hu:A.in1.units<cLine)
 (hcall:wpAny (model prog w) A.in1 (call (.ref f) [.ref x]) (λr s'=>∃m tk,r= .str m tk∧Q (.str m tk) s') E s):
 wpAny (model prog w) A (call (.builtin "repr") [.ref x]) Q E s:=by
 refine Calls.call_function_entry F.kind_repr F.plain_repr F.entry_repr (F.args_repr1 _) ?_;unfold Builtin.«repr»;refine wpAny_bind (m:=oneArg "repr" _) (wpAny_pure ?_);refine wpAny_bind (wpAny_cRoomFor hu ?_);refine wpAny_bind (m:=specialOf (.ref x) (Str.ofString "__repr__")) ?_;unfold specialOf;refine wpAny_bind (I.type.here ((PySem.W.looks_findIn X hs).here ?_));show wpAny _ _ (if(some (Value.ref f)).isNone=true then _ else _) _ _ _;rw[Aq AD];refine wpAny_bind (m:=callSpecialIfBound? (.ref x) (Str.ofString "__repr__") _) (PySem.W.ifBound_K X I hs hf (wpAny_mono hcall (λr s' hr=>?_) λ_ _ y=>y));obtain⟨m,tk,rfl,hq⟩:=hr;refine wpAny_bind (wpAny_isInstance (typeIs_str _ _ _) isSubtype_str_str ?_)
 first
  |exact wpAny_pure ⟨_,rfl,hq⟩
  |(rw[An rfl];exact wpAny_pure ⟨_,rfl,hq⟩)
  |(simp only[if_true];exact wpAny_pure ⟨_,rfl,hq⟩)
theorem Z7 {b:Value} {Q:Fin->Shared->Prop} (hu:A.units<cLine) (X:K.In s.heap) (I:PySem.W.InstAt s.heap x ox C odd)
 (hs:PySem.W.findIn K (.ref C) "__eq__"=some (some (.ref f))) (hf:PySem.W.isFn K (.ref f)=true)
 (h:wpAny (model prog w) A (call (.ref f) [.ref x,b]) (λv s'=>∃t,v= .bool t∧Q (.done (.ret (.bool (!t)))) s') E s):wpAny (model prog w) A (Builtin.«object.__ne__» ⟨[.ref x,b],[]⟩) Q E s:=by
 unfold Builtin.«object.__ne__»
 repeat (first
  |with_reducible refine wpAny_cRoomFor hu ?_
  |(refine wpAny_bind (m:=callSpecialIfBound? (.ref x) (Str.ofString "__eq__") [b]) (PySem.W.ifBound_K X I hs hf (wpAny_mono h (λr s' hr=>by(obtain⟨t,rfl,hq⟩:=hr;repeat (first|exact hq|exact wpAny_pure hq|exact wpAny_truthy_bool hq|(refine wpAny_bind (m:=truthy (.bool _)) (wpAny_truthy_bool ?_))|wp_step))) λ_ _ e=>e)))
  |wp_step)
theorem U7 {M:Model} {name:Str} {id:String} {args:List Value} {Q:Option Value->Shared->Prop} (S:Slot "object" name id) (X:K.In s.heap) (I:PySem.W.InstAt s.heap x ox C odd) (hs:PySem.W.findIn K (.ref C) name=some (some (.builtin id)))
 (h:wpAny M A (call (.builtin id) (.ref x::args)) (λv=>Q (some v)) E s):wpAny M A (callSpecialIfBound? (.ref x) name args) Q E s:=by
 simp only[callSpecialIfBound?,bindSpecialIfBound?];refine wpAny_holding (wpAny_bind (wpAny_bind (wpAny_bind (I.type.here ((PySem.W.looks_findIn X hs).here ?_)))));simp only[S.bind];refine wpAny_bind (wpAny_askSetting (wpAny_ite ?_));have fin:wpAny M A (call (.builtin id) ([.ref x]++args)>>=λv=>pure (some v)) Q E s:=wpAny_bind (wpAny_mono h (λv s' h'=>wpAny_pure h') λ_ _ h'=>h');split
 ·exact wpAny_bind (wpAny_pure (wpAny_pure fin))
 ·exact wpAny_tryCatch (wpAny_bind (wpAny_pure (wpAny_pure fin)))
theorem ne_fn {b:Value} {Q:Value->Shared->Prop} (hu:A.units+1<cLine) (X:K.In s.heap) (I:PySem.W.InstAt s.heap x ox C odd) (hb:PySem.W.Looks (model prog w) s.heap (typeOf b) (.ref C))
 (hn:PySem.W.findIn K (.ref C) "__ne__"=some (some (.builtin "object.__ne__"))) (hs:PySem.W.findIn K (.ref C) "__eq__"=some (some (.ref f))) (hf:PySem.W.isFn K (.ref f)=true) (hm:PySem.W.mroIn K C (.type "object")=some true)
 (h:wpAny (model prog w) A.in1 (call (.ref f) [.ref x,b]) (λv s'=>∃t,v= .bool t∧Q (.bool (!t)) s') E s):wpAny (model prog w) A (richCompare .NotEq (.ref x) b) Q E s:=by
 have one:wpAny (model prog w) A (tryCompare (.ref x) "__ne__" b) (λr s'=>∃v,r=some v∧Q v s') E s:=by
  unfold tryCompare;refine wpAny_bind (U7 F.cmp_object.ne X I hn (wpAny_call (codeAny_call_builtin F.cmp_object.ne.plain F.cmpEntry_ne
   (PySem.W.check_slot F.cmpKind_ne F.cmpSplit_ne (I.type.andThen (PySem.W.looks_mroIn X hm)) (F.cmpArgs_ne _ _) (Z7 (A:=A.in1) hu X I hs hf (wpAny_mono h (λv s' hv=>?_) λ_ _ e=>e))))))
  obtain⟨t,rfl,hq⟩:=hv
  first|exact⟨_,rfl,wpAny_pure ⟨_,rfl,hq⟩⟩|exact wpAny_pure ⟨_,rfl,hq⟩
 unfold richCompare;simp only[oneThing_ref];refine wpAny_holding (wpAny_bind (wpAny_cRoomFor AA ?_));rw[cmpInfo_NotEq];dsimp only;refine wpAny_bind (I.type.here (wpAny_bind (hb.here ?_)));rw[show(Value.ref C !=Value.ref C)=false from by simp];simp only[BI,CZ];refine wpAny_bind (wpAny_pure ?_);simp only[BI,CZ];refine wpAny_bind (wpAny_mono one (λr s' z=>?_) λ_ _ e=>e);obtain⟨v,rfl,hq⟩:=z;exact wpAny_pure hq
end
end SP
namespace L2
open PySem PySem.Spec PyProof.Rows
section
variable {X:Cx} {CX:CXT} {C g:Addr} {n:Nat} {sp:Sp} {E:XK}
def Z8 (C:Addr) (sp:Sp) (E:XK) (P:V->Prop):List V->Hp->VK->Prop:=λxs H Q=>∃a dx us,xs=[V.ref a]∧H a=some (.ins C dx us)∧sp [.ref a] H (λz H'=>P z∧Q z H') E
theorem U8 (hs:PySem.W.findIn X.K (.ref C) "__len__"=some (some (.ref g))) (hf:PySem.W.isFn X.K (.ref g)=true) (F:L2.FnR X.prog X.w X.K X.mg X.base CX n g sp) (hr:Room (n+1) X.A) (hx:Passes CX X E):
 CallR X (.builtin "len") (Z8 C sp E λz=>∃i,z= .int i∧0≤i∧i<2 ^ 63):=by
 intro pins s σ H xs us Q I r h;obtain⟨a,dx,vs,rfl,hsl,q⟩:=h;obtain⟨u,rfl,ru⟩:=r.one
 cases (show u=Value.ref a from ru)
 obtain⟨mA,J,_⟩:=ins_get I.hok hsl;obtain⟨od,J,_⟩:=J.look;refine SP.len_fn I.kIn J hs hf (wpAny_mono (wpAny_call (Ca (us:=[.ref a]) (ws:=[.ref a]) F hr.in1 I.env0.in1 hx I (.cons rfl .nil) q)) (λw s' z=>?_) λ_ _ x=>x);obtain⟨z',H',I',rz,⟨i,ei,h0,h1⟩,qz⟩:=z;subst ei;obtain⟨t,e⟩:=(show ∃t,w=Value.int i t from rz)
 cases e
 exact⟨i,t,rfl,h0,h1,.int i,H',I'.tok _,⟨_,rfl⟩,qz⟩
theorem U9 (hs:PySem.W.findIn X.K (.ref C) "__str__"=some (some (.ref g))) (hf:PySem.W.isFn X.K (.ref g)=true) (F:L2.FnR X.prog X.w X.K X.mg X.base CX n g sp) (hr:Room (n+2) X.A) (hu:X.A.units+2<cLine) (hx:Passes CX X E):
 CallR X (.type "str") (Z8 C sp E λz=>∃i,z= .str i):=by
 intro pins s σ H xs us Q I r h;obtain⟨a,dx,vs,rfl,hsl,q⟩:=h;obtain⟨u,rfl,ru⟩:=r.one
 cases (show u=Value.ref a from ru)
 obtain⟨mA,J,_⟩:=ins_get I.hok hsl;obtain⟨od,J,_⟩:=J.look;have hr2:Room n X.A.in1.in1:=(show Room (n+1) X.A.in1 from Room.in1 hr).in1;refine SP.str_fn I.kIn J hs hf hu (wpAny_mono (wpAny_call (Ca (us:=[.ref a]) (ws:=[.ref a]) F hr2 I.env0.in1.in1 hx I (.cons rfl .nil) q)) (λw s' z=>?_) λ_ _ x=>x);obtain⟨z',H',I',rz,⟨i,ei⟩,qz⟩:=z;subst ei;obtain⟨t,e⟩:=(show ∃t,w=Value.str i t from rz)
 cases e
 exact⟨i,t,rfl,.str i,H',I',⟨t,rfl⟩,qz⟩
theorem RW (hs:PySem.W.findIn X.K (.ref C) "__repr__"=some (some (.ref g))) (hf:PySem.W.isFn X.K (.ref g)=true) (F:L2.FnR X.prog X.w X.K X.mg X.base CX n g sp) (hr:Room (n+1) X.A) (hu:X.A.units+2<cLine) (hx:Passes CX X E):
 CallR X (.builtin "repr") (Z8 C sp E λz=>∃i,z= .str i):=by
 intro pins s σ H xs us Q I r h;obtain⟨a,dx,vs,rfl,hsl,q⟩:=h;obtain⟨u,rfl,ru⟩:=r.one
 cases (show u=Value.ref a from ru)
 obtain⟨mA,J,_⟩:=ins_get I.hok hsl;obtain⟨od,J,_⟩:=J.look;refine SP.repr_fn I.kIn J hs hf (by show X.A.units+1<cLine;omega) (wpAny_mono (wpAny_call (Ca (us:=[.ref a]) (ws:=[.ref a]) F hr.in1 I.env0.in1 hx I (.cons rfl .nil) q)) (λw s' z=>?_) λ_ _ x=>x);obtain⟨z',H',I',rz,⟨i,ei⟩,qz⟩:=z;subst ei;obtain⟨t,e⟩:=(show ∃t,w=Value.str i t from rz)
 cases e
 exact⟨i,t,rfl,.str i,H',I',⟨t,rfl⟩,qz⟩
def gK (C:Addr) (sp:Sp) (E:XK) (neg:Bool):R2:=λx y H Q=>∃a dx us b dy vs,x= .ref a∧y= .ref b∧H a=some (.ins C dx us)∧H b=some (.ins C dy vs)∧sp [.ref a,.ref b] H (λz H'=>∃t,z= .bl t∧Q (.bl (if neg=true then !t else t)) H') E
theorem gL (hs:PySem.W.findIn X.K (.ref C) "__eq__"=some (some (.ref g))) (hf:PySem.W.isFn X.K (.ref g)=true) (F:L2.FnR X.prog X.w X.K X.mg X.base CX n g sp) (hr:Room n X.A) (hx:Passes CX X E):OpR X (compareOp .Eq) (gK C sp E false):=by
 intro pins s σ H x y v u Q I rx ry h;obtain⟨a,dx,us,b,dy,vs,rfl,rfl,ha,hb,q⟩:=h
 cases (show v=Value.ref a from rx)
 cases (show u=Value.ref b from ry)
 obtain⟨mA,J,_⟩:=ins_get I.hok ha;obtain⟨mB,J',_⟩:=ins_get I.hok hb;obtain⟨od,J,_⟩:=J.look;obtain⟨od',J',_⟩:=J'.look;obtain⟨m,hF⟩:=I.fr;show wpAny (model X.prog X.w) X.A (richCompare .Eq (.ref a) (.ref b)) (EP X pins σ Q) X.xe s;refine PySem.W.cmp_K (op:= .Eq) (tb:= .ref C) hr.units0 hF I.ok.mod.kin J J'.type (by simp[PySem.W.notFirst]) hs hf ?_;refine wpAny_mono (wpAny_call (Ca (us:=[.ref a,.ref b]) (ws:=[.ref a,.ref b]) F hr I.env0 hx I (.cons rfl (.cons rfl .nil)) q)) (λw s' z=>?_) λ_ _ x=>x;obtain⟨z',H',I',rz,t,et,qz⟩:=z;subst et
 cases (show w=Value.bool t from rz)
 exact⟨.bl t,H',I',rfl,qz⟩
theorem gM (hn:PySem.W.findIn X.K (.ref C) "__ne__"=some (some (.builtin "object.__ne__"))) (hm:PySem.W.mroIn X.K C (.type "object")=some true) (hs:PySem.W.findIn X.K (.ref C) "__eq__"=some (some (.ref g))) (hf:PySem.W.isFn X.K (.ref g)=true)
 (F:L2.FnR X.prog X.w X.K X.mg X.base CX n g sp) (hr:Room (n+1) X.A) (hu:X.A.units+2<cLine) (hx:Passes CX X E):OpR X (compareOp .NotEq) (gK C sp E true):=by
 intro pins s σ H x y v u Q I rx ry h;obtain⟨a,dx,us,b,dy,vs,rfl,rfl,ha,hb,q⟩:=h
 cases (show v=Value.ref a from rx)
 cases (show u=Value.ref b from ry)
 obtain⟨mA,J,_⟩:=ins_get I.hok ha;obtain⟨mB,J',_⟩:=ins_get I.hok hb;obtain⟨od,J,_⟩:=J.look;obtain⟨od',J',_⟩:=J'.look;show wpAny (model X.prog X.w) X.A (richCompare .NotEq (.ref a) (.ref b)) (EP X pins σ Q) X.xe s;refine SP.ne_fn AA I.kIn J J'.type hn hs hf hm ?_;refine wpAny_mono (wpAny_call (Ca (us:=[.ref a,.ref b]) (ws:=[.ref a,.ref b]) F hr.in1 I.env0.in1 hx I (.cons rfl (.cons rfl .nil)) q)) (λw s' z=>?_) λ_ _ x=>x;obtain⟨z',H',I',rz,t,et,qz⟩:=z;subst et
 cases (show w=Value.bool t from rz)
 exact⟨t,rfl,.bl (!t),H',I',rfl,qz⟩
inductive HitsV (K:PySem.W.Frag) (H:Hp) (ls:List (Key×V)):List (Key×V)->Bool->Prop
 |nil:HitsV K H ls [] true
 |miss {k:Key} {v:V} {r:List (Key×V)}:valV ls k=none->HitsV K H ls ((k,v)::r) false
 |hit {k:Key} {v y:V} {p q:PyData} {r:List (Key×V)} {b:Bool}:valV ls k=some y->Dp K H v p->Dp K H y q->SeqAt.shaped p=true->SeqAt.shaped q=true->HitsV K H ls r b->HitsV K H ls ((k,v)::r) (PyData.eqv p q && b)
def cX (K:PySem.W.Frag):R2:=λx y H Q=>∃a b ks ls r,x= .ref a∧y= .ref b∧Rd H a (.dK ks)∧Rd H b (.dK ls)∧HitsV K H ls ks r∧Q (.bl (ks.length==ls.length && r)) H
theorem Xe {pins:List (Addr×Obj)} {s:Shared} {σ:St} {H:Hp} {A:Around} (I:Inv X pins σ H s) (hu:A.units+64<cLine) {ls:List (Key×V)} {vb:List (Key×Value)} (rb:KV ls vb) {ks:List (Key×V)} {r:Bool} (h:HitsV X.K H ls ks r):
 ∀{va:List (Key×Value)},KV ks va->PySem.W.KeqHitsP X.prog X.w A s vb va r:=by
 induction h with
 |nil=>
  intro va ra
  cases ra
  exact .nil
 |@miss k v r e=>
  intro va ra
  cases ra with
  |@cons _ q _ qs h t=>
   obtain⟨h1,h2⟩:=h;obtain⟨key,w⟩:=q
   cases (show k=key from h1)
   refine .miss ?_;have rr:=rb.val k;rw[e]at rr
   cases z:valueAt vb k with
   |none=>rfl
   |some y=>rw[z]at rr;exact rr.elim
 |@hit k v y p q r b e d1 d2 s1 s2 _ ih=>
  intro va ra
  cases ra with
  |@cons _ qq _ qs h t=>
   obtain⟨h1,h2⟩:=h;obtain⟨key,w⟩:=qq
   cases (show k=key from h1)
   have rr:RelO (some y) (valueAt vb k):=by rw[←e];exact rb.val k
   obtain⟨y',hy,ry⟩:=rr.some_of;obtain⟨as,q1⟩:=Dp.reads I p v w d1 h2;obtain⟨bs,q2⟩:=Dp.reads I q y y' d2 ry;exact .hit hy (SeqAt.eqAt_reads p q A s w y' as bs q1 q2 (SeqAt.canLay_of_shaped s1) (SeqAt.canLay_of_shaped s2) (SeqAt.room_of_shaped s1 hu)).eqP (ih t)
theorem Z9 (hu:X.A.units+66<cLine):OpR X (compareOp .Eq) (cX X.K):=by
 intro pins s σ H x y v u Q I rx ry h;obtain⟨a,b,ks,ls,r,rfl,rfl,ha,hb,hh,q⟩:=h
 cases (show v=Value.ref a from rx)
 cases (show u=Value.ref b from ry)
 obtain⟨_,ya,va,ra,da⟩:=dk_rd I.hok ha;obtain⟨_,yb,vb,rb,db⟩:=dk_rd I.hok hb;show wpAny (model X.prog X.w) X.A (richCompare .Eq (.ref a) (.ref b)) (EP X pins σ Q) X.xe s;refine PySem.W.rcP_dicts (knd:=mixKind X.prog X.w) (r:=r) ya yb da db AA (λ_=>Xe I (by show X.A.units+1+64<cLine;omega) rb hh ra) _ _ ?_;rw[←ra.length,←rb.length];exact⟨.bl _,H,I,rfl,q⟩
end
end L2
namespace Mir
open PySem L2
section
variable {F:Nm} {K:PySem.W.Frag} {W:Wd} {X:Cx} {E:XK} {pos p apos:Pos} {a e o:Expr} {fa fo fi:Env->M D} {cls:Str} {C:Addr} {j k n:Nat} {gg:List D->M D}
def D.spL:D->M D
 | .int i=>M.guard (decide (0≤i∧i<2 ^ 63))>>=λ_=>pure (.int i)
 |_=>M.bad
def D.spS:D->M D
 | .str x=>pure (.str x)
 |_=>M.bad
def D.spB (neg:Bool):D->M D
 | .bl b=>pure (.bl (if neg=true then !b else b))
 |_=>M.bad
def D.spec (cls x:Str) (gg:List D->M D) (g:D->M D):D->M D:=λh=>D.ref h>>=λk=>M.meth cls k x>>=λ_=>gg [D.hnd k]>>=g
def D.spec2 (cls x:Str) (gg:List D->M D) (neg:Bool):D->D->M D:=λh h'=>D.ref h>>=λk=>M.meth cls k x>>=λ_=>D.ref h'>>=λk'=>M.meth cls k' x>>=λ_=>gg [D.hnd k,D.hnd k']>>=D.spB neg
def D.lenO (cls:Str) (gg:List D->M D):D->M D:=D.spec cls "__len__" gg D.spL
def D.strO (cls:Str) (gg:List D->M D):D->M D:=D.spec cls "__str__" gg D.spS
def D.reprO (cls:Str) (gg:List D->M D):D->M D:=D.spec cls "__repr__" gg D.spS
def D.eqO (cls:Str) (gg:List D->M D):D->D->M D:=D.spec2 cls "__eq__" gg false
def D.neO (cls:Str) (gg:List D->M D):D->D->M D:=D.spec2 cls "__eq__" gg true
theorem P8 {P:Program} {w:World} {mg:Str->Option Value} {base:Heap} {x:Str} {n:Nat} (mt:MethD P w K mg base F k C x n [] gg):∃f,L2.FnR P w K mg base CX0 k f (DO K F n gg)∧PySem.W.findIn K (.ref C) x=some (some (.ref f))∧PySem.W.isFn K (.ref f)=true:=by
 obtain⟨f,fd,ps,dvs,ds,h1,h2,h3,h4,h5⟩:=mt;have h6:=h5 ⟨[],λ_=>none⟩
 cases h6
 cases h4
 exact⟨f,by simpa using h1.raw h3 .nil,h2.at_,h2.fn⟩
theorem OM {x:Str} {g:D->M D} {P:V->Prop} (c:ClsD K F cls C) (hg:∀d m W H (Q:VK) v,Rp K F W v d->Ok K F W m H->DP K F ((g d).run m) W H Q DQ->P v∧Q v H):
 MT K F DQ (Z8 C (DO K F 1 gg) DQ P) (d1 (D.spec cls x gg g)):=SV λv d m W H Q rx k h=>by
 unfold D.spec at h
 cases rx with
 |@hnd p i hp=>
  obtain⟨us,dx,g1,g2,g3⟩:=JC (g:=λ_=>gg [D.hnd i]>>=g) c k hp h;refine⟨p,dx,us,rfl,g1,rfl,W,m,_,.cons (.hnd hp) .nil,k,(PoR.bind g3).imp λW1 H1 m1 d1 e1 x1 k1 h1 v r1=>hg d1 m1 W1 H1 Q v r1 k1 h1⟩
 |_=>exact h.elim
theorem gN (d:D) (m:Mu) (W:Wd) (H:Hp) (Q:VK) (v:V) (r:Rp K F W v d) (k:Ok K F W m H) (h:DP K F ((D.spL d).run m) W H Q DQ):(∃i,v= .int i∧0≤i∧i<2 ^ 63)∧Q v H:=by
 cases d with
 |int i=>
  cases r
  obtain⟨g,h⟩:=gd (A:=D) h;obtain⟨g1,g2⟩:=AN g;exact⟨⟨i,rfl,g1,g2⟩,PoR.pure k h _ (.int i)⟩
 |_=>exact h.elim
theorem Xf (d:D) (m:Mu) (W:Wd) (H:Hp) (Q:VK) (v:V) (r:Rp K F W v d) (k:Ok K F W m H) (h:DP K F ((D.spS d).run m) W H Q DQ):(∃i,v= .str i)∧Q v H:=by
 cases d with
 |str i=>
  cases r
  exact⟨⟨i,rfl⟩,PoR.pure k h _ (.str i)⟩
 |_=>exact h.elim
theorem Xg (c:ClsD X.K F cls C) (mt:MethD X.prog X.w X.K X.mg X.base F k C "__len__" 1 [] gg) (hr:Room j X.A) (hk:k+1≤j:=by decide):Bif F X DQ "len" (d1 (D.lenO cls gg)):=by
 obtain⟨f,h1,h2,h3⟩:=P8 mt;exact⟨_,.inl ⟨_,U8 h2 h3 h1 (hr.mono hk) pass0,Ce⟩,OM c gN⟩
theorem RX (c:ClsD X.K F cls C) (mt:MethD X.prog X.w X.K X.mg X.base F k C "__str__" 1 [] gg) (hr:Room j X.A) (hu:X.A.units+2<cLine) (hk:k+2≤j:=by decide):Bif F X DQ "str" (d1 (D.strO cls gg)):=by
 obtain⟨f,h1,h2,h3⟩:=P8 mt;exact⟨_,.inr ⟨_,U9 h2 h3 h1 (hr.mono hk) hu pass0,AC⟩,OM c Xf⟩
theorem Tg (c:ClsD X.K F cls C) (mt:MethD X.prog X.w X.K X.mg X.base F k C "__repr__" 1 [] gg) (hr:Room j X.A) (hu:X.A.units+2<cLine) (hk:k+1≤j:=by decide):Bif F X DQ "repr" (d1 (D.reprO cls gg)):=by
 obtain⟨f,h1,h2,h3⟩:=P8 mt;exact⟨_,.inl ⟨_,RW h2 h3 h1 (hr.mono hk) hu pass0,AC⟩,OM c Xf⟩
theorem NJ {neg:Bool} {x:Str} (c:ClsD K F cls C):Jb K F DQ (gK C (DO K F 2 gg) DQ neg) (D.spec2 cls x gg neg):=λx0 y d e m W H Q rx ry k h=>by
 unfold D.spec2 at h
 cases rx with
 |@hnd p i hp=>
  obtain⟨us,dx,g1,g2,g3⟩:=JC (g:=λ_=>D.ref e>>=λk'=>M.meth cls k' x>>=λ_=>gg [D.hnd i,D.hnd k']>>=D.spB neg) c k hp h
  cases ry with
  |@hnd p' i' hp'=>
   obtain⟨us',dx',g1',g2',g3'⟩:=JC (g:=λ_=>gg [D.hnd i,D.hnd i']>>=D.spB neg) c k hp' g3;refine⟨p,dx,us,p',dx',us',rfl,rfl,g1,g1',rfl,W,m,_,.cons (.hnd hp) (.cons (.hnd hp') .nil),k,(PoR.bind g3').imp λW1 H1 m1 d1 e1 x1 k1 h1 v r1=>?_⟩
   cases r1 with
   |bl b=>exact⟨b,rfl,PoR.pure k1 h1 _ (.bl _)⟩
   |_=>exact h1.elim
  |_=>exact g3.elim
 |_=>exact h.elim
theorem cY (c:ClsD X.K F cls C) (mt:MethD X.prog X.w X.K X.mg X.base F k C "__eq__" 2 [] gg) (hr:Room j X.A) (hk:k≤j:=by decide):Cop F X DQ .Eq (D.eqO cls gg):=by
 obtain⟨f,h1,h2,h3⟩:=P8 mt;exact⟨_,gL h2 h3 h1 (hr.mono hk) pass0,NJ c⟩
structure OwnD (K:PySem.W.Frag) (C:Addr):Prop where
 ic:C8.InsC K C
 ne:PySem.W.findIn K (.ref C) "__ne__"=some (some (.builtin "object.__ne__"))
theorem cZ (c:ClsD X.K F cls C) (oc:OwnD X.K C) (mt:MethD X.prog X.w X.K X.mg X.base F k C "__eq__" 2 [] gg) (hr:Room j X.A) (hu:X.A.units+2<cLine) (hk:k+1≤j:=by decide):Cop F X DQ .NotEq (D.neO cls gg):=by
 obtain⟨f,h1,h2,h3⟩:=P8 mt;exact⟨_,gM oc.ne oc.ic.hm h2 h3 h1 (hr.mono hk) hu pass0,NJ c⟩
def M.isO (cls:Str) (k:Nat):M D:=⟨λm=>match m[k]? with
 |some (.ins c fs)=>if c=cls then .ok (.bl true) m else .bad
 |_=> .bad⟩
def aA (cls:Str) (fa:Env->M D):Env->M D:=fun ρ=>fa ρ>>=D.ref>>=λk=>M.isO cls k
theorem mW {x:Str} {p1 q:Pos} (c:ClsD X.K F cls C) (oc:OwnD X.K C) (hC:X.mg x=some (.ref C)) (ha:PD F X E a fa) (hm:X.mg "isinstance"=none) (hg:Gl X "isinstance" :=by rfl) (hg' :Gl X x:=by rfl) (hdb:(x==("__debug__" :Str))=false:=by decide)
 (he:starEach (a::[.Name x q]) X.env=(false,eval a X.env)::starEach [.Name x q] X.env:=by rfl) (he2:starEach (.Name x q::[]) X.env=(false,eval (.Name x q) X.env)::starEach [] X.env:=by rfl)
 (hpl:(backTo pos (starEach [.Name x q] X.env)).any (·.1)=false:=by rfl):
 PD F X E (.Call (.Name "isinstance" p1) [a,.Name x q] [] pos) (aA cls fa):=by
 obtain⟨t,pt,qt⟩:=ha;have pc:PE X (.Name x q) (tC (.ref C)):=pe_glob hg' hC rfl hdb;refine⟨_,pe_callB (C8.call_isC oc.ic) hg hm AC (pa_cons pt (pa_cons pc pa_nil he2) he) AB AB he hpl,fun ρ m W σ H s k Q h=>?_⟩;refine qt ρ m W σ H s k _ ((PoR.bind (show DP X.K F ((fa ρ>>=λd=>D.ref d>>=λk=>M.isO cls k).run m) W H Q E by unfold aA at h;rw[D5]at h;exact h)).imp λW1 H1 m1 d e1 x1 k1 h1 u r1=>?_)
 cases r1 with
 |@hnd p i hp=>
  have h1:DP X.K F ((M.isO cls i).run m1) W1 H1 Q E:=h1
  cases e4:m1[i]? with
  |none=>simp only[M.isO,e4]at h1;exact h1.elim
  |some o=>
   cases o with
   |ins c' fs=>
    simp only[M.isO,e4]at h1;by_cases ec:c'=cls
    ·subst ec;rw[An rfl]at h1;obtain⟨us,dx,g1,g2,g3⟩:=OG c k1 hp e4;exact⟨p,dx,us,rfl,g1,PoR.ok k1 h1 _ (.bl true)⟩
    ·rw[Aq ec]at h1;exact h1.elim
   |_=>simp only[M.isO,e4]at h1;exact h1.elim
 |_=>exact h1.elim
def M.kvs (k:Nat):M (List (Key×D)):=⟨λm=>match m[k]? with
 |some (.dic ds)=> .ok ds m
 |some (.fdc ds)=> .ok ds m
 |_=> .bad⟩
def MY (es:List (Key×D)):List (Key×D)->Option Bool
 |[]=>some true
 |(k,d)::r=>match Ee es k with
  |none=>some false
  |some e=>match D.eqo d e,MY es r with
   |some b,some c=>some (b && c)
   |_,_=>none
def D.eqDct:D->D->M D:=λx y=>D.ref x>>=λk=>M.kvs k>>=λds=>D.ref y>>=λk'=>M.kvs k'>>=λes=>M.opt (MY es ds)>>=λb=>pure (.bl (ds.length==es.length && b))
theorem ON {A:Type} {m:Mu} {H:Hp} {i:Nat} {pp:Addr} {g:List (Key×D)->M A} {Q:Wd->Hp->Mu->A->Prop} (k:Ok K F W m H) (hp:W.al[i]? =some pp) (h:PoR K F ((M.kvs i>>=g).run m) W H Q E):
 ∃us ds,Rd H pp (.dK us)∧us.map (·.1)=ds.map (·.1)∧Rps K F W (us.map (·.2)) (ds.map (·.2))∧PoR K F ((g ds).run m) W H Q E:=by
 rw[Do]at h
 cases e:m[i]? with
 |none=>simp only[M.kvs,e]at h;exact h.elim
 |some q=>
  cases q with
  |dic es=>
   simp only[M.kvs,e]at h;obtain⟨ws,hW,hkw,rw'⟩:=k.ob i pp _ hp e;exact⟨ws,es,.inl hW,hkw,rw',h⟩
  |fdc es=>
   simp only[M.kvs,e]at h;obtain⟨ws,ob,hW,_,hkw,rw'⟩:=k.ob i pp _ hp e;exact⟨ws,es,.inr ⟨ob,hW⟩,hkw,rw',h⟩
  |_=>simp only[M.kvs,e]at h;exact h.elim
theorem Th {m:Mu} {H:Hp} (ok:Ok K F W m H) {ls:List (Key×V)} {es:List (Key×D)} (h1:ls.map (·.1)=es.map (·.1)) (h2:Rps K F W (ls.map (·.2)) (es.map (·.2))):
 ∀{ks:List (Key×V)} {ds:List (Key×D)} {b:Bool},ks.map (·.1)=ds.map (·.1)->Rps K F W (ks.map (·.2)) (ds.map (·.2))->MY es ds=some b->HitsV K H ls ks b
 |[],[],_,_,_,h=>by cases h;exact .nil
 |[],_::_,_,h,_,_=>by cases h
 |_::_,[],_,h,_,_=>by cases h
 |(a,u)::ks,(c,d)::ds,b,h,.cons r rs,hb=>by
  rw[AO,AO]at h;obtain⟨q1,q2⟩:=List.cons.inj h;have q1:a=c:=q1;subst q1;unfold MY at hb
  cases g:Ee es a with
  |none=>
   rw[g]at hb
   cases hb
   exact .miss (NI h1 g)
  |some e=>
   rw[g]at hb;dsimp only at hb;obtain⟨v,g1,g2⟩:=I9 h1 h2 g
   cases z:D.eqo d e with
   |none=>rw[z]at hb;cases hb
   |some t=>
    cases y:MY es ds with
    |none=>rw[z,y]at hb;cases hb
    |some s=>
     rw[z,y]at hb
     cases hb
     unfold D.eqo at z
     cases e1:d.py with
     |none=>rw[e1]at z;cases z
     |some p=>
      cases e2:e.py with
      |none=>rw[e1,e2]at z;cases z
      |some q=>
       rw[e1,e2]at z;by_cases cc:SeqAt.shaped p=true∧SeqAt.shaped q=true
       ·simp only[An cc]at z
        cases z
        exact .hit g1 (Et ok d u p r e1) (Et ok e v q g2 e2) cc.1 cc.2 (Th ok h1 h2 q2 rs y)
       ·simp only[Aq cc]at z
        cases z
theorem VA:Jb K F E (cX K) D.eqDct:=λx y d e m W H Q rx ry k h=>by
 unfold D.eqDct at h
 cases rx with
 |@hnd p i hp=>
  obtain⟨us,ds,a1,a2,a3,h⟩:=ON k hp (g:=λds=>D.ref e>>=λk'=>M.kvs k'>>=λes=>M.opt (MY es ds)>>=λb=>(pure (.bl (ds.length==es.length && b)):M D)) h
  cases ry with
  |@hnd p' i' hp'=>
   obtain⟨us',es,b1,b2,b3,h⟩:=ON k hp' (g:=λes=>M.opt (MY es ds)>>=λb=>(pure (.bl (ds.length==es.length && b)):M D)) h;rw[Do]at h
   cases q:MY es ds with
   |none=>rw[q]at h;exact h.elim
   |some b=>
    rw[q]at h;have l1:us.length=ds.length:=by have:=A9 List.length a2;rwa [AJ,AJ]at this
    have l2:us'.length=es.length:=by have:=A9 List.length b2;rwa [AJ,AJ]at this
    refine⟨p,p',us,us',b,rfl,rfl,a1,b1,Th k b2 b3 a2 a3 q,?_⟩;rw[l1,l2];exact PoR.ok k h _ (.bl _)
  |_=>exact h.elim
 |_=>exact h.elim
theorem aB (hu:X.A.units+66<cLine):Cop F X E .Eq D.eqDct:=⟨_,Z9 hu,VA⟩
def D.lenDct:D->M D:=λx=>D.ref x>>=λk=>M.kvs k>>=λds=>pure (.int ds.length)
def cg:List (Key×D)->Option (List Str)
 |[]=>some []
 |(.inr x,_)::r=>(cg r).map (x::·)
 |_=>none
theorem RY:CallR X (.builtin "len") (λxs H Q=>∃a kvs,xs=[V.ref a]∧Rd H a (.dK kvs)∧Q (.int kvs.length) H):=by
 intro pins s σ H xs us Q I r h;obtain⟨a,kvs,rfl,ha,q⟩:=h;obtain⟨u,rfl,ru⟩:=r.one
 cases (show u=Value.ref a from ru)
 exact d_len I ha λt s' I'=>⟨.int kvs.length,H,I',⟨t,rfl⟩,q⟩
theorem P9:Bif F X E "len" (d1 D.lenDct):=⟨_,.inl ⟨_,RY,Ce⟩,SV λv d m W H Q rx k h=>by
 unfold D.lenDct at h
 cases rx with
 |@hnd p i hp=>
  obtain⟨us,ds,a1,a2,a3,h⟩:=ON k hp (g:=λds=>(pure (.int ds.length):M D)) h;have l1:us.length=ds.length:=by have:=A9 List.length a2;rwa [AJ,AJ]at this
  refine⟨p,us,rfl,a1,?_⟩;rw[l1];exact PoR.pure k h _ (.int _)
 |_=>exact h.elim⟩
theorem Ti:∀{us:List (Key×V)} {ds:List (Key×D)} {xs:List Str},us.map (·.1)=ds.map (·.1)->cg ds=some xs->us.map (·.1)=xs.map Sum.inr
 |us,[],_,h,e=>by cases e;rw[h];rfl
 |us,(.inr x,d)::ds,xs,h,e=>by
  obtain⟨ys,h1,rfl⟩:=Az.mp (show(cg ds).map (x::·)=some xs from e)
  cases us with
  |nil=>cases h
  |cons u us=>
   rw[AO,AO]at h;obtain⟨q1,q2⟩:=List.cons.inj h;rw[AO,q1,Ti q2 h1];rfl
 |us,(.inl x,d)::ds,xs,h,e=>by cases e
def D.sortDct:D->M D:=λx=>D.ref x>>=λk=>M.kvs k>>=λds=>M.opt (cg ds)>>=λxs=>M.guard (decide (xs.length<64∧xs.Nodup))>>=λ_=>pure (.lst ((dS xs).map .str))
theorem NK (hc:X.calm=true:=by rfl):Bif F X E "sorted" (d1 D.sortDct):=⟨_,.inl ⟨_,call_sortedD hc,AC⟩,SV λv d m W H Q rx k h=>by
 unfold D.sortDct at h
 cases rx with
 |@hnd p i hp=>
  obtain⟨us,ds,a1,a2,a3,h⟩:=ON k hp (g:=λds=>M.opt (cg ds)>>=λxs=>M.guard (decide (xs.length<64∧xs.Nodup))>>=λ_=>(pure (.lst ((dS xs).map .str)):M D)) h;rw[Do]at h
  cases e:cg ds with
  |none=>rw[e]at h;exact h.elim
  |some xs=>
   rw[e]at h;have h:PoR X.K F ((M.guard (decide (xs.length<64∧xs.Nodup))>>=λ_=>(pure (D.lst ((dS xs).map .str)):M D)).run m) W H (λW' H' _ d=>∀v,Rp X.K F W' v d->Q v H') E:=h;obtain⟨g,h⟩:=gd (A:=D) h;obtain⟨g1,g2⟩:=AN g;refine⟨p,us,xs,rfl,a1,Ti a2 e,g1,λys q pm so hq=>?_⟩;have ey:ys=dS xs:=Wt so (pm.nodup_iff.mpr g2) λx=>pm.mem_iff;subst ey;exact DY k h hq (EJ k hq (G1 _))
 |_=>exact h.elim⟩
end
end Mir
namespace L2
open PySem PySem.Spec PyProof.Rows
theorem FunD.kbinds1 {K:PySem.W.Frag} {x qual:Str} {params:Arguments} {body:List Stmt} {scope:Scope} {dvs:List V} {kws:List (Str×V)} {f:Addr} {fd:FuncData} {ps:List Str}
 (F:FunD K x qual params body scope dvs kws f fd) (n:Nat) (ks:List Str) (pi:List Nat) (hd:dvs≠[])
 (h:∀(T:Addr) (kV doc pm:Value) (an:Option Addr) (cdv ct:Value) (us its ws:List Value),us.length=n->its.length=dvs.length->ws.length=ks.length->
  ∃k,bindArgs (PySem.W.fnOf x qual params body scope (.ref T) kV doc pm an cdv ct) ⟨us,ks.zip ws⟩=seqItems? (.ref T)>>=k∧k (some its.toArray)=pure (ps.zip (us++Mir.pick pi ws))):
 KBn K fd ps n ks (λus ws=>us++Mir.pick pi ws) (λvs zs=>vs++Mir.pick pi zs):=by
 obtain⟨oc,od,dV,kV,doc,pm,an,cdv,ct,osl,rfl,lk,hcd,hD,hK⟩:=F.ex;rcases hD with⟨e,_⟩|⟨_,T,o,its,m,rfl,lT,oT,rT⟩
 ·exact absurd e hd
 ·refine⟨λs us ws X h1 h2=>?_,λr1 r2=>r1.append (Mir.FZ r2 _)⟩;obtain⟨k,e1,e2⟩:=h T kV doc pm an cdv ct us its ws h1 rT.length.symm h2;refine BindsTo.of_looks λM=>?_;rw[e1];exact looks_items X lT oT (.of_pure e2)
end L2
namespace Mir
open PySem L2
theorem gO {A:Around} {k:Nat} (r:Room k A):A.units+2<cLine:=by have:=r.un;omega
section
variable {F:Nm} {X:Cx} {E:XK} {pos:Pos} {a b:Expr} {fa fb:Env->M D}
def D.split (x:Str):D->M D
 | .str y=>M.guard (decide (y.length≠0∧x.length≤10000000))>>=λ_=>pure (.lst ((Txt.split x y).map .str))
 |_=>M.bad
theorem Rc {K:PySem.W.Frag}:n6 K F E (λx xs H Q=>∃a b,x= .str a∧xs=[.str b]∧(b.length==0)=false∧a.length+2≤sizeLine∧rNewStrs (Txt.split a b) H Q) D.split:=λx u e m W H Q r k h=>by
 cases r with
 |str y=>
  obtain⟨g,h⟩:=gd (A:=D) h;obtain⟨g1,g2⟩:=AN g;exact⟨x,y,rfl,rfl,by simpa using g1,by rw[sizeLine_eq];omega,λp hp=>DY k h hp (EJ k hp (G1 _))⟩
 |_=>exact h.elim
theorem aD {apos:Pos} (ha:PD F X E a fa) (hb:PD F X E b fb) (hs:starEach [b] X.env=[(false,eval b X.env)]:=by rfl) (hbase:attributeBase a "split" X.env (eval a X.env)=eval a X.env:=by rfl) (hline:(apos.endLine==pos.line)=true:=by rfl):
 PD F X E (.Call (.Attribute a "split" apos) [b] [] pos) (Nn D.split fa fb):=V3 PySem.F.slot_str_split PySem.F.type_str_split mt_split Rc ha hb hs hbase hline
end
section
variable {F:Nm} {X:Cx} {cls x:Str} {C:Addr} {pos p:Pos} {kws:List Keyword} {ks:List Str} {pi:List Nat} {fk:Env->M (List D)} {j k n nk:Nat} {gg:List D->M D}
theorem Xh (c:ClsD X.K F cls C) (mk:MkK X.prog X.w X.K X.mg X.base F k C 0 ks pi n gg) (hm:X.mg x=some (.ref C)) (hr:Room j X.A) (hkw:PDk F X DQ kws fk) (hk:k+1≤j:=by decide) (hg:Gl X x:=by rfl)
 (hall:(backToKw pos (keywordEach kws X.env)).all (·.1.isSome)=true:=by rfl) (hks:(backToKw pos (keywordEach kws X.env)).filterMap (·.1)=ks:=by rfl) (hdb:(x==("__debug__" :Str))=false:=by decide)
 (hpl:((backTo pos (starEach [] X.env)).any (·.1)||(backToKw pos (keywordEach kws X.env)).any (·.1.isNone))=false:=by rfl) (hnk:ks.length=nk:=by rfl):
 PD F X DQ (.Call (.Name x p) [] kws pos) (FN cls 0 nk n pi gg Ci fk):=by
 subst hnk;obtain⟨f,fd,ps,h1,h2,h3⟩:=mk;obtain⟨tk,pk,qk⟩:=hkw;exact⟨_,pe_makeK0 h2 h1 (hr.mono hk) hg hm h3 pass0 pk hall hks hdb hpl,XS c (t:=tNil) (fun ρ m W σ H s k Q h=>PoR.pure k h _ .nil) qk⟩
end
end Mir
namespace LW
open PySem L2 Mir
def top (i:Nat):Stmt:=PySem.Challenge.pw_sentnames_k22_books_as_texts.main.body.getD i (.Pass ⟨0,0,0,0⟩)
abbrev jI:Stmt:=top 9
abbrev gQ:Stmt:=top 17
abbrev Q1:Stmt:=top 18
abbrev jJ:Stmt:=top 19
abbrev jK:Stmt:=top 20
abbrev jL:Stmt:=top 21
abbrev jM:Stmt:=top 27
abbrev gR:Stmt:=top 28
abbrev Yr:Stmt:=top 29
abbrev NL:Stmt:=top 30
abbrev Xi:Stmt:=top 31
abbrev QA:Stmt:=top 32
abbrev jN:Stmt:=top 34
abbrev jO:Stmt:=top 35
abbrev aE:Stmt:=top 36
abbrev aF:Stmt:=top 37
abbrev aG:Stmt:=top 38
abbrev aH:Stmt:=top 39
abbrev aI:Stmt:=top 40
abbrev Ys:Stmt:=top 41
abbrev aJ:Stmt:=top 42
abbrev aK:Stmt:=top 43
abbrev gS:Stmt:=top 44
abbrev aL:Stmt:=top 46
abbrev gT:Stmt:=top 47
abbrev jP:Stmt:=top 51
abbrev Yt:Stmt:=top 52
abbrev Yu:Stmt:=top 53
abbrev VB:Stmt:=top 54
abbrev VC:Stmt:=inClass (top 55) 0
abbrev jQ:Stmt:=inClass (top 55) 1
abbrev jR:Stmt:=inClass (top 55) 2
abbrev gU:Stmt:=inClass (top 55) 3
abbrev jS:Stmt:=inClass (top 55) 4
abbrev jT:Stmt:=inClass (top 55) 5
abbrev jU:Stmt:=inClass (top 55) 6
abbrev jV:Stmt:=inClass (top 55) 8
abbrev jW:Stmt:=top 58
abbrev jX:Stmt:=top 59
abbrev jY:Stmt:=inClass (top 60) 0
abbrev jZ:Stmt:=inClass (top 60) 1
abbrev ja:Stmt:=inClass (top 60) 2
abbrev aM:Stmt:=inClass (top 60) 3
abbrev jb:Stmt:=inClass (top 60) 4
abbrev jc:Stmt:=inClass (top 60) 5
abbrev Vn:Stmt:=inClass (top 60) 6
abbrev jd:Stmt:=inClass (top 60) 7
abbrev aN:Stmt:=inClass (top 60) 8
abbrev aO:Stmt:=inClass (top 60) 9
abbrev aP:Stmt:=inClass (top 60) 10
abbrev aQ:Stmt:=inClass (top 60) 11
abbrev aR:Stmt:=inClass (top 60) 12
abbrev je:Stmt:=inClass (top 60) 13
abbrev aS:Stmt:=inClass (top 60) 14
abbrev aT:Stmt:=inClass (top 60) 15
abbrev jf:Stmt:=inClass (top 60) 16
abbrev jg:Stmt:=inClass (top 60) 17
abbrev jh:Stmt:=top 61
abbrev HQ:Stmt:=top 63
abbrev Fc:Stmt:=top 64
abbrev Yv:Stmt:=top 65
abbrev ji:Stmt:=top 66
abbrev jj:Stmt:=top 67
abbrev FA:Stmt:=top 68
noncomputable section
def jk:Mir.Env->M Fl:=
 (Cu (Fv (Eg (D.isT "int") (Cg 0)) (fE (Eg (D.isT "bool") (Cg 0)))))
abbrev LZ:List Str:=["thing"]
theorem QB:FnScope LZ ["thing"] (defScope jI):=⟨rfl,rfl,rfl,AC,rfl,AC,AC⟩
def jm:List D->M D:=Cv 1 jk
def jo:Mir.Env->M Fl:=
 (Cu (eB (d1 D.all) (aC (E1 (DJ (Cg 0)) (Cq 2) DD (Ck D.isIn (Cg 2) (Cg 1)) [2]) Ci)))
abbrev G2:List Str:=["text","signs","sign"]
theorem Fz:FnScope G2 ["text","signs"] (defScope gQ):=⟨rfl,rfl,rfl,AC,rfl,AC,AC⟩
def jq:List D->M D:=Cv 3 jo
def cj:Mir.Env->M Fl:=
 (Cu (Fv (Fu D.le D.le (eC (.int 1)) (eB (d1 D.len) (aC (Cg 0) Ci)) (Cg 1)) (Cn 2 jq (aC (Cg 0) (aC (eC (.str "abcdefghijklmnopqrstuvwxyz")) Ci)))))
abbrev Hr:List Str:=["text","most"]
theorem La:FnScope Hr ["text","most"] (defScope Q1):=⟨rfl,rfl,rfl,AC,rfl,AC,AC⟩
def ck:List D->M D:=Cv 2 cj
def jr:Mir.Env->M Fl:=
 (Cj (Da (Dg (E7 (DA (Fu D.le D.le (eC (.int 1)) (eB (d1 D.len) (aC (Cg 0) Ci)) (eC (.int 2))))) (E7 (Ei (Cn 2 jq (aC (Cg 0) (aC (eC (.str "0123456789")) Ci)))))) (Cu (eC (.bl false))) C1)
  (Cu (Yp (Ck D.eq (Cg 0) (eC (.str "0"))) (Ck D.ne (Ck D.ix (Cg 0) (eC (.int 0))) (eC (.str "0"))))))
abbrev Fd:List Str:=["text"]
theorem JF:FnScope Fd ["text"] (defScope jJ):=⟨rfl,rfl,rfl,AC,rfl,AC,AC⟩
def js:List D->M D:=Cv 1 jr
def cq:Mir.Env->M Fl:=
 (Cj (Da (E7 (Ei (Eg (D.isT "str") (Cg 0)))) (Cu (eC (.bl false))) C1)
  (Cu (Yp (RB 2 [.int 6] ck (aC (Cg 0) Ci)) (Fv (Nn D.startswith (Cg 0) (eC (.str "f"))) (Cn 1 js (aC (Ej (Cg 0) (GR (eC (.int 1))) GQ) Ci))))))
abbrev NM:List Str:=["thing"]
theorem Re:FnScope NM ["thing"] (defScope jK):=⟨rfl,rfl,rfl,AC,rfl,AC,AC⟩
def aU:List D->M D:=Cv 1 cq
def jt:Mir.Env->M Fl:=
 (Cj (Da (Dg (E7 (Ei (Eg (D.isT "str") (Cg 0)))) (Dg (DA (Ck D.eq (Cg 0) (eC (.str "")))) (DA (Ck D.notIn (Ck D.ix (Cg 0) (eC (.int 0))) (eC (.str "ABCDEFGHIJKLMNOPQRSTUVWXYZ")))))) (Cu (eC (.bl false))) C1)
  (Cu (Yp (Ck D.eq (eB (d1 D.len) (aC (Cg 0) Ci)) (eC (.int 1))) (EX 1 1 2 ck (aC (Ej (Cg 0) (GR (eC (.int 1))) GQ) Ci) (aC (Ck D.sub (eC (.int 6)) (eC (.int 1))) Ci)))))
abbrev qm:List Str:=["thing"]
theorem GZ:FnScope qm ["thing"] (defScope jL):=⟨rfl,rfl,rfl,AC,rfl,AC,AC⟩
def VD:List D->M D:=Cv 1 jt
def ju:Mir.Env->M Fl:=
 (Cu (Yp (Cn 1 aU (aC (Cg 0) Ci)) (Fv (Cn 1 jm (aC (Cg 0) Ci)) (Fu D.le D.lt (eC (.int 0)) (Cg 0) (Cg 1)))))
abbrev NN:List Str:=["thing","binders"]
theorem Rf:FnScope NN ["thing","binders"] (defScope jM):=⟨rfl,rfl,rfl,AC,rfl,AC,AC⟩
def aV:List D->M D:=Cv 2 ju
def jv:Mir.Env->M Fl:=
 (Cj (Da (Dg (E7 (Ei (Eg (D.isT "tuple") (Cg 0)))) (DA (Ck D.gt (eB (d1 D.len) (aC (Cg 0) Ci)) (eC (.int 4))))) (Cu (eC (.bl false))) C1)
  (Cu (eB (d1 D.all) (aC (E1 (DJ (Cg 0)) (Cq 2) DD (Cn 2 aV (aC (Cg 2) (aC (Cg 1) Ci))) [2]) Ci))))
abbrev G3:List Str:=["thing","binders","mark"]
theorem GA:FnScope G3 ["thing","binders"] (defScope gR):=⟨rfl,rfl,rfl,AC,rfl,AC,AC⟩
def jw:List D->M D:=Cv 3 jv
def jx (r_are_parts:List D->M D) (r_is_term:List D->M D):Mir.Env->M Fl:=
 (Cu (Fv (Eg (D.isT "tuple") (Cg 0)) (eB (d1 D.all) (aC (E1 (DJ (Cg 0)) (Cq 2) DD (EX 1 1 2 r_is_term (aC (Cg 2) Ci) (aC (Cg 1) Ci)) [2]) Ci))))
abbrev G4:List Str:=["thing","binders","part"]
theorem GB:FnScope G4 ["thing","binders"] (defScope Yr):=⟨rfl,rfl,rfl,AC,rfl,AC,AC⟩
def jy (r_are_parts:List D->M D) (r_is_term:List D->M D):Mir.Env->M Fl:=
 (Cj (Da (Dg (E7 (Ei (Eg (D.isT "tuple") (Cg 0)))) (Dg (DA (Ck D.eq (Cg 0) (DS Ci))) (E7 (Ei (Eg (D.isT "str") (Ck D.ix (Cg 0) (eC (.int 0)))))))) (Cu (eC (.bl false))) C1)
  (Cj (FT (Cg 0) (Ut 1 2 (Dr (Cq 2) (Dr (Cq 3) Di))))
  (Cj (Da (DA (Ck D.eq (Cg 2) (eC (.str "stop")))) (Cu (Ck D.eq (Cg 3) (EG Ci))) C1)
  (Cj (Da (DA (Ck D.isIn (Cg 2) (eC (.tup [.str "pick",.str "beside"])))) (Cu (Fv (Ck D.eq (eB (d1 D.len) (aC (Cg 3) Ci)) (eC (.int 1))) (Cn 2 r_are_parts (aC (Ck D.ix (Cg 3) (eC (.int 0))) (aC (Cg 1) Ci))))) C1)
  (Cj (Da (DA (Ck D.eq (Cg 2) (eC (.str "call")))) (Cu (Fv (Ck D.eq (eB (d1 D.len) (aC (Cg 3) Ci)) (eC (.int 2))) (Fv (Cn 1 VD (aC (Ck D.ix (Cg 3) (eC (.int 0))) Ci)) (Cn 2 jw (aC (Ck D.ix (Cg 3) (eC (.int 1))) (aC (Cg 1) Ci)))))) C1)
  (Cj (Da (Dg (DA (Eg (D.notInTab [("tick",.int 0),("send",.int 2),("hear",.int 1),("if",.int 2),("unless",.int 2),("new",.int 0)]) (Cg 2))) (DA (Ck D.ne (eB (d1 D.len) (aC (Cg 3) Ci)) (Ck D.add (Eg (D.ixTab [("tick",.int 0),("send",.int 2),("hear",.int 1),("if",.int 2),("unless",.int 2),("new",.int 0)]) (Cg 2)) (eC (.int 1)))))) (Cu (eC (.bl false))) C1)
  (Cj (FT (Cg 3) (Ut 0 2 (Dr (Cq 4) (Dr (Cq 5) Di))))
  (Cu (Fv (eB (d1 D.all) (aC (E1 (DJ (Cg 4)) (Cq 6) DD (Cn 2 aV (aC (Cg 6) (aC (Cg 1) Ci))) [6]) Ci)) (EX 1 1 2 r_is_term (aC (Cg 5) Ci) (aC (Ck D.add (Cg 1) (eB (d1 D.toInt) (aC (Ck D.isIn (Cg 2) (eC (.tup [.str "hear",.str "new"]))) Ci))) Ci)))))))))))
abbrev Jr:List Str:=["thing","binders","word","rest","marks","inner","mark"]
theorem gV:FnScope Jr ["thing","binders"] (defScope NL):=⟨rfl,rfl,rfl,AC,rfl,AC,AC⟩
def jz:Nat->Nat->List D->M D
 |0,_=>λ_=>M.bad
 |n+1,0=>Cv 3 (jx (jz n 0) (jz n 1))
 |n+1,_=>Cv 7 (jy (jz n 0) (jz n 1))
abbrev VE (n:Nat):List D->M D:=jz n 0
abbrev KZ (n:Nat):List D->M D:=jz n 1
def Vo (r_marks_of:List D->M D):Mir.Env->M Fl:=
 (Cj (FT (Cg 0) (Ut 1 2 (Dr (Cq 1) (Dr (Cq 2) Di))))
  (Cj (Da (DA (Ck D.isIn (Cg 1) (eC (.tup [.str "pick",.str "beside"])))) (Cu (Wv (DJ (Ck D.ix (Cg 2) (eC (.int 0)))) (Cq 3) DD (DJ (Cn 1 r_marks_of (aC (Cg 3) Ci))) (Cq 4) DD (Cg 4) [3,4] [4])) C1)
  (Cj (Da (DA (Ck D.eq (Cg 1) (eC (.str "call")))) (Cu (eB (d1 D.list) (aC (Ck D.ix (Cg 2) (eC (.int 1))) Ci))) C1)
  (Cu (Wv (DJ (Cg 2)) (Cq 5) DD (DJ (WL (Ei (Eg (D.isT "tuple") (Cg 5))) (Cn 1 r_marks_of (aC (Cg 5) Ci)) (EG (aC (Cg 5) Ci)))) (Cq 4) DD (Cg 4) [5,4] [4])))))
abbrev GC:List Str:=["term","word","rest","part","mark","thing"]
theorem aW:FnScope GC ["term"] (defScope Xi):=⟨rfl,rfl,rfl,AC,rfl,AC,AC⟩
def JG:Nat->Nat->List D->M D
 |0,_=>λ_=>M.bad
 |n+1,_=>Cv 6 (Vo (JG n 0))
abbrev O9 (n:Nat):List D->M D:=JG n 0
def j0:Mir.Env->M Fl:=
 (Cu (eB (d1 D.tuple) (aC (OF (DJ (Cn 1 (O9 40) (aC (Cg 0) Ci))) (Cq 2) (Ei (Eg (D.isT "str") (Cg 2))) (Cg 2) [2]) Ci)))
abbrev IL:List Str:=["term","binders","mark"]
theorem G5:FnScope IL ["term","binders"] (defScope QA):=⟨rfl,rfl,rfl,AC,rfl,AC,AC⟩
def mX:List D->M D:=Cv 3 j0
def gW:Mir.Env->M Fl:=
 (Cu (WL (Ei (Eg (D.isT "str") (Cg 0))) (Cg 0) (Uk (DM (eC (.str "x")) (DM (Eg D.fmt (Ck D.sub (Ck D.sub (Cg 1) (eC (.int 1))) (Cg 0))) Je)))))
abbrev KC:List Str:=["mark","deep"]
theorem OO:FnScope KC ["mark","deep"] (defScope jN):=⟨rfl,rfl,rfl,AC,rfl,AC,AC⟩
def OP:List D->M D:=Cv 2 gW
def oA:Mir.Env->M Fl:=
 (Cu (eC (.str "0")))
abbrev KD:List Str:=["term","deep"]
theorem OQ:FnScope KD ["term","deep"] (defScope jO):=⟨rfl,rfl,rfl,AC,rfl,AC,AC⟩
def gX:List D->M D:=Cv 2 oA
def j4:Mir.Env->M Fl:=
 (Cj (FT (Cg 0) (KR 3 (Dr (Cq 2) (Dr (Cq 3) (Dr (Cq 4) Di)))))
  (Cu (Uk (DM (Eg D.fmt (Cg 3)) (DM (eC (.str "<")) (DM (Eg D.fmt (Nn D.join (eC (.str ",")) (E1 (DJ (Cg 4)) (Cq 5) DD (Cn 2 OP (aC (Cg 5) (aC (Cg 1) Ci))) [5]))) (DM (eC (.str ">")) Je)))))))
abbrev G6:List Str:=["term","deep","word","name","marks","mark"]
theorem j5:FnScope G6 ["term","deep"] (defScope gS):=⟨rfl,rfl,rfl,AC,rfl,AC,AC⟩
def gY:List D->M D:=Cv 6 j4
def j6 (r_tick_text:List D->M D) (r_send_text:List D->M D) (r_hear_text:List D->M D) (r_test_text:List D->M D) (r_new_text:List D->M D) (r_parts_texts:List D->M D) (r_pick_text:List D->M D) (r_beside_text:List D->M D) (r_text_of:List D->M D):Mir.Env->M Fl:=
 (Cu (Uk (DM (eC (.str "-.")) (DM (Eg D.fmt (Cn 2 r_text_of (aC (Ck D.ix (Cg 0) (eC (.int 1))) (aC (Cg 1) Ci)))) Je))))
abbrev KF:List Str:=["term","deep"]
theorem OR:FnScope KF ["term","deep"] (defScope aE):=⟨rfl,rfl,rfl,AC,rfl,AC,AC⟩
def j7 (r_tick_text:List D->M D) (r_send_text:List D->M D) (r_hear_text:List D->M D) (r_test_text:List D->M D) (r_new_text:List D->M D) (r_parts_texts:List D->M D) (r_pick_text:List D->M D) (r_beside_text:List D->M D) (r_text_of:List D->M D):Mir.Env->M Fl:=
 (Cj (FT (Cg 0) (KR 4 (Dr (Cq 2) (Dr (Cq 3) (Dr (Cq 4) (Dr (Cq 5) Di))))))
  (Cu (Uk (DM (Eg D.fmt (Cn 2 OP (aC (Cg 3) (aC (Cg 1) Ci)))) (DM (eC (.str "!")) (DM (Eg D.fmt (Cn 2 OP (aC (Cg 4) (aC (Cg 1) Ci)))) (DM (eC (.str ".")) (DM (Eg D.fmt (Cn 2 r_text_of (aC (Cg 5) (aC (Cg 1) Ci)))) Je))))))))
abbrev KG:List Str:=["term","deep","word","along","what","rest"]
theorem mY:FnScope KG ["term","deep"] (defScope aF):=⟨rfl,rfl,rfl,AC,rfl,AC,AC⟩
def j8 (r_tick_text:List D->M D) (r_send_text:List D->M D) (r_hear_text:List D->M D) (r_test_text:List D->M D) (r_new_text:List D->M D) (r_parts_texts:List D->M D) (r_pick_text:List D->M D) (r_beside_text:List D->M D) (r_text_of:List D->M D):Mir.Env->M Fl:=
 (Cj (FT (Cg 0) (KR 3 (Dr (Cq 2) (Dr (Cq 3) (Dr (Cq 4) Di)))))
  (Cu (Uk (DM (Eg D.fmt (Cn 2 OP (aC (Cg 3) (aC (Cg 1) Ci)))) (DM (eC (.str "?x")) (DM (Eg D.fmt (Cg 1)) (DM (eC (.str ".")) (DM (Eg D.fmt (Cn 2 r_text_of (aC (Cg 4) (aC (Ck D.add (Cg 1) (eC (.int 1))) Ci)))) Je))))))))
abbrev KH:List Str:=["term","deep","word","along","rest"]
theorem oB:FnScope KH ["term","deep"] (defScope aG):=⟨rfl,rfl,rfl,AC,rfl,AC,AC⟩
def cu (r_tick_text:List D->M D) (r_send_text:List D->M D) (r_hear_text:List D->M D) (r_test_text:List D->M D) (r_new_text:List D->M D) (r_parts_texts:List D->M D) (r_pick_text:List D->M D) (r_beside_text:List D->M D) (r_text_of:List D->M D):Mir.Env->M Fl:=
 (Cj (FT (Cg 0) (KR 4 (Dr (Cq 2) (Dr (Cq 3) (Dr (Cq 4) (Dr (Cq 5) Di))))))
  (Cj (C3 6 (WL (DA (Ck D.eq (Cg 2) (eC (.str "if")))) (eC (.str "=")) (eC (.str "#"))))
  (Cu (Uk (DM (eC (.str "[")) (DM (Eg D.fmt (Cn 2 OP (aC (Cg 3) (aC (Cg 1) Ci)))) (DM (Eg D.fmt (Cg 6)) (DM (Eg D.fmt (Cn 2 OP (aC (Cg 4) (aC (Cg 1) Ci)))) (DM (eC (.str "]")) (DM (Eg D.fmt (Cn 2 r_text_of (aC (Cg 5) (aC (Cg 1) Ci)))) Je))))))))))
abbrev KI:List Str:=["term","deep","word","one","other","rest","sign"]
theorem j9:FnScope KI ["term","deep"] (defScope aH):=⟨rfl,rfl,rfl,AC,rfl,AC,AC⟩
def kA (r_tick_text:List D->M D) (r_send_text:List D->M D) (r_hear_text:List D->M D) (r_test_text:List D->M D) (r_new_text:List D->M D) (r_parts_texts:List D->M D) (r_pick_text:List D->M D) (r_beside_text:List D->M D) (r_text_of:List D->M D):Mir.Env->M Fl:=
 (Cu (Uk (DM (eC (.str "^x")) (DM (Eg D.fmt (Cg 1)) (DM (eC (.str ".")) (DM (Eg D.fmt (Cn 2 r_text_of (aC (Ck D.ix (Cg 0) (eC (.int 1))) (aC (Ck D.add (Cg 1) (eC (.int 1))) Ci)))) Je))))))
abbrev Lb:List Str:=["term","deep"]
theorem QC:FnScope Lb ["term","deep"] (defScope aI):=⟨rfl,rfl,rfl,AC,rfl,AC,AC⟩
def kB (r_tick_text:List D->M D) (r_send_text:List D->M D) (r_hear_text:List D->M D) (r_test_text:List D->M D) (r_new_text:List D->M D) (r_parts_texts:List D->M D) (r_pick_text:List D->M D) (r_beside_text:List D->M D) (r_text_of:List D->M D):Mir.Env->M Fl:=
 (Cu (E1 (DJ (Ck D.ix (Cg 0) (eC (.int 1)))) (Cq 2) DD (Cn 2 r_text_of (aC (Cg 2) (aC (Cg 1) Ci))) [2]))
abbrev pO:List Str:=["term","deep","part"]
theorem pP:FnScope pO ["term","deep"] (defScope Ys):=⟨rfl,rfl,rfl,AC,rfl,AC,AC⟩
def kE (r_tick_text:List D->M D) (r_send_text:List D->M D) (r_hear_text:List D->M D) (r_test_text:List D->M D) (r_new_text:List D->M D) (r_parts_texts:List D->M D) (r_pick_text:List D->M D) (r_beside_text:List D->M D) (r_text_of:List D->M D):Mir.Env->M Fl:=
 (Cu (Ck D.add (Ck D.add (eC (.str "{")) (Nn D.join (eC (.str " + ")) (Cn 2 r_parts_texts (aC (Cg 0) (aC (Cg 1) Ci))))) (eC (.str "}"))))
abbrev KJ:List Str:=["term","deep"]
theorem OS:FnScope KJ ["term","deep"] (defScope aJ):=⟨rfl,rfl,rfl,AC,rfl,AC,AC⟩
def kF (r_tick_text:List D->M D) (r_send_text:List D->M D) (r_hear_text:List D->M D) (r_test_text:List D->M D) (r_new_text:List D->M D) (r_parts_texts:List D->M D) (r_pick_text:List D->M D) (r_beside_text:List D->M D) (r_text_of:List D->M D):Mir.Env->M Fl:=
 (Cu (Uk (DM (eC (.str "(")) (DM (Eg D.fmt (Nn D.join (eC (.str " | ")) (Cn 2 r_parts_texts (aC (Cg 0) (aC (Cg 1) Ci))))) (DM (eC (.str ")")) Je)))))
abbrev Ht:List Str:=["term","deep"]
theorem Lc:FnScope Ht ["term","deep"] (defScope aK):=⟨rfl,rfl,rfl,AC,rfl,AC,AC⟩
def kG (r_tick_text:List D->M D) (r_send_text:List D->M D) (r_hear_text:List D->M D) (r_test_text:List D->M D) (r_new_text:List D->M D) (r_parts_texts:List D->M D) (r_pick_text:List D->M D) (r_beside_text:List D->M D) (r_text_of:List D->M D):Mir.Env->M Fl:=
 (Cj (C3 2 (Eg (D.ixTab [("stop",.nam "stop_text"),("tick",.nam "tick_text"),("send",.nam "send_text"),("hear",.nam "hear_text"),("if",.nam "test_text"),("unless",.nam "test_text"),("pick",.nam "pick_text"),("beside",.nam "beside_text"),("new",.nam "new_text"),("call",.nam "call_text")]) (Ck D.ix (Cg 0) (eC (.int 0)))))
  (Cu (OJ 2 2 [("stop_text",gX),("tick_text",r_tick_text),("send_text",r_send_text),("hear_text",r_hear_text),("test_text",r_test_text),("pick_text",r_pick_text),("beside_text",r_beside_text),("new_text",r_new_text),("call_text",gY)] (aC (Cg 0) (aC (Cg 1) Ci)))))
abbrev NO:List Str:=["term","deep","writer"]
theorem Ld:FnScope NO ["term","deep"] (defScope aL):=⟨rfl,rfl,rfl,AC,rfl,AC,AC⟩
def Dh:Nat->Nat->List D->M D
 |0,_=>λ_=>M.bad
 |n+1,0=>Cv 2 (j6 (Dh n 0) (Dh n 1) (Dh n 2) (Dh n 3) (Dh n 4) (Dh n 5) (Dh n 6) (Dh n 7) (Dh n 8))
 |n+1,1=>Cv 6 (j7 (Dh n 0) (Dh n 1) (Dh n 2) (Dh n 3) (Dh n 4) (Dh n 5) (Dh n 6) (Dh n 7) (Dh n 8))
 |n+1,2=>Cv 5 (j8 (Dh n 0) (Dh n 1) (Dh n 2) (Dh n 3) (Dh n 4) (Dh n 5) (Dh n 6) (Dh n 7) (Dh n 8))
 |n+1,3=>Cv 7 (cu (Dh n 0) (Dh n 1) (Dh n 2) (Dh n 3) (Dh n 4) (Dh n 5) (Dh n 6) (Dh n 7) (Dh n 8))
 |n+1,4=>Cv 2 (kA (Dh n 0) (Dh n 1) (Dh n 2) (Dh n 3) (Dh n 4) (Dh n 5) (Dh n 6) (Dh n 7) (Dh n 8))
 |n+1,5=>Cv 3 (kB (Dh n 0) (Dh n 1) (Dh n 2) (Dh n 3) (Dh n 4) (Dh n 5) (Dh n 6) (Dh n 7) (Dh n 8))
 |n+1,6=>Cv 2 (kE (Dh n 0) (Dh n 1) (Dh n 2) (Dh n 3) (Dh n 4) (Dh n 5) (Dh n 6) (Dh n 7) (Dh n 8))
 |n+1,7=>Cv 2 (kF (Dh n 0) (Dh n 1) (Dh n 2) (Dh n 3) (Dh n 4) (Dh n 5) (Dh n 6) (Dh n 7) (Dh n 8))
 |n+1,_=>Cv 3 (kG (Dh n 0) (Dh n 1) (Dh n 2) (Dh n 3) (Dh n 4) (Dh n 5) (Dh n 6) (Dh n 7) (Dh n 8))
abbrev Gg (n:Nat):List D->M D:=Dh n 0
abbrev Gh (n:Nat):List D->M D:=Dh n 1
abbrev Gi (n:Nat):List D->M D:=Dh n 2
abbrev GV (n:Nat):List D->M D:=Dh n 3
abbrev Gj (n:Nat):List D->M D:=Dh n 4
abbrev HR (n:Nat):List D->M D:=Dh n 5
abbrev Gk (n:Nat):List D->M D:=Dh n 6
abbrev Gm (n:Nat):List D->M D:=Dh n 7
abbrev Ep (n:Nat):List D->M D:=Dh n 8
def kH:Mir.Env->M Fl:=
 (Cj (C3 3 (E1 (Kg (Cg 1)) (Cq 4) DD (Uk (DM (eC (.str "x")) (DM (Eg D.fmt (Cg 4)) Je))) [4]))
  (Cu (Uk (DM (Eg D.fmt (Cg 0)) (DM (eC (.str "<")) (DM (Eg D.fmt (Nn D.join (eC (.str ",")) (Cg 3))) (DM (eC (.str "> = ")) (DM (Eg D.fmt (Cn 2 (Ep 60) (aC (Cg 2) (aC (Cg 1) Ci)))) Je))))))))
abbrev pQ:List Str:=["name","many","body","words","k"]
theorem pR:FnScope pQ ["name","many","body"] (defScope gT):=⟨rfl,rfl,rfl,AC,rfl,AC,AC⟩
def VF:List D->M D:=Cv 5 kH
def Yw:Mir.Env->M Fl:=
 (Cj (Da (DA (Ck D.isIn (Ck D.ix (Cg 0) (eC (.int 0))) (eC (.tup [.str "pick",.str "beside"])))) (Cu (Ck D.ix (Cg 0) (eC (.int 1)))) C1)
  (Cu (WL (DA (Ck D.isIn (Ck D.ix (Cg 0) (eC (.int 0))) (DS (aC (eC (.str "stop")) (aC (eC (.str "call")) Ci))))) (DS Ci) (Ej (Cg 0) (GR (Eg D.neg (eC (.int 1)))) GQ))))
abbrev Hu:List Str:=["term"]
theorem Le:FnScope Hu ["term"] (defScope jP):=⟨rfl,rfl,rfl,AC,rfl,AC,AC⟩
def Tj:List D->M D:=Cv 1 Yw
def kI (r_calls_of:List D->M D):Mir.Env->M Fl:=
 (Cj (Da (DA (Ck D.eq (Ck D.ix (Cg 0) (eC (.int 0))) (eC (.str "call")))) (Cu (EG (aC (DS (aC (Ck D.ix (Cg 0) (eC (.int 1))) (aC (eB (d1 D.len) (aC (Ck D.ix (Cg 0) (eC (.int 2))) Ci)) Ci))) Ci))) C1)
  (Cu (Wv (DJ (Cn 1 Tj (aC (Cg 0) Ci))) (Cq 1) DD (DJ (Cn 1 r_calls_of (aC (Cg 1) Ci))) (Cq 2) DD (Cg 2) [1,2] [2])))
abbrev IM:List Str:=["term","inner","call"]
theorem oC:FnScope IM ["term"] (defScope Yt):=⟨rfl,rfl,rfl,AC,rfl,AC,AC⟩
def JH:Nat->Nat->List D->M D
 |0,_=>λ_=>M.bad
 |n+1,_=>Cv 3 (kI (JH n 0))
abbrev Rg (n:Nat):List D->M D:=JH n 0
def cx (r_is_guarded:List D->M D):Mir.Env->M Fl:=
 (Cj (Da (DA (Ck D.isIn (Ck D.ix (Cg 0) (eC (.int 0))) (eC (.tup [.str "tick",.str "send",.str "hear"])))) (Cu (eC (.bl true))) C1)
  (Cu (Fv (Ck D.ne (Ck D.ix (Cg 0) (eC (.int 0))) (eC (.str "call"))) (eB (d1 D.all) (aC (E1 (DJ (Cn 1 Tj (aC (Cg 0) Ci))) (Cq 1) DD (Cn 1 r_is_guarded (aC (Cg 1) Ci)) [1]) Ci)))))
abbrev GD:List Str:=["term","inner"]
theorem pS:FnScope GD ["term"] (defScope Yu):=⟨rfl,rfl,rfl,AC,rfl,AC,AC⟩
def G7:Nat->Nat->List D->M D
 |0,_=>λ_=>M.bad
 |n+1,_=>Cv 2 (cx (G7 n 0))
abbrev Tn (n:Nat):List D->M D:=G7 n 0
def kJ (r_has_crowd:List D->M D):Mir.Env->M Fl:=
 (Cj (Da (MR (Ei (Cg 1)) (MR (DA (Ck D.eq (Ck D.ix (Cg 0) (eC (.int 0))) (eC (.str "beside")))) (DA (Ck D.ne (Cn 1 (Rg 40) (aC (Cg 0) Ci)) (EG Ci))))) (Cu (eC (.bl true))) C1)
  (Cj (C3 2 (Yp (Cg 1) (Ck D.notIn (Ck D.ix (Cg 0) (eC (.int 0))) (DS (aC (eC (.str "beside")) (aC (eC (.str "new")) Ci))))))
  (Cu (eB (d1 D.any) (aC (E1 (DJ (Cn 1 Tj (aC (Cg 0) Ci))) (Cq 3) DD (EX 1 1 2 r_has_crowd (aC (Cg 3) Ci) (aC (Cg 2) Ci)) [3]) Ci)))))
abbrev G8:List Str:=["term","beneath","later","inner"]
theorem oD:FnScope G8 ["term","beneath"] (defScope VB):=⟨rfl,rfl,rfl,AC,rfl,AC,AC⟩
def Hv:Nat->Nat->List D->M D
 |0,_=>λ_=>M.bad
 |n+1,_=>Cv 4 (kJ (Hv n 0))
abbrev VG (n:Nat):List D->M D:=Hv n 0
def kK:Mir.Env->M Fl:=
 (Cj (Da (Dg (E7 (Ei (Cn 1 VD (aC (Cg 1) Ci)))) (Dg (E7 (Ei (Cn 1 jm (aC (Cg 2) Ci)))) (E7 (DA (Fu D.le D.le (eC (.int 0)) (Cg 2) (eC (.int 4))))))) II C1)
  (Cj (Da (Dg (E7 (Ei (EX 1 1 2 (KZ 40) (aC (Cg 3) Ci) (aC (Cg 2) Ci)))) (Dg (DA (Ck D.ne (EX 1 1 2 mX (aC (Cg 3) Ci) (aC (Cg 2) Ci)) (DS Ci))) (E7 (Ei (Cn 1 (Tn 40) (aC (Cg 3) Ci)))))) II C1)
  (Cj (Da (Ei (EX 1 1 2 (VG 40) (aC (Cg 3) Ci) (aC (eC (.bl true)) Ci))) II C1)
  (TC (En "Book" "kept" (Cg 0)) (Cg 1) (DS (aC (Cg 2) (aC (Cg 3) Ci)))))))
abbrev Lf:List Str:=["self","name","many","body"]
theorem QD:FnScope Lf ["self","name","many","body"] (defScope jT):=⟨rfl,rfl,rfl,AC,rfl,AC,AC⟩
def PB:List D->M D:=Cv 4 kK
def kL:Mir.Env->M Fl:=
 (Cj (LS "Book" "kept" (Cg 0) (M3 []))
  (E4 (DJ (Cg 1)) (KR 3 (Dr (Cq 2) (Dr (Cq 3) (Dr (Cq 4) Di)))) (C5 (Cw "Book" "put" 4 [] PB (Cg 0) (aC (Cg 2) (aC (Cg 3) (aC (Cg 4) Ci)))))))
abbrev GW:List Str:=["self","rows","name","many","body"]
theorem oE:FnScope GW ["self","rows"] (defScope VC):=⟨rfl,rfl,rfl,AC,rfl,AC,AC⟩
def Ka:List D->M D:=Cv 5 kL
def kM:Mir.Env->M Fl:=
 (Cu (eB (d1 D.lenDct) (aC (En "Book" "kept" (Cg 0)) Ci)))
abbrev G9:List Str:=["self"]
theorem Kb:FnScope G9 ["self"] (defScope jQ):=⟨rfl,rfl,rfl,AC,rfl,AC,AC⟩
def Rh:List D->M D:=Cv 1 kM
def kN:Mir.Env->M Fl:=
 (Cu (Fv (aA "Book" (Cg 1)) (Ck D.eqDct (En "Book" "kept" (Cg 0)) (En "Book" "kept" (Cg 1)))))
abbrev Hw:List Str:=["self","other"]
theorem Lg:FnScope Hw ["self","other"] (defScope jR):=⟨rfl,rfl,rfl,AC,rfl,AC,AC⟩
def KL:List D->M D:=Cv 2 kN
def kO:Mir.Env->M Fl:=
 (Cj (C3 1 (E1 (DJ (eB (d1 D.sortDct) (aC (En "Book" "kept" (Cg 0)) Ci))) (Cq 2) DD (Cn 3 VF (aC (Cg 2) (aC (Ck D.ix (MX (En "Book" "kept" (Cg 0)) (Cg 2)) (eC (.int 0))) (aC (Ck D.ix (MX (En "Book" "kept" (Cg 0)) (Cg 2)) (eC (.int 1))) Ci)))) [2]))
  (Cu (Nn D.join (eC (.str "\n")) (Cg 1))))
abbrev pT:List Str:=["self","rows","name"]
theorem pU:FnScope pT ["self"] (defScope gU):=⟨rfl,rfl,rfl,AC,rfl,AC,AC⟩
def Lh:List D->M D:=Cv 3 kO
def kP:Mir.Env->M Fl:=
 (Cu (Uk (DM (eC (.str "Book(")) (DM (Eg D.fmt (eB (d1 D.lenDct) (aC (En "Book" "kept" (Cg 0)) Ci))) (DM (eC (.str ")")) Je)))))
abbrev GX:List Str:=["self"]
theorem Js:FnScope GX ["self"] (defScope jS):=⟨rfl,rfl,rfl,AC,rfl,AC,AC⟩
def Ri:List D->M D:=Cv 1 kP
def kQ:Mir.Env->M Fl:=
 (Cj (Da (E7 (Ei (Cn 1 VD (aC (Cg 1) Ci)))) II C1)
  (cW (Cu (MX (En "Book" "kept" (Cg 0)) (Cg 1)))))
abbrev Li:List Str:=["self","name","e"]
theorem KM:FnScope Li ["self","name"] (defScope jU):=⟨rfl,rfl,rfl,AC,rfl,AC,AC⟩
def aX:List D->M D:=Cv 3 kQ
def kR:Mir.Env->M Fl:=
 (Cu (eB (d1 D.sortDct) (aC (En "Book" "kept" (Cg 0)) Ci)))
abbrev JI:List Str:=["self"]
theorem MZ:FnScope JI ["self"] (defScope jV):=⟨rfl,rfl,rfl,AC,rfl,AC,AC⟩
def cy:List D->M D:=Cv 1 kR
def kS:Mir.Env->M Fl:=
 (Cj (C3 1 (GP Ci))
  (Cj (C3 2 (eC (.bl false)))
  (Cj (E4 (DJ (Cg 0)) (Cq 3) (Cj (C3 4 (Ck D.isIn (Cg 3) (eC (.str "abcdefghijklmnopqrstuvwxyzABCDEFGHIJKLMNOPQRSTUVWXYZ0123456789"))))
  (Cj (Da (MR (Ei (Cg 4)) (Ei (Cg 2))) (JD (Cg 1) (Eg D.neg (eC (.int 1))) (Cg 3)) (C5 (Gu (Cg 1) (Cg 3))))
  (C3 2 (Cg 4)))))
  (Cu (Cg 1)))))
abbrev Lj:List Str:=["text","found","running","sign","here"]
theorem kT:FnScope Lj ["text"] (defScope jW):=⟨rfl,rfl,rfl,AC,rfl,AC,AC⟩
def GE:List D->M D:=Cv 5 kS
def kU:Mir.Env->M Fl:=
 (Cu (Yp (Cn 1 aU (aC (Cg 0) Ci)) (Fv (Nn D.startswith (Cg 0) (eC (.str "x"))) (Cn 1 js (aC (Ej (Cg 0) (GR (eC (.int 1))) GQ) Ci)))))
abbrev Fe:List Str:=["word"]
theorem JJ:FnScope Fe ["word"] (defScope jX):=⟨rfl,rfl,rfl,AC,rfl,AC,AC⟩
def oF:List D->M D:=Cv 1 kU
def kW:Mir.Env->M Fl:=
 (Cj (LS "Reader" "words" (Cg 0) (Cg 1))
  (Cj (LS "Reader" "names_stand" (Cg 0) (Cg 2))
  (LS "Reader" "at" (Cg 0) (eC (.int 0)))))
abbrev qn:List Str:=["self","words","names_stand"]
theorem IP:FnScope qn ["self","words","names_stand"] (defScope jY):=⟨rfl,rfl,rfl,AC,rfl,AC,AC⟩
def oG:List D->M D:=Cv 3 kW
def kX:Mir.Env->M Fl:=
 (Cu (WL (DA (Ck D.lt (En "Reader" "at" (Cg 0)) (eB (d1 D.len) (aC (En "Reader" "words" (Cg 0)) Ci)))) (Ck D.ix (En "Reader" "words" (Cg 0)) (En "Reader" "at" (Cg 0))) (eC (.str ""))))
abbrev qp:List Str:=["self"]
theorem Hc:FnScope qp ["self"] (defScope jZ):=⟨rfl,rfl,rfl,AC,rfl,AC,AC⟩
def JZ:List D->M D:=Cv 1 kX
def kY:Mir.Env->M Fl:=
 (Da (E7 (Ei (Cg 1))) II C1)
abbrev Hx:List Str:=["self","holds"]
theorem Lk:FnScope Hx ["self","holds"] (defScope ja):=⟨rfl,rfl,rfl,AC,rfl,AC,AC⟩
def NP:List D->M D:=Cv 2 kY
def kZ:Mir.Env->M Fl:=
 (Cj (C5 (Cw "Reader" "need" 2 [] NP (Cg 0) (aC (Ck D.eq (Cw "Reader" "next_word" 1 [] JZ (Cg 0) Ci) (Cg 1)) Ci)))
  (ET "Reader" "at" (Cg 0) (eC (.int 1))))
abbrev Hy:List Str:=["self","word"]
theorem Ll:FnScope Hy ["self","word"] (defScope aM):=⟨rfl,rfl,rfl,AC,rfl,AC,AC⟩
def Ja:List D->M D:=Cv 2 kZ
def kc:Mir.Env->M Fl:=
 (Cj (C3 2 (Cw "Reader" "next_word" 1 [] JZ (Cg 0) Ci))
  (Cj (C5 (Cw "Reader" "need" 2 [] NP (Cg 0) (aC (Yp (Ck D.isIn (Cg 2) (Cg 1)) (Fv (En "Reader" "names_stand" (Cg 0)) (Cn 1 aU (aC (Cg 2) Ci)))) Ci)))
  (Cj (ET "Reader" "at" (Cg 0) (eC (.int 1)))
  (Cu (WL (DA (Ck D.isIn (Cg 2) (Cg 1))) (Km (Cg 1) (Cg 2)) (Cg 2))))))
abbrev qu:List Str:=["self","bound","word"]
theorem qw:FnScope qu ["self","bound"] (defScope jb):=⟨rfl,rfl,rfl,AC,rfl,AC,AC⟩
def Vp:List D->M D:=Cv 3 kc
def kd:Mir.Env->M Fl:=
 (Cj (C3 1 (Cw "Reader" "next_word" 1 [] JZ (Cg 0) Ci))
  (Cj (C5 (Cw "Reader" "need" 2 [] NP (Cg 0) (aC (Cn 1 oF (aC (Cg 1) Ci)) Ci)))
  (Cj (ET "Reader" "at" (Cg 0) (eC (.int 1)))
  (Cu (Cg 1)))))
abbrev qx:List Str:=["self","word"]
theorem qy:FnScope qx ["self"] (defScope jc):=⟨rfl,rfl,rfl,AC,rfl,AC,AC⟩
def aY:List D->M D:=Cv 2 kd
def ke:Mir.Env->M Fl:=
 (Cj (ET "Reader" "at" (Cg 0) (eC (.int 1)))
  (Cu (DS (aC (eC (.str "stop")) Ci))))
abbrev q7:List Str:=["self","bound"]
theorem He:FnScope q7 ["self","bound"] (defScope jd):=⟨rfl,rfl,rfl,AC,rfl,AC,AC⟩
def oH:List D->M D:=Cv 2 ke
def kf:Mir.Env->M Fl:=
 (Cj (C5 (Dc "Reader" "take" 0 1 2 [0] Ja (Cg 0) Ci (aC (eC (.str "<")) Ci)))
  (Cj (C3 2 (GP Ci))
  (Cj (Da (DA (Ck D.ne (Cw "Reader" "next_word" 1 [] JZ (Cg 0) Ci) (eC (.str ">")))) (C5 (Gu (Cg 2) (Cw "Reader" "read_mark" 2 [] Vp (Cg 0) (aC (Cg 1) Ci)))) C1)
  (Cj (K6 64 (MR (DA (Ck D.eq (Cw "Reader" "next_word" 1 [] JZ (Cg 0) Ci) (eC (.str ",")))) (DA (Fu D.lt D.lt (eC (.int 0)) (eB (d1 D.len) (aC (Cg 2) Ci)) (eC (.int 4))))) (Cj (ET "Reader" "at" (Cg 0) (eC (.int 1)))
  (C5 (Gu (Cg 2) (Cw "Reader" "read_mark" 2 [] Vp (Cg 0) (aC (Cg 1) Ci))))))
  (Cj (C5 (Dc "Reader" "take" 0 1 2 [0] Ja (Cg 0) Ci (aC (eC (.str ">")) Ci)))
  (Cu (eB (d1 D.tuple) (aC (Cg 2) Ci))))))))
abbrev q8:List Str:=["self","bound","marks"]
theorem q9:FnScope q8 ["self","bound"] (defScope je):=⟨rfl,rfl,rfl,AC,rfl,AC,AC⟩
def oI:List D->M D:=Cv 3 kf
def kg (r_Reader_read_rows:List D->M D) (r_Reader_read_tick:List D->M D) (r_Reader_read_new:List D->M D) (r_Reader_read_test:List D->M D) (r_Reader_read_pick:List D->M D) (r_Reader_read_beside:List D->M D) (r_Reader_read_along:List D->M D) (r_Reader_read_term:List D->M D):Mir.Env->M Fl:=
 (Cj (ET "Reader" "at" (Cg 0) (eC (.int 1)))
  (Cj (C3 4 (GP Ci))
  (Cj (Da (DA (Ck D.ne (Cw "Reader" "next_word" 1 [] JZ (Cg 0) Ci) (Cg 3))) (C5 (Gu (Cg 4) (Cw "Reader" "read_term" 2 [] r_Reader_read_term (Cg 0) (aC (Cg 1) Ci)))) C1)
  (Cj (K6 64 (MR (DA (Ck D.eq (Cw "Reader" "next_word" 1 [] JZ (Cg 0) Ci) (eC (.str " ")))) (DA (Ck D.ne (Cg 4) (EG Ci)))) (Cj (E4 (DJ (DS (aC (eC (.str " ")) (aC (Cg 2) (aC (eC (.str " ")) Ci))))) (Cq 5) (C5 (Dc "Reader" "take" 0 1 2 [0] Ja (Cg 0) Ci (aC (Cg 5) Ci))))
  (C5 (Gu (Cg 4) (Cw "Reader" "read_term" 2 [] r_Reader_read_term (Cg 0) (aC (Cg 1) Ci))))))
  (Cj (C5 (Dc "Reader" "take" 0 1 2 [0] Ja (Cg 0) Ci (aC (Cg 3) Ci)))
  (Cu (eB (d1 D.tuple) (aC (Cg 4) Ci))))))))
abbrev rA:List Str:=["self","bound","sign","end","parts","word"]
theorem pV:FnScope rA ["self","bound","sign","end"] (defScope Vn):=⟨rfl,rfl,rfl,AC,rfl,AC,AC⟩
def kh (r_Reader_read_rows:List D->M D) (r_Reader_read_tick:List D->M D) (r_Reader_read_new:List D->M D) (r_Reader_read_test:List D->M D) (r_Reader_read_pick:List D->M D) (r_Reader_read_beside:List D->M D) (r_Reader_read_along:List D->M D) (r_Reader_read_term:List D->M D):Mir.Env->M Fl:=
 (Cj (ET "Reader" "at" (Cg 0) (eC (.int 1)))
  (Cj (C5 (Dc "Reader" "take" 0 1 2 [0] Ja (Cg 0) Ci (aC (eC (.str ".")) Ci)))
  (Cu (DS (aC (eC (.str "tick")) (aC (Cw "Reader" "read_term" 2 [] r_Reader_read_term (Cg 0) (aC (Cg 1) Ci)) Ci))))))
abbrev rB:List Str:=["self","bound"]
theorem Hf:FnScope rB ["self","bound"] (defScope aN):=⟨rfl,rfl,rfl,AC,rfl,AC,AC⟩
def ki (r_Reader_read_rows:List D->M D) (r_Reader_read_tick:List D->M D) (r_Reader_read_new:List D->M D) (r_Reader_read_test:List D->M D) (r_Reader_read_pick:List D->M D) (r_Reader_read_beside:List D->M D) (r_Reader_read_along:List D->M D) (r_Reader_read_term:List D->M D):Mir.Env->M Fl:=
 (Cj (ET "Reader" "at" (Cg 0) (eC (.int 1)))
  (Cj (C3 2 (Cw "Reader" "read_binder" 1 [] aY (Cg 0) Ci))
  (Cj (C5 (Dc "Reader" "take" 0 1 2 [0] Ja (Cg 0) Ci (aC (eC (.str ".")) Ci)))
  (Cu (DS (aC (eC (.str "new")) (aC (Cw "Reader" "read_term" 2 [] r_Reader_read_term (Cg 0) (aC (Ck D.addX (TN (aC (Cg 2) Ci)) (Cg 1)) Ci)) Ci)))))))
abbrev rC:List Str:=["self","bound","word"]
theorem rD:FnScope rC ["self","bound"] (defScope aO):=⟨rfl,rfl,rfl,AC,rfl,AC,AC⟩
def kj (r_Reader_read_rows:List D->M D) (r_Reader_read_tick:List D->M D) (r_Reader_read_new:List D->M D) (r_Reader_read_test:List D->M D) (r_Reader_read_pick:List D->M D) (r_Reader_read_beside:List D->M D) (r_Reader_read_along:List D->M D) (r_Reader_read_term:List D->M D):Mir.Env->M Fl:=
 (Cj (ET "Reader" "at" (Cg 0) (eC (.int 1)))
  (Cj (C3 2 (Cw "Reader" "read_mark" 2 [] Vp (Cg 0) (aC (Cg 1) Ci)))
  (Cj (C3 3 (Cw "Reader" "next_word" 1 [] JZ (Cg 0) Ci))
  (Cj (C5 (Cw "Reader" "need" 2 [] NP (Cg 0) (aC (Ck D.isIn (Cg 3) (DS (aC (eC (.str "=")) (aC (eC (.str "#")) Ci)))) Ci)))
  (Cj (ET "Reader" "at" (Cg 0) (eC (.int 1)))
  (Cj (C3 4 (Cw "Reader" "read_mark" 2 [] Vp (Cg 0) (aC (Cg 1) Ci)))
  (Cj (C5 (Dc "Reader" "take" 0 1 2 [0] Ja (Cg 0) Ci (aC (eC (.str "]")) Ci)))
  (Cu (DS (aC (MX (M3 [("=",.str "if"),("#",.str "unless")]) (Cg 3)) (aC (Cg 2) (aC (Cg 4) (aC (Cw "Reader" "read_term" 2 [] r_Reader_read_term (Cg 0) (aC (Cg 1) Ci)) Ci)))))))))))))
abbrev rE:List Str:=["self","bound","one","sign","other"]
theorem oJ:FnScope rE ["self","bound"] (defScope aP):=⟨rfl,rfl,rfl,AC,rfl,AC,AC⟩
def kl (r_Reader_read_rows:List D->M D) (r_Reader_read_tick:List D->M D) (r_Reader_read_new:List D->M D) (r_Reader_read_test:List D->M D) (r_Reader_read_pick:List D->M D) (r_Reader_read_beside:List D->M D) (r_Reader_read_along:List D->M D) (r_Reader_read_term:List D->M D):Mir.Env->M Fl:=
 (Cu (DS (aC (eC (.str "pick")) (aC (Dc "Reader" "read_rows" 1 2 4 [0,1] r_Reader_read_rows (Cg 0) (aC (Cg 1) Ci) (aC (eC (.str "+")) (aC (eC (.str "}")) Ci))) Ci))))
abbrev rF:List Str:=["self","bound"]
theorem Hg:FnScope rF ["self","bound"] (defScope aQ):=⟨rfl,rfl,rfl,AC,rfl,AC,AC⟩
def km (r_Reader_read_rows:List D->M D) (r_Reader_read_tick:List D->M D) (r_Reader_read_new:List D->M D) (r_Reader_read_test:List D->M D) (r_Reader_read_pick:List D->M D) (r_Reader_read_beside:List D->M D) (r_Reader_read_along:List D->M D) (r_Reader_read_term:List D->M D):Mir.Env->M Fl:=
 (Cu (DS (aC (eC (.str "beside")) (aC (Dc "Reader" "read_rows" 1 2 4 [0,1] r_Reader_read_rows (Cg 0) (aC (Cg 1) Ci) (aC (eC (.str "|")) (aC (eC (.str ")")) Ci))) Ci))))
abbrev rG:List Str:=["self","bound"]
theorem Ga:FnScope rG ["self","bound"] (defScope aR):=⟨rfl,rfl,rfl,AC,rfl,AC,AC⟩
def cz (r_Reader_read_rows:List D->M D) (r_Reader_read_tick:List D->M D) (r_Reader_read_new:List D->M D) (r_Reader_read_test:List D->M D) (r_Reader_read_pick:List D->M D) (r_Reader_read_beside:List D->M D) (r_Reader_read_along:List D->M D) (r_Reader_read_term:List D->M D):Mir.Env->M Fl:=
 (Cj (C3 2 (Cw "Reader" "read_mark" 2 [] Vp (Cg 0) (aC (Cg 1) Ci)))
  (Cj (C3 3 (Cw "Reader" "next_word" 1 [] JZ (Cg 0) Ci))
  (Cj (C5 (Cw "Reader" "need" 2 [] NP (Cg 0) (aC (Ck D.isIn (Cg 3) (DS (aC (eC (.str "!")) (aC (eC (.str "?")) Ci)))) Ci)))
  (Cj (ET "Reader" "at" (Cg 0) (eC (.int 1)))
  (Cj (Da (DA (Ck D.eq (Cg 3) (eC (.str "!")))) (Cj (C3 4 (Cw "Reader" "read_mark" 2 [] Vp (Cg 0) (aC (Cg 1) Ci)))
  (Cj (C5 (Dc "Reader" "take" 0 1 2 [0] Ja (Cg 0) Ci (aC (eC (.str ".")) Ci)))
  (Cu (DS (aC (eC (.str "send")) (aC (Cg 2) (aC (Cg 4) (aC (Cw "Reader" "read_term" 2 [] r_Reader_read_term (Cg 0) (aC (Cg 1) Ci)) Ci)))))))) C1)
  (Cj (C3 5 (Cw "Reader" "read_binder" 1 [] aY (Cg 0) Ci))
  (Cj (C5 (Dc "Reader" "take" 0 1 2 [0] Ja (Cg 0) Ci (aC (eC (.str ".")) Ci)))
  (Cu (DS (aC (eC (.str "hear")) (aC (Cg 2) (aC (Cw "Reader" "read_term" 2 [] r_Reader_read_term (Cg 0) (aC (Ck D.addX (TN (aC (Cg 5) Ci)) (Cg 1)) Ci)) Ci))))))))))))
abbrev rH:List Str:=["self","bound","along","sign","what","word"]
theorem mZ:FnScope rH ["self","bound"] (defScope aS):=⟨rfl,rfl,rfl,AC,rfl,AC,AC⟩
def Rj (r_Reader_read_rows:List D->M D) (r_Reader_read_tick:List D->M D) (r_Reader_read_new:List D->M D) (r_Reader_read_test:List D->M D) (r_Reader_read_pick:List D->M D) (r_Reader_read_beside:List D->M D) (r_Reader_read_along:List D->M D) (r_Reader_read_term:List D->M D):Mir.Env->M Fl:=
 (Cj (C3 2 (Cw "Reader" "next_word" 1 [] JZ (Cg 0) Ci))
  (Cj (Da (Ei (Cn 1 VD (aC (Cg 2) Ci))) (Cj (ET "Reader" "at" (Cg 0) (eC (.int 1)))
  (Cu (DS (aC (eC (.str "call")) (aC (Cg 2) (aC (Cw "Reader" "read_marks" 2 [] oI (Cg 0) (aC (Cg 1) Ci)) Ci)))))) C1)
  (Cj (Da (DA (Ck D.eq (Cg 2) (eC (.str "0")))) (Cu (Cw "Reader" "read_stop" 2 [] oH (Cg 0) (aC (Cg 1) Ci))) C1)
  (Cj (Da (DA (Ck D.eq (Cg 2) (eC (.str "-")))) (Cu (Cw "Reader" "read_tick" 2 [] r_Reader_read_tick (Cg 0) (aC (Cg 1) Ci))) C1)
  (Cj (Da (DA (Ck D.eq (Cg 2) (eC (.str "^")))) (Cu (Cw "Reader" "read_new" 2 [] r_Reader_read_new (Cg 0) (aC (Cg 1) Ci))) C1)
  (Cj (Da (DA (Ck D.eq (Cg 2) (eC (.str "[")))) (Cu (Cw "Reader" "read_test" 2 [] r_Reader_read_test (Cg 0) (aC (Cg 1) Ci))) C1)
  (Cj (Da (DA (Ck D.eq (Cg 2) (eC (.str "{")))) (Cu (Cw "Reader" "read_pick" 2 [] r_Reader_read_pick (Cg 0) (aC (Cg 1) Ci))) C1)
  (Cu (WL (DA (Ck D.eq (Cg 2) (eC (.str "(")))) (Cw "Reader" "read_beside" 2 [] r_Reader_read_beside (Cg 0) (aC (Cg 1) Ci)) (Cw "Reader" "read_along" 2 [] r_Reader_read_along (Cg 0) (aC (Cg 1) Ci)))))))))))
abbrev rJ:List Str:=["self","bound","word"]
theorem rK:FnScope rJ ["self","bound"] (defScope aT):=⟨rfl,rfl,rfl,AC,rfl,AC,AC⟩
def Dx:Nat->Nat->List D->M D
 |0,_=>λ_=>M.bad
 |n+1,0=>Cv 6 (kg (Dx n 0) (Dx n 1) (Dx n 2) (Dx n 3) (Dx n 4) (Dx n 5) (Dx n 6) (Dx n 7))
 |n+1,1=>Cv 2 (kh (Dx n 0) (Dx n 1) (Dx n 2) (Dx n 3) (Dx n 4) (Dx n 5) (Dx n 6) (Dx n 7))
 |n+1,2=>Cv 3 (ki (Dx n 0) (Dx n 1) (Dx n 2) (Dx n 3) (Dx n 4) (Dx n 5) (Dx n 6) (Dx n 7))
 |n+1,3=>Cv 5 (kj (Dx n 0) (Dx n 1) (Dx n 2) (Dx n 3) (Dx n 4) (Dx n 5) (Dx n 6) (Dx n 7))
 |n+1,4=>Cv 2 (kl (Dx n 0) (Dx n 1) (Dx n 2) (Dx n 3) (Dx n 4) (Dx n 5) (Dx n 6) (Dx n 7))
 |n+1,5=>Cv 2 (km (Dx n 0) (Dx n 1) (Dx n 2) (Dx n 3) (Dx n 4) (Dx n 5) (Dx n 6) (Dx n 7))
 |n+1,6=>Cv 6 (cz (Dx n 0) (Dx n 1) (Dx n 2) (Dx n 3) (Dx n 4) (Dx n 5) (Dx n 6) (Dx n 7))
 |n+1,_=>Cv 3 (Rj (Dx n 0) (Dx n 1) (Dx n 2) (Dx n 3) (Dx n 4) (Dx n 5) (Dx n 6) (Dx n 7))
abbrev Hz (n:Nat):List D->M D:=Dx n 0
abbrev IQ (n:Nat):List D->M D:=Dx n 1
abbrev IR (n:Nat):List D->M D:=Dx n 2
abbrev IS (n:Nat):List D->M D:=Dx n 3
abbrev IT (n:Nat):List D->M D:=Dx n 4
abbrev IU (n:Nat):List D->M D:=Dx n 5
abbrev IA (n:Nat):List D->M D:=Dx n 6
abbrev Ff (n:Nat):List D->M D:=Dx n 7
def ko:Mir.Env->M Fl:=
 (C5 (Cw "Reader" "need" 2 [] NP (Cg 0) (aC (Ck D.eq (En "Reader" "at" (Cg 0)) (eB (d1 D.len) (aC (En "Reader" "words" (Cg 0)) Ci))) Ci)))
abbrev rL:List Str:=["self"]
theorem IV:FnScope rL ["self"] (defScope jf):=⟨rfl,rfl,rfl,AC,rfl,AC,AC⟩
def oK:List D->M D:=Cv 1 ko
def kq:Mir.Env->M Fl:=
 (Cj (C3 1 (Cw "Reader" "next_word" 1 [] JZ (Cg 0) Ci))
  (Cj (C5 (Cw "Reader" "need" 2 [] NP (Cg 0) (aC (Cn 1 VD (aC (Cg 1) Ci)) Ci)))
  (Cj (ET "Reader" "at" (Cg 0) (eC (.int 1)))
  (Cj (C5 (Dc "Reader" "take" 0 1 2 [0] Ja (Cg 0) Ci (aC (eC (.str "<")) Ci)))
  (Cj (C3 2 (GP Ci))
  (Cj (K6 64 (DA (Ck D.ne (Cw "Reader" "next_word" 1 [] JZ (Cg 0) Ci) (eC (.str ">")))) (Cj (Da (DA (Ck D.ne (Cg 2) (EG Ci))) (Cj (C5 (Cw "Reader" "need" 2 [] NP (Cg 0) (aC (Ck D.lt (eB (d1 D.len) (aC (Cg 2) Ci)) (eC (.int 4))) Ci)))
  (C5 (Dc "Reader" "take" 0 1 2 [0] Ja (Cg 0) Ci (aC (eC (.str ",")) Ci)))) C1)
  (Cj (C5 (Cw "Reader" "need" 2 [] NP (Cg 0) (aC (Ck D.notIn (Cw "Reader" "next_word" 1 [] JZ (Cg 0) Ci) (Cg 2)) Ci)))
  (C5 (Gu (Cg 2) (Cw "Reader" "read_binder" 1 [] aY (Cg 0) Ci))))))
  (Cj (ET "Reader" "at" (Cg 0) (eC (.int 1)))
  (Cu (DS (aC (Cg 1) (aC (Cg 2) Ci)))))))))))
abbrev rM:List Str:=["self","name","words"]
theorem pW:FnScope rM ["self"] (defScope jg):=⟨rfl,rfl,rfl,AC,rfl,AC,AC⟩
def oL:List D->M D:=Cv 3 kq
def kr:Mir.Env->M Fl:=
 (Cj (Da (E7 (Ei (Eg (D.isT "str") (Cg 0)))) II C1)
  (Cj (C3 1 (EU "Reader" 3 [] oG (aC (Cn 1 GE (aC (Cg 0) Ci)) (aC (eC (.bl false)) Ci))))
  (Cj (FT (Cw "Reader" "read_heads" 1 [] oL (Cg 1) Ci) (KR 2 (Dr (Cq 2) (Dr (Cq 3) Di))))
  (Cj (E4 (DJ (DS (aC (eC (.str " ")) (aC (eC (.str "=")) (aC (eC (.str " ")) Ci))))) (Cq 4) (C5 (Dc "Reader" "take" 0 1 2 [0] Ja (Cg 1) Ci (aC (Cg 4) Ci))))
  (Cj (C3 5 (Cw "Reader" "read_term" 2 [] (Ff 60) (Cg 1) (aC (eB (d1 D.tupleX) (aC (Eg D.back (Cg 3)) Ci)) Ci)))
  (Cj (C5 (Cw "Reader" "read_end" 1 [] oK (Cg 1) Ci))
  (Cu (DS (aC (Cg 2) (aC (eB (d1 D.len) (aC (Cg 3) Ci)) (aC (Cg 5) Ci)))))))))))
abbrev rN:List Str:=["text","reader","name","words","word","body"]
theorem ku:FnScope rN ["text"] (defScope jh):=⟨rfl,rfl,rfl,AC,rfl,AC,AC⟩
def Yx:List D->M D:=Cv 6 kr
def HS:Mir.Env->M Fl:=
 (Cj (C3 2 (eC (.int 0)))
  (Cj (Da (DA (Ck D.lt (Cg 1) (eB (d1 D.len) (aC (Cg 0) Ci)))) (C3 2 (Ck D.ix (Cg 0) (Cg 1))) C1)
  (Cj (C3 3 (eB (d1 D.abs) (aC (Cg 2) Ci)))
  (Cj (Da (DA (Ck D.lt (Cg 3) (Ck D.pow (eC (.int 10)) (eC (.int 18))))) (C3 3 (eC (.int 0))) C1)
  (Cu (GP (aC (Cg 3) (aC (Ck D.add (Ck D.add (Ck D.mod (Cg 2) (eC (.int 1000000000000000003))) (Ck D.mul (eC (.int 104729)) (Cg 1))) (eC (.int 17))) (aC (eC (.int 0)) Ci)))))))))
abbrev To:List Str:=["_law_script","_law_at","_law_cell","_law_great"]
theorem HA:FnScope To ["_law_script","_law_at"] (defScope HQ):=⟨rfl,rfl,rfl,AC,rfl,AC,AC⟩
def aZ:List D->M D:=Cv 4 HS
def gZ:Mir.Env->M Fl:=
 (Cj (Da (DA (Ck D.gt (Ck D.ix (Cg 0) (eC (.int 0))) (eC (.int 0)))) (Cj (C3 2 (Ck D.mod (Ck D.ix (Cg 0) (eC (.int 0))) (Cg 1)))
  (Cj (FT (Ck D.fdiv (Ck D.ix (Cg 0) (eC (.int 0))) (Cg 1)) (fF (Cg 0) (eC (.int 0))))
  (Cu (Cg 2)))) C1)
  (Cj (C3 3 (DS (aC (eC (.int 2147483629)) (aC (eC (.int 2147483587)) (aC (eC (.int 2147483579)) (aC (eC (.int 2147483563)) (aC (eC (.int 2147483549)) (aC (eC (.int 2147483543)) (aC (eC (.int 2147483497)) Ci)))))))))
  (Cj (FT (Ck D.add (Ck D.ix (Cg 0) (eC (.int 2))) (eC (.int 1))) (fF (Cg 0) (eC (.int 2))))
  (Cj (C3 4 (Ck D.ix (Cg 0) (eC (.int 2))))
  (Cj (C3 5 (Ck D.add (Ck D.add (Ck D.mul (Ck D.ix (Cg 0) (eC (.int 1))) (Ck D.add (Ck D.mul (eC (.int 2)) (Cg 4)) (eC (.int 1)))) (Ck D.mul (Ck D.mul (eC (.int 7919)) (Cg 4)) (Cg 4))) (eC (.int 29))))
  (Cj (C3 6 (Ck D.mod (Ck D.powB (Cg 5) (eC (.int 3))) (Ck D.ix (Cg 3) (Ck D.mod (Cg 4) (eC (.int 7))))))
  (Cu (Ck D.mod (Ck D.fdiv (Ck D.mod (Ck D.mul (Cg 6) (Ck D.add (Ck D.fdiv (Cg 6) (eC (.int 4096))) (Cg 4))) (Ck D.ix (Cg 3) (Ck D.mod (Ck D.add (Cg 4) (eC (.int 3))) (eC (.int 7))))) (eC (.int 16))) (Cg 1)))))))))
abbrev QE:List Str:=["_law_bag_here","_law_many","_law_digit","_law_primes","_law_step","_law_base","_law_mixed"]
theorem kx:FnScope QE ["_law_bag_here","_law_many"] (defScope Fc):=⟨rfl,rfl,rfl,AC,rfl,AC,AC⟩
def FB:List D->M D:=Cv 7 gZ
def Fg (r_l_body:List D->M D):Mir.Env->M Fl:=
 (Cj (FT (Ck D.sub (Ck D.ix (Cg 3) (eC (.int 0))) (eC (.int 1))) (fF (Cg 3) (eC (.int 0))))
  (Cj (C3 5 (WL (MR (DA (Ck D.gt (Cg 2) (eC (.int 1)))) (DA (Ck D.gt (Ck D.ix (Cg 3) (eC (.int 0))) (eC (.int 0))))) (Cn 2 FB (aC (Cg 0) (aC (eC (.int 16)) Ci))) (eC (.int 0))))
  (Cj (Da (MR (DA (Ck D.eq (Cg 1) (eC (.int 0)))) (DA (Ck D.isIn (Cg 5) (DS (aC (eC (.int 5)) (aC (eC (.int 6)) (aC (eC (.int 7)) (aC (eC (.int 8)) (aC (eC (.int 9)) (aC (eC (.int 10)) (aC (eC (.int 15)) Ci))))))))))) (C3 5 (eC (.int 3))) C1)
  (Cj (Da (DA (Ck D.lt (Cg 5) (eC (.int 2)))) (Cu (DS (aC (eC (.str "stop")) Ci))) C1)
  (Cj (Da (Dg (DA (Ck D.eq (Cg 5) (eC (.int 2)))) (DA (Ck D.eq (Cg 5) (eC (.int 14))))) (Cj (OD 6 7 (aC (Ck D.ix (EG (aC (eC (.str "A")) (aC (eC (.str "B")) (aC (eC (.str "Ring")) (aC (eC (.str "Zed")) Ci))))) (Cn 2 FB (aC (Cg 0) (aC (eC (.int 4)) Ci)))) (aC (Ck D.mul (Cn 2 FB (aC (Cg 0) (aC (eC (.int 5)) Ci))) (eB (d1 D.toInt) (aC (Ck D.gt (Cg 1) (eC (.int 0))) Ci))) Ci)))
  (Cj (Da (DA (Ck D.gt (eB (d1 D.len) (aC (Cg 3) Ci)) (eC (.int 1)))) (C3 7 (Ck D.ix (Ck D.ix (Cg 3) (eC (.int 1))) (Cg 6))) C1)
  (Cj (Da (Dg (DA (Ck D.ne (Cg 4) (eC (.int 1)))) (MR (DA (Ck D.gt (Cg 7) (eC (.int 0)))) (DA (Ck D.eq (Cg 1) (eC (.int 0)))))) (Cu (DS (aC (eC (.str "tick")) (aC (Cn 5 r_l_body (aC (Cg 0) (aC (Cg 1) (aC (Ck D.sub (Cg 2) (eC (.int 1))) (aC (Cg 3) (aC (eB (d2 D.max2) (aC (Cg 4) (aC (eC (.int 1)) Ci))) Ci)))))) Ci)))) C1)
  (Cu (DS (aC (eC (.str "call")) (aC (Cg 6) (aC (eB (d1 D.tuple) (aC (E1 (Kg (Cg 7)) (Cq 8) DD (Cn 2 FB (aC (Cg 0) (aC (Cg 1) Ci))) [8]) Ci)) Ci)))))))) C1)
  (Cj (Da (DA (Ck D.lt (Cg 5) (eC (.int 5)))) (Cu (DS (aC (eC (.str "tick")) (aC (Cn 5 r_l_body (aC (Cg 0) (aC (Cg 1) (aC (Ck D.sub (Cg 2) (eC (.int 1))) (aC (Cg 3) (aC (eB (d2 D.max2) (aC (Cg 4) (aC (eC (.int 1)) Ci))) Ci)))))) Ci)))) C1)
  (Cj (Da (DA (Ck D.lt (Cg 5) (eC (.int 7)))) (Cj (OD 9 10 (aC (Cn 2 FB (aC (Cg 0) (aC (Cg 1) Ci))) (aC (Cn 2 FB (aC (Cg 0) (aC (Cg 1) Ci))) Ci)))
  (Cu (DS (aC (eC (.str "send")) (aC (Cg 9) (aC (Cg 10) (aC (Cn 5 r_l_body (aC (Cg 0) (aC (Cg 1) (aC (Ck D.sub (Cg 2) (eC (.int 1))) (aC (Cg 3) (aC (eB (d2 D.max2) (aC (Cg 4) (aC (eC (.int 1)) Ci))) Ci)))))) Ci))))))) C1)
  (Cj (Da (Dg (DA (Ck D.lt (Cg 5) (eC (.int 9)))) (DA (Ck D.eq (Cg 5) (eC (.int 15))))) (Cu (DS (aC (eC (.str "hear")) (aC (Cn 2 FB (aC (Cg 0) (aC (Cg 1) Ci))) (aC (Cn 5 r_l_body (aC (Cg 0) (aC (Ck D.add (Cg 1) (eC (.int 1))) (aC (Ck D.sub (Cg 2) (eC (.int 1))) (aC (Cg 3) (aC (eB (d2 D.max2) (aC (Cg 4) (aC (eC (.int 1)) Ci))) Ci)))))) Ci))))) C1)
  (Cj (Da (DA (Ck D.lt (Cg 5) (eC (.int 11)))) (Cj (OD 9 10 (aC (Cn 2 FB (aC (Cg 0) (aC (Cg 1) Ci))) (aC (Cn 2 FB (aC (Cg 0) (aC (Cg 1) Ci))) Ci)))
  (Cu (DS (aC (Ck D.ix (EG (aC (eC (.str "if")) (aC (eC (.str "unless")) Ci))) (Ck D.sub (Cg 5) (eC (.int 9)))) (aC (Cg 9) (aC (Cg 10) (aC (Cn 5 r_l_body (aC (Cg 0) (aC (Cg 1) (aC (Ck D.sub (Cg 2) (eC (.int 1))) (aC (Cg 3) (aC (Cg 4) Ci)))))) Ci))))))) C1)
  (Cj (Da (DA (Ck D.eq (Cg 5) (eC (.int 11)))) (Cu (DS (aC (eC (.str "new")) (aC (Cn 5 r_l_body (aC (Cg 0) (aC (Ck D.add (Cg 1) (eC (.int 1))) (aC (Ck D.sub (Cg 2) (eC (.int 1))) (aC (Cg 3) (aC (Cg 4) Ci)))))) Ci)))) C1)
  (Cj (C3 11 (GP Ci))
  (Cj (E4 (Kg (Ck D.ix (EG (aC (Cn 2 FB (aC (Cg 0) (aC (eC (.int 4)) Ci))) (aC (eC (.int 6)) Ci))) (eB (d1 D.toInt) (aC (Ck D.eq (Cn 2 FB (aC (Cg 0) (aC (eC (.int 8)) Ci))) (eC (.int 7))) Ci)))) (Cq 8) (Da (DA (Ck D.gt (Ck D.ix (Cg 3) (eC (.int 0))) (eC (.int 0)))) (C5 (Gu (Cg 11) (Cn 5 r_l_body (aC (Cg 0) (aC (Cg 1) (aC (Ck D.sub (Cg 2) (eC (.int 1))) (aC (Cg 3) (aC (Ck D.ix (EG (aC (Cg 4) (aC (eC (.int 2)) Ci))) (Ck D.mod (Cg 5) (eC (.int 2)))) Ci)))))))) C1))
  (Cu (DS (aC (Ck D.ix (EG (aC (eC (.str "pick")) (aC (eC (.str "beside")) Ci))) (Ck D.mod (Cg 5) (eC (.int 2)))) (aC (eB (d1 D.tuple) (aC (Cg 11) Ci)) Ci))))))))))))))))
abbrev Lm:List Str:=["_law_bag_here","_law_wide","_law_deep","_law_room","_law_stand","_law_way","_law_name","_law_many","_law_k","_law_one","_law_other","_law_parts"]
theorem Xj:FnScope Lm ["_law_bag_here","_law_wide","_law_deep","_law_room","_law_stand"] (defScope Yv):=⟨rfl,rfl,rfl,AC,rfl,AC,AC⟩
def Ln:Nat->Nat->List D->M D
 |0,_=>λ_=>M.bad
 |n+1,_=>Cv 12 (Fg (Ln n 0))
abbrev NQ (n:Nat):List D->M D:=Ln n 0
def ky:Mir.Env->M Fl:=
 (Cj (C3 1 (Cn 2 FB (aC (Cg 0) (aC (eC (.int 5)) Ci))))
  (Cj (C3 2 (GP (aC (Ck D.ix (EG (aC (eC (.int 4)) (aC (eC (.int 12)) (aC (eC (.int 40)) Ci)))) (Cn 2 FB (aC (Cg 0) (aC (eC (.int 3)) Ci)))) Ci)))
  (Cj (C3 3 (Cn 5 (NQ 14) (aC (Cg 0) (aC (Cg 1) (aC (Ck D.ix (EG (aC (eC (.int 3)) (aC (eC (.int 6)) (aC (eC (.int 11)) Ci)))) (Cn 2 FB (aC (Cg 0) (aC (eC (.int 3)) Ci)))) (aC (Cg 2) (aC (eC (.int 0)) Ci)))))))
  (Cu (DS (aC (Ck D.ix (EG (aC (eC (.str "A")) (aC (eC (.str "B")) (aC (eC (.str "Ring")) (aC (eC (.str "Zed")) Ci))))) (Cn 2 FB (aC (Cg 0) (aC (eC (.int 4)) Ci)))) (aC (Cg 1) (aC (Cg 3) Ci))))))))
abbrev JK:List Str:=["_law_bag_here","_law_many","_law_room","_law_body_here"]
theorem oM:FnScope JK ["_law_bag_here"] (defScope ji):=⟨rfl,rfl,rfl,AC,rfl,AC,AC⟩
def dA:List D->M D:=Cv 4 ky
def kz:Mir.Env->M Fl:=
 (Cj (C3 2 (eB (d1 D.listH) (aC (Cg 1) Ci)))
  (Cj (C3 3 (GP Ci))
  (Cj (E4 (Kg (eB (d1 D.len) (aC (Cg 1) Ci))) (Cq 4) (C5 (Gu (Cg 3) (Wp (Cg 2) (Cn 2 FB (aC (Cg 0) (aC (eB (d1 D.len) (aC (Cg 2) Ci)) Ci)))))))
  (Cu (Cg 3)))))
abbrev Lo:List Str:=["_law_bag_here","_law_some","_law_left","_law_found","_law_turn"]
theorem oN:FnScope Lo ["_law_bag_here","_law_some"] (defScope jj):=⟨rfl,rfl,rfl,AC,rfl,AC,AC⟩
def Ma:List D->M D:=Cv 5 kz
def NR:Mir.Env->M Fl:=
 (Cj (E4 (Kg (eB (d2 D.max2) (aC (eC (.int 2)) (aC (eB (d2 D.min2) (aC (eC (.int 6)) (aC (eB (d1 D.len) (aC (Cg 0) Ci)) Ci))) Ci)))) (Cq 1) (Cj (C3 2 (Cn 2 aZ (aC (Cg 0) (aC (Cg 1) Ci))))
  (Cj (C3 3 (EU "Book" 2 [.tup []] Ka Ci))
  (Cj (E4 (Kg (Cn 2 FB (aC (Cg 2) (aC (eC (.int 6)) Ci)))) (Cq 4) (Cj (FT (Cn 1 dA (aC (Cg 2) Ci)) (KR 3 (Dr (Cq 5) (Dr (Cq 6) (Dr (Cq 7) Di)))))
  (C5 (Cw "Book" "put" 4 [] PB (Cg 3) (aC (Cg 5) (aC (Cg 6) (aC (Cg 7) Ci)))))))
  (Cj (C3 8 (E1 (DJ (Nn D.split (eB (d1 (D.strO "Book" Lh)) (aC (Cg 3) Ci)) (eC (.str "\n")))) (Cq 9) (DA (Ck D.ne (Cg 9) (eC (.str "")))) (Cg 9) [9]))
  (Cj (C3 10 (E1 (DJ (Cg 8)) (Cq 11) DD (Cn 1 Yx (aC (Cg 11) Ci)) [11]))
  (Cj (Da (Dg (DA (Ck D.ne (E1 (DJ (Cg 10)) (Cq 9) DD (Ck D.ix (Cg 9) (eC (.int 0))) [9]) (Cw "Book" "names" 1 [] cy (Cg 3) Ci))) (DA (Ck D.ne (eB (d1 D.len) (aC (Cg 8) Ci)) (eB (d1 (D.lenO "Book" Rh)) (aC (Cg 3) Ci))))) (Cu (eC (.bl false))) C1)
  (Cj (Da (DA (Ck D.ne (E1 (DJ (Cg 10)) (Cq 9) DD (Ck D.add (DS (aC (Ck D.ix (Cg 9) (eC (.int 0))) Ci)) (Cw "Book" "get" 2 [] aX (Cg 3) (aC (Ck D.ix (Cg 9) (eC (.int 0))) Ci))) [9]) (Cg 10))) (Cu (eC (.bl false))) C1)
  (Cj (Da (DA (Ck D.ne (E1 (DJ (Cg 10)) (KR 3 (Dr (Cq 5) (Dr (Cq 6) (Dr (Cq 7) Di)))) DD (Cn 3 VF (aC (Cg 5) (aC (Cg 6) (aC (Cg 7) Ci)))) [5,6,7]) (Cg 8))) (Cu (eC (.bl false))) C1)
  (Cj (C3 12 (EU "Book" 2 [] Ka (aC (eB (d1 D.tuple) (aC (Cn 2 Ma (aC (Cg 2) (aC (Cg 10) Ci))) Ci)) Ci)))
  (Cj (Da (Dg (DA (Ck (D.neO "Book" KL) (Cg 12) (Cg 3))) (Dg (E7 (DA (Ck (D.eqO "Book" KL) (Cg 12) (Cg 3)))) (DA (Ck D.ne (eB (d1 (D.strO "Book" Lh)) (aC (Cg 12) Ci)) (eB (d1 (D.strO "Book" Lh)) (aC (Cg 3) Ci)))))) (Cu (eC (.bl false))) C1)
  (E4 (Kg (eC (.int 2))) (Cq 4) (Cj (C3 13 (FN "Book" 0 1 2 [0] Ka Ci (aC (eB (d1 D.tuple) (aC (Ej (Cn 2 Ma (aC (Cg 2) (aC (Cg 10) Ci))) (GR (eC (.int 1))) GQ) Ci)) Ci)))
  (Cj (Da (Dg (MR (DA (Ck D.ne (Cg 10) (EG Ci))) (DA (Ck (D.eqO "Book" KL) (Cg 13) (Cg 3)))) (DA (Ck D.ne (eB (d1 (D.lenO "Book" Rh)) (aC (Cg 13) Ci)) (eB (d2 D.max2) (aC (eC (.int 0)) (aC (Ck D.sub (eB (d1 D.len) (aC (Cg 10) Ci)) (eC (.int 1))) Ci)))))) (Cu (eC (.bl false))) C1)
  (Cj (Iz (DJ (Cn 2 Ma (aC (Cg 2) (aC (Cg 10) Ci)))) (KR 3 (Dr (Cq 5) (Dr (Cq 6) (Dr (Cq 7) Di)))) (C5 (Cw "Book" "put" 4 [] PB (Cg 13) (aC (Cg 5) (aC (Cg 6) (aC (Cg 7) Ci))))))
  (Da (Dg (DA (Ck (D.neO "Book" KL) (Cg 13) (Cg 3))) (DA (Ck D.ne (eB (d1 (D.reprO "Book" Ri)) (aC (Cg 13) Ci)) (eB (d1 (D.reprO "Book" Ri)) (aC (Cg 3) Ci))))) (Cu (eC (.bl false))) C1))))))))))))))))
  (Cu (eC (.bl true))))
abbrev Lp:List Str:=["_law_script","_law_at","_law_bag_here","_law_book","_law_turn","_law_name","_law_many","_law_body_here","_law_texts","_law_row","_law_kept_rows","_law_text","_law_other","_law_third"]
theorem DU:FnScope Lp ["_law_script"] (defScope FA):=⟨rfl,rfl,rfl,AC,rfl,AC,AC⟩
def NS:List D->M D:=Cv 14 NR
end
structure Tx (K:PySem.W.Frag) (F:Nm) (w:World) (mg:Str->Option Value) (C_Book:Addr) (C_Reader:Addr):Prop where
 c_Book:ClsD K F "Book" C_Book
 m_Book:mg "Book"=some (.ref C_Book)
 c_Reader:ClsD K F "Reader" C_Reader
 m_Reader:mg "Reader"=some (.ref C_Reader)
 n_Book_kept:NoAttr K C_Book "kept"
 n_Reader_at:NoAttr K C_Reader "at"
 n_Reader_names_stand:NoAttr K C_Reader "names_stand"
 n_Reader_words:NoAttr K C_Reader "words"
 o_Book:OwnD K C_Book
 w_beside_text:∀v f,F "beside_text"=some v->mg "beside_text"=some (.ref f)->v=V.ref f
 w_call_text:∀v f,F "call_text"=some v->mg "call_text"=some (.ref f)->v=V.ref f
 w_hear_text:∀v f,F "hear_text"=some v->mg "hear_text"=some (.ref f)->v=V.ref f
 w_new_text:∀v f,F "new_text"=some v->mg "new_text"=some (.ref f)->v=V.ref f
 w_pick_text:∀v f,F "pick_text"=some v->mg "pick_text"=some (.ref f)->v=V.ref f
 w_send_text:∀v f,F "send_text"=some v->mg "send_text"=some (.ref f)->v=V.ref f
 w_stop_text:∀v f,F "stop_text"=some v->mg "stop_text"=some (.ref f)->v=V.ref f
 w_test_text:∀v f,F "test_text"=some v->mg "test_text"=some (.ref f)->v=V.ref f
 w_tick_text:∀v f,F "tick_text"=some v->mg "tick_text"=some (.ref f)->v=V.ref f
 b_KeyError:mg "KeyError"=none
 b_abs:mg "abs"=none
 b_all:mg "all"=none
 b_any:mg "any"=none
 b_bool:mg "bool"=none
 b_int:mg "int"=none
 b_isinstance:mg "isinstance"=none
 b_len:mg "len"=none
 b_list:mg "list"=none
 b_max:mg "max"=none
 b_min:mg "min"=none
 b_range:mg "range"=none
 b_repr:mg "repr"=none
 b_sorted:mg "sorted"=none
 b_str:mg "str"=none
 b_tuple:mg "tuple"=none
 g_BINDERS:SZ K F mg "BINDERS" (.tup [.str "hear",.str "new"])
 g_CAPITALS:SZ K F mg "CAPITALS" (.str "ABCDEFGHIJKLMNOPQRSTUVWXYZ")
 g_FIGURES:SZ K F mg "FIGURES" (.str "0123456789")
 g_FRESH:SZ K F mg "FRESH" (.str "f")
 g_GUARDS:SZ K F mg "GUARDS" (.tup [.str "tick",.str "send",.str "hear"])
 g_LETTERS:SZ K F mg "LETTERS" (.str "abcdefghijklmnopqrstuvwxyz")
 g_LISTS:SZ K F mg "LISTS" (.tup [.str "pick",.str "beside"])
 g_MOST_FIGURES:SZ K F mg "MOST_FIGURES" (.int 2)
 g_MOST_LETTERS:SZ K F mg "MOST_LETTERS" (.int 6)
 g_MOST_MARKS:SZ K F mg "MOST_MARKS" (.int 4)
 g_MOST_PARAMETERS:SZ K F mg "MOST_PARAMETERS" (.int 4)
 g_RUNNING:SZ K F mg "RUNNING" (.str "abcdefghijklmnopqrstuvwxyzABCDEFGHIJKLMNOPQRSTUVWXYZ0123456789")
 d_MARKS:TabD K F w mg "MARKS" [("tick",.int 0),("send",.int 2),("hear",.int 1),("if",.int 2),("unless",.int 2),("new",.int 0)]
 d_WRITERS:TabD K F w mg "WRITERS" [("stop",.nam "stop_text"),("tick",.nam "tick_text"),("send",.nam "send_text"),("hear",.nam "hear_text"),("if",.nam "test_text"),("unless",.nam "test_text"),("pick",.nam "pick_text"),("beside",.nam "beside_text"),("new",.nam "new_text"),("call",.nam "call_text")]
section
variable {tq_Book___init___rows:Addr}
variable {P:Program} {w:World} {K:PySem.W.Frag} {mg:Str->Option Value} {base:Heap} {F:Nm} {C_Book:Addr} {C_Reader:Addr}
theorem QF {f:Addr} {fd:FuncData} (FF:Fun K "is_whole" "is_whole" jI f fd) (T:Tx K F w mg C_Book C_Reader):FnOk P w K mg base CX0 1 f fd ["thing"] (DO K F 1 (Cv 1 jk)):=
 C2 (N:=LZ) (body:=jk) FF QB λcdv A outer s H E hr=>by
  unfold jk;exact(DN (Ct (FW (GT "int" T.b_isinstance T.b_int (xV 0)) (EK (mE (GT "bool" T.b_isinstance T.b_bool (xV 0)))))))
theorem OT {f:Addr} {fd:FuncData} (FF:Fun K "are_signs" "are_signs" gQ f fd) (T:Tx K F w mg C_Book C_Reader):FnOk P w K mg base CX0 1 f fd ["text","signs"] (DO K F 2 (Cv 3 jo)):=
 C2 (N:=G2) (body:=jo) FF Fz λcdv A outer s H E hr=>by
  unfold jo;exact(DN (Ct (ES b_all T.b_all (Cp (KU [("sign",2)] Fz.nd (Ds (xV 0)) ⟨λ_ _ _ _ _=>(EF (is:=[2]) 2 Fz.nd),λ_ _ _ _ _=>Dj,λ_ _ _ _ _=>(EB (Jf (FJ hr)) (xV 2) (xV 1)),λ_ h=>h⟩ (by show blkC G2 (defScope gQ) _ _=true;decide+kernel)) Cy))))
theorem Lq {f:Addr} {fd:FuncData} (FF:FunD K "are_letters" "are_letters" (defArgs Q1) (defBody Q1) (defScope Q1) [] [("most",(.int 6))] f fd) (T:Tx K F w mg C_Book C_Reader) (c_are_signs:Fn P w K mg base F 1 "are_signs" 2 [] jq):FnOk P w K mg base CX0 2 f fd ["text","most"] (DO K F 2 (Cv 2 cj)):=
 Nl (N:=Hr) (body:=cj) FF La λcdv A outer s H E hr=>by
  unfold cj;exact(DN (Ct (FW (Sb RD RD C6 (ES b_len T.b_len (Cp (xV 0) Cy)) (xV 1)) (EK (Dt c_are_signs hr (Cp (xV 0) (Cp (D7 T.g_LETTERS) Cy)))))))
theorem JL {f:Addr} {fd:FuncData} (FF:Fun K "is_number_text" "is_number_text" jJ f fd) (T:Tx K F w mg C_Book C_Reader) (c_are_signs:Fn P w K mg base F 1 "are_signs" 2 [] jq):FnOk P w K mg base CX0 2 f fd ["text"] (DO K F 1 (Cv 1 jr)):=
 C2 (N:=Fd) (body:=jr) FF JF λcdv A outer s H E hr=>by
  unfold jr;exact(DC (DW (MS (Nr (Eu (Nq RD RD C6 (ES b_len T.b_len (Cp (xV 0) Cy)) (D7 T.g_MOST_FIGURES))) (Ik (Eu (EC (Dt c_are_signs hr (Cp (xV 0) (Cp (D7 T.g_FIGURES) Cy)))))))) (DN (Ct GY)) Cz)
   (DN (Ct (RE (EB (EH hr.units) (xV 0) Cr) (EK (EB (FV hr.units) (DX (xV 0) C6) Cr))))))
theorem Rk {f:Addr} {fd:FuncData} (FF:Fun K "is_name" "is_name" jK f fd) (T:Tx K F w mg C_Book C_Reader) (c_is_number_text:Fn P w K mg base F 2 "is_number_text" 1 [] js) (c_are_letters:Fn P w K mg base F 2 "are_letters" 2 [.int 6] ck):FnOk P w K mg base CX0 3 f fd ["thing"] (DO K F 1 (Cv 1 cq)):=
 C2 (N:=NM) (body:=cq) FF Re λcdv A outer s H E hr=>by
  unfold cq;exact(DC (DW (Eu (EC (GT "str" T.b_isinstance T.b_str (xV 0)))) (DN (Ct GY)) Cz)
   (DN (Ct (RE (ZW c_are_letters hr (Cp (xV 0) Cy)) (EK (FW (Im (xV 0) (D7 T.g_FRESH)) (EK (Dt c_is_number_text hr (Cp (Il (xV 0) (K9 C6) K8) Cy)))))))))
theorem Gb {f:Addr} {fd:FuncData} (FF:Fun K "is_definition_name" "is_definition_name" jL f fd) (T:Tx K F w mg C_Book C_Reader) (ck_are_letters_most:FnK P w K mg base F 2 "are_letters" 1 ["most"] 2 ck):FnOk P w K mg base CX0 3 f fd ["thing"] (DO K F 1 (Cv 1 jt)):=
 C2 (N:=qm) (body:=jt) FF GZ λcdv A outer s H E hr=>by
  unfold jt;exact(DC (DW (MS (Nr (Eu (EC (GT "str" T.b_isinstance T.b_str (xV 0)))) (Nr (C0 (EH hr.units) (xV 0) Cr) (Ik (C0 (Np (FJ hr)) (DX (xV 0) C6) (D7 T.g_CAPITALS)))))) (DN (Ct GY)) Cz)
   (DN (Ct (RE (EB (EH hr.units) (ES b_len T.b_len (Cp (xV 0) Cy)) C6) (EK (Fx ck_are_letters_most hr (Cp (Il (xV 0) (K9 C6) K8) Cy) (DZ (FU (D7 T.g_MOST_LETTERS) C6) D4)))))))
theorem Rl {f:Addr} {fd:FuncData} (FF:Fun K "is_mark" "is_mark" jM f fd) (T:Tx K F w mg C_Book C_Reader) (c_is_whole:Fn P w K mg base F 1 "is_whole" 1 [] jm) (c_is_name:Fn P w K mg base F 3 "is_name" 1 [] aU):FnOk P w K mg base CX0 4 f fd ["thing","binders"] (DO K F 2 (Cv 2 ju)):=
 C2 (N:=NN) (body:=ju) FF Rf λcdv A outer s H E hr=>by
  unfold ju;exact(DN (Ct (RE (Dt c_is_name hr (Cp (xV 0) Cy)) (EK (FW (Dt c_is_whole hr (Cp (xV 0) Cy)) (EK (Sb RD KS C6 (xV 0) (xV 1))))))))
theorem OU {f:Addr} {fd:FuncData} (FF:Fun K "are_marks" "are_marks" gR f fd) (T:Tx K F w mg C_Book C_Reader) (c_is_mark:Fn P w K mg base F 4 "is_mark" 2 [] aV):FnOk P w K mg base CX0 5 f fd ["thing","binders"] (DO K F 2 (Cv 3 jv)):=
 C2 (N:=G3) (body:=jv) FF GA λcdv A outer s H E hr=>by
  unfold jv;exact(DC (DW (MS (Nr (Eu (EC (GT "tuple" T.b_isinstance T.b_tuple (xV 0)))) (Ik (C0 PV (ES b_len T.b_len (Cp (xV 0) Cy)) (D7 T.g_MOST_MARKS))))) (DN (Ct GY)) Cz)
   (DN (Ct (ES b_all T.b_all (Cp (KU [("mark",2)] GA.nd (Ds (xV 0)) ⟨λ_ _ _ _ _=>(EF (is:=[2]) 2 GA.nd),λ_ _ _ _ _=>Dj,λ_ _ _ _ _=>(Dt c_is_mark hr (Cp (xV 2) (Cp (xV 1) Cy))),λ_ h=>h⟩ (by show blkC G3 (defScope gR) _ _=true;decide+kernel)) Cy)))))
theorem OV {f:Addr} {fd:FuncData} {n:Nat} (FF:Fun K "are_parts" "are_parts" Yr f fd) (T:Tx K F w mg C_Book C_Reader) (ck_is_term_binders:FnK P w K mg base F (5+n) "is_term" 1 ["binders"] 2 (KZ n)):FnOk P w K mg base CX0 (5+n+1) f fd ["thing","binders"] (DO K F 2 (Cv 3 (jx (VE n) (KZ n)))):=
 C2 (N:=G4) (body:=(jx (VE n) (KZ n))) FF GB λcdv A outer s H E hr=>by
  unfold jx;exact(DN (Ct (FW (GT "tuple" T.b_isinstance T.b_tuple (xV 0)) (EK (ES b_all T.b_all (Cp (KU [("part",2)] GB.nd (Ds (xV 0)) ⟨λ_ _ _ _ _=>(EF (is:=[2]) 2 GB.nd),λ_ _ _ _ _=>Dj,λ_ _ _ _ _=>(Fx ck_is_term_binders hr (Cp (xV 2) Cy) (DZ (xV 1) D4) (hk:=by omega)),λ_ h=>h⟩ (by show blkC G4 (defScope Yr) _ _=true;decide+kernel)) Cy))))))
theorem Rm {f:Addr} {fd:FuncData} {n:Nat} (FF:FunD K "is_term" "is_term" (defArgs NL) (defBody NL) (defScope NL) [] [("binders",(.int 0))] f fd) (T:Tx K F w mg C_Book C_Reader) (c_is_mark:Fn P w K mg base F 4 "is_mark" 2 [] aV) (c_are_marks:Fn P w K mg base F 5 "are_marks" 2 [] jw) (c_is_definition_name:Fn P w K mg base F 3 "is_definition_name" 1 [] VD) (c_are_parts:Fn P w K mg base F (5+n) "are_parts" 2 [] (VE n)) (ck_is_term_binders:FnK P w K mg base F (5+n) "is_term" 1 ["binders"] 2 (KZ n)):FnOk P w K mg base CX0 (5+n+1) f fd ["thing","binders"] (DO K F 2 (Cv 7 (jy (VE n) (KZ n)))):=
 Nl (N:=Jr) (body:=(jy (VE n) (KZ n))) FF gV λcdv A outer s H E hr=>by
  unfold jy;exact(DC (DW (MS (Nr (Eu (EC (GT "tuple" T.b_isinstance T.b_tuple (xV 0)))) (Nr (C0 (EH hr.units) (xV 0) (DT Cy)) (Ik (Eu (EC (GT "str" T.b_isinstance T.b_str (DX (xV 0) C6)))))))) (DN (Ct GY)) Cz)
   (DC (GU (xV 0) (RM (i:=1) (IE (EF (is:=[2,3]) 2 gV.nd) (N6 (EF (is:=[2,3]) 3 gV.nd) (Ek (is:=[2,3]))))))
   (DC (DW (C0 (EH hr.units) (xV 2) Cr) (DN (Ct (EB (EH hr.units) (xV 3) (E5 Cy)))) Cz)
   (DC (DW (C0 (Jf (FJ hr)) (xV 2) (D7 T.g_LISTS)) (DN (Ct (FW (EB (EH hr.units) (ES b_len T.b_len (Cp (xV 3) Cy)) C6) (EK (Dt c_are_parts hr (Cp (DX (xV 3) C6) (Cp (xV 1) Cy)) (hk:=by omega)))))) Cz)
   (DC (DW (C0 (EH hr.units) (xV 2) Cr) (DN (Ct (FW (EB (EH hr.units) (ES b_len T.b_len (Cp (xV 3) Cy)) C6) (FW (Dt c_is_definition_name hr (Cp (DX (xV 3) C6) Cy) (hk:=by omega)) (EK (Dt c_are_marks hr (Cp (DX (xV 3) C6) (Cp (xV 1) Cy)) (hk:=by omega))))))) Cz)
   (DC (DW (MS (Nr (RP T.d_MARKS (xV 2)) (Ik (C0 (FV hr.units) (ES b_len T.b_len (Cp (xV 3) Cy)) (Ec (S9 T.d_MARKS (xV 2)) C6))))) (DN (Ct GY)) Cz)
   (DC (GU (xV 3) (RM (i:=0) (N6 (EF (is:=[5,4]) 4 gV.nd) (IE (EF (is:=[5,4]) 5 gV.nd) (Ek (is:=[5,4]))))))
   (DN (Ct (FW (ES b_all T.b_all (Cp (KU [("mark",6)] gV.nd (Ds (xV 4)) ⟨λ_ _ _ _ _=>(EF (is:=[6]) 6 gV.nd),λ_ _ _ _ _=>Dj,λ_ _ _ _ _=>(Dt c_is_mark hr (Cp (xV 6) (Cp (xV 1) Cy)) (hk:=by omega)),λ_ h=>h⟩ (by show blkC Jr (defScope NL) _ _=true;decide+kernel)) Cy)) (EK (Fx ck_is_term_binders hr (Cp (xV 5) Cy) (DZ (Ec (xV 1) (ES b_int T.b_int (Cp (EB (Jf (FJ hr)) (xV 2) (D7 T.g_BINDERS)) Cy))) D4) (hk:=by omega)))))))))))))
theorem QG {f:Addr} {fd:FuncData} {n:Nat} (FF:Fun K "marks_of" "marks_of" Xi f fd) (T:Tx K F w mg C_Book C_Reader) (c_marks_of:Fn P w K mg base F (0+n) "marks_of" 1 [] (O9 n)):FnOk P w K mg base CX0 (0+n+1) f fd ["term"] (DO K F 1 (Cv 6 (Vo (O9 n)))):=
 C2 (N:=GC) (body:=(Vo (O9 n))) FF aW λcdv A outer s H E hr=>by
  unfold Vo;exact(DC (GU (xV 0) (RM (i:=1) (IE (EF (is:=[1,2]) 1 aW.nd) (N6 (EF (is:=[1,2]) 2 aW.nd) (Ek (is:=[1,2]))))))
   (DC (DW (C0 (Jf (FJ hr)) (xV 1) (D7 T.g_LISTS)) (DN (Ct (Ww (vs1:=[4]) (is:=[3]) (is1:=[4]) [("part",3),("mark",4)] aW.nd (Ds (DX (xV 2) C6)) ⟨λ_ _ _ _ _=>(EF (is:=[3]) 3 aW.nd),λ_ _ _ _ _=>Dj,λ_ _ _ _ _=>(Ds (Dt c_marks_of hr (Cp (xV 3) Cy) (hk:=by omega))),λ_ _ _ _ _=>(EF (is:=[4]) 4 aW.nd),λ_ _ _ _ _=>Dj,λ_ _ _ _ _=>(xV 4),AB,AB,AB⟩ (by show blkC GC (defScope Xi) _ _=true;decide+kernel)))) Cz)
   (DC (DW (C0 (EH hr.units) (xV 1) Cr) (DN (Ct (ES b_list T.b_list (Cp (DX (xV 2) C6) Cy)))) Cz)
   (DN (Ct (Ww (vs1:=[4]) (is:=[5]) (is1:=[4]) [("thing",5),("mark",4)] aW.nd (Ds (xV 2)) ⟨λ_ _ _ _ _=>(EF (is:=[5]) 5 aW.nd),λ_ _ _ _ _=>Dj,λ_ _ _ _ _=>(Ds (PY (EC (GT "tuple" T.b_isinstance T.b_tuple (xV 5))) (Dt c_marks_of hr (Cp (xV 5) Cy) (hk:=by omega)) (E5 (Cp (xV 5) Cy)))),λ_ _ _ _ _=>(EF (is:=[4]) 4 aW.nd),λ_ _ _ _ _=>Dj,λ_ _ _ _ _=>(xV 4),AB,AB,AB⟩ (by show blkC GC (defScope Xi) _ _=true;decide+kernel)))))))
theorem QH {f:Addr} {fd:FuncData} (FF:FunD K "standing" "standing" (defArgs QA) (defBody QA) (defScope QA) [] [("binders",(.int 0))] f fd) (T:Tx K F w mg C_Book C_Reader) (c_marks_of:Fn P w K mg base F 40 "marks_of" 1 [] (O9 40)):FnOk P w K mg base CX0 41 f fd ["term","binders"] (DO K F 2 (Cv 3 j0)):=
 Nl (N:=IL) (body:=j0) FF G5 λcdv A outer s H E hr=>by
  unfold j0;exact(DN (Ct (ES b_tuple T.b_tuple (Cp (Wy T.b_sorted [("mark",2)] G5.nd (Ds (Dt c_marks_of hr (Cp (xV 0) Cy))) ⟨λ_ _ _ _ _=>(EF (is:=[2]) 2 G5.nd),λ_ _ _ _ _=>(WO (EC (GT "str" T.b_isinstance T.b_str (xV 2)))),λ_ _ _ _ _=>(xV 2),λ_ h=>h⟩ (by show blkC IL (defScope QA) _ _=true;decide+kernel)) Cy))))
theorem OW {f:Addr} {fd:FuncData} (FF:Fun K "mark_word" "mark_word" jN f fd) (T:Tx K F w mg C_Book C_Reader):FnOk P w K mg base CX0 1 f fd ["mark","deep"] (DO K F 2 (Cv 2 gW)):=
 C2 (N:=KC) (body:=gW) FF OO λcdv A outer s H E hr=>by
  unfold gW;exact(DN (Ct (PY (EC (GT "str" T.b_isinstance T.b_str (xV 0))) (xV 0) (WM (C9 Cr (C9 (D3 (FU (FU (xV 1) C6) (xV 0))) Gx))))))
theorem OY {f:Addr} {fd:FuncData} (FF:Fun K "stop_text" "stop_text" jO f fd) (T:Tx K F w mg C_Book C_Reader):FnOk P w K mg base CX0 1 f fd ["term","deep"] (DO K F 2 (Cv 2 oA)):=
 C2 (N:=KD) (body:=oA) FF OQ λcdv A outer s H E hr=>by
  unfold oA;exact(DN (Ct Cr))
theorem OZ {f:Addr} {fd:FuncData} (FF:Fun K "call_text" "call_text" gS f fd) (T:Tx K F w mg C_Book C_Reader) (c_mark_word:Fn P w K mg base F 1 "mark_word" 2 [] OP):FnOk P w K mg base CX0 2 f fd ["term","deep"] (DO K F 2 (Cv 6 j4)):=
 C2 (N:=G6) (body:=j4) FF j5 λcdv A outer s H E hr=>by
  unfold j4;exact(DC (GU (xV 0) (Io (IE (EF (is:=[2,3,4]) 2 j5.nd) (IE (EF (is:=[2,3,4]) 3 j5.nd) (IE (EF (is:=[2,3,4]) 4 j5.nd) (Ek (is:=[2,3,4])))))))
   (DN (Ct (WM (C9 (D3 (xV 3)) (C9 Cr (C9 (D3 (LA Cr (KU [("mark",5)] j5.nd (Ds (xV 4)) ⟨λ_ _ _ _ _=>(EF (is:=[5]) 5 j5.nd),λ_ _ _ _ _=>Dj,λ_ _ _ _ _=>(Dt c_mark_word hr (Cp (xV 5) (Cp (xV 1) Cy))),λ_ h=>h⟩ (by show blkC G6 (defScope gS) _ _=true;decide+kernel)))) (C9 Cr Gx))))))))
theorem Oa {f:Addr} {fd:FuncData} {n:Nat} (FF:Fun K "tick_text" "tick_text" aE f fd) (T:Tx K F w mg C_Book C_Reader) (c_text_of:Fn P w K mg base F (2+n) "text_of" 2 [] (Ep n)):FnOk P w K mg base CX0 (2+n+1) f fd ["term","deep"] (DO K F 2 (Cv 2 (j6 (Gg n) (Gh n) (Gi n) (GV n) (Gj n) (HR n) (Gk n) (Gm n) (Ep n)))):=
 C2 (N:=KF) (body:=(j6 (Gg n) (Gh n) (Gi n) (GV n) (Gj n) (HR n) (Gk n) (Gm n) (Ep n))) FF OR λcdv A outer s H E hr=>by
  unfold j6;exact(DN (Ct (WM (C9 Cr (C9 (D3 (Dt c_text_of hr (Cp (DX (xV 0) C6) (Cp (xV 1) Cy)) (hk:=by omega))) Gx)))))
theorem Ob {f:Addr} {fd:FuncData} {n:Nat} (FF:Fun K "send_text" "send_text" aF f fd) (T:Tx K F w mg C_Book C_Reader) (c_mark_word:Fn P w K mg base F 1 "mark_word" 2 [] OP) (c_text_of:Fn P w K mg base F (2+n) "text_of" 2 [] (Ep n)):FnOk P w K mg base CX0 (2+n+1) f fd ["term","deep"] (DO K F 2 (Cv 6 (j7 (Gg n) (Gh n) (Gi n) (GV n) (Gj n) (HR n) (Gk n) (Gm n) (Ep n)))):=
 C2 (N:=KG) (body:=(j7 (Gg n) (Gh n) (Gi n) (GV n) (Gj n) (HR n) (Gk n) (Gm n) (Ep n))) FF mY λcdv A outer s H E hr=>by
  unfold j7;exact(DC (GU (xV 0) (Io (IE (EF (is:=[2,3,4,5]) 2 mY.nd) (IE (EF (is:=[2,3,4,5]) 3 mY.nd) (IE (EF (is:=[2,3,4,5]) 4 mY.nd) (IE (EF (is:=[2,3,4,5]) 5 mY.nd) (Ek (is:=[2,3,4,5]))))))))
   (DN (Ct (WM (C9 (D3 (Dt c_mark_word hr (Cp (xV 3) (Cp (xV 1) Cy)) (hk:=by omega))) (C9 Cr (C9 (D3 (Dt c_mark_word hr (Cp (xV 4) (Cp (xV 1) Cy)) (hk:=by omega))) (C9 Cr (C9 (D3 (Dt c_text_of hr (Cp (xV 5) (Cp (xV 1) Cy)) (hk:=by omega))) Gx)))))))))
theorem Oc {f:Addr} {fd:FuncData} {n:Nat} (FF:Fun K "hear_text" "hear_text" aG f fd) (T:Tx K F w mg C_Book C_Reader) (c_mark_word:Fn P w K mg base F 1 "mark_word" 2 [] OP) (c_text_of:Fn P w K mg base F (2+n) "text_of" 2 [] (Ep n)):FnOk P w K mg base CX0 (2+n+1) f fd ["term","deep"] (DO K F 2 (Cv 5 (j8 (Gg n) (Gh n) (Gi n) (GV n) (Gj n) (HR n) (Gk n) (Gm n) (Ep n)))):=
 C2 (N:=KH) (body:=(j8 (Gg n) (Gh n) (Gi n) (GV n) (Gj n) (HR n) (Gk n) (Gm n) (Ep n))) FF oB λcdv A outer s H E hr=>by
  unfold j8;exact(DC (GU (xV 0) (Io (IE (EF (is:=[2,3,4]) 2 oB.nd) (IE (EF (is:=[2,3,4]) 3 oB.nd) (IE (EF (is:=[2,3,4]) 4 oB.nd) (Ek (is:=[2,3,4])))))))
   (DN (Ct (WM (C9 (D3 (Dt c_mark_word hr (Cp (xV 3) (Cp (xV 1) Cy)) (hk:=by omega))) (C9 Cr (C9 (D3 (xV 1)) (C9 Cr (C9 (D3 (Dt c_text_of hr (Cp (xV 4) (Cp (Ec (xV 1) C6) Cy)) (hk:=by omega))) Gx)))))))))
theorem Od {f:Addr} {fd:FuncData} {n:Nat} (FF:Fun K "test_text" "test_text" aH f fd) (T:Tx K F w mg C_Book C_Reader) (c_mark_word:Fn P w K mg base F 1 "mark_word" 2 [] OP) (c_text_of:Fn P w K mg base F (2+n) "text_of" 2 [] (Ep n)):FnOk P w K mg base CX0 (2+n+1) f fd ["term","deep"] (DO K F 2 (Cv 7 (cu (Gg n) (Gh n) (Gi n) (GV n) (Gj n) (HR n) (Gk n) (Gm n) (Ep n)))):=
 C2 (N:=KI) (body:=(cu (Gg n) (Gh n) (Gi n) (GV n) (Gj n) (HR n) (Gk n) (Gm n) (Ep n))) FF j9 λcdv A outer s H E hr=>by
  unfold cu;exact(DC (GU (xV 0) (Io (IE (EF (is:=[2,3,4,5]) 2 j9.nd) (IE (EF (is:=[2,3,4,5]) 3 j9.nd) (IE (EF (is:=[2,3,4,5]) 4 j9.nd) (IE (EF (is:=[2,3,4,5]) 5 j9.nd) (Ek (is:=[2,3,4,5]))))))))
   (DC (DH 6 j9.nd (PY (C0 (EH hr.units) (xV 2) Cr) Cr Cr))
   (DN (Ct (WM (C9 Cr (C9 (D3 (Dt c_mark_word hr (Cp (xV 3) (Cp (xV 1) Cy)) (hk:=by omega))) (C9 (D3 (xV 6)) (C9 (D3 (Dt c_mark_word hr (Cp (xV 4) (Cp (xV 1) Cy)) (hk:=by omega))) (C9 Cr (C9 (D3 (Dt c_text_of hr (Cp (xV 5) (Cp (xV 1) Cy)) (hk:=by omega))) Gx)))))))))))
theorem QI {f:Addr} {fd:FuncData} {n:Nat} (FF:Fun K "new_text" "new_text" aI f fd) (T:Tx K F w mg C_Book C_Reader) (c_text_of:Fn P w K mg base F (2+n) "text_of" 2 [] (Ep n)):FnOk P w K mg base CX0 (2+n+1) f fd ["term","deep"] (DO K F 2 (Cv 2 (kA (Gg n) (Gh n) (Gi n) (GV n) (Gj n) (HR n) (Gk n) (Gm n) (Ep n)))):=
 C2 (N:=Lb) (body:=(kA (Gg n) (Gh n) (Gi n) (GV n) (Gj n) (HR n) (Gk n) (Gm n) (Ep n))) FF QC λcdv A outer s H E hr=>by
  unfold kA;exact(DN (Ct (WM (C9 Cr (C9 (D3 (xV 1)) (C9 Cr (C9 (D3 (Dt c_text_of hr (Cp (DX (xV 0) C6) (Cp (Ec (xV 1) C6) Cy)) (hk:=by omega))) Gx)))))))
theorem Lr {f:Addr} {fd:FuncData} {n:Nat} (FF:Fun K "parts_texts" "parts_texts" Ys f fd) (T:Tx K F w mg C_Book C_Reader) (c_text_of:Fn P w K mg base F (2+n) "text_of" 2 [] (Ep n)):FnOk P w K mg base CX0 (2+n+1) f fd ["term","deep"] (DO K F 2 (Cv 3 (kB (Gg n) (Gh n) (Gi n) (GV n) (Gj n) (HR n) (Gk n) (Gm n) (Ep n)))):=
 C2 (N:=pO) (body:=(kB (Gg n) (Gh n) (Gi n) (GV n) (Gj n) (HR n) (Gk n) (Gm n) (Ep n))) FF pP λcdv A outer s H E hr=>by
  unfold kB;exact(DN (Ct (KU [("part",2)] pP.nd (Ds (DX (xV 0) C6)) ⟨λ_ _ _ _ _=>(EF (is:=[2]) 2 pP.nd),λ_ _ _ _ _=>Dj,λ_ _ _ _ _=>(Dt c_text_of hr (Cp (xV 2) (Cp (xV 1) Cy)) (hk:=by omega)),λ_ h=>h⟩ (by show blkC pO (defScope Ys) _ _=true;decide+kernel))))
theorem Oe {f:Addr} {fd:FuncData} {n:Nat} (FF:Fun K "pick_text" "pick_text" aJ f fd) (T:Tx K F w mg C_Book C_Reader) (c_parts_texts:Fn P w K mg base F (2+n) "parts_texts" 2 [] (HR n)):FnOk P w K mg base CX0 (2+n+1) f fd ["term","deep"] (DO K F 2 (Cv 2 (kE (Gg n) (Gh n) (Gi n) (GV n) (Gj n) (HR n) (Gk n) (Gm n) (Ep n)))):=
 C2 (N:=KJ) (body:=(kE (Gg n) (Gh n) (Gi n) (GV n) (Gj n) (HR n) (Gk n) (Gm n) (Ep n))) FF OS λcdv A outer s H E hr=>by
  unfold kE;exact(DN (Ct (Ec (Ec Cr (LA Cr (Dt c_parts_texts hr (Cp (xV 0) (Cp (xV 1) Cy)) (hk:=by omega)))) Cr)))
theorem Ls {f:Addr} {fd:FuncData} {n:Nat} (FF:Fun K "beside_text" "beside_text" aK f fd) (T:Tx K F w mg C_Book C_Reader) (c_parts_texts:Fn P w K mg base F (2+n) "parts_texts" 2 [] (HR n)):FnOk P w K mg base CX0 (2+n+1) f fd ["term","deep"] (DO K F 2 (Cv 2 (kF (Gg n) (Gh n) (Gi n) (GV n) (Gj n) (HR n) (Gk n) (Gm n) (Ep n)))):=
 C2 (N:=Ht) (body:=(kF (Gg n) (Gh n) (Gi n) (GV n) (Gj n) (HR n) (Gk n) (Gm n) (Ep n))) FF Lc λcdv A outer s H E hr=>by
  unfold kF;exact(DN (Ct (WM (C9 Cr (C9 (D3 (LA Cr (Dt c_parts_texts hr (Cp (xV 0) (Cp (xV 1) Cy)) (hk:=by omega)))) (C9 Cr Gx))))))
theorem Rq {f:Addr} {fd:FuncData} {n:Nat} (FF:Fun K "text_of" "text_of" aL f fd) (T:Tx K F w mg C_Book C_Reader) (c_stop_text:Fn P w K mg base F 1 "stop_text" 2 [] gX) (c_tick_text:Fn P w K mg base F (2+n) "tick_text" 2 [] (Gg n)) (c_send_text:Fn P w K mg base F (2+n) "send_text" 2 [] (Gh n)) (c_hear_text:Fn P w K mg base F (2+n) "hear_text" 2 [] (Gi n)) (c_test_text:Fn P w K mg base F (2+n) "test_text" 2 [] (GV n)) (c_pick_text:Fn P w K mg base F (2+n) "pick_text" 2 [] (Gk n)) (c_beside_text:Fn P w K mg base F (2+n) "beside_text" 2 [] (Gm n)) (c_new_text:Fn P w K mg base F (2+n) "new_text" 2 [] (Gj n)) (c_call_text:Fn P w K mg base F 2 "call_text" 2 [] gY):FnOk P w K mg base CX0 (2+n+1) f fd ["term","deep"] (DO K F 2 (Cv 3 (kG (Gg n) (Gh n) (Gi n) (GV n) (Gj n) (HR n) (Gk n) (Gm n) (Ep n)))):=
 C2 (N:=NO) (body:=(kG (Gg n) (Gh n) (Gi n) (GV n) (Gj n) (HR n) (Gk n) (Gm n) (Ep n))) FF Ld λcdv A outer s H E hr=>by
  unfold kG;exact(DC (DH 2 Ld.nd (S9 T.d_WRITERS (DX (xV 0) C6)))
   (DN (Ct (Zx (k:=(2+n)) (n:=2) (gs:=[("stop_text",gX),("tick_text",(Gg n)),("send_text",(Gh n)),("hear_text",(Gi n)),("test_text",(GV n)),("pick_text",(Gk n)),("beside_text",(Gm n)),("new_text",(Gj n)),("call_text",gY)]) (Zw c_stop_text T.w_stop_text (Zw c_tick_text T.w_tick_text (Zw c_send_text T.w_send_text (Zw c_hear_text T.w_hear_text (Zw c_test_text T.w_test_text (Zw c_pick_text T.w_pick_text (Zw c_beside_text T.w_beside_text (Zw c_new_text T.w_new_text (Zw c_call_text T.w_call_text fm))))))))) hr 2 (Cp (xV 0) (Cp (xV 1) Cy))))))
theorem IW {f:Addr} {fd:FuncData} (FF:Fun K "show_definition" "show_definition" gT f fd) (T:Tx K F w mg C_Book C_Reader) (c_text_of:Fn P w K mg base F 62 "text_of" 2 [] (Ep 60)):FnOk P w K mg base CX0 63 f fd ["name","many","body"] (DO K F 3 (Cv 5 kH)):=
 C2 (N:=pQ) (body:=kH) FF pR λcdv A outer s H E hr=>by
  unfold kH;exact(DC (ZV (i:=3) [("k",4)] pR.nd (fJ T.b_range (xV 1)) ⟨λ_ _ _ _ _=>(EF (is:=[4]) 4 pR.nd),λ_ _ _ _ _=>Dj,λ_ _ _ _ _=>(WM (C9 Cr (C9 (D3 (xV 4)) Gx))),λ_ h=>h⟩ (sw_true rfl rfl rfl AC) (by show blkC pQ (defScope gT) _ _=true;decide+kernel))
   (DN (Ct (WM (C9 (D3 (xV 0)) (C9 Cr (C9 (D3 (LA Cr (xV 3))) (C9 Cr (C9 (D3 (Dt c_text_of hr (Cp (xV 2) (Cp (xV 1) Cy)))) Gx)))))))))
theorem Lu {f:Addr} {fd:FuncData} (FF:Fun K "inner_terms" "inner_terms" jP f fd) (T:Tx K F w mg C_Book C_Reader):FnOk P w K mg base CX0 1 f fd ["term"] (DO K F 1 (Cv 1 Yw)):=
 C2 (N:=Hu) (body:=Yw) FF Le λcdv A outer s H E hr=>by
  unfold Yw;exact(DC (DW (C0 (Jf (FJ hr)) (DX (xV 0) C6) (D7 T.g_LISTS)) (DN (Ct (DX (xV 0) C6))) Cz)
   (DN (Ct (PY (C0 (Jf (FJ hr)) (DX (xV 0) C6) (DT (Cp Cr (Cp Cr Cy)))) (DT Cy) (Il (xV 0) (K9 (cG C6)) K8)))))
theorem QJ {f:Addr} {fd:FuncData} {n:Nat} (FF:Fun K "calls_of" "calls_of" Yt f fd) (T:Tx K F w mg C_Book C_Reader) (c_inner_terms:Fn P w K mg base F 1 "inner_terms" 1 [] Tj) (c_calls_of:Fn P w K mg base F (1+n) "calls_of" 1 [] (Rg n)):FnOk P w K mg base CX0 (1+n+1) f fd ["term"] (DO K F 1 (Cv 3 (kI (Rg n)))):=
 C2 (N:=IM) (body:=(kI (Rg n))) FF oC λcdv A outer s H E hr=>by
  unfold kI;exact(DC (DW (C0 (EH hr.units) (DX (xV 0) C6) Cr) (DN (Ct (E5 (Cp (DT (Cp (DX (xV 0) C6) (Cp (ES b_len T.b_len (Cp (DX (xV 0) C6) Cy)) Cy))) Cy)))) Cz)
   (DN (Ct (Ww (vs1:=[2]) (is:=[1]) (is1:=[2]) [("inner",1),("call",2)] oC.nd (Ds (Dt c_inner_terms hr (Cp (xV 0) Cy) (hk:=by omega))) ⟨λ_ _ _ _ _=>(EF (is:=[1]) 1 oC.nd),λ_ _ _ _ _=>Dj,λ_ _ _ _ _=>(Ds (Dt c_calls_of hr (Cp (xV 1) Cy) (hk:=by omega))),λ_ _ _ _ _=>(EF (is:=[2]) 2 oC.nd),λ_ _ _ _ _=>Dj,λ_ _ _ _ _=>(xV 2),AB,AB,AB⟩ (by show blkC IM (defScope Yt) _ _=true;decide+kernel)))))
theorem Mb {f:Addr} {fd:FuncData} {n:Nat} (FF:Fun K "is_guarded" "is_guarded" Yu f fd) (T:Tx K F w mg C_Book C_Reader) (c_inner_terms:Fn P w K mg base F 1 "inner_terms" 1 [] Tj) (c_is_guarded:Fn P w K mg base F (1+n) "is_guarded" 1 [] (Tn n)):FnOk P w K mg base CX0 (1+n+1) f fd ["term"] (DO K F 1 (Cv 2 (cx (Tn n)))):=
 C2 (N:=GD) (body:=(cx (Tn n))) FF pS λcdv A outer s H E hr=>by
  unfold cx;exact(DC (DW (C0 (Jf (FJ hr)) (DX (xV 0) C6) (D7 T.g_GUARDS)) (DN (Ct GY)) Cz)
   (DN (Ct (FW (EB (FV hr.units) (DX (xV 0) C6) Cr) (EK (ES b_all T.b_all (Cp (KU [("inner",1)] pS.nd (Ds (Dt c_inner_terms hr (Cp (xV 0) Cy) (hk:=by omega))) ⟨λ_ _ _ _ _=>(EF (is:=[1]) 1 pS.nd),λ_ _ _ _ _=>Dj,λ_ _ _ _ _=>(Dt c_is_guarded hr (Cp (xV 1) Cy) (hk:=by omega)),λ_ h=>h⟩ (by show blkC GD (defScope Yu) _ _=true;decide+kernel)) Cy)))))))
theorem Of {f:Addr} {fd:FuncData} {n:Nat} (FF:Fun K "has_crowd" "has_crowd" VB f fd) (T:Tx K F w mg C_Book C_Reader) (c_inner_terms:Fn P w K mg base F 1 "inner_terms" 1 [] Tj) (c_calls_of:Fn P w K mg base F 41 "calls_of" 1 [] (Rg 40)) (ck_has_crowd_beneath:FnK P w K mg base F (41+n) "has_crowd" 1 ["beneath"] 2 (VG n)):FnOk P w K mg base CX0 (41+n+1) f fd ["term","beneath"] (DO K F 2 (Cv 4 (kJ (VG n)))):=
 C2 (N:=G8) (body:=(kJ (VG n))) FF oD λcdv A outer s H E hr=>by
  unfold kJ;exact(DC (DW (MS (ZU (EC (xV 1)) (ZU (C0 (EH hr.units) (DX (xV 0) C6) Cr) (PX (C0 (FV hr.units) (Dt c_calls_of hr (Cp (xV 0) Cy) (hk:=by omega)) (E5 Cy)))))) (DN (Ct GY)) Cz)
   (DC (DH 2 oD.nd (RE (xV 1) (EK (EB (Np (FJ hr)) (DX (xV 0) C6) (DT (Cp Cr (Cp Cr Cy)))))))
   (DN (Ct (ES b_any T.b_any (Cp (KU [("inner",3)] oD.nd (Ds (Dt c_inner_terms hr (Cp (xV 0) Cy) (hk:=by omega))) ⟨λ_ _ _ _ _=>(EF (is:=[3]) 3 oD.nd),λ_ _ _ _ _=>Dj,λ_ _ _ _ _=>(Fx ck_has_crowd_beneath hr (Cp (xV 3) Cy) (DZ (xV 2) D4) (hk:=by omega)),λ_ h=>h⟩ (by show blkC G8 (defScope VB) _ _=true;decide+kernel)) Cy))))))
theorem QK {f:Addr} {fd:FuncData} (FF:Fun K "put" "Book.put" jT f fd) (T:Tx K F w mg C_Book C_Reader) (c_is_guarded:Fn P w K mg base F 41 "is_guarded" 1 [] (Tn 40)) (c_is_whole:Fn P w K mg base F 1 "is_whole" 1 [] jm) (c_is_definition_name:Fn P w K mg base F 3 "is_definition_name" 1 [] VD) (ck_has_crowd_beneath:FnK P w K mg base F 81 "has_crowd" 1 ["beneath"] 2 (VG 40)) (ck_standing_binders:FnK P w K mg base F 41 "standing" 1 ["binders"] 2 mX) (ck_is_term_binders:FnK P w K mg base F 45 "is_term" 1 ["binders"] 2 (KZ 40)):FnOk P w K mg base CX0 82 f fd ["self","name","many","body"] (DO K F 4 (Cv 4 kK)):=
 C2 (N:=Lf) (body:=kK) FF QD λcdv A outer s H E hr=>by
  unfold kK;exact(DC (DW (MS (Nr (Eu (EC (Dt c_is_definition_name hr (Cp (xV 1) Cy)))) (Nr (Eu (EC (Dt c_is_whole hr (Cp (xV 2) Cy)))) (Ik (Eu (Nq RD RD C6 (xV 2) (D7 T.g_MOST_PARAMETERS))))))) (DN M6) Cz)
   (DC (DW (MS (Nr (Eu (EC (Fx ck_is_term_binders hr (Cp (xV 3) Cy) (DZ (xV 2) D4)))) (Nr (C0 (FV hr.units) (Fx ck_standing_binders hr (Cp (xV 3) Cy) (DZ (xV 2) D4)) (DT Cy)) (Ik (Eu (EC (Dt c_is_guarded hr (Cp (xV 3) Cy)))))))) (DN M6) Cz)
   (DC (DW (EC (Fx ck_has_crowd_beneath hr (Cp (xV 3) Cy) (DZ GY D4))) (DN M6) Cz)
   (DN (fT (FJ hr) (Ef T.c_Book T.n_Book_kept (xV 0)) (xV 1) (DT (Cp (xV 2) (Cp (xV 3) Cy))))))))
theorem Jt {f:Addr} {fd:FuncData} (FF:FunD K "__init__" "Book.__init__" (defArgs VC) (defBody VC) (defScope VC) [(V.ref tq_Book___init___rows)] [] f fd) (T:Tx K F w mg C_Book C_Reader) (mt_Book_put_4:MethD P w K mg base F 82 C_Book "put" 4 [] PB):FnOk P w K mg base CX0 83 f fd ["self","rows"] (DO K F 2 (Cv 5 kL)):=
 Nl (N:=GW) (body:=kL) FF oE λcdv A outer s H E hr=>by
  unfold kL;exact(DC (OH T.c_Book T.n_Book_kept (xV 0) fZ)
   (DN (Ip (Ds (xV 1)) (Io (IE (EF (is:=[2,3,4]) 2 oE.nd) (IE (EF (is:=[2,3,4]) 3 oE.nd) (IE (EF (is:=[2,3,4]) 4 oE.nd) (Ek (is:=[2,3,4])))))) (DN (DK (DG T.c_Book mt_Book_put_4 hr (xV 0) (Cp (xV 2) (Cp (xV 3) (Cp (xV 4) Cy)))))))))
theorem Kc {f:Addr} {fd:FuncData} (FF:Fun K "__len__" "Book.__len__" jQ f fd) (T:Tx K F w mg C_Book C_Reader):FnOk P w K mg base CX0 1 f fd ["self"] (DO K F 1 (Cv 1 kM)):=
 C2 (N:=G9) (body:=kM) FF Kb λcdv A outer s H E hr=>by
  unfold kM;exact(DN (Ct (ES P9 T.b_len (Cp (Ef T.c_Book T.n_Book_kept (xV 0)) Cy))))
theorem Lv {f:Addr} {fd:FuncData} (FF:Fun K "__eq__" "Book.__eq__" jR f fd) (T:Tx K F w mg C_Book C_Reader):FnOk P w K mg base CX0 1 f fd ["self","other"] (DO K F 2 (Cv 2 kN)):=
 C2 (N:=Hw) (body:=kN) FF Lg λcdv A outer s H E hr=>by
  unfold kN;exact(DN (Ct (FW (mW T.c_Book T.o_Book T.m_Book (xV 1) T.b_isinstance) (EK (EB (aB (pG hr)) (Ef T.c_Book T.n_Book_kept (xV 0)) (Ef T.c_Book T.n_Book_kept (xV 1)))))))
theorem Kd {f:Addr} {fd:FuncData} (FF:Fun K "__str__" "Book.__str__" gU f fd) (T:Tx K F w mg C_Book C_Reader) (c_show_definition:Fn P w K mg base F 63 "show_definition" 3 [] VF):FnOk P w K mg base CX0 64 f fd ["self"] (DO K F 1 (Cv 3 kO)):=
 C2 (N:=pT) (body:=kO) FF pU λcdv A outer s H E hr=>by
  unfold kO;exact(DC (ZV (i:=1) [("name",2)] pU.nd (Ds (ES NK T.b_sorted (Cp (Ef T.c_Book T.n_Book_kept (xV 0)) Cy))) ⟨λ_ _ _ _ _=>(EF (is:=[2]) 2 pU.nd),λ_ _ _ _ _=>Dj,λ_ _ _ _ _=>(Dt c_show_definition hr (Cp (xV 2) (Cp (DX (TQ (FJ hr) (Ef T.c_Book T.n_Book_kept (xV 0)) (xV 2)) C6) (Cp (DX (TQ (FJ hr) (Ef T.c_Book T.n_Book_kept (xV 0)) (xV 2)) C6) Cy)))),λ_ h=>h⟩ (sw_true rfl rfl rfl AC) (by show blkC pT (defScope gU) _ _=true;decide+kernel))
   (DN (Ct (LA Cr (xV 1)))))
theorem Ju {f:Addr} {fd:FuncData} (FF:Fun K "__repr__" "Book.__repr__" jS f fd) (T:Tx K F w mg C_Book C_Reader):FnOk P w K mg base CX0 1 f fd ["self"] (DO K F 1 (Cv 1 kP)):=
 C2 (N:=GX) (body:=kP) FF Js λcdv A outer s H E hr=>by
  unfold kP;exact(DN (Ct (WM (C9 Cr (C9 (D3 (ES P9 T.b_len (Cp (Ef T.c_Book T.n_Book_kept (xV 0)) Cy))) (C9 Cr Gx))))))
theorem QL {f:Addr} {fd:FuncData} (FF:Fun K "get" "Book.get" jU f fd) (T:Tx K F w mg C_Book C_Reader) (c_is_definition_name:Fn P w K mg base F 3 "is_definition_name" 1 [] VD):FnOk P w K mg base CX0 4 f fd ["self","name"] (DO K F 2 (Cv 3 kQ)):=
 C2 (N:=Li) (body:=kQ) FF KM λcdv A outer s H E hr=>by
  unfold kQ;exact(DC (DW (Eu (EC (Dt c_is_definition_name hr (Cp (xV 1) Cy)))) (DN M6) Cz)
   (DN (fz (T:="KeyError") T.b_KeyError AC (λpn xe E tk ps=>(DN (Ct (TQ (FJ hr) (Ef T.c_Book T.n_Book_kept (xV 0)) (xV 1))))) KM.nd (i:=2))))
theorem Mc {f:Addr} {fd:FuncData} (FF:Fun K "names" "Book.names" jV f fd) (T:Tx K F w mg C_Book C_Reader):FnOk P w K mg base CX0 1 f fd ["self"] (DO K F 1 (Cv 1 kR)):=
 C2 (N:=JI) (body:=kR) FF MZ λcdv A outer s H E hr=>by
  unfold kR;exact(DN (Ct (ES NK T.b_sorted (Cp (Ef T.c_Book T.n_Book_kept (xV 0)) Cy))))
theorem QM {f:Addr} {fd:FuncData} (FF:Fun K "words_of" "words_of" jW f fd) (T:Tx K F w mg C_Book C_Reader):FnOk P w K mg base CX0 1 f fd ["text"] (DO K F 1 (Cv 5 kS)):=
 C2 (N:=Lj) (body:=kS) FF kT λcdv A outer s H E hr=>by
  unfold kS;exact(DC (DH 1 kT.nd (Gv Cy))
   (DC (DH 2 kT.nd GY)
   (DC (Ip (Ds (xV 0)) (EF (is:=[3]) 3 kT.nd) (DC (DH 4 kT.nd (EB (Jf (FJ hr)) (xV 3) (D7 T.g_RUNNING)))
   (DC (DW (MS (ZU (EC (xV 4)) (PX (EC (xV 2))))) (DN (XJ (xV 1) (cG C6) (xV 3))) (DN (DK (cH (xV 1) (xV 3)))))
   (DN (DH 2 kT.nd (xV 4))))))
   (DN (Ct (xV 1))))))
theorem JM {f:Addr} {fd:FuncData} (FF:Fun K "is_binder_word" "is_binder_word" jX f fd) (T:Tx K F w mg C_Book C_Reader) (c_is_number_text:Fn P w K mg base F 2 "is_number_text" 1 [] js) (c_is_name:Fn P w K mg base F 3 "is_name" 1 [] aU):FnOk P w K mg base CX0 4 f fd ["word"] (DO K F 1 (Cv 1 kU)):=
 C2 (N:=Fe) (body:=kU) FF JJ λcdv A outer s H E hr=>by
  unfold kU;exact(DN (Ct (RE (Dt c_is_name hr (Cp (xV 0) Cy)) (EK (FW (Im (xV 0) Cr) (EK (Dt c_is_number_text hr (Cp (Il (xV 0) (K9 C6) K8) Cy))))))))
theorem IX {f:Addr} {fd:FuncData} (FF:Fun K "__init__" "Reader.__init__" jY f fd) (T:Tx K F w mg C_Book C_Reader):FnOk P w K mg base CX0 1 f fd ["self","words","names_stand"] (DO K F 3 (Cv 3 kW)):=
 C2 (N:=qn) (body:=kW) FF IP λcdv A outer s H E hr=>by
  unfold kW;exact(DC (OH T.c_Reader T.n_Reader_words (xV 0) (xV 1))
   (DC (OH T.c_Reader T.n_Reader_names_stand (xV 0) (xV 2))
   (DN (OH T.c_Reader T.n_Reader_at (xV 0) C6))))
theorem Hh {f:Addr} {fd:FuncData} (FF:Fun K "next_word" "Reader.next_word" jZ f fd) (T:Tx K F w mg C_Book C_Reader):FnOk P w K mg base CX0 1 f fd ["self"] (DO K F 1 (Cv 1 kX)):=
 C2 (N:=qp) (body:=kX) FF Hc λcdv A outer s H E hr=>by
  unfold kX;exact(DN (Ct (PY (C0 KS (Ef T.c_Reader T.n_Reader_at (xV 0)) (ES b_len T.b_len (Cp (Ef T.c_Reader T.n_Reader_words (xV 0)) Cy))) (DX (Ef T.c_Reader T.n_Reader_words (xV 0)) (Ef T.c_Reader T.n_Reader_at (xV 0))) Cr)))
theorem Lw {f:Addr} {fd:FuncData} (FF:Fun K "need" "Reader.need" ja f fd) (T:Tx K F w mg C_Book C_Reader):FnOk P w K mg base CX0 1 f fd ["self","holds"] (DO K F 2 (Cv 2 kY)):=
 C2 (N:=Hx) (body:=kY) FF Lk λcdv A outer s H E hr=>by
  unfold kY;exact(DN (DW (Eu (EC (xV 1))) (DN M6) Cz))
theorem Lx {f:Addr} {fd:FuncData} (FF:Fun K "take" "Reader.take" aM f fd) (T:Tx K F w mg C_Book C_Reader) (mt_Reader_next_word_1:MethD P w K mg base F 1 C_Reader "next_word" 1 [] JZ) (mt_Reader_need_2:MethD P w K mg base F 1 C_Reader "need" 2 [] NP):FnOk P w K mg base CX0 2 f fd ["self","word"] (DO K F 2 (Cv 2 kZ)):=
 C2 (N:=Hy) (body:=kZ) FF Ll λcdv A outer s H E hr=>by
  unfold kZ;exact(DC (DK (DG T.c_Reader mt_Reader_need_2 hr (xV 0) (Cp (EB (EH hr.units) (OI T.c_Reader mt_Reader_next_word_1 hr (xV 0)) (xV 1)) Cy)))
   (DN (EM T.c_Reader T.n_Reader_at (xV 0) C6)))
theorem Hi {f:Addr} {fd:FuncData} (FF:Fun K "read_mark" "Reader.read_mark" jb f fd) (T:Tx K F w mg C_Book C_Reader) (c_is_name:Fn P w K mg base F 3 "is_name" 1 [] aU) (mt_Reader_need_2:MethD P w K mg base F 1 C_Reader "need" 2 [] NP) (mt_Reader_next_word_1:MethD P w K mg base F 1 C_Reader "next_word" 1 [] JZ):FnOk P w K mg base CX0 4 f fd ["self","bound"] (DO K F 2 (Cv 3 kc)):=
 C2 (N:=qu) (body:=kc) FF qw λcdv A outer s H E hr=>by
  unfold kc;exact(DC (DH 2 qw.nd (OI T.c_Reader mt_Reader_next_word_1 hr (xV 0)))
   (DC (DK (DG T.c_Reader mt_Reader_need_2 hr (xV 0) (Cp (RE (EB (Jf (FJ hr)) (xV 2) (xV 1)) (EK (FW (Ef T.c_Reader T.n_Reader_names_stand (xV 0)) (EK (Dt c_is_name hr (Cp (xV 2) Cy)))))) Cy)))
   (DC (EM T.c_Reader T.n_Reader_at (xV 0) C6)
   (DN (Ct (PY (C0 (Jf (FJ hr)) (xV 2) (xV 1)) (XG (xV 1) (xV 2)) (xV 2)))))))
theorem Gc {f:Addr} {fd:FuncData} (FF:Fun K "read_binder" "Reader.read_binder" jc f fd) (T:Tx K F w mg C_Book C_Reader) (c_is_binder_word:Fn P w K mg base F 4 "is_binder_word" 1 [] oF) (mt_Reader_need_2:MethD P w K mg base F 1 C_Reader "need" 2 [] NP) (mt_Reader_next_word_1:MethD P w K mg base F 1 C_Reader "next_word" 1 [] JZ):FnOk P w K mg base CX0 5 f fd ["self"] (DO K F 1 (Cv 2 kd)):=
 C2 (N:=qx) (body:=kd) FF qy λcdv A outer s H E hr=>by
  unfold kd;exact(DC (DH 1 qy.nd (OI T.c_Reader mt_Reader_next_word_1 hr (xV 0)))
   (DC (DK (DG T.c_Reader mt_Reader_need_2 hr (xV 0) (Cp (Dt c_is_binder_word hr (Cp (xV 1) Cy)) Cy)))
   (DC (EM T.c_Reader T.n_Reader_at (xV 0) C6)
   (DN (Ct (xV 1))))))
theorem Hj {f:Addr} {fd:FuncData} (FF:Fun K "read_stop" "Reader.read_stop" jd f fd) (T:Tx K F w mg C_Book C_Reader):FnOk P w K mg base CX0 1 f fd ["self","bound"] (DO K F 2 (Cv 2 ke)):=
 C2 (N:=q7) (body:=ke) FF He λcdv A outer s H E hr=>by
  unfold ke;exact(DC (EM T.c_Reader T.n_Reader_at (xV 0) C6)
   (DN (Ct (DT (Cp Cr Cy)))))
theorem HB {f:Addr} {fd:FuncData} (FF:Fun K "read_marks" "Reader.read_marks" je f fd) (T:Tx K F w mg C_Book C_Reader) (mtk_Reader_take_0_word:MethK P w K mg base F 2 C_Reader "take" 0 ["word"] [0] 2 Ja) (mt_Reader_next_word_1:MethD P w K mg base F 1 C_Reader "next_word" 1 [] JZ) (mt_Reader_read_mark_2:MethD P w K mg base F 4 C_Reader "read_mark" 2 [] Vp):FnOk P w K mg base CX0 5 f fd ["self","bound"] (DO K F 2 (Cv 3 kf)):=
 C2 (N:=q8) (body:=kf) FF q9 λcdv A outer s H E hr=>by
  unfold kf;exact(DC (DK (Vm T.c_Reader mtk_Reader_take_0_word hr (xV 0) (DZ Cr D4)))
   (DC (DH 2 q9.nd (Gv Cy))
   (DC (DW (C0 (FV hr.units) (OI T.c_Reader mt_Reader_next_word_1 hr (xV 0)) Cr) (DN (DK (cH (xV 2) (DG T.c_Reader mt_Reader_read_mark_2 hr (xV 0) (Cp (xV 1) Cy))))) Cz)
   (DC (Nt 64 (MS (ZU (C0 (EH hr.units) (OI T.c_Reader mt_Reader_next_word_1 hr (xV 0)) Cr) (PX (Nq KS KS C6 (ES b_len T.b_len (Cp (xV 2) Cy)) (D7 T.g_MOST_MARKS))))) (DC (EM T.c_Reader T.n_Reader_at (xV 0) C6)
   (DN (DK (cH (xV 2) (DG T.c_Reader mt_Reader_read_mark_2 hr (xV 0) (Cp (xV 1) Cy)))))))
   (DC (DK (Vm T.c_Reader mtk_Reader_take_0_word hr (xV 0) (DZ Cr D4)))
   (DN (Ct (ES b_tuple T.b_tuple (Cp (xV 2) Cy)))))))))
theorem Hk {f:Addr} {fd:FuncData} {n:Nat} (FF:Fun K "read_rows" "Reader.read_rows" Vn f fd) (T:Tx K F w mg C_Book C_Reader) (mtk_Reader_take_0_word:MethK P w K mg base F 2 C_Reader "take" 0 ["word"] [0] 2 Ja) (mt_Reader_next_word_1:MethD P w K mg base F 1 C_Reader "next_word" 1 [] JZ) (mt_Reader_read_term_2:MethD P w K mg base F (5+n) C_Reader "read_term" 2 [] (Ff n)):FnOk P w K mg base CX0 (5+n+1) f fd ["self","bound","sign","end"] (DO K F 4 (Cv 6 (kg (Hz n) (IQ n) (IR n) (IS n) (IT n) (IU n) (IA n) (Ff n)))):=
 C2 (N:=rA) (body:=(kg (Hz n) (IQ n) (IR n) (IS n) (IT n) (IU n) (IA n) (Ff n))) FF pV λcdv A outer s H E hr=>by
  unfold kg;exact(DC (EM T.c_Reader T.n_Reader_at (xV 0) C6)
   (DC (DH 4 pV.nd (Gv Cy))
   (DC (DW (C0 (FV hr.units) (OI T.c_Reader mt_Reader_next_word_1 hr (xV 0) (hk:=by omega)) (xV 3)) (DN (DK (cH (xV 4) (DG T.c_Reader mt_Reader_read_term_2 hr (xV 0) (Cp (xV 1) Cy) (hk:=by omega))))) Cz)
   (DC (Nt 64 (MS (ZU (C0 (EH hr.units) (OI T.c_Reader mt_Reader_next_word_1 hr (xV 0) (hk:=by omega)) Cr) (PX (C0 (FV hr.units) (xV 4) (E5 Cy))))) (DC (Ip (Ds (DT (Cp Cr (Cp (xV 2) (Cp Cr Cy))))) (EF (is:=[5]) 5 pV.nd) (DN (DK (Vm T.c_Reader mtk_Reader_take_0_word hr (xV 0) (DZ (xV 5) D4) (hk:=by omega)))))
   (DN (DK (cH (xV 4) (DG T.c_Reader mt_Reader_read_term_2 hr (xV 0) (Cp (xV 1) Cy) (hk:=by omega)))))))
   (DC (DK (Vm T.c_Reader mtk_Reader_take_0_word hr (xV 0) (DZ (xV 3) D4) (hk:=by omega)))
   (DN (Ct (ES b_tuple T.b_tuple (Cp (xV 4) Cy)))))))))
theorem Hl {f:Addr} {fd:FuncData} {n:Nat} (FF:Fun K "read_tick" "Reader.read_tick" aN f fd) (T:Tx K F w mg C_Book C_Reader) (mt_Reader_read_term_2:MethD P w K mg base F (5+n) C_Reader "read_term" 2 [] (Ff n)) (mtk_Reader_take_0_word:MethK P w K mg base F 2 C_Reader "take" 0 ["word"] [0] 2 Ja):FnOk P w K mg base CX0 (5+n+1) f fd ["self","bound"] (DO K F 2 (Cv 2 (kh (Hz n) (IQ n) (IR n) (IS n) (IT n) (IU n) (IA n) (Ff n)))):=
 C2 (N:=rB) (body:=(kh (Hz n) (IQ n) (IR n) (IS n) (IT n) (IU n) (IA n) (Ff n))) FF Hf λcdv A outer s H E hr=>by
  unfold kh;exact(DC (EM T.c_Reader T.n_Reader_at (xV 0) C6)
   (DC (DK (Vm T.c_Reader mtk_Reader_take_0_word hr (xV 0) (DZ Cr D4) (hk:=by omega)))
   (DN (Ct (DT (Cp Cr (Cp (DG T.c_Reader mt_Reader_read_term_2 hr (xV 0) (Cp (xV 1) Cy) (hk:=by omega)) Cy)))))))
theorem IY {f:Addr} {fd:FuncData} {n:Nat} (FF:Fun K "read_new" "Reader.read_new" aO f fd) (T:Tx K F w mg C_Book C_Reader) (mt_Reader_read_term_2:MethD P w K mg base F (5+n) C_Reader "read_term" 2 [] (Ff n)) (mtk_Reader_take_0_word:MethK P w K mg base F 2 C_Reader "take" 0 ["word"] [0] 2 Ja) (mt_Reader_read_binder_1:MethD P w K mg base F 5 C_Reader "read_binder" 1 [] aY):FnOk P w K mg base CX0 (5+n+1) f fd ["self","bound"] (DO K F 2 (Cv 3 (ki (Hz n) (IQ n) (IR n) (IS n) (IT n) (IU n) (IA n) (Ff n)))):=
 C2 (N:=rC) (body:=(ki (Hz n) (IQ n) (IR n) (IS n) (IT n) (IU n) (IA n) (Ff n))) FF rD λcdv A outer s H E hr=>by
  unfold ki;exact(DC (EM T.c_Reader T.n_Reader_at (xV 0) C6)
   (DC (DH 2 rD.nd (OI T.c_Reader mt_Reader_read_binder_1 hr (xV 0) (hk:=by omega)))
   (DC (DK (Vm T.c_Reader mtk_Reader_take_0_word hr (xV 0) (DZ Cr D4) (hk:=by omega)))
   (DN (Ct (DT (Cp Cr (Cp (DG T.c_Reader mt_Reader_read_term_2 hr (xV 0) (Cp (XI (Wz (Cp (xV 2) Cy)) (xV 1)) Cy) (hk:=by omega)) Cy))))))))
theorem Hm {f:Addr} {fd:FuncData} {n:Nat} (FF:Fun K "read_test" "Reader.read_test" aP f fd) (T:Tx K F w mg C_Book C_Reader) (mt_Reader_read_term_2:MethD P w K mg base F (5+n) C_Reader "read_term" 2 [] (Ff n)) (mtk_Reader_take_0_word:MethK P w K mg base F 2 C_Reader "take" 0 ["word"] [0] 2 Ja) (mt_Reader_read_mark_2:MethD P w K mg base F 4 C_Reader "read_mark" 2 [] Vp) (mt_Reader_need_2:MethD P w K mg base F 1 C_Reader "need" 2 [] NP) (mt_Reader_next_word_1:MethD P w K mg base F 1 C_Reader "next_word" 1 [] JZ):FnOk P w K mg base CX0 (5+n+1) f fd ["self","bound"] (DO K F 2 (Cv 5 (kj (Hz n) (IQ n) (IR n) (IS n) (IT n) (IU n) (IA n) (Ff n)))):=
 C2 (N:=rE) (body:=(kj (Hz n) (IQ n) (IR n) (IS n) (IT n) (IU n) (IA n) (Ff n))) FF oJ λcdv A outer s H E hr=>by
  unfold kj;exact(DC (EM T.c_Reader T.n_Reader_at (xV 0) C6)
   (DC (DH 2 oJ.nd (DG T.c_Reader mt_Reader_read_mark_2 hr (xV 0) (Cp (xV 1) Cy) (hk:=by omega)))
   (DC (DH 3 oJ.nd (OI T.c_Reader mt_Reader_next_word_1 hr (xV 0) (hk:=by omega)))
   (DC (DK (DG T.c_Reader mt_Reader_need_2 hr (xV 0) (Cp (EB (Jf (FJ hr)) (xV 3) (DT (Cp Cr (Cp Cr Cy)))) Cy) (hk:=by omega)))
   (DC (EM T.c_Reader T.n_Reader_at (xV 0) C6)
   (DC (DH 4 oJ.nd (DG T.c_Reader mt_Reader_read_mark_2 hr (xV 0) (Cp (xV 1) Cy) (hk:=by omega)))
   (DC (DK (Vm T.c_Reader mtk_Reader_take_0_word hr (xV 0) (DZ Cr D4) (hk:=by omega)))
   (DN (Ct (DT (Cp (TQ (FJ hr) (fS (cT (cT mI))) (xV 3)) (Cp (xV 2) (Cp (xV 4) (Cp (DG T.c_Reader mt_Reader_read_term_2 hr (xV 0) (Cp (xV 1) Cy) (hk:=by omega)) Cy))))))))))))))
theorem Hn {f:Addr} {fd:FuncData} {n:Nat} (FF:Fun K "read_pick" "Reader.read_pick" aQ f fd) (T:Tx K F w mg C_Book C_Reader) (mtk_Reader_read_rows_1_sign_end:MethK P w K mg base F (5+n) C_Reader "read_rows" 1 ["sign","end"] [0,1] 4 (Hz n)):FnOk P w K mg base CX0 (5+n+1) f fd ["self","bound"] (DO K F 2 (Cv 2 (kl (Hz n) (IQ n) (IR n) (IS n) (IT n) (IU n) (IA n) (Ff n)))):=
 C2 (N:=rF) (body:=(kl (Hz n) (IQ n) (IR n) (IS n) (IT n) (IU n) (IA n) (Ff n))) FF Hg λcdv A outer s H E hr=>by
  unfold kl;exact(DN (Ct (DT (Cp Cr (Cp (TX T.c_Reader mtk_Reader_read_rows_1_sign_end hr (xV 0) (Cp (xV 1) Cy) (DZ Cr (DZ Cr D4)) (hk:=by omega)) Cy)))))
theorem Ge {f:Addr} {fd:FuncData} {n:Nat} (FF:Fun K "read_beside" "Reader.read_beside" aR f fd) (T:Tx K F w mg C_Book C_Reader) (mtk_Reader_read_rows_1_sign_end:MethK P w K mg base F (5+n) C_Reader "read_rows" 1 ["sign","end"] [0,1] 4 (Hz n)):FnOk P w K mg base CX0 (5+n+1) f fd ["self","bound"] (DO K F 2 (Cv 2 (km (Hz n) (IQ n) (IR n) (IS n) (IT n) (IU n) (IA n) (Ff n)))):=
 C2 (N:=rG) (body:=(km (Hz n) (IQ n) (IR n) (IS n) (IT n) (IU n) (IA n) (Ff n))) FF Ga λcdv A outer s H E hr=>by
  unfold km;exact(DN (Ct (DT (Cp Cr (Cp (TX T.c_Reader mtk_Reader_read_rows_1_sign_end hr (xV 0) (Cp (xV 1) Cy) (DZ Cr (DZ Cr D4)) (hk:=by omega)) Cy)))))
theorem HC {f:Addr} {fd:FuncData} {n:Nat} (FF:Fun K "read_along" "Reader.read_along" aS f fd) (T:Tx K F w mg C_Book C_Reader) (mt_Reader_read_term_2:MethD P w K mg base F (5+n) C_Reader "read_term" 2 [] (Ff n)) (mtk_Reader_take_0_word:MethK P w K mg base F 2 C_Reader "take" 0 ["word"] [0] 2 Ja) (mt_Reader_read_binder_1:MethD P w K mg base F 5 C_Reader "read_binder" 1 [] aY) (mt_Reader_read_mark_2:MethD P w K mg base F 4 C_Reader "read_mark" 2 [] Vp) (mt_Reader_need_2:MethD P w K mg base F 1 C_Reader "need" 2 [] NP) (mt_Reader_next_word_1:MethD P w K mg base F 1 C_Reader "next_word" 1 [] JZ):FnOk P w K mg base CX0 (5+n+1) f fd ["self","bound"] (DO K F 2 (Cv 6 (cz (Hz n) (IQ n) (IR n) (IS n) (IT n) (IU n) (IA n) (Ff n)))):=
 C2 (N:=rH) (body:=(cz (Hz n) (IQ n) (IR n) (IS n) (IT n) (IU n) (IA n) (Ff n))) FF mZ λcdv A outer s H E hr=>by
  unfold cz;exact(DC (DH 2 mZ.nd (DG T.c_Reader mt_Reader_read_mark_2 hr (xV 0) (Cp (xV 1) Cy) (hk:=by omega)))
   (DC (DH 3 mZ.nd (OI T.c_Reader mt_Reader_next_word_1 hr (xV 0) (hk:=by omega)))
   (DC (DK (DG T.c_Reader mt_Reader_need_2 hr (xV 0) (Cp (EB (Jf (FJ hr)) (xV 3) (DT (Cp Cr (Cp Cr Cy)))) Cy) (hk:=by omega)))
   (DC (EM T.c_Reader T.n_Reader_at (xV 0) C6)
   (DC (DW (C0 (EH hr.units) (xV 3) Cr) (DC (DH 4 mZ.nd (DG T.c_Reader mt_Reader_read_mark_2 hr (xV 0) (Cp (xV 1) Cy) (hk:=by omega)))
   (DC (DK (Vm T.c_Reader mtk_Reader_take_0_word hr (xV 0) (DZ Cr D4) (hk:=by omega)))
   (DN (Ct (DT (Cp Cr (Cp (xV 2) (Cp (xV 4) (Cp (DG T.c_Reader mt_Reader_read_term_2 hr (xV 0) (Cp (xV 1) Cy) (hk:=by omega)) Cy))))))))) Cz)
   (DC (DH 5 mZ.nd (OI T.c_Reader mt_Reader_read_binder_1 hr (xV 0) (hk:=by omega)))
   (DC (DK (Vm T.c_Reader mtk_Reader_take_0_word hr (xV 0) (DZ Cr D4) (hk:=by omega)))
   (DN (Ct (DT (Cp Cr (Cp (xV 2) (Cp (DG T.c_Reader mt_Reader_read_term_2 hr (xV 0) (Cp (XI (Wz (Cp (xV 5) Cy)) (xV 1)) Cy) (hk:=by omega)) Cy)))))))))))))
theorem Ho {f:Addr} {fd:FuncData} {n:Nat} (FF:Fun K "read_term" "Reader.read_term" aT f fd) (T:Tx K F w mg C_Book C_Reader) (c_is_definition_name:Fn P w K mg base F 3 "is_definition_name" 1 [] VD) (mt_Reader_read_beside_2:MethD P w K mg base F (5+n) C_Reader "read_beside" 2 [] (IU n)) (mt_Reader_read_along_2:MethD P w K mg base F (5+n) C_Reader "read_along" 2 [] (IA n)) (mt_Reader_read_pick_2:MethD P w K mg base F (5+n) C_Reader "read_pick" 2 [] (IT n)) (mt_Reader_read_test_2:MethD P w K mg base F (5+n) C_Reader "read_test" 2 [] (IS n)) (mt_Reader_read_new_2:MethD P w K mg base F (5+n) C_Reader "read_new" 2 [] (IR n)) (mt_Reader_read_tick_2:MethD P w K mg base F (5+n) C_Reader "read_tick" 2 [] (IQ n)) (mt_Reader_read_stop_2:MethD P w K mg base F 1 C_Reader "read_stop" 2 [] oH) (mt_Reader_read_marks_2:MethD P w K mg base F 5 C_Reader "read_marks" 2 [] oI) (mt_Reader_next_word_1:MethD P w K mg base F 1 C_Reader "next_word" 1 [] JZ):FnOk P w K mg base CX0 (5+n+1) f fd ["self","bound"] (DO K F 2 (Cv 3 (Rj (Hz n) (IQ n) (IR n) (IS n) (IT n) (IU n) (IA n) (Ff n)))):=
 C2 (N:=rJ) (body:=(Rj (Hz n) (IQ n) (IR n) (IS n) (IT n) (IU n) (IA n) (Ff n))) FF rK λcdv A outer s H E hr=>by
  unfold Rj;exact(DC (DH 2 rK.nd (OI T.c_Reader mt_Reader_next_word_1 hr (xV 0) (hk:=by omega)))
   (DC (DW (EC (Dt c_is_definition_name hr (Cp (xV 2) Cy) (hk:=by omega))) (DC (EM T.c_Reader T.n_Reader_at (xV 0) C6)
   (DN (Ct (DT (Cp Cr (Cp (xV 2) (Cp (DG T.c_Reader mt_Reader_read_marks_2 hr (xV 0) (Cp (xV 1) Cy) (hk:=by omega)) Cy))))))) Cz)
   (DC (DW (C0 (EH hr.units) (xV 2) Cr) (DN (Ct (DG T.c_Reader mt_Reader_read_stop_2 hr (xV 0) (Cp (xV 1) Cy) (hk:=by omega)))) Cz)
   (DC (DW (C0 (EH hr.units) (xV 2) Cr) (DN (Ct (DG T.c_Reader mt_Reader_read_tick_2 hr (xV 0) (Cp (xV 1) Cy) (hk:=by omega)))) Cz)
   (DC (DW (C0 (EH hr.units) (xV 2) Cr) (DN (Ct (DG T.c_Reader mt_Reader_read_new_2 hr (xV 0) (Cp (xV 1) Cy) (hk:=by omega)))) Cz)
   (DC (DW (C0 (EH hr.units) (xV 2) Cr) (DN (Ct (DG T.c_Reader mt_Reader_read_test_2 hr (xV 0) (Cp (xV 1) Cy) (hk:=by omega)))) Cz)
   (DC (DW (C0 (EH hr.units) (xV 2) Cr) (DN (Ct (DG T.c_Reader mt_Reader_read_pick_2 hr (xV 0) (Cp (xV 1) Cy) (hk:=by omega)))) Cz)
   (DN (Ct (PY (C0 (EH hr.units) (xV 2) Cr) (DG T.c_Reader mt_Reader_read_beside_2 hr (xV 0) (Cp (xV 1) Cy) (hk:=by omega)) (DG T.c_Reader mt_Reader_read_along_2 hr (xV 0) (Cp (xV 1) Cy) (hk:=by omega))))))))))))
theorem IZ {f:Addr} {fd:FuncData} (FF:Fun K "read_end" "Reader.read_end" jf f fd) (T:Tx K F w mg C_Book C_Reader) (mt_Reader_need_2:MethD P w K mg base F 1 C_Reader "need" 2 [] NP):FnOk P w K mg base CX0 2 f fd ["self"] (DO K F 1 (Cv 1 ko)):=
 C2 (N:=rL) (body:=ko) FF IV λcdv A outer s H E hr=>by
  unfold ko;exact(DN (DK (DG T.c_Reader mt_Reader_need_2 hr (xV 0) (Cp (EB (EH hr.units) (Ef T.c_Reader T.n_Reader_at (xV 0)) (ES b_len T.b_len (Cp (Ef T.c_Reader T.n_Reader_words (xV 0)) Cy))) Cy))))
theorem HD {f:Addr} {fd:FuncData} (FF:Fun K "read_heads" "Reader.read_heads" jg f fd) (T:Tx K F w mg C_Book C_Reader) (c_is_definition_name:Fn P w K mg base F 3 "is_definition_name" 1 [] VD) (mt_Reader_next_word_1:MethD P w K mg base F 1 C_Reader "next_word" 1 [] JZ) (mt_Reader_read_binder_1:MethD P w K mg base F 5 C_Reader "read_binder" 1 [] aY) (mt_Reader_need_2:MethD P w K mg base F 1 C_Reader "need" 2 [] NP) (mtk_Reader_take_0_word:MethK P w K mg base F 2 C_Reader "take" 0 ["word"] [0] 2 Ja):FnOk P w K mg base CX0 6 f fd ["self"] (DO K F 1 (Cv 3 kq)):=
 C2 (N:=rM) (body:=kq) FF pW λcdv A outer s H E hr=>by
  unfold kq;exact(DC (DH 1 pW.nd (OI T.c_Reader mt_Reader_next_word_1 hr (xV 0)))
   (DC (DK (DG T.c_Reader mt_Reader_need_2 hr (xV 0) (Cp (Dt c_is_definition_name hr (Cp (xV 1) Cy)) Cy)))
   (DC (EM T.c_Reader T.n_Reader_at (xV 0) C6)
   (DC (DK (Vm T.c_Reader mtk_Reader_take_0_word hr (xV 0) (DZ Cr D4)))
   (DC (DH 2 pW.nd (Gv Cy))
   (DC (Nt 64 (C0 (FV hr.units) (OI T.c_Reader mt_Reader_next_word_1 hr (xV 0)) Cr) (DC (DW (C0 (FV hr.units) (xV 2) (E5 Cy)) (DC (DK (DG T.c_Reader mt_Reader_need_2 hr (xV 0) (Cp (EB KS (ES b_len T.b_len (Cp (xV 2) Cy)) (D7 T.g_MOST_MARKS)) Cy)))
   (DN (DK (Vm T.c_Reader mtk_Reader_take_0_word hr (xV 0) (DZ Cr D4))))) Cz)
   (DC (DK (DG T.c_Reader mt_Reader_need_2 hr (xV 0) (Cp (EB (Np (FJ hr)) (OI T.c_Reader mt_Reader_next_word_1 hr (xV 0)) (xV 2)) Cy)))
   (DN (DK (cH (xV 2) (OI T.c_Reader mt_Reader_read_binder_1 hr (xV 0))))))))
   (DC (EM T.c_Reader T.n_Reader_at (xV 0) C6)
   (DN (Ct (DT (Cp (xV 1) (Cp (xV 2) Cy))))))))))))
theorem Ia {f:Addr} {fd:FuncData} (FF:Fun K "read_definition" "read_definition" jh f fd) (T:Tx K F w mg C_Book C_Reader) (c_words_of:Fn P w K mg base F 1 "words_of" 1 [] GE) (mt_Reader_read_end_1:MethD P w K mg base F 2 C_Reader "read_end" 1 [] oK) (mt_Reader_read_term_2:MethD P w K mg base F 65 C_Reader "read_term" 2 [] (Ff 60)) (mtk_Reader_take_0_word:MethK P w K mg base F 2 C_Reader "take" 0 ["word"] [0] 2 Ja) (mt_Reader_read_heads_1:MethD P w K mg base F 6 C_Reader "read_heads" 1 [] oL) (mk_Reader___init___3:MkD P w K mg base F 1 C_Reader 3 [] oG):FnOk P w K mg base CX0 66 f fd ["text"] (DO K F 1 (Cv 6 kr)):=
 C2 (N:=rN) (body:=kr) FF ku λcdv A outer s H E hr=>by
  unfold kr;exact(DC (DW (Eu (EC (GT "str" T.b_isinstance T.b_str (xV 0)))) (DN M6) Cz)
   (DC (DH 1 ku.nd (XD T.c_Reader mk_Reader___init___3 T.m_Reader hr (Cp (Dt c_words_of hr (Cp (xV 0) Cy)) (Cp GY Cy))))
   (DC (GU (OI T.c_Reader mt_Reader_read_heads_1 hr (xV 1)) (Io (IE (EF (is:=[2,3]) 2 ku.nd) (IE (EF (is:=[2,3]) 3 ku.nd) (Ek (is:=[2,3]))))))
   (DC (Ip (Ds (DT (Cp Cr (Cp Cr (Cp Cr Cy))))) (EF (is:=[4]) 4 ku.nd) (DN (DK (Vm T.c_Reader mtk_Reader_take_0_word hr (xV 1) (DZ (xV 4) D4)))))
   (DC (DH 5 ku.nd (DG T.c_Reader mt_Reader_read_term_2 hr (xV 1) (Cp (ES XA T.b_tuple (Cp (fK (xV 3)) Cy)) Cy)))
   (DC (DK (OI T.c_Reader mt_Reader_read_end_1 hr (xV 1)))
   (DN (Ct (DT (Cp (xV 2) (Cp (ES b_len T.b_len (Cp (xV 3) Cy)) (Cp (xV 5) Cy))))))))))))
theorem Xk {f:Addr} {fd:FuncData} (FF:Fun K "_law_bag" "_law_bag" HQ f fd) (T:Tx K F w mg C_Book C_Reader):FnOk P w K mg base CX0 1 f fd ["_law_script","_law_at"] (DO K F 2 (Cv 4 HS)):=
 C2 (N:=To) (body:=HS) FF HA λcdv A outer s H E hr=>by
  unfold HS;exact(DC (DH 2 HA.nd C6)
   (DC (DW (C0 KS (xV 1) (ES b_len T.b_len (Cp (xV 0) Cy))) (DN (DH 2 HA.nd (DX (xV 0) (xV 1)))) Cz)
   (DC (DH 3 HA.nd (ES b_abs T.b_abs (Cp (xV 2) Cy)))
   (DC (DW (C0 KS (xV 3) (mD C6 C6)) (DN (DH 3 HA.nd C6)) Cz)
   (DN (Ct (Gv (Cp (xV 3) (Cp (Ec (Ec (Ij (xV 2) C6) (K7 C6 (xV 1))) C6) (Cp C6 Cy))))))))))
theorem VH {f:Addr} {fd:FuncData} (FF:Fun K "_law_take" "_law_take" Fc f fd) (T:Tx K F w mg C_Book C_Reader):FnOk P w K mg base CX0 1 f fd ["_law_bag_here","_law_many"] (DO K F 2 (Cv 7 gZ)):=
 C2 (N:=QE) (body:=gZ) FF kx λcdv A outer s H E hr=>by
  unfold gZ;exact(DC (DW (C0 PV (DX (xV 0) C6) C6) (DC (DH 2 kx.nd (Ij (DX (xV 0) C6) (xV 1)))
   (DC (GU (RC (DX (xV 0) C6) (xV 1)) (WN (is:=[]) (xV 0) C6))
   (DN (Ct (xV 2))))) Cz)
   (DC (DH 3 kx.nd (DT (Cp C6 (Cp C6 (Cp C6 (Cp C6 (Cp C6 (Cp C6 (Cp C6 Cy)))))))))
   (DC (GU (Ec (DX (xV 0) C6) C6) (WN (is:=[]) (xV 0) C6))
   (DC (DH 4 kx.nd (DX (xV 0) C6))
   (DC (DH 5 kx.nd (Ec (Ec (K7 (DX (xV 0) C6) (Ec (K7 C6 (xV 4)) C6)) (K7 (K7 C6 (xV 4)) (xV 4))) C6))
   (DC (DH 6 kx.nd (Ij (fy (xV 5) C6) (DX (xV 3) (Ij (xV 4) C6))))
   (DN (Ct (Ij (RC (Ij (K7 (xV 6) (Ec (RC (xV 6) C6) (xV 4))) (DX (xV 3) (Ij (Ec (xV 4) C6) C6))) C6) (xV 1))))))))))
theorem VI {f:Addr} {fd:FuncData} {n:Nat} (FF:Fun K "_law_body" "_law_body" Yv f fd) (T:Tx K F w mg C_Book C_Reader) (c_l_take:Fn P w K mg base F 1 "_law_take" 2 [] FB) (c_l_body:Fn P w K mg base F (1+n) "_law_body" 5 [] (NQ n)):FnOk P w K mg base CX0 (1+n+1) f fd ["_law_bag_here","_law_wide","_law_deep","_law_room","_law_stand"] (DO K F 5 (Cv 12 (Fg (NQ n)))):=
 C2 (N:=Lm) (body:=(Fg (NQ n))) FF Xj λcdv A outer s H E hr=>by
  unfold Fg;exact(DC (GU (FU (DX (xV 3) C6) C6) (WN (is:=[]) (xV 3) C6))
   (DC (DH 5 Xj.nd (PY (MS (ZU (C0 PV (xV 2) C6) (PX (C0 PV (DX (xV 3) C6) C6)))) (Dt c_l_take hr (Cp (xV 0) (Cp C6 Cy)) (hk:=by omega)) C6))
   (DC (DW (MS (ZU (C0 (EH hr.units) (xV 1) C6) (PX (C0 (Jf (FJ hr)) (xV 5) (DT (Cp C6 (Cp C6 (Cp C6 (Cp C6 (Cp C6 (Cp C6 (Cp C6 Cy)))))))))))) (DN (DH 5 Xj.nd C6)) Cz)
   (DC (DW (C0 KS (xV 5) C6) (DN (Ct (DT (Cp Cr Cy)))) Cz)
   (DC (DW (MS (Nr (C0 (EH hr.units) (xV 5) C6) (Ik (C0 (EH hr.units) (xV 5) C6)))) (DC (Wu 6 7 Xj.nd (Cp (DX (E5 (Cp Cr (Cp Cr (Cp Cr (Cp Cr Cy))))) (Dt c_l_take hr (Cp (xV 0) (Cp C6 Cy)) (hk:=by omega))) (Cp (K7 (Dt c_l_take hr (Cp (xV 0) (Cp C6 Cy)) (hk:=by omega)) (ES b_int T.b_int (Cp (EB PV (xV 1) C6) Cy))) Cy)))
   (DC (DW (C0 PV (ES b_len T.b_len (Cp (xV 3) Cy)) C6) (DN (DH 7 Xj.nd (DX (DX (xV 3) C6) (xV 6)))) Cz)
   (DC (DW (MS (Nr (C0 (FV hr.units) (xV 4) C6) (Ik (MS (ZU (C0 PV (xV 7) C6) (PX (C0 (EH hr.units) (xV 1) C6))))))) (DN (Ct (DT (Cp Cr (Cp (Dt c_l_body hr (Cp (xV 0) (Cp (xV 1) (Cp (FU (xV 2) C6) (Cp (xV 3) (Cp (ES Jg T.b_max (Cp (xV 4) (Cp C6 Cy))) Cy))))) (hk:=by omega)) Cy))))) Cz)
   (DN (Ct (DT (Cp Cr (Cp (xV 6) (Cp (ES b_tuple T.b_tuple (Cp (KU [("_law_k",8)] Xj.nd (fJ T.b_range (xV 7)) ⟨λ_ _ _ _ _=>(EF (is:=[8]) 8 Xj.nd),λ_ _ _ _ _=>Dj,λ_ _ _ _ _=>(Dt c_l_take hr (Cp (xV 0) (Cp (xV 1) Cy)) (hk:=by omega)),λ_ h=>h⟩ (by show blkC Lm (defScope Yv) _ _=true;decide+kernel)) Cy)) Cy))))))))) Cz)
   (DC (DW (C0 KS (xV 5) C6) (DN (Ct (DT (Cp Cr (Cp (Dt c_l_body hr (Cp (xV 0) (Cp (xV 1) (Cp (FU (xV 2) C6) (Cp (xV 3) (Cp (ES Jg T.b_max (Cp (xV 4) (Cp C6 Cy))) Cy))))) (hk:=by omega)) Cy))))) Cz)
   (DC (DW (C0 KS (xV 5) C6) (DC (Wu 9 10 Xj.nd (Cp (Dt c_l_take hr (Cp (xV 0) (Cp (xV 1) Cy)) (hk:=by omega)) (Cp (Dt c_l_take hr (Cp (xV 0) (Cp (xV 1) Cy)) (hk:=by omega)) Cy)))
   (DN (Ct (DT (Cp Cr (Cp (xV 9) (Cp (xV 10) (Cp (Dt c_l_body hr (Cp (xV 0) (Cp (xV 1) (Cp (FU (xV 2) C6) (Cp (xV 3) (Cp (ES Jg T.b_max (Cp (xV 4) (Cp C6 Cy))) Cy))))) (hk:=by omega)) Cy)))))))) Cz)
   (DC (DW (MS (Nr (C0 KS (xV 5) C6) (Ik (C0 (EH hr.units) (xV 5) C6)))) (DN (Ct (DT (Cp Cr (Cp (Dt c_l_take hr (Cp (xV 0) (Cp (xV 1) Cy)) (hk:=by omega)) (Cp (Dt c_l_body hr (Cp (xV 0) (Cp (Ec (xV 1) C6) (Cp (FU (xV 2) C6) (Cp (xV 3) (Cp (ES Jg T.b_max (Cp (xV 4) (Cp C6 Cy))) Cy))))) (hk:=by omega)) Cy)))))) Cz)
   (DC (DW (C0 KS (xV 5) C6) (DC (Wu 9 10 Xj.nd (Cp (Dt c_l_take hr (Cp (xV 0) (Cp (xV 1) Cy)) (hk:=by omega)) (Cp (Dt c_l_take hr (Cp (xV 0) (Cp (xV 1) Cy)) (hk:=by omega)) Cy)))
   (DN (Ct (DT (Cp (DX (E5 (Cp Cr (Cp Cr Cy))) (FU (xV 5) C6)) (Cp (xV 9) (Cp (xV 10) (Cp (Dt c_l_body hr (Cp (xV 0) (Cp (xV 1) (Cp (FU (xV 2) C6) (Cp (xV 3) (Cp (xV 4) Cy))))) (hk:=by omega)) Cy)))))))) Cz)
   (DC (DW (C0 (EH hr.units) (xV 5) C6) (DN (Ct (DT (Cp Cr (Cp (Dt c_l_body hr (Cp (xV 0) (Cp (Ec (xV 1) C6) (Cp (FU (xV 2) C6) (Cp (xV 3) (Cp (xV 4) Cy))))) (hk:=by omega)) Cy))))) Cz)
   (DC (DH 11 Xj.nd (Gv Cy))
   (DC (Ip (fJ T.b_range (DX (E5 (Cp (Dt c_l_take hr (Cp (xV 0) (Cp C6 Cy)) (hk:=by omega)) (Cp C6 Cy))) (ES b_int T.b_int (Cp (EB (EH hr.units) (Dt c_l_take hr (Cp (xV 0) (Cp C6 Cy)) (hk:=by omega)) C6) Cy)))) (EF (is:=[8]) 8 Xj.nd) (DN (DW (C0 PV (DX (xV 3) C6) C6) (DN (DK (cH (xV 11) (Dt c_l_body hr (Cp (xV 0) (Cp (xV 1) (Cp (FU (xV 2) C6) (Cp (xV 3) (Cp (DX (E5 (Cp (xV 4) (Cp C6 Cy))) (Ij (xV 5) C6)) Cy))))) (hk:=by omega))))) Cz)))
   (DN (Ct (DT (Cp (DX (E5 (Cp Cr (Cp Cr Cy))) (Ij (xV 5) C6)) (Cp (ES b_tuple T.b_tuple (Cp (xV 11) Cy)) Cy)))))))))))))))))
theorem Md {f:Addr} {fd:FuncData} (FF:Fun K "_law_kept_row" "_law_kept_row" ji f fd) (T:Tx K F w mg C_Book C_Reader) (c_l_take:Fn P w K mg base F 1 "_law_take" 2 [] FB) (c_l_body:Fn P w K mg base F 15 "_law_body" 5 [] (NQ 14)):FnOk P w K mg base CX0 16 f fd ["_law_bag_here"] (DO K F 1 (Cv 4 ky)):=
 C2 (N:=JK) (body:=ky) FF oM λcdv A outer s H E hr=>by
  unfold ky;exact(DC (DH 1 oM.nd (Dt c_l_take hr (Cp (xV 0) (Cp C6 Cy))))
   (DC (DH 2 oM.nd (Gv (Cp (DX (E5 (Cp C6 (Cp C6 (Cp C6 Cy)))) (Dt c_l_take hr (Cp (xV 0) (Cp C6 Cy)))) Cy)))
   (DC (DH 3 oM.nd (Dt c_l_body hr (Cp (xV 0) (Cp (xV 1) (Cp (DX (E5 (Cp C6 (Cp C6 (Cp C6 Cy)))) (Dt c_l_take hr (Cp (xV 0) (Cp C6 Cy)))) (Cp (xV 2) (Cp C6 Cy)))))))
   (DN (Ct (DT (Cp (DX (E5 (Cp Cr (Cp Cr (Cp Cr (Cp Cr Cy))))) (Dt c_l_take hr (Cp (xV 0) (Cp C6 Cy)))) (Cp (xV 1) (Cp (xV 3) Cy)))))))))
theorem QN {f:Addr} {fd:FuncData} (FF:Fun K "_law_turned" "_law_turned" jj f fd) (T:Tx K F w mg C_Book C_Reader) (c_l_take:Fn P w K mg base F 1 "_law_take" 2 [] FB):FnOk P w K mg base CX0 2 f fd ["_law_bag_here","_law_some"] (DO K F 2 (Cv 5 kz)):=
 C2 (N:=Lo) (body:=kz) FF oN λcdv A outer s H E hr=>by
  unfold kz;exact(DC (DH 2 oN.nd (ES Z0 T.b_list (Cp (xV 1) Cy)))
   (DC (DH 3 oN.nd (Gv Cy))
   (DC (Ip (fJ T.b_range (ES b_len T.b_len (Cp (xV 1) Cy))) (EF (is:=[4]) 4 oN.nd) (DN (DK (cH (xV 3) (mG (xV 2) (Dt c_l_take hr (Cp (xV 0) (Cp (ES b_len T.b_len (Cp (xV 2) Cy)) Cy))))))))
   (DN (Ct (xV 3))))))
theorem gi {f:Addr} {fd:FuncData} (FF:Fun K "law" "law" FA f fd) (T:Tx K F w mg C_Book C_Reader) (c_l_turned:Fn P w K mg base F 2 "_law_turned" 2 [] Ma) (c_show_definition:Fn P w K mg base F 63 "show_definition" 3 [] VF) (c_read_definition:Fn P w K mg base F 66 "read_definition" 1 [] Yx) (c_l_take:Fn P w K mg base F 1 "_law_take" 2 [] FB) (c_l_kept_row:Fn P w K mg base F 16 "_law_kept_row" 1 [] dA) (c_l_bag:Fn P w K mg base F 1 "_law_bag" 2 [] aZ) (mt_Book___repr___1:MethD P w K mg base F 1 C_Book "__repr__" 1 [] Ri) (mt_Book___eq___2:MethD P w K mg base F 1 C_Book "__eq__" 2 [] KL) (mt_Book_put_4:MethD P w K mg base F 82 C_Book "put" 4 [] PB) (mt_Book___len___1:MethD P w K mg base F 1 C_Book "__len__" 1 [] Rh) (mkk_Book___init___0_rows:MkK P w K mg base F 83 C_Book 0 ["rows"] [0] 2 Ka) (mt_Book___str___1:MethD P w K mg base F 64 C_Book "__str__" 1 [] Lh) (mk_Book___init___2:MkD P w K mg base F 83 C_Book 2 [] Ka) (mt_Book_get_2:MethD P w K mg base F 4 C_Book "get" 2 [] aX) (mt_Book_names_1:MethD P w K mg base F 1 C_Book "names" 1 [] cy) (mk_Book___init___1:MkD P w K mg base F 83 C_Book 2 [.tup []] Ka):FnOkG P w K mg base CX0 85 f fd ["_law_script"] (DO K F 1 (Cv 14 NR)):=
 fQ (N:=Lp) (body:=NR) FF.toD DU λcdv A outer s H E hg hr=>by
  unfold NR;exact(DC (Ip (fJ T.b_range (ES Jg T.b_max (Cp C6 (Cp (ES fH T.b_min (Cp C6 (Cp (ES b_len T.b_len (Cp (xV 0) Cy)) Cy))) Cy)))) (EF (is:=[1]) 1 DU.nd) (DC (DH 2 DU.nd (Dt c_l_bag hr (Cp (xV 0) (Cp (xV 1) Cy))))
   (DC (DH 3 DU.nd (Zr T.c_Book mk_Book___init___1 T.m_Book hr))
   (DC (Ip (fJ T.b_range (Dt c_l_take hr (Cp (xV 2) (Cp C6 Cy)))) (EF (is:=[4]) 4 DU.nd) (DC (GU (Dt c_l_kept_row hr (Cp (xV 2) Cy)) (Io (IE (EF (is:=[5,6,7]) 5 DU.nd) (IE (EF (is:=[5,6,7]) 6 DU.nd) (IE (EF (is:=[5,6,7]) 7 DU.nd) (Ek (is:=[5,6,7])))))))
   (DN (DK (DG T.c_Book mt_Book_put_4 hr (xV 3) (Cp (xV 5) (Cp (xV 6) (Cp (xV 7) Cy))))))))
   (DC (ZV (i:=8) [("_law_row",9)] DU.nd (Ds (aD (ES (RX T.c_Book mt_Book___str___1 hr (gO hr)) T.b_str (Cp (xV 3) Cy)) Cr)) ⟨λ_ _ _ _ _=>(EF (is:=[9]) 9 DU.nd),λ_ _ _ _ _=>(WO (C0 (FV hr.units) (xV 9) Cr)),λ_ _ _ _ _=>(xV 9),λ_ h=>h⟩ (sw_true rfl rfl rfl AC) (by show blkC Lp (defScope FA) _ _=true;decide+kernel))
   (DC (ZV (i:=10) [("_law_text",11)] DU.nd (Ds (xV 8)) ⟨λ_ _ _ _ _=>(EF (is:=[11]) 11 DU.nd),λ_ _ _ _ _=>Dj,λ_ _ _ _ _=>(Dt c_read_definition hr (Cp (xV 11) Cy)),λ_ h=>h⟩ (sw_true rfl rfl rfl AC) (by show blkC Lp (defScope FA) _ _=true;decide+kernel))
   (DC (DW (MS (Nr (C0 (FV hr.units) (KU [("_law_row",9)] DU.nd (Ds (xV 10)) ⟨λ_ _ _ _ _=>(EF (is:=[9]) 9 DU.nd),λ_ _ _ _ _=>Dj,λ_ _ _ _ _=>(DX (xV 9) C6),λ_ h=>h⟩ (by show blkC Lp (defScope FA) _ _=true;decide+kernel)) (OI T.c_Book mt_Book_names_1 hr (xV 3))) (Ik (C0 (FV hr.units) (ES b_len T.b_len (Cp (xV 8) Cy)) (ES (Xg T.c_Book mt_Book___len___1 hr) T.b_len (Cp (xV 3) Cy)))))) (DN (Ct GY)) Cz)
   (DC (DW (C0 (FV hr.units) (KU [("_law_row",9)] DU.nd (Ds (xV 10)) ⟨λ_ _ _ _ _=>(EF (is:=[9]) 9 DU.nd),λ_ _ _ _ _=>Dj,λ_ _ _ _ _=>(Ec (DT (Cp (DX (xV 9) C6) Cy)) (DG T.c_Book mt_Book_get_2 hr (xV 3) (Cp (DX (xV 9) C6) Cy))),λ_ h=>h⟩ (by show blkC Lp (defScope FA) _ _=true;decide+kernel)) (xV 10)) (DN (Ct GY)) Cz)
   (DC (DW (C0 (FV hr.units) (KU [("_law_name",5),("_law_many",6),("_law_body_here",7)] DU.nd (Ds (xV 10)) ⟨λ_ _ _ _ _=>(Io (IE (EF (is:=[5,6,7]) 5 DU.nd) (IE (EF (is:=[5,6,7]) 6 DU.nd) (IE (EF (is:=[5,6,7]) 7 DU.nd) (Ek (is:=[5,6,7])))))),λ_ _ _ _ _=>Dj,λ_ _ _ _ _=>(Dt c_show_definition hr (Cp (xV 5) (Cp (xV 6) (Cp (xV 7) Cy)))),λ_ h=>h⟩ (by show blkC Lp (defScope FA) _ _=true;decide+kernel)) (xV 8)) (DN (Ct GY)) Cz)
   (DC (DH 12 DU.nd (XD T.c_Book mk_Book___init___2 T.m_Book hr (Cp (ES b_tuple T.b_tuple (Cp (Dt c_l_turned hr (Cp (xV 2) (Cp (xV 10) Cy))) Cy)) Cy)))
   (DC (DW (MS (Nr (C0 (cZ T.c_Book T.o_Book mt_Book___eq___2 hr (gO hr)) (xV 12) (xV 3)) (Nr (Eu (C0 (cY T.c_Book mt_Book___eq___2 hr) (xV 12) (xV 3))) (Ik (C0 (FV hr.units) (ES (RX T.c_Book mt_Book___str___1 hr (gO hr)) T.b_str (Cp (xV 12) Cy)) (ES (RX T.c_Book mt_Book___str___1 hr (gO hr)) T.b_str (Cp (xV 3) Cy))))))) (DN (Ct GY)) Cz)
   (DN (Ip (fJ T.b_range C6) (EF (is:=[4]) 4 DU.nd) (DC (DH 13 DU.nd (Xh T.c_Book mkk_Book___init___0_rows T.m_Book hr (DZ (ES b_tuple T.b_tuple (Cp (Il (Dt c_l_turned hr (Cp (xV 2) (Cp (xV 10) Cy))) (K9 C6) K8) Cy)) D4)))
   (DC (DW (MS (Nr (MS (ZU (C0 (FV hr.units) (xV 10) (E5 Cy)) (PX (C0 (cY T.c_Book mt_Book___eq___2 hr) (xV 13) (xV 3))))) (Ik (C0 (FV hr.units) (ES (Xg T.c_Book mt_Book___len___1 hr) T.b_len (Cp (xV 13) Cy)) (ES Jg T.b_max (Cp C6 (Cp (FU (ES b_len T.b_len (Cp (xV 10) Cy)) C6) Cy))))))) (DN (Ct GY)) Cz)
   (DC (fP (Ds (Dt c_l_turned hr (Cp (xV 2) (Cp (xV 10) Cy)))) (Io (IE (EF (is:=[5,6,7]) 5 DU.nd) (IE (EF (is:=[5,6,7]) 6 DU.nd) (IE (EF (is:=[5,6,7]) 7 DU.nd) (Ek (is:=[5,6,7])))))) (DN (DK (DG T.c_Book mt_Book_put_4 hr (xV 13) (Cp (xV 5) (Cp (xV 6) (Cp (xV 7) Cy)))))))
   (DN (DW (MS (Nr (C0 (cZ T.c_Book T.o_Book mt_Book___eq___2 hr (gO hr)) (xV 13) (xV 3)) (Ik (C0 (FV hr.units) (ES (Tg T.c_Book mt_Book___repr___1 hr (gO hr)) T.b_repr (Cp (xV 13) Cy)) (ES (Tg T.c_Book mt_Book___repr___1 hr (gO hr)) T.b_repr (Cp (xV 3) Cy)))))) (DN (Ct GY)) Cz))))))))))))))))))
   (DN (Ct GY)))
end
set_option maxHeartbeats 8000000 in
theorem all_mk {l:PySem.W.OpenLaw} {w:World} {K:PySem.W.Frag} {h:Heap} {mg:Str->Option Value} {fa C_Book C_Reader f0 f1 f2 f3 f4 f5 f6 f7 f8 f9 f10 f11 f12 f13 f14 f15 f16 f17 f18 f19 f20 f21 f22 f23 f24 f25 f26 f27 f28 f29 f30 f31 f32 f33 f34 f35 f36 f37 f38 f39 f40 f41 f42 f43 f44 f45 f46 f47 f48 f49 f50 f51 f52 f53 f54 f55 f56 f57 f58 f59 f60 f61 f62 f63:Addr} (X:K.In h) (G:h.Ns mainGlobals mg) (hfa:mg "law"=some (.ref fa))
 {od0 an0 od1 an1 od2 an2 od3 an3 od4 an4 od5 an5 od6 an6 od7 an7 od8 an8 od9 an9 od10 an10 od11 an11 od12 an12 od13 an13 od14 an14 od15 an15 od16 an16 od17 an17 od18 an18 od19 an19 od20 an20 od21 an21 od22 an22 od23 an23 od24 an24 od25 an25 od26 an26 od27 an27 od28 an28 od29 an29 od30 an30 od31 an31 od32 an32 od33 an33 od34 an34 od35 an35 od36 an36 od37 an37 od38 an38 od39 an39 od40 an40 od41 an41 od42 an42 od43 an43 od44 an44 od45 an45 od46 an46 od47 an47 od48 an48 od49 an49 od50 an50 od51 an51 od52 an52 od53 an53 od54 an54 od55 an55 od56 an56 od57 an57 od58 an58 od59 an59 od60 an60 od61 an61 od62 an62 od63 an63:Option Addr} {sl0 sl1 sl2 sl3 sl4 sl5 sl6 sl7 sl8 sl9 sl10 sl11 sl12 sl13 sl14 sl15 sl16 sl17 sl18 sl19 sl20 sl21 sl22 sl23 sl24 sl25 sl26 sl27 sl28 sl29 sl30 sl31 sl32 sl33 sl34 sl35 sl36 sl37 sl38 sl39 sl40 sl41 sl42 sl43 sl44 sl45 sl46 sl47 sl48 sl49 sl50 sl51 sl52 sl53 sl54 sl55 sl56 sl57 sl58 sl59 sl60 sl61 sl62 sl63:Array (Option Value)} {oc0 dc0 pm0 ct0 oc1 dc1 pm1 ct1 oc2 dc2 pm2 ct2 oc3 dc3 pm3 ct3 oc4 dc4 pm4 ct4 oc5 dc5 pm5 ct5 oc6 dc6 pm6 ct6 oc7 dc7 pm7 ct7 oc8 dc8 pm8 ct8 oc9 dc9 pm9 ct9 oc10 dc10 pm10 ct10 oc11 dc11 pm11 ct11 oc12 dc12 pm12 ct12 oc13 dc13 pm13 ct13 oc14 dc14 pm14 ct14 oc15 dc15 pm15 ct15 oc16 dc16 pm16 ct16 oc17 dc17 pm17 ct17 oc18 dc18 pm18 ct18 oc19 dc19 pm19 ct19 oc20 dc20 pm20 ct20 oc21 dc21 pm21 ct21 oc22 dc22 pm22 ct22 oc23 dc23 pm23 ct23 oc24 dc24 pm24 ct24 oc25 dc25 pm25 ct25 oc26 dc26 pm26 ct26 oc27 dc27 pm27 ct27 oc28 dc28 pm28 ct28 oc29 dc29 pm29 ct29 oc30 dc30 pm30 ct30 oc31 dc31 pm31 ct31 oc32 dc32 pm32 ct32 oc33 dc33 pm33 ct33 oc34 dc34 pm34 ct34 oc35 dc35 pm35 ct35 oc36 dc36 pm36 ct36 oc37 dc37 pm37 ct37 oc38 dc38 pm38 ct38 oc39 dc39 pm39 ct39 oc40 dc40 pm40 ct40 oc41 dc41 pm41 ct41 oc42 dc42 pm42 ct42 oc43 dc43 pm43 ct43 oc44 dc44 pm44 ct44 oc45 dc45 pm45 ct45 oc46 dc46 pm46 ct46 oc47 dc47 pm47 ct47 oc48 dc48 pm48 ct48 oc49 dc49 pm49 ct49 oc50 dc50 pm50 ct50 oc51 dc51 pm51 ct51 oc52 dc52 pm52 ct52 oc53 dc53 pm53 ct53 oc54 dc54 pm54 ct54 oc55 dc55 pm55 ct55 oc56 dc56 pm56 ct56 oc57 dc57 pm57 ct57 oc58 dc58 pm58 ct58 oc59 dc59 pm59 ct59 oc60 dc60 pm60 ct60 oc61 dc61 pm61 ct61 oc62 dc62 pm62 ct62 oc63 dc63 pm63 ct63:Value} {kV2 kV9 kV11 dT29:Addr} {kV0 kV1 kV3 kV4 kV5 kV6 kV7 kV8 kV10 kV12 kV13 kV14 kV15 kV16 kV17 kV18 kV19 kV20 kV21 kV22 kV23 kV24 kV25 kV26 kV27 kV28 kV29 kV30 kV31 kV32 kV33 kV34 kV35 kV36 kV37 kV38 kV39 kV40 kV41 kV42 kV43 kV44 kV45 kV46 kV47 kV48 kV49 kV50 kV51 kV52 kV53 kV54 kV55 kV56 kV57 kV58 kV59 kV60 kV61 kV62 kV63 cd0 cd1 cd2 cd3 cd4 cd5 cd6 cd7 cd8 cd9 cd10 cd11 cd12 cd13 cd14 cd15 cd16 cd17 cd18 cd19 cd20 cd21 cd22 cd23 cd24 cd25 cd26 cd27 cd28 cd29 cd30 cd31 cd32 cd33 cd34 cd35 cd36 cd37 cd38 cd39 cd40 cd41 cd42 cd43 cd44 cd45 cd46 cd47 cd48 cd49 cd50 cd51 cd52 cd53 cd54 cd55 cd56 cd57 cd58 cd59 cd60 cd61 cd62 cd63:Value}
 (a0:PySem.W.nsIn K mainGlobals "is_whole"=some (some (.ref f0))) (l0:K.lookup f0=some ⟨oc0,od0,.func (PySem.W.fnOf "is_whole" "is_whole" (defArgs jI) (defBody jI) (defScope jI) .none kV0 dc0 pm0 an0 cd0 ct0),sl0⟩) (c0:PySem.W.codeIn K cd0 "is_whole"=true) (k0:PySem.W.keepIn K (.ref f0)=true)
 (a1:PySem.W.nsIn K mainGlobals "are_signs"=some (some (.ref f1))) (l1:K.lookup f1=some ⟨oc1,od1,.func (PySem.W.fnOf "are_signs" "are_signs" (defArgs gQ) (defBody gQ) (defScope gQ) .none kV1 dc1 pm1 an1 cd1 ct1),sl1⟩) (c1:PySem.W.codeIn K cd1 "are_signs"=true) (k1:PySem.W.keepIn K (.ref f1)=true)
 (a2:PySem.W.nsIn K mainGlobals "are_letters"=some (some (.ref f2))) (l2:K.lookup f2=some ⟨oc2,od2,.func (PySem.W.fnOf "are_letters" "are_letters" (defArgs Q1) (defBody Q1) (defScope Q1) .none (.ref kV2) dc2 pm2 an2 cd2 ct2),sl2⟩) (c2:PySem.W.codeIn K cd2 "are_letters"=true) (k2:PySem.W.keepIn K (.ref f2)=true)
 {u2_0:Value} (w2_0:PySem.W.nsIn K kV2 "most"=some (some u2_0)) (r2_0:RelV (.int 6) u2_0)
 (a3:PySem.W.nsIn K mainGlobals "is_number_text"=some (some (.ref f3))) (l3:K.lookup f3=some ⟨oc3,od3,.func (PySem.W.fnOf "is_number_text" "is_number_text" (defArgs jJ) (defBody jJ) (defScope jJ) .none kV3 dc3 pm3 an3 cd3 ct3),sl3⟩) (c3:PySem.W.codeIn K cd3 "is_number_text"=true) (k3:PySem.W.keepIn K (.ref f3)=true)
 (a4:PySem.W.nsIn K mainGlobals "is_name"=some (some (.ref f4))) (l4:K.lookup f4=some ⟨oc4,od4,.func (PySem.W.fnOf "is_name" "is_name" (defArgs jK) (defBody jK) (defScope jK) .none kV4 dc4 pm4 an4 cd4 ct4),sl4⟩) (c4:PySem.W.codeIn K cd4 "is_name"=true) (k4:PySem.W.keepIn K (.ref f4)=true)
 (a5:PySem.W.nsIn K mainGlobals "is_definition_name"=some (some (.ref f5))) (l5:K.lookup f5=some ⟨oc5,od5,.func (PySem.W.fnOf "is_definition_name" "is_definition_name" (defArgs jL) (defBody jL) (defScope jL) .none kV5 dc5 pm5 an5 cd5 ct5),sl5⟩) (c5:PySem.W.codeIn K cd5 "is_definition_name"=true) (k5:PySem.W.keepIn K (.ref f5)=true)
 (a6:PySem.W.nsIn K mainGlobals "is_mark"=some (some (.ref f6))) (l6:K.lookup f6=some ⟨oc6,od6,.func (PySem.W.fnOf "is_mark" "is_mark" (defArgs jM) (defBody jM) (defScope jM) .none kV6 dc6 pm6 an6 cd6 ct6),sl6⟩) (c6:PySem.W.codeIn K cd6 "is_mark"=true) (k6:PySem.W.keepIn K (.ref f6)=true)
 (a7:PySem.W.nsIn K mainGlobals "are_marks"=some (some (.ref f7))) (l7:K.lookup f7=some ⟨oc7,od7,.func (PySem.W.fnOf "are_marks" "are_marks" (defArgs gR) (defBody gR) (defScope gR) .none kV7 dc7 pm7 an7 cd7 ct7),sl7⟩) (c7:PySem.W.codeIn K cd7 "are_marks"=true) (k7:PySem.W.keepIn K (.ref f7)=true)
 (a8:PySem.W.nsIn K mainGlobals "are_parts"=some (some (.ref f8))) (l8:K.lookup f8=some ⟨oc8,od8,.func (PySem.W.fnOf "are_parts" "are_parts" (defArgs Yr) (defBody Yr) (defScope Yr) .none kV8 dc8 pm8 an8 cd8 ct8),sl8⟩) (c8:PySem.W.codeIn K cd8 "are_parts"=true) (k8:PySem.W.keepIn K (.ref f8)=true)
 (a9:PySem.W.nsIn K mainGlobals "is_term"=some (some (.ref f9))) (l9:K.lookup f9=some ⟨oc9,od9,.func (PySem.W.fnOf "is_term" "is_term" (defArgs NL) (defBody NL) (defScope NL) .none (.ref kV9) dc9 pm9 an9 cd9 ct9),sl9⟩) (c9:PySem.W.codeIn K cd9 "is_term"=true) (k9:PySem.W.keepIn K (.ref f9)=true)
 {u9_0:Value} (w9_0:PySem.W.nsIn K kV9 "binders"=some (some u9_0)) (r9_0:RelV (.int 0) u9_0)
 (a10:PySem.W.nsIn K mainGlobals "marks_of"=some (some (.ref f10))) (l10:K.lookup f10=some ⟨oc10,od10,.func (PySem.W.fnOf "marks_of" "marks_of" (defArgs Xi) (defBody Xi) (defScope Xi) .none kV10 dc10 pm10 an10 cd10 ct10),sl10⟩) (c10:PySem.W.codeIn K cd10 "marks_of"=true) (k10:PySem.W.keepIn K (.ref f10)=true)
 (a11:PySem.W.nsIn K mainGlobals "standing"=some (some (.ref f11))) (l11:K.lookup f11=some ⟨oc11,od11,.func (PySem.W.fnOf "standing" "standing" (defArgs QA) (defBody QA) (defScope QA) .none (.ref kV11) dc11 pm11 an11 cd11 ct11),sl11⟩) (c11:PySem.W.codeIn K cd11 "standing"=true) (k11:PySem.W.keepIn K (.ref f11)=true)
 {u11_0:Value} (w11_0:PySem.W.nsIn K kV11 "binders"=some (some u11_0)) (r11_0:RelV (.int 0) u11_0)
 (a12:PySem.W.nsIn K mainGlobals "mark_word"=some (some (.ref f12))) (l12:K.lookup f12=some ⟨oc12,od12,.func (PySem.W.fnOf "mark_word" "mark_word" (defArgs jN) (defBody jN) (defScope jN) .none kV12 dc12 pm12 an12 cd12 ct12),sl12⟩) (c12:PySem.W.codeIn K cd12 "mark_word"=true) (k12:PySem.W.keepIn K (.ref f12)=true)
 (a13:PySem.W.nsIn K mainGlobals "stop_text"=some (some (.ref f13))) (l13:K.lookup f13=some ⟨oc13,od13,.func (PySem.W.fnOf "stop_text" "stop_text" (defArgs jO) (defBody jO) (defScope jO) .none kV13 dc13 pm13 an13 cd13 ct13),sl13⟩) (c13:PySem.W.codeIn K cd13 "stop_text"=true) (k13:PySem.W.keepIn K (.ref f13)=true)
 (a14:PySem.W.nsIn K mainGlobals "tick_text"=some (some (.ref f14))) (l14:K.lookup f14=some ⟨oc14,od14,.func (PySem.W.fnOf "tick_text" "tick_text" (defArgs aE) (defBody aE) (defScope aE) .none kV14 dc14 pm14 an14 cd14 ct14),sl14⟩) (c14:PySem.W.codeIn K cd14 "tick_text"=true) (k14:PySem.W.keepIn K (.ref f14)=true)
 (a15:PySem.W.nsIn K mainGlobals "send_text"=some (some (.ref f15))) (l15:K.lookup f15=some ⟨oc15,od15,.func (PySem.W.fnOf "send_text" "send_text" (defArgs aF) (defBody aF) (defScope aF) .none kV15 dc15 pm15 an15 cd15 ct15),sl15⟩) (c15:PySem.W.codeIn K cd15 "send_text"=true) (k15:PySem.W.keepIn K (.ref f15)=true)
 (a16:PySem.W.nsIn K mainGlobals "hear_text"=some (some (.ref f16))) (l16:K.lookup f16=some ⟨oc16,od16,.func (PySem.W.fnOf "hear_text" "hear_text" (defArgs aG) (defBody aG) (defScope aG) .none kV16 dc16 pm16 an16 cd16 ct16),sl16⟩) (c16:PySem.W.codeIn K cd16 "hear_text"=true) (k16:PySem.W.keepIn K (.ref f16)=true)
 (a17:PySem.W.nsIn K mainGlobals "test_text"=some (some (.ref f17))) (l17:K.lookup f17=some ⟨oc17,od17,.func (PySem.W.fnOf "test_text" "test_text" (defArgs aH) (defBody aH) (defScope aH) .none kV17 dc17 pm17 an17 cd17 ct17),sl17⟩) (c17:PySem.W.codeIn K cd17 "test_text"=true) (k17:PySem.W.keepIn K (.ref f17)=true)
 (a18:PySem.W.nsIn K mainGlobals "new_text"=some (some (.ref f18))) (l18:K.lookup f18=some ⟨oc18,od18,.func (PySem.W.fnOf "new_text" "new_text" (defArgs aI) (defBody aI) (defScope aI) .none kV18 dc18 pm18 an18 cd18 ct18),sl18⟩) (c18:PySem.W.codeIn K cd18 "new_text"=true) (k18:PySem.W.keepIn K (.ref f18)=true)
 (a19:PySem.W.nsIn K mainGlobals "parts_texts"=some (some (.ref f19))) (l19:K.lookup f19=some ⟨oc19,od19,.func (PySem.W.fnOf "parts_texts" "parts_texts" (defArgs Ys) (defBody Ys) (defScope Ys) .none kV19 dc19 pm19 an19 cd19 ct19),sl19⟩) (c19:PySem.W.codeIn K cd19 "parts_texts"=true) (k19:PySem.W.keepIn K (.ref f19)=true)
 (a20:PySem.W.nsIn K mainGlobals "pick_text"=some (some (.ref f20))) (l20:K.lookup f20=some ⟨oc20,od20,.func (PySem.W.fnOf "pick_text" "pick_text" (defArgs aJ) (defBody aJ) (defScope aJ) .none kV20 dc20 pm20 an20 cd20 ct20),sl20⟩) (c20:PySem.W.codeIn K cd20 "pick_text"=true) (k20:PySem.W.keepIn K (.ref f20)=true)
 (a21:PySem.W.nsIn K mainGlobals "beside_text"=some (some (.ref f21))) (l21:K.lookup f21=some ⟨oc21,od21,.func (PySem.W.fnOf "beside_text" "beside_text" (defArgs aK) (defBody aK) (defScope aK) .none kV21 dc21 pm21 an21 cd21 ct21),sl21⟩) (c21:PySem.W.codeIn K cd21 "beside_text"=true) (k21:PySem.W.keepIn K (.ref f21)=true)
 (a22:PySem.W.nsIn K mainGlobals "call_text"=some (some (.ref f22))) (l22:K.lookup f22=some ⟨oc22,od22,.func (PySem.W.fnOf "call_text" "call_text" (defArgs gS) (defBody gS) (defScope gS) .none kV22 dc22 pm22 an22 cd22 ct22),sl22⟩) (c22:PySem.W.codeIn K cd22 "call_text"=true) (k22:PySem.W.keepIn K (.ref f22)=true)
 (a23:PySem.W.nsIn K mainGlobals "text_of"=some (some (.ref f23))) (l23:K.lookup f23=some ⟨oc23,od23,.func (PySem.W.fnOf "text_of" "text_of" (defArgs aL) (defBody aL) (defScope aL) .none kV23 dc23 pm23 an23 cd23 ct23),sl23⟩) (c23:PySem.W.codeIn K cd23 "text_of"=true) (k23:PySem.W.keepIn K (.ref f23)=true)
 (a24:PySem.W.nsIn K mainGlobals "show_definition"=some (some (.ref f24))) (l24:K.lookup f24=some ⟨oc24,od24,.func (PySem.W.fnOf "show_definition" "show_definition" (defArgs gT) (defBody gT) (defScope gT) .none kV24 dc24 pm24 an24 cd24 ct24),sl24⟩) (c24:PySem.W.codeIn K cd24 "show_definition"=true) (k24:PySem.W.keepIn K (.ref f24)=true)
 (a25:PySem.W.nsIn K mainGlobals "inner_terms"=some (some (.ref f25))) (l25:K.lookup f25=some ⟨oc25,od25,.func (PySem.W.fnOf "inner_terms" "inner_terms" (defArgs jP) (defBody jP) (defScope jP) .none kV25 dc25 pm25 an25 cd25 ct25),sl25⟩) (c25:PySem.W.codeIn K cd25 "inner_terms"=true) (k25:PySem.W.keepIn K (.ref f25)=true)
 (a26:PySem.W.nsIn K mainGlobals "calls_of"=some (some (.ref f26))) (l26:K.lookup f26=some ⟨oc26,od26,.func (PySem.W.fnOf "calls_of" "calls_of" (defArgs Yt) (defBody Yt) (defScope Yt) .none kV26 dc26 pm26 an26 cd26 ct26),sl26⟩) (c26:PySem.W.codeIn K cd26 "calls_of"=true) (k26:PySem.W.keepIn K (.ref f26)=true)
 (a27:PySem.W.nsIn K mainGlobals "is_guarded"=some (some (.ref f27))) (l27:K.lookup f27=some ⟨oc27,od27,.func (PySem.W.fnOf "is_guarded" "is_guarded" (defArgs Yu) (defBody Yu) (defScope Yu) .none kV27 dc27 pm27 an27 cd27 ct27),sl27⟩) (c27:PySem.W.codeIn K cd27 "is_guarded"=true) (k27:PySem.W.keepIn K (.ref f27)=true)
 (a28:PySem.W.nsIn K mainGlobals "has_crowd"=some (some (.ref f28))) (l28:K.lookup f28=some ⟨oc28,od28,.func (PySem.W.fnOf "has_crowd" "has_crowd" (defArgs VB) (defBody VB) (defScope VB) .none kV28 dc28 pm28 an28 cd28 ct28),sl28⟩) (c28:PySem.W.codeIn K cd28 "has_crowd"=true) (k28:PySem.W.keepIn K (.ref f28)=true)
 (a29:PySem.W.findIn K (.ref C_Book) "__init__"=some (some (.ref f29))) (j29:PySem.W.isFn K (.ref f29)=true) (l29:K.lookup f29=some ⟨oc29,od29,.func (PySem.W.fnOf "__init__" "Book.__init__" (defArgs VC) (defBody VC) (defScope VC) (.ref dT29) kV29 dc29 pm29 an29 cd29 ct29),sl29⟩) (c29:PySem.W.codeIn K cd29 "Book.__init__"=true) (k29:PySem.W.keepIn K (.ref f29)=true)
 {tq_Book___init___rows:Addr} {otq_Book___init___rows:Option Addr} {itq_Book___init___rows:Array Value} {ntq_Book___init___rows:Nat} {stq_Book___init___rows:Array (Option Value)} (tl_tq_Book___init___rows:K.lookup tq_Book___init___rows=some ⟨.type "tuple",otq_Book___init___rows,.seq itq_Book___init___rows ntq_Book___init___rows,stq_Book___init___rows⟩) (tv_tq_Book___init___rows:Vals [] itq_Book___init___rows.toList)
 {oT29:Obj} {iT29:Array Value} {nT29:Nat} (t29:K.lookup dT29=some oT29) (tt29:oT29.data= .seq iT29 nT29) (v29:Vals [(V.ref tq_Book___init___rows)] iT29.toList)
 (a30:PySem.W.findIn K (.ref C_Book) "__len__"=some (some (.ref f30))) (j30:PySem.W.isFn K (.ref f30)=true) (l30:K.lookup f30=some ⟨oc30,od30,.func (PySem.W.fnOf "__len__" "Book.__len__" (defArgs jQ) (defBody jQ) (defScope jQ) .none kV30 dc30 pm30 an30 cd30 ct30),sl30⟩) (c30:PySem.W.codeIn K cd30 "Book.__len__"=true) (k30:PySem.W.keepIn K (.ref f30)=true)
 (a31:PySem.W.findIn K (.ref C_Book) "__eq__"=some (some (.ref f31))) (j31:PySem.W.isFn K (.ref f31)=true) (l31:K.lookup f31=some ⟨oc31,od31,.func (PySem.W.fnOf "__eq__" "Book.__eq__" (defArgs jR) (defBody jR) (defScope jR) .none kV31 dc31 pm31 an31 cd31 ct31),sl31⟩) (c31:PySem.W.codeIn K cd31 "Book.__eq__"=true) (k31:PySem.W.keepIn K (.ref f31)=true)
 (a32:PySem.W.findIn K (.ref C_Book) "__str__"=some (some (.ref f32))) (j32:PySem.W.isFn K (.ref f32)=true) (l32:K.lookup f32=some ⟨oc32,od32,.func (PySem.W.fnOf "__str__" "Book.__str__" (defArgs gU) (defBody gU) (defScope gU) .none kV32 dc32 pm32 an32 cd32 ct32),sl32⟩) (c32:PySem.W.codeIn K cd32 "Book.__str__"=true) (k32:PySem.W.keepIn K (.ref f32)=true)
 (a33:PySem.W.findIn K (.ref C_Book) "__repr__"=some (some (.ref f33))) (j33:PySem.W.isFn K (.ref f33)=true) (l33:K.lookup f33=some ⟨oc33,od33,.func (PySem.W.fnOf "__repr__" "Book.__repr__" (defArgs jS) (defBody jS) (defScope jS) .none kV33 dc33 pm33 an33 cd33 ct33),sl33⟩) (c33:PySem.W.codeIn K cd33 "Book.__repr__"=true) (k33:PySem.W.keepIn K (.ref f33)=true)
 (a34:PySem.W.findIn K (.ref C_Book) "put"=some (some (.ref f34))) (j34:PySem.W.isFn K (.ref f34)=true) (l34:K.lookup f34=some ⟨oc34,od34,.func (PySem.W.fnOf "put" "Book.put" (defArgs jT) (defBody jT) (defScope jT) .none kV34 dc34 pm34 an34 cd34 ct34),sl34⟩) (c34:PySem.W.codeIn K cd34 "Book.put"=true) (k34:PySem.W.keepIn K (.ref f34)=true)
 (a35:PySem.W.findIn K (.ref C_Book) "get"=some (some (.ref f35))) (j35:PySem.W.isFn K (.ref f35)=true) (l35:K.lookup f35=some ⟨oc35,od35,.func (PySem.W.fnOf "get" "Book.get" (defArgs jU) (defBody jU) (defScope jU) .none kV35 dc35 pm35 an35 cd35 ct35),sl35⟩) (c35:PySem.W.codeIn K cd35 "Book.get"=true) (k35:PySem.W.keepIn K (.ref f35)=true)
 (a36:PySem.W.findIn K (.ref C_Book) "names"=some (some (.ref f36))) (j36:PySem.W.isFn K (.ref f36)=true) (l36:K.lookup f36=some ⟨oc36,od36,.func (PySem.W.fnOf "names" "Book.names" (defArgs jV) (defBody jV) (defScope jV) .none kV36 dc36 pm36 an36 cd36 ct36),sl36⟩) (c36:PySem.W.codeIn K cd36 "Book.names"=true) (k36:PySem.W.keepIn K (.ref f36)=true)
 (a37:PySem.W.nsIn K mainGlobals "words_of"=some (some (.ref f37))) (l37:K.lookup f37=some ⟨oc37,od37,.func (PySem.W.fnOf "words_of" "words_of" (defArgs jW) (defBody jW) (defScope jW) .none kV37 dc37 pm37 an37 cd37 ct37),sl37⟩) (c37:PySem.W.codeIn K cd37 "words_of"=true) (k37:PySem.W.keepIn K (.ref f37)=true)
 (a38:PySem.W.nsIn K mainGlobals "is_binder_word"=some (some (.ref f38))) (l38:K.lookup f38=some ⟨oc38,od38,.func (PySem.W.fnOf "is_binder_word" "is_binder_word" (defArgs jX) (defBody jX) (defScope jX) .none kV38 dc38 pm38 an38 cd38 ct38),sl38⟩) (c38:PySem.W.codeIn K cd38 "is_binder_word"=true) (k38:PySem.W.keepIn K (.ref f38)=true)
 (a39:PySem.W.findIn K (.ref C_Reader) "__init__"=some (some (.ref f39))) (j39:PySem.W.isFn K (.ref f39)=true) (l39:K.lookup f39=some ⟨oc39,od39,.func (PySem.W.fnOf "__init__" "Reader.__init__" (defArgs jY) (defBody jY) (defScope jY) .none kV39 dc39 pm39 an39 cd39 ct39),sl39⟩) (c39:PySem.W.codeIn K cd39 "Reader.__init__"=true) (k39:PySem.W.keepIn K (.ref f39)=true)
 (a40:PySem.W.findIn K (.ref C_Reader) "next_word"=some (some (.ref f40))) (j40:PySem.W.isFn K (.ref f40)=true) (l40:K.lookup f40=some ⟨oc40,od40,.func (PySem.W.fnOf "next_word" "Reader.next_word" (defArgs jZ) (defBody jZ) (defScope jZ) .none kV40 dc40 pm40 an40 cd40 ct40),sl40⟩) (c40:PySem.W.codeIn K cd40 "Reader.next_word"=true) (k40:PySem.W.keepIn K (.ref f40)=true)
 (a41:PySem.W.findIn K (.ref C_Reader) "need"=some (some (.ref f41))) (j41:PySem.W.isFn K (.ref f41)=true) (l41:K.lookup f41=some ⟨oc41,od41,.func (PySem.W.fnOf "need" "Reader.need" (defArgs ja) (defBody ja) (defScope ja) .none kV41 dc41 pm41 an41 cd41 ct41),sl41⟩) (c41:PySem.W.codeIn K cd41 "Reader.need"=true) (k41:PySem.W.keepIn K (.ref f41)=true)
 (a42:PySem.W.findIn K (.ref C_Reader) "take"=some (some (.ref f42))) (j42:PySem.W.isFn K (.ref f42)=true) (l42:K.lookup f42=some ⟨oc42,od42,.func (PySem.W.fnOf "take" "Reader.take" (defArgs aM) (defBody aM) (defScope aM) .none kV42 dc42 pm42 an42 cd42 ct42),sl42⟩) (c42:PySem.W.codeIn K cd42 "Reader.take"=true) (k42:PySem.W.keepIn K (.ref f42)=true)
 (a43:PySem.W.findIn K (.ref C_Reader) "read_mark"=some (some (.ref f43))) (j43:PySem.W.isFn K (.ref f43)=true) (l43:K.lookup f43=some ⟨oc43,od43,.func (PySem.W.fnOf "read_mark" "Reader.read_mark" (defArgs jb) (defBody jb) (defScope jb) .none kV43 dc43 pm43 an43 cd43 ct43),sl43⟩) (c43:PySem.W.codeIn K cd43 "Reader.read_mark"=true) (k43:PySem.W.keepIn K (.ref f43)=true)
 (a44:PySem.W.findIn K (.ref C_Reader) "read_binder"=some (some (.ref f44))) (j44:PySem.W.isFn K (.ref f44)=true) (l44:K.lookup f44=some ⟨oc44,od44,.func (PySem.W.fnOf "read_binder" "Reader.read_binder" (defArgs jc) (defBody jc) (defScope jc) .none kV44 dc44 pm44 an44 cd44 ct44),sl44⟩) (c44:PySem.W.codeIn K cd44 "Reader.read_binder"=true) (k44:PySem.W.keepIn K (.ref f44)=true)
 (a45:PySem.W.findIn K (.ref C_Reader) "read_rows"=some (some (.ref f45))) (j45:PySem.W.isFn K (.ref f45)=true) (l45:K.lookup f45=some ⟨oc45,od45,.func (PySem.W.fnOf "read_rows" "Reader.read_rows" (defArgs Vn) (defBody Vn) (defScope Vn) .none kV45 dc45 pm45 an45 cd45 ct45),sl45⟩) (c45:PySem.W.codeIn K cd45 "Reader.read_rows"=true) (k45:PySem.W.keepIn K (.ref f45)=true)
 (a46:PySem.W.findIn K (.ref C_Reader) "read_stop"=some (some (.ref f46))) (j46:PySem.W.isFn K (.ref f46)=true) (l46:K.lookup f46=some ⟨oc46,od46,.func (PySem.W.fnOf "read_stop" "Reader.read_stop" (defArgs jd) (defBody jd) (defScope jd) .none kV46 dc46 pm46 an46 cd46 ct46),sl46⟩) (c46:PySem.W.codeIn K cd46 "Reader.read_stop"=true) (k46:PySem.W.keepIn K (.ref f46)=true)
 (a47:PySem.W.findIn K (.ref C_Reader) "read_tick"=some (some (.ref f47))) (j47:PySem.W.isFn K (.ref f47)=true) (l47:K.lookup f47=some ⟨oc47,od47,.func (PySem.W.fnOf "read_tick" "Reader.read_tick" (defArgs aN) (defBody aN) (defScope aN) .none kV47 dc47 pm47 an47 cd47 ct47),sl47⟩) (c47:PySem.W.codeIn K cd47 "Reader.read_tick"=true) (k47:PySem.W.keepIn K (.ref f47)=true)
 (a48:PySem.W.findIn K (.ref C_Reader) "read_new"=some (some (.ref f48))) (j48:PySem.W.isFn K (.ref f48)=true) (l48:K.lookup f48=some ⟨oc48,od48,.func (PySem.W.fnOf "read_new" "Reader.read_new" (defArgs aO) (defBody aO) (defScope aO) .none kV48 dc48 pm48 an48 cd48 ct48),sl48⟩) (c48:PySem.W.codeIn K cd48 "Reader.read_new"=true) (k48:PySem.W.keepIn K (.ref f48)=true)
 (a49:PySem.W.findIn K (.ref C_Reader) "read_test"=some (some (.ref f49))) (j49:PySem.W.isFn K (.ref f49)=true) (l49:K.lookup f49=some ⟨oc49,od49,.func (PySem.W.fnOf "read_test" "Reader.read_test" (defArgs aP) (defBody aP) (defScope aP) .none kV49 dc49 pm49 an49 cd49 ct49),sl49⟩) (c49:PySem.W.codeIn K cd49 "Reader.read_test"=true) (k49:PySem.W.keepIn K (.ref f49)=true)
 (a50:PySem.W.findIn K (.ref C_Reader) "read_pick"=some (some (.ref f50))) (j50:PySem.W.isFn K (.ref f50)=true) (l50:K.lookup f50=some ⟨oc50,od50,.func (PySem.W.fnOf "read_pick" "Reader.read_pick" (defArgs aQ) (defBody aQ) (defScope aQ) .none kV50 dc50 pm50 an50 cd50 ct50),sl50⟩) (c50:PySem.W.codeIn K cd50 "Reader.read_pick"=true) (k50:PySem.W.keepIn K (.ref f50)=true)
 (a51:PySem.W.findIn K (.ref C_Reader) "read_beside"=some (some (.ref f51))) (j51:PySem.W.isFn K (.ref f51)=true) (l51:K.lookup f51=some ⟨oc51,od51,.func (PySem.W.fnOf "read_beside" "Reader.read_beside" (defArgs aR) (defBody aR) (defScope aR) .none kV51 dc51 pm51 an51 cd51 ct51),sl51⟩) (c51:PySem.W.codeIn K cd51 "Reader.read_beside"=true) (k51:PySem.W.keepIn K (.ref f51)=true)
 (a52:PySem.W.findIn K (.ref C_Reader) "read_marks"=some (some (.ref f52))) (j52:PySem.W.isFn K (.ref f52)=true) (l52:K.lookup f52=some ⟨oc52,od52,.func (PySem.W.fnOf "read_marks" "Reader.read_marks" (defArgs je) (defBody je) (defScope je) .none kV52 dc52 pm52 an52 cd52 ct52),sl52⟩) (c52:PySem.W.codeIn K cd52 "Reader.read_marks"=true) (k52:PySem.W.keepIn K (.ref f52)=true)
 (a53:PySem.W.findIn K (.ref C_Reader) "read_along"=some (some (.ref f53))) (j53:PySem.W.isFn K (.ref f53)=true) (l53:K.lookup f53=some ⟨oc53,od53,.func (PySem.W.fnOf "read_along" "Reader.read_along" (defArgs aS) (defBody aS) (defScope aS) .none kV53 dc53 pm53 an53 cd53 ct53),sl53⟩) (c53:PySem.W.codeIn K cd53 "Reader.read_along"=true) (k53:PySem.W.keepIn K (.ref f53)=true)
 (a54:PySem.W.findIn K (.ref C_Reader) "read_term"=some (some (.ref f54))) (j54:PySem.W.isFn K (.ref f54)=true) (l54:K.lookup f54=some ⟨oc54,od54,.func (PySem.W.fnOf "read_term" "Reader.read_term" (defArgs aT) (defBody aT) (defScope aT) .none kV54 dc54 pm54 an54 cd54 ct54),sl54⟩) (c54:PySem.W.codeIn K cd54 "Reader.read_term"=true) (k54:PySem.W.keepIn K (.ref f54)=true)
 (a55:PySem.W.findIn K (.ref C_Reader) "read_end"=some (some (.ref f55))) (j55:PySem.W.isFn K (.ref f55)=true) (l55:K.lookup f55=some ⟨oc55,od55,.func (PySem.W.fnOf "read_end" "Reader.read_end" (defArgs jf) (defBody jf) (defScope jf) .none kV55 dc55 pm55 an55 cd55 ct55),sl55⟩) (c55:PySem.W.codeIn K cd55 "Reader.read_end"=true) (k55:PySem.W.keepIn K (.ref f55)=true)
 (a56:PySem.W.findIn K (.ref C_Reader) "read_heads"=some (some (.ref f56))) (j56:PySem.W.isFn K (.ref f56)=true) (l56:K.lookup f56=some ⟨oc56,od56,.func (PySem.W.fnOf "read_heads" "Reader.read_heads" (defArgs jg) (defBody jg) (defScope jg) .none kV56 dc56 pm56 an56 cd56 ct56),sl56⟩) (c56:PySem.W.codeIn K cd56 "Reader.read_heads"=true) (k56:PySem.W.keepIn K (.ref f56)=true)
 (a57:PySem.W.nsIn K mainGlobals "read_definition"=some (some (.ref f57))) (l57:K.lookup f57=some ⟨oc57,od57,.func (PySem.W.fnOf "read_definition" "read_definition" (defArgs jh) (defBody jh) (defScope jh) .none kV57 dc57 pm57 an57 cd57 ct57),sl57⟩) (c57:PySem.W.codeIn K cd57 "read_definition"=true) (k57:PySem.W.keepIn K (.ref f57)=true)
 (a58:PySem.W.nsIn K mainGlobals "_law_bag"=some (some (.ref f58))) (l58:K.lookup f58=some ⟨oc58,od58,.func (PySem.W.fnOf "_law_bag" "_law_bag" (defArgs HQ) (defBody HQ) (defScope HQ) .none kV58 dc58 pm58 an58 cd58 ct58),sl58⟩) (c58:PySem.W.codeIn K cd58 "_law_bag"=true) (k58:PySem.W.keepIn K (.ref f58)=true)
 (a59:PySem.W.nsIn K mainGlobals "_law_take"=some (some (.ref f59))) (l59:K.lookup f59=some ⟨oc59,od59,.func (PySem.W.fnOf "_law_take" "_law_take" (defArgs Fc) (defBody Fc) (defScope Fc) .none kV59 dc59 pm59 an59 cd59 ct59),sl59⟩) (c59:PySem.W.codeIn K cd59 "_law_take"=true) (k59:PySem.W.keepIn K (.ref f59)=true)
 (a60:PySem.W.nsIn K mainGlobals "_law_body"=some (some (.ref f60))) (l60:K.lookup f60=some ⟨oc60,od60,.func (PySem.W.fnOf "_law_body" "_law_body" (defArgs Yv) (defBody Yv) (defScope Yv) .none kV60 dc60 pm60 an60 cd60 ct60),sl60⟩) (c60:PySem.W.codeIn K cd60 "_law_body"=true) (k60:PySem.W.keepIn K (.ref f60)=true)
 (a61:PySem.W.nsIn K mainGlobals "_law_kept_row"=some (some (.ref f61))) (l61:K.lookup f61=some ⟨oc61,od61,.func (PySem.W.fnOf "_law_kept_row" "_law_kept_row" (defArgs ji) (defBody ji) (defScope ji) .none kV61 dc61 pm61 an61 cd61 ct61),sl61⟩) (c61:PySem.W.codeIn K cd61 "_law_kept_row"=true) (k61:PySem.W.keepIn K (.ref f61)=true)
 (a62:PySem.W.nsIn K mainGlobals "_law_turned"=some (some (.ref f62))) (l62:K.lookup f62=some ⟨oc62,od62,.func (PySem.W.fnOf "_law_turned" "_law_turned" (defArgs jj) (defBody jj) (defScope jj) .none kV62 dc62 pm62 an62 cd62 ct62),sl62⟩) (c62:PySem.W.codeIn K cd62 "_law_turned"=true) (k62:PySem.W.keepIn K (.ref f62)=true)
 (a63:PySem.W.nsIn K mainGlobals "law"=some (some (.ref f63))) (l63:K.lookup f63=some ⟨oc63,od63,.func (PySem.W.fnOf "law" "law" (defArgs FA) (defBody FA) (defScope FA) .none kV63 dc63 pm63 an63 cd63 ct63),sl63⟩) (c63:PySem.W.codeIn K cd63 "law"=true) (k63:PySem.W.keepIn K (.ref f63)=true)
 (aC_Book:PySem.W.nsIn K mainGlobals "Book"=some (some (.ref C_Book))) (pg_Book:PySem.W.plainGet K C_Book Str.empty=true) (hd_Book:PySem.W.hasDictIn K C_Book=true) (po_Book:PySem.W.plainOver K C_Book=true) (sa_Book:PySem.W.findIn K (.ref C_Book) "__setattr__"=some (some (.builtin "object.__setattr__"))) (mk_Book:PySem.W.makesIn K C_Book=true) (kc_Book:PySem.W.keepIn K (.ref C_Book)=true)
 (aC_Reader:PySem.W.nsIn K mainGlobals "Reader"=some (some (.ref C_Reader))) (pg_Reader:PySem.W.plainGet K C_Reader Str.empty=true) (hd_Reader:PySem.W.hasDictIn K C_Reader=true) (po_Reader:PySem.W.plainOver K C_Reader=true) (sa_Reader:PySem.W.findIn K (.ref C_Reader) "__setattr__"=some (some (.builtin "object.__setattr__"))) (mk_Reader:PySem.W.makesIn K C_Reader=true) (kc_Reader:PySem.W.keepIn K (.ref C_Reader)=true)
 (oa_Book:PySem.W.findIn K (.ref C_Book) "__class__"=some (some (.builtin "object.__class__"))) (ob_Book:PySem.W.specialIn K (.builtin "object.__class__") "__get__"=some (some (.builtin "getset_descriptor.__get__"))) (oc_Book:PySem.W.takesIn K (.builtin "object.__class__")=some true) (od_Book:PySem.W.mroIn K C_Book (.type "object")=some true) (oe_Book:PySem.W.kitOne K (.ref C_Book) (.ref C_Book)=some true) (of_Book:PySem.W.findIn K (.ref C_Book) "__ne__"=some (some (.builtin "object.__ne__")))
 (nA_Book_kept:PySem.W.findIn K (.ref C_Book) "kept"=some none)
 (nA_Reader_at:PySem.W.findIn K (.ref C_Reader) "at"=some none)
 (nA_Reader_names_stand:PySem.W.findIn K (.ref C_Reader) "names_stand"=some none)
 (nA_Reader_words:PySem.W.findIn K (.ref C_Reader) "words"=some none)
 {aa_BINDERS:Addr} {od_BINDERS:Option Addr} {is_BINDERS:Array Value} {nn_BINDERS:Nat} {ss_BINDERS:Array (Option Value)} (g_BINDERS:PySem.W.nsIn K mainGlobals "BINDERS"=some (some (.ref aa_BINDERS))) (lg_BINDERS:K.lookup aa_BINDERS=some ⟨.type "tuple",od_BINDERS,.seq is_BINDERS nn_BINDERS,ss_BINDERS⟩) (vg_BINDERS:Vals [(V.str "hear"),(V.str "new")] is_BINDERS.toList)
 {ug_CAPITALS:Value} (g_CAPITALS:PySem.W.nsIn K mainGlobals "CAPITALS"=some (some ug_CAPITALS)) (rg_CAPITALS:RelV (.str "ABCDEFGHIJKLMNOPQRSTUVWXYZ") ug_CAPITALS)
 {ug_FIGURES:Value} (g_FIGURES:PySem.W.nsIn K mainGlobals "FIGURES"=some (some ug_FIGURES)) (rg_FIGURES:RelV (.str "0123456789") ug_FIGURES)
 {ug_FRESH:Value} (g_FRESH:PySem.W.nsIn K mainGlobals "FRESH"=some (some ug_FRESH)) (rg_FRESH:RelV (.str "f") ug_FRESH)
 {aa_GUARDS:Addr} {od_GUARDS:Option Addr} {is_GUARDS:Array Value} {nn_GUARDS:Nat} {ss_GUARDS:Array (Option Value)} (g_GUARDS:PySem.W.nsIn K mainGlobals "GUARDS"=some (some (.ref aa_GUARDS))) (lg_GUARDS:K.lookup aa_GUARDS=some ⟨.type "tuple",od_GUARDS,.seq is_GUARDS nn_GUARDS,ss_GUARDS⟩) (vg_GUARDS:Vals [(V.str "tick"),(V.str "send"),(V.str "hear")] is_GUARDS.toList)
 {ug_LETTERS:Value} (g_LETTERS:PySem.W.nsIn K mainGlobals "LETTERS"=some (some ug_LETTERS)) (rg_LETTERS:RelV (.str "abcdefghijklmnopqrstuvwxyz") ug_LETTERS)
 {aa_LISTS:Addr} {od_LISTS:Option Addr} {is_LISTS:Array Value} {nn_LISTS:Nat} {ss_LISTS:Array (Option Value)} (g_LISTS:PySem.W.nsIn K mainGlobals "LISTS"=some (some (.ref aa_LISTS))) (lg_LISTS:K.lookup aa_LISTS=some ⟨.type "tuple",od_LISTS,.seq is_LISTS nn_LISTS,ss_LISTS⟩) (vg_LISTS:Vals [(V.str "pick"),(V.str "beside")] is_LISTS.toList)
 {ug_MOST_FIGURES:Value} (g_MOST_FIGURES:PySem.W.nsIn K mainGlobals "MOST_FIGURES"=some (some ug_MOST_FIGURES)) (rg_MOST_FIGURES:RelV (.int 2) ug_MOST_FIGURES)
 {ug_MOST_LETTERS:Value} (g_MOST_LETTERS:PySem.W.nsIn K mainGlobals "MOST_LETTERS"=some (some ug_MOST_LETTERS)) (rg_MOST_LETTERS:RelV (.int 6) ug_MOST_LETTERS)
 {ug_MOST_MARKS:Value} (g_MOST_MARKS:PySem.W.nsIn K mainGlobals "MOST_MARKS"=some (some ug_MOST_MARKS)) (rg_MOST_MARKS:RelV (.int 4) ug_MOST_MARKS)
 {ug_MOST_PARAMETERS:Value} (g_MOST_PARAMETERS:PySem.W.nsIn K mainGlobals "MOST_PARAMETERS"=some (some ug_MOST_PARAMETERS)) (rg_MOST_PARAMETERS:RelV (.int 4) ug_MOST_PARAMETERS)
 {ug_RUNNING:Value} (g_RUNNING:PySem.W.nsIn K mainGlobals "RUNNING"=some (some ug_RUNNING)) (rg_RUNNING:RelV (.str "abcdefghijklmnopqrstuvwxyzABCDEFGHIJKLMNOPQRSTUVWXYZ0123456789") ug_RUNNING)
 {ad_MARKS:Addr} {es_MARKS:Array DictEntry} {ne_MARKS:Nat} (g_MARKS:PySem.W.nsIn K mainGlobals "MARKS"=some (some (.ref ad_MARKS))) (ld_MARKS:K.lookup ad_MARKS=some ⟨.type "dict",none,.dict es_MARKS ne_MARKS,#[]⟩) (sd_MARKS:(ad_MARKS==sysModules)=false) (td_MARKS:TabL K (cS K) w es_MARKS.toList [("tick",.int 0),("send",.int 2),("hear",.int 1),("if",.int 2),("unless",.int 2),("new",.int 0)])
 {ad_WRITERS:Addr} {es_WRITERS:Array DictEntry} {ne_WRITERS:Nat} (g_WRITERS:PySem.W.nsIn K mainGlobals "WRITERS"=some (some (.ref ad_WRITERS))) (ld_WRITERS:K.lookup ad_WRITERS=some ⟨.type "dict",none,.dict es_WRITERS ne_WRITERS,#[]⟩) (sd_WRITERS:(ad_WRITERS==sysModules)=false) (td_WRITERS:TabL K (cS K) w es_WRITERS.toList [("stop",.nam "stop_text"),("tick",.nam "tick_text"),("send",.nam "send_text"),("hear",.nam "hear_text"),("if",.nam "test_text"),("unless",.nam "test_text"),("pick",.nam "pick_text"),("beside",.nam "beside_text"),("new",.nam "new_text"),("call",.nam "call_text")])
 (z_KeyError:PySem.W.nsIn K mainGlobals "KeyError"=some none)
 (z_abs:PySem.W.nsIn K mainGlobals "abs"=some none)
 (z_all:PySem.W.nsIn K mainGlobals "all"=some none)
 (z_any:PySem.W.nsIn K mainGlobals "any"=some none)
 (z_bool:PySem.W.nsIn K mainGlobals "bool"=some none)
 (z_int:PySem.W.nsIn K mainGlobals "int"=some none)
 (z_isinstance:PySem.W.nsIn K mainGlobals "isinstance"=some none)
 (z_len:PySem.W.nsIn K mainGlobals "len"=some none)
 (z_list:PySem.W.nsIn K mainGlobals "list"=some none)
 (z_max:PySem.W.nsIn K mainGlobals "max"=some none)
 (z_min:PySem.W.nsIn K mainGlobals "min"=some none)
 (z_range:PySem.W.nsIn K mainGlobals "range"=some none)
 (z_repr:PySem.W.nsIn K mainGlobals "repr"=some none)
 (z_sorted:PySem.W.nsIn K mainGlobals "sorted"=some none)
 (z_str:PySem.W.nsIn K mainGlobals "str"=some none)
 (z_tuple:PySem.W.nsIn K mainGlobals "tuple"=some none):
 ∃fd:FuncData,(∀(s:Shared) (v:Value),BindsTo s fd ⟨[v],[]⟩ [("_law_script",v)])∧∀base:Heap,K.In base->base.Ns mainGlobals mg->FnOkG l.prog w K mg base CX0 85 fa fd ["_law_script"] (DO K (cS K) 1 NS):=by
 have e:=hfa.symm.trans (AL X G a63)
 cases e
 obtain⟨F,hF⟩:∃F:Nm,F=cS K:=⟨_,rfl⟩;rw[←hF];have T:Tx K F w mg C_Book C_Reader:=⟨⟨by rw[hF];exact EY aC_Book,⟨pg_Book,hd_Book,po_Book,sa_Book⟩⟩,AL X G aC_Book,⟨by rw[hF];exact EY aC_Reader,⟨pg_Reader,hd_Reader,po_Reader,sa_Reader⟩⟩,AL X G aC_Reader,nA_Book_kept,nA_Reader_at,nA_Reader_names_stand,nA_Reader_words,⟨⟨⟨pg_Book,hd_Book,po_Book,sa_Book⟩,oa_Book,ob_Book,oc_Book,od_Book,oe_Book⟩,of_Book⟩,JE hF a21 (AL X G a21),JE hF a22 (AL X G a22),JE hF a16 (AL X G a16),JE hF a18 (AL X G a18),JE hF a20 (AL X G a20),JE hF a15 (AL X G a15),JE hF a13 (AL X G a13),JE hF a17 (AL X G a17),JE hF a14 (AL X G a14),As X G z_KeyError,As X G z_abs,As X G z_all,As X G z_any,As X G z_bool,As X G z_int,As X G z_isinstance,As X G z_len,As X G z_list,As X G z_max,As X G z_min,As X G z_range,As X G z_repr,As X G z_sorted,As X G z_str,As X G z_tuple,RN (h:=h) (AL X G g_BINDERS) lg_BINDERS vg_BINDERS AB (λ_=>(.cons (.str _) (.cons (.str _) .nil))),⟨_,_,AL X G g_CAPITALS,rg_CAPITALS,λ_=>(.str _)⟩,⟨_,_,AL X G g_FIGURES,rg_FIGURES,λ_=>(.str _)⟩,⟨_,_,AL X G g_FRESH,rg_FRESH,λ_=>(.str _)⟩,RN (h:=h) (AL X G g_GUARDS) lg_GUARDS vg_GUARDS AB (λ_=>(.cons (.str _) (.cons (.str _) (.cons (.str _) .nil)))),⟨_,_,AL X G g_LETTERS,rg_LETTERS,λ_=>(.str _)⟩,RN (h:=h) (AL X G g_LISTS) lg_LISTS vg_LISTS AB (λ_=>(.cons (.str _) (.cons (.str _) .nil))),⟨_,_,AL X G g_MOST_FIGURES,rg_MOST_FIGURES,λ_=>(.int _)⟩,⟨_,_,AL X G g_MOST_LETTERS,rg_MOST_LETTERS,λ_=>(.int _)⟩,⟨_,_,AL X G g_MOST_MARKS,rg_MOST_MARKS,λ_=>(.int _)⟩,⟨_,_,AL X G g_MOST_PARAMETERS,rg_MOST_PARAMETERS,λ_=>(.int _)⟩,⟨_,_,AL X G g_RUNNING,rg_RUNNING,λ_=>(.str _)⟩,⟨_,_,_,AL X G g_MARKS,ld_MARKS,sd_MARKS,(by rw[hF];exact td_MARKS)⟩,⟨_,_,_,AL X G g_WRITERS,ld_WRITERS,sd_WRITERS,(by rw[hF];exact td_WRITERS)⟩⟩;have F0:=fun_mk (st:=jI) l0 c0 k0;have b0:=F0.binds (ps:=["thing"]) λ_ _ _ _ _ _ us hl=>match us,hl with|[_],_=>rfl
 have F1:=fun_mk (st:=gQ) l1 c1 k1;have b1:=F1.binds (ps:=["text","signs"]) λ_ _ _ _ _ _ us hl=>match us,hl with|[_,_],_=>rfl
 have F2:FunD K "are_letters" "are_letters" (defArgs Q1) (defBody Q1) (defScope Q1) [] [("most",(.int 6))] f2 (PySem.W.fnOf "are_letters" "are_letters" (defArgs Q1) (defBody Q1) (defScope Q1) .none (.ref kV2) dc2 pm2 an2 cd2 ct2):=⟨⟨_,_,_,_,_,_,_,_,_,_,rfl,l2,c2,.inl ⟨rfl,rfl⟩,.inr ⟨kV2,rfl,λq hq=>by simp only[AQ,AM,BR]at hq;subst hq;exact⟨_,w2_0,r2_0⟩⟩⟩,k2⟩;obtain⟨d2,v2,b2⟩:=FunD.binds0 (ps:=["text","most"]) F2 1 AD rfl λD _ _ _ _ _ us ks hl hk=>match us,ks,hl,hk with|[_],[_],_,_=>⟨_,_,_,_,_,_,rfl,rfl,rfl⟩
 have kb_ck_are_letters_most:KBn K _ ["text","most"] 1 ["most"] (λus ws=>us++ws) (λvs zs=>vs++zs):=⟨λs us ws X h1 h2=>match us,ws,h1,h2 with|[_],[_],_,_=> .of_eq (fd:=PySem.W.fnOf "are_letters" "are_letters" (defArgs Q1) (defBody Q1) (defScope Q1) .none (.ref kV2) dc2 pm2 an2 cd2 ct2) rfl,λr1 r2=>r1.append r2⟩;have F3:=fun_mk (st:=jJ) l3 c3 k3;have b3:=F3.binds (ps:=["text"]) λ_ _ _ _ _ _ us hl=>match us,hl with|[_],_=>rfl
 have F4:=fun_mk (st:=jK) l4 c4 k4;have b4:=F4.binds (ps:=["thing"]) λ_ _ _ _ _ _ us hl=>match us,hl with|[_],_=>rfl
 have F5:=fun_mk (st:=jL) l5 c5 k5;have b5:=F5.binds (ps:=["thing"]) λ_ _ _ _ _ _ us hl=>match us,hl with|[_],_=>rfl
 have F6:=fun_mk (st:=jM) l6 c6 k6;have b6:=F6.binds (ps:=["thing","binders"]) λ_ _ _ _ _ _ us hl=>match us,hl with|[_,_],_=>rfl
 have F7:=fun_mk (st:=gR) l7 c7 k7;have b7:=F7.binds (ps:=["thing","binders"]) λ_ _ _ _ _ _ us hl=>match us,hl with|[_,_],_=>rfl
 have F8:=fun_mk (st:=Yr) l8 c8 k8;have b8:=F8.binds (ps:=["thing","binders"]) λ_ _ _ _ _ _ us hl=>match us,hl with|[_,_],_=>rfl
 have F9:FunD K "is_term" "is_term" (defArgs NL) (defBody NL) (defScope NL) [] [("binders",(.int 0))] f9 (PySem.W.fnOf "is_term" "is_term" (defArgs NL) (defBody NL) (defScope NL) .none (.ref kV9) dc9 pm9 an9 cd9 ct9):=⟨⟨_,_,_,_,_,_,_,_,_,_,rfl,l9,c9,.inl ⟨rfl,rfl⟩,.inr ⟨kV9,rfl,λq hq=>by simp only[AQ,AM,BR]at hq;subst hq;exact⟨_,w9_0,r9_0⟩⟩⟩,k9⟩;obtain⟨d9,v9,b9⟩:=FunD.binds0 (ps:=["thing","binders"]) F9 1 AD rfl λD _ _ _ _ _ us ks hl hk=>match us,ks,hl,hk with|[_],[_],_,_=>⟨_,_,_,_,_,_,rfl,rfl,rfl⟩
 have kb_ck_is_term_binders:KBn K _ ["thing","binders"] 1 ["binders"] (λus ws=>us++ws) (λvs zs=>vs++zs):=⟨λs us ws X h1 h2=>match us,ws,h1,h2 with|[_],[_],_,_=> .of_eq (fd:=PySem.W.fnOf "is_term" "is_term" (defArgs NL) (defBody NL) (defScope NL) .none (.ref kV9) dc9 pm9 an9 cd9 ct9) rfl,λr1 r2=>r1.append r2⟩;have F10:=fun_mk (st:=Xi) l10 c10 k10;have b10:=F10.binds (ps:=["term"]) λ_ _ _ _ _ _ us hl=>match us,hl with|[_],_=>rfl
 have F11:FunD K "standing" "standing" (defArgs QA) (defBody QA) (defScope QA) [] [("binders",(.int 0))] f11 (PySem.W.fnOf "standing" "standing" (defArgs QA) (defBody QA) (defScope QA) .none (.ref kV11) dc11 pm11 an11 cd11 ct11):=⟨⟨_,_,_,_,_,_,_,_,_,_,rfl,l11,c11,.inl ⟨rfl,rfl⟩,.inr ⟨kV11,rfl,λq hq=>by simp only[AQ,AM,BR]at hq;subst hq;exact⟨_,w11_0,r11_0⟩⟩⟩,k11⟩;obtain⟨d11,v11,b11⟩:=FunD.binds0 (ps:=["term","binders"]) F11 1 AD rfl λD _ _ _ _ _ us ks hl hk=>match us,ks,hl,hk with|[_],[_],_,_=>⟨_,_,_,_,_,_,rfl,rfl,rfl⟩
 have kb_ck_standing_binders:KBn K _ ["term","binders"] 1 ["binders"] (λus ws=>us++ws) (λvs zs=>vs++zs):=⟨λs us ws X h1 h2=>match us,ws,h1,h2 with|[_],[_],_,_=> .of_eq (fd:=PySem.W.fnOf "standing" "standing" (defArgs QA) (defBody QA) (defScope QA) .none (.ref kV11) dc11 pm11 an11 cd11 ct11) rfl,λr1 r2=>r1.append r2⟩;have F12:=fun_mk (st:=jN) l12 c12 k12;have b12:=F12.binds (ps:=["mark","deep"]) λ_ _ _ _ _ _ us hl=>match us,hl with|[_,_],_=>rfl
 have F13:=fun_mk (st:=jO) l13 c13 k13;have b13:=F13.binds (ps:=["term","deep"]) λ_ _ _ _ _ _ us hl=>match us,hl with|[_,_],_=>rfl
 have F14:=fun_mk (st:=aE) l14 c14 k14;have b14:=F14.binds (ps:=["term","deep"]) λ_ _ _ _ _ _ us hl=>match us,hl with|[_,_],_=>rfl
 have F15:=fun_mk (st:=aF) l15 c15 k15;have b15:=F15.binds (ps:=["term","deep"]) λ_ _ _ _ _ _ us hl=>match us,hl with|[_,_],_=>rfl
 have F16:=fun_mk (st:=aG) l16 c16 k16;have b16:=F16.binds (ps:=["term","deep"]) λ_ _ _ _ _ _ us hl=>match us,hl with|[_,_],_=>rfl
 have F17:=fun_mk (st:=aH) l17 c17 k17;have b17:=F17.binds (ps:=["term","deep"]) λ_ _ _ _ _ _ us hl=>match us,hl with|[_,_],_=>rfl
 have F18:=fun_mk (st:=aI) l18 c18 k18;have b18:=F18.binds (ps:=["term","deep"]) λ_ _ _ _ _ _ us hl=>match us,hl with|[_,_],_=>rfl
 have F19:=fun_mk (st:=Ys) l19 c19 k19;have b19:=F19.binds (ps:=["term","deep"]) λ_ _ _ _ _ _ us hl=>match us,hl with|[_,_],_=>rfl
 have F20:=fun_mk (st:=aJ) l20 c20 k20;have b20:=F20.binds (ps:=["term","deep"]) λ_ _ _ _ _ _ us hl=>match us,hl with|[_,_],_=>rfl
 have F21:=fun_mk (st:=aK) l21 c21 k21;have b21:=F21.binds (ps:=["term","deep"]) λ_ _ _ _ _ _ us hl=>match us,hl with|[_,_],_=>rfl
 have F22:=fun_mk (st:=gS) l22 c22 k22;have b22:=F22.binds (ps:=["term","deep"]) λ_ _ _ _ _ _ us hl=>match us,hl with|[_,_],_=>rfl
 have F23:=fun_mk (st:=aL) l23 c23 k23;have b23:=F23.binds (ps:=["term","deep"]) λ_ _ _ _ _ _ us hl=>match us,hl with|[_,_],_=>rfl
 have F24:=fun_mk (st:=gT) l24 c24 k24;have b24:=F24.binds (ps:=["name","many","body"]) λ_ _ _ _ _ _ us hl=>match us,hl with|[_,_,_],_=>rfl
 have F25:=fun_mk (st:=jP) l25 c25 k25;have b25:=F25.binds (ps:=["term"]) λ_ _ _ _ _ _ us hl=>match us,hl with|[_],_=>rfl
 have F26:=fun_mk (st:=Yt) l26 c26 k26;have b26:=F26.binds (ps:=["term"]) λ_ _ _ _ _ _ us hl=>match us,hl with|[_],_=>rfl
 have F27:=fun_mk (st:=Yu) l27 c27 k27;have b27:=F27.binds (ps:=["term"]) λ_ _ _ _ _ _ us hl=>match us,hl with|[_],_=>rfl
 have F28:=fun_mk (st:=VB) l28 c28 k28;have kb_ck_has_crowd_beneath:KBn K _ ["term","beneath"] 1 ["beneath"] (λus ws=>us++ws) (λvs zs=>vs++zs):=⟨λs us ws X h1 h2=>match us,ws,h1,h2 with|[_],[_],_,_=> .of_eq (fd:=PySem.W.fnOf "has_crowd" "has_crowd" (defArgs VB) (defBody VB) (defScope VB) .none kV28 dc28 pm28 an28 cd28 ct28) rfl,λr1 r2=>r1.append r2⟩;have F29:FunD K "__init__" "Book.__init__" (defArgs VC) (defBody VC) (defScope VC) [(V.ref tq_Book___init___rows)] [] f29 (PySem.W.fnOf "__init__" "Book.__init__" (defArgs VC) (defBody VC) (defScope VC) (.ref dT29) kV29 dc29 pm29 an29 cd29 ct29):=⟨⟨_,_,_,_,_,_,_,_,_,_,rfl,l29,c29,.inr ⟨AD,dT29,_,iT29.toList,nT29,rfl,t29,by rw[tt29],v29⟩,.inl rfl⟩,k29⟩;obtain⟨d29_1,v29_1,b29_1⟩:=FunD.binds1 (ps:=["self","rows"]) F29 1 0 AD rfl λT _ _ _ _ _ _ us its hl hi=>match us,its,hl,hi with|[_],[_],_,_=>⟨_,rfl,rfl⟩
 obtain⟨d29_2,v29_2,b29_2⟩:=FunD.binds1 (ps:=["self","rows"]) F29 2 1 AD rfl λT _ _ _ _ _ _ us its hl hi=>match us,its,hl,hi with|[_,_],[_],_,_=>⟨_,rfl,rfl⟩
 have km_mkk_Book___init___0_rows:=F29.kbinds1 (ps:=["self","rows"]) 1 ["rows"] [0] AD λT _ _ _ _ _ _ us its ws h1 h2 h3=>match us,its,ws,h1,h2,h3 with|[_],[_],[_],_,_,_=>⟨_,rfl,rfl⟩
 have F30:=fun_mk (st:=jQ) l30 c30 k30;have b30:=F30.binds (ps:=["self"]) λ_ _ _ _ _ _ us hl=>match us,hl with|[_],_=>rfl
 have F31:=fun_mk (st:=jR) l31 c31 k31;have b31:=F31.binds (ps:=["self","other"]) λ_ _ _ _ _ _ us hl=>match us,hl with|[_,_],_=>rfl
 have F32:=fun_mk (st:=gU) l32 c32 k32;have b32:=F32.binds (ps:=["self"]) λ_ _ _ _ _ _ us hl=>match us,hl with|[_],_=>rfl
 have F33:=fun_mk (st:=jS) l33 c33 k33;have b33:=F33.binds (ps:=["self"]) λ_ _ _ _ _ _ us hl=>match us,hl with|[_],_=>rfl
 have F34:=fun_mk (st:=jT) l34 c34 k34;have b34:=F34.binds (ps:=["self","name","many","body"]) λ_ _ _ _ _ _ us hl=>match us,hl with|[_,_,_,_],_=>rfl
 have F35:=fun_mk (st:=jU) l35 c35 k35;have b35:=F35.binds (ps:=["self","name"]) λ_ _ _ _ _ _ us hl=>match us,hl with|[_,_],_=>rfl
 have F36:=fun_mk (st:=jV) l36 c36 k36;have b36:=F36.binds (ps:=["self"]) λ_ _ _ _ _ _ us hl=>match us,hl with|[_],_=>rfl
 have F37:=fun_mk (st:=jW) l37 c37 k37;have b37:=F37.binds (ps:=["text"]) λ_ _ _ _ _ _ us hl=>match us,hl with|[_],_=>rfl
 have F38:=fun_mk (st:=jX) l38 c38 k38;have b38:=F38.binds (ps:=["word"]) λ_ _ _ _ _ _ us hl=>match us,hl with|[_],_=>rfl
 have F39:=fun_mk (st:=jY) l39 c39 k39;have b39:=F39.binds (ps:=["self","words","names_stand"]) λ_ _ _ _ _ _ us hl=>match us,hl with|[_,_,_],_=>rfl
 have F40:=fun_mk (st:=jZ) l40 c40 k40;have b40:=F40.binds (ps:=["self"]) λ_ _ _ _ _ _ us hl=>match us,hl with|[_],_=>rfl
 have F41:=fun_mk (st:=ja) l41 c41 k41;have b41:=F41.binds (ps:=["self","holds"]) λ_ _ _ _ _ _ us hl=>match us,hl with|[_,_],_=>rfl
 have F42:=fun_mk (st:=aM) l42 c42 k42;have km_mtk_Reader_take_0_word:KBn K _ ["self","word"] 1 ["word"] (λus ws=>us++pick [0] ws) (λvs zs=>vs++pick [0] zs):=⟨λs us ws X h1 h2=>match us,ws,h1,h2 with|[_],[_],_,_=> .of_eq (fd:=PySem.W.fnOf "take" "Reader.take" (defArgs aM) (defBody aM) (defScope aM) .none kV42 dc42 pm42 an42 cd42 ct42) rfl,λr1 r2=>r1.append (FZ r2 _)⟩;have F43:=fun_mk (st:=jb) l43 c43 k43;have b43:=F43.binds (ps:=["self","bound"]) λ_ _ _ _ _ _ us hl=>match us,hl with|[_,_],_=>rfl
 have F44:=fun_mk (st:=jc) l44 c44 k44;have b44:=F44.binds (ps:=["self"]) λ_ _ _ _ _ _ us hl=>match us,hl with|[_],_=>rfl
 have F45:=fun_mk (st:=Vn) l45 c45 k45;have km_mtk_Reader_read_rows_1_sign_end:KBn K _ ["self","bound","sign","end"] 2 ["sign","end"] (λus ws=>us++pick [0,1] ws) (λvs zs=>vs++pick [0,1] zs):=⟨λs us ws X h1 h2=>match us,ws,h1,h2 with|[_,_],[_,_],_,_=> .of_eq (fd:=PySem.W.fnOf "read_rows" "Reader.read_rows" (defArgs Vn) (defBody Vn) (defScope Vn) .none kV45 dc45 pm45 an45 cd45 ct45) rfl,λr1 r2=>r1.append (FZ r2 _)⟩;have F46:=fun_mk (st:=jd) l46 c46 k46;have b46:=F46.binds (ps:=["self","bound"]) λ_ _ _ _ _ _ us hl=>match us,hl with|[_,_],_=>rfl
 have F47:=fun_mk (st:=aN) l47 c47 k47;have b47:=F47.binds (ps:=["self","bound"]) λ_ _ _ _ _ _ us hl=>match us,hl with|[_,_],_=>rfl
 have F48:=fun_mk (st:=aO) l48 c48 k48;have b48:=F48.binds (ps:=["self","bound"]) λ_ _ _ _ _ _ us hl=>match us,hl with|[_,_],_=>rfl
 have F49:=fun_mk (st:=aP) l49 c49 k49;have b49:=F49.binds (ps:=["self","bound"]) λ_ _ _ _ _ _ us hl=>match us,hl with|[_,_],_=>rfl
 have F50:=fun_mk (st:=aQ) l50 c50 k50;have b50:=F50.binds (ps:=["self","bound"]) λ_ _ _ _ _ _ us hl=>match us,hl with|[_,_],_=>rfl
 have F51:=fun_mk (st:=aR) l51 c51 k51;have b51:=F51.binds (ps:=["self","bound"]) λ_ _ _ _ _ _ us hl=>match us,hl with|[_,_],_=>rfl
 have F52:=fun_mk (st:=je) l52 c52 k52;have b52:=F52.binds (ps:=["self","bound"]) λ_ _ _ _ _ _ us hl=>match us,hl with|[_,_],_=>rfl
 have F53:=fun_mk (st:=aS) l53 c53 k53;have b53:=F53.binds (ps:=["self","bound"]) λ_ _ _ _ _ _ us hl=>match us,hl with|[_,_],_=>rfl
 have F54:=fun_mk (st:=aT) l54 c54 k54;have b54:=F54.binds (ps:=["self","bound"]) λ_ _ _ _ _ _ us hl=>match us,hl with|[_,_],_=>rfl
 have F55:=fun_mk (st:=jf) l55 c55 k55;have b55:=F55.binds (ps:=["self"]) λ_ _ _ _ _ _ us hl=>match us,hl with|[_],_=>rfl
 have F56:=fun_mk (st:=jg) l56 c56 k56;have b56:=F56.binds (ps:=["self"]) λ_ _ _ _ _ _ us hl=>match us,hl with|[_],_=>rfl
 have F57:=fun_mk (st:=jh) l57 c57 k57;have b57:=F57.binds (ps:=["text"]) λ_ _ _ _ _ _ us hl=>match us,hl with|[_],_=>rfl
 have F58:=fun_mk (st:=HQ) l58 c58 k58;have b58:=F58.binds (ps:=["_law_script","_law_at"]) λ_ _ _ _ _ _ us hl=>match us,hl with|[_,_],_=>rfl
 have F59:=fun_mk (st:=Fc) l59 c59 k59;have b59:=F59.binds (ps:=["_law_bag_here","_law_many"]) λ_ _ _ _ _ _ us hl=>match us,hl with|[_,_],_=>rfl
 have F60:=fun_mk (st:=Yv) l60 c60 k60;have b60:=F60.binds (ps:=["_law_bag_here","_law_wide","_law_deep","_law_room","_law_stand"]) λ_ _ _ _ _ _ us hl=>match us,hl with|[_,_,_,_,_],_=>rfl
 have F61:=fun_mk (st:=ji) l61 c61 k61;have b61:=F61.binds (ps:=["_law_bag_here"]) λ_ _ _ _ _ _ us hl=>match us,hl with|[_],_=>rfl
 have F62:=fun_mk (st:=jj) l62 c62 k62;have b62:=F62.binds (ps:=["_law_bag_here","_law_some"]) λ_ _ _ _ _ _ us hl=>match us,hl with|[_,_],_=>rfl
 have F63:=fun_mk (st:=FA) l63 c63 k63;have b63:=F63.binds (ps:=["_law_script"]) λ_ _ _ _ _ _ us hl=>match us,hl with|[_],_=>rfl
 refine⟨PySem.W.fnOf "law" "law" (defArgs FA) (defBody FA) (defScope FA) .none kV63 dc63 pm63 an63 cd63 ct63,λs v=> .of_eq rfl,λbase _ _=>?_⟩;have o_is_whole:=QF (P:=l.prog) (w:=w) (base:=base) F0 T;have c_is_whole:Fn l.prog w K mg base F 1 "is_whole" 1 [] jm:=⟨_,_,_,[],[],o_is_whole,AL X G a0,k0,b0,.nil,λ_=> .nil⟩;have o_are_signs:=OT (P:=l.prog) (w:=w) (base:=base) F1 T;have c_are_signs:Fn l.prog w K mg base F 1 "are_signs" 2 [] jq:=⟨_,_,_,[],[],o_are_signs,AL X G a1,k1,b1,.nil,λ_=> .nil⟩;have o_are_letters:=Lq (P:=l.prog) (w:=w) (base:=base) F2 T c_are_signs;have c_are_letters:Fn l.prog w K mg base F 2 "are_letters" 2 [.int 6] ck:=⟨_,_,_,_,_,o_are_letters,AL X G a2,k2,b2,v2,λ_=>(.cons (.int _) .nil)⟩;have ck_are_letters_most:FnK l.prog w K mg base F 2 "are_letters" 1 ["most"] 2 ck:=⟨_,_,_,o_are_letters,AL X G a2,k2,kb_ck_are_letters_most⟩;have o_is_number_text:=JL (P:=l.prog) (w:=w) (base:=base) F3 T c_are_signs;have c_is_number_text:Fn l.prog w K mg base F 2 "is_number_text" 1 [] js:=⟨_,_,_,[],[],o_is_number_text,AL X G a3,k3,b3,.nil,λ_=> .nil⟩;have o_is_name:=Rk (P:=l.prog) (w:=w) (base:=base) F4 T c_is_number_text c_are_letters;have c_is_name:Fn l.prog w K mg base F 3 "is_name" 1 [] aU:=⟨_,_,_,[],[],o_is_name,AL X G a4,k4,b4,.nil,λ_=> .nil⟩;have o_is_definition_name:=Gb (P:=l.prog) (w:=w) (base:=base) F5 T ck_are_letters_most;have c_is_definition_name:Fn l.prog w K mg base F 3 "is_definition_name" 1 [] VD:=⟨_,_,_,[],[],o_is_definition_name,AL X G a5,k5,b5,.nil,λ_=> .nil⟩;have o_is_mark:=Rl (P:=l.prog) (w:=w) (base:=base) F6 T c_is_whole c_is_name;have c_is_mark:Fn l.prog w K mg base F 4 "is_mark" 2 [] aV:=⟨_,_,_,[],[],o_is_mark,AL X G a6,k6,b6,.nil,λ_=> .nil⟩;have o_are_marks:=OU (P:=l.prog) (w:=w) (base:=base) F7 T c_is_mark;have c_are_marks:Fn l.prog w K mg base F 5 "are_marks" 2 [] jw:=⟨_,_,_,[],[],o_are_marks,AL X G a7,k7,b7,.nil,λ_=> .nil⟩;have og_are_parts:∀n:Nat,FnOk l.prog w K mg base CX0 (5+n) f8 (PySem.W.fnOf "are_parts" "are_parts" (defArgs Yr) (defBody Yr) (defScope Yr) .none kV8 dc8 pm8 an8 cd8 ct8) ["thing","binders"] (DO K F 2 (VE n))∧FnOk l.prog w K mg base CX0 (5+n) f9 (PySem.W.fnOf "is_term" "is_term" (defArgs NL) (defBody NL) (defScope NL) .none (.ref kV9) dc9 pm9 an9 cd9 ct9) ["thing","binders"] (DO K F 2 (KZ n)):=by
  intro n
  induction n with
  |zero=>exact⟨Kh rfl,Kh rfl⟩
  |succ n ih=>
   have c_are_parts:Fn l.prog w K mg base F (5+n) "are_parts" 2 [] (VE n):=⟨_,_,_,[],[],ih.1,AL X G a8,k8,b8,.nil,λ_=> .nil⟩;have c_is_term:Fn l.prog w K mg base F (5+n) "is_term" 2 [.int 0] (KZ n):=⟨_,_,_,_,_,ih.2,AL X G a9,k9,b9,v9,λ_=>(.cons (.int _) .nil)⟩;have ck_is_term_binders:FnK l.prog w K mg base F (5+n) "is_term" 1 ["binders"] 2 (KZ n):=⟨_,_,_,ih.2,AL X G a9,k9,kb_ck_is_term_binders⟩;exact⟨OV (P:=l.prog) (w:=w) (base:=base) F8 T ck_is_term_binders,Rm (P:=l.prog) (w:=w) (base:=base) F9 T c_is_mark c_are_marks c_is_definition_name c_are_parts ck_is_term_binders⟩
 have c_are_parts:Fn l.prog w K mg base F 45 "are_parts" 2 [] (VE 40):=⟨_,_,_,[],[],(og_are_parts 40).1,AL X G a8,k8,b8,.nil,λ_=> .nil⟩;have c_is_term:Fn l.prog w K mg base F 45 "is_term" 2 [.int 0] (KZ 40):=⟨_,_,_,_,_,(og_are_parts 40).2,AL X G a9,k9,b9,v9,λ_=>(.cons (.int _) .nil)⟩;have ck_is_term_binders:FnK l.prog w K mg base F 45 "is_term" 1 ["binders"] 2 (KZ 40):=⟨_,_,_,(og_are_parts 40).2,AL X G a9,k9,kb_ck_is_term_binders⟩;have og_marks_of:∀n:Nat,FnOk l.prog w K mg base CX0 (0+n) f10 (PySem.W.fnOf "marks_of" "marks_of" (defArgs Xi) (defBody Xi) (defScope Xi) .none kV10 dc10 pm10 an10 cd10 ct10) ["term"] (DO K F 1 (O9 n)):=by
  intro n
  induction n with
  |zero=>exact Kh rfl
  |succ n ih=>
   have c_marks_of:Fn l.prog w K mg base F (0+n) "marks_of" 1 [] (O9 n):=⟨_,_,_,[],[],ih,AL X G a10,k10,b10,.nil,λ_=> .nil⟩;exact QG (P:=l.prog) (w:=w) (base:=base) F10 T c_marks_of
 have c_marks_of:Fn l.prog w K mg base F 40 "marks_of" 1 [] (O9 40):=⟨_,_,_,[],[],(og_marks_of 40),AL X G a10,k10,b10,.nil,λ_=> .nil⟩;have o_standing:=QH (P:=l.prog) (w:=w) (base:=base) F11 T c_marks_of;have c_standing:Fn l.prog w K mg base F 41 "standing" 2 [.int 0] mX:=⟨_,_,_,_,_,o_standing,AL X G a11,k11,b11,v11,λ_=>(.cons (.int _) .nil)⟩;have ck_standing_binders:FnK l.prog w K mg base F 41 "standing" 1 ["binders"] 2 mX:=⟨_,_,_,o_standing,AL X G a11,k11,kb_ck_standing_binders⟩;have o_mark_word:=OW (P:=l.prog) (w:=w) (base:=base) F12 T;have c_mark_word:Fn l.prog w K mg base F 1 "mark_word" 2 [] OP:=⟨_,_,_,[],[],o_mark_word,AL X G a12,k12,b12,.nil,λ_=> .nil⟩;have o_stop_text:=OY (P:=l.prog) (w:=w) (base:=base) F13 T;have c_stop_text:Fn l.prog w K mg base F 1 "stop_text" 2 [] gX:=⟨_,_,_,[],[],o_stop_text,AL X G a13,k13,b13,.nil,λ_=> .nil⟩;have o_call_text:=OZ (P:=l.prog) (w:=w) (base:=base) F22 T c_mark_word;have c_call_text:Fn l.prog w K mg base F 2 "call_text" 2 [] gY:=⟨_,_,_,[],[],o_call_text,AL X G a22,k22,b22,.nil,λ_=> .nil⟩;have og_tick_text:∀n:Nat,FnOk l.prog w K mg base CX0 (2+n) f14 (PySem.W.fnOf "tick_text" "tick_text" (defArgs aE) (defBody aE) (defScope aE) .none kV14 dc14 pm14 an14 cd14 ct14) ["term","deep"] (DO K F 2 (Gg n))∧FnOk l.prog w K mg base CX0 (2+n) f15 (PySem.W.fnOf "send_text" "send_text" (defArgs aF) (defBody aF) (defScope aF) .none kV15 dc15 pm15 an15 cd15 ct15) ["term","deep"] (DO K F 2 (Gh n))∧FnOk l.prog w K mg base CX0 (2+n) f16 (PySem.W.fnOf "hear_text" "hear_text" (defArgs aG) (defBody aG) (defScope aG) .none kV16 dc16 pm16 an16 cd16 ct16) ["term","deep"] (DO K F 2 (Gi n))∧FnOk l.prog w K mg base CX0 (2+n) f17 (PySem.W.fnOf "test_text" "test_text" (defArgs aH) (defBody aH) (defScope aH) .none kV17 dc17 pm17 an17 cd17 ct17) ["term","deep"] (DO K F 2 (GV n))∧FnOk l.prog w K mg base CX0 (2+n) f18 (PySem.W.fnOf "new_text" "new_text" (defArgs aI) (defBody aI) (defScope aI) .none kV18 dc18 pm18 an18 cd18 ct18) ["term","deep"] (DO K F 2 (Gj n))∧FnOk l.prog w K mg base CX0 (2+n) f19 (PySem.W.fnOf "parts_texts" "parts_texts" (defArgs Ys) (defBody Ys) (defScope Ys) .none kV19 dc19 pm19 an19 cd19 ct19) ["term","deep"] (DO K F 2 (HR n))∧FnOk l.prog w K mg base CX0 (2+n) f20 (PySem.W.fnOf "pick_text" "pick_text" (defArgs aJ) (defBody aJ) (defScope aJ) .none kV20 dc20 pm20 an20 cd20 ct20) ["term","deep"] (DO K F 2 (Gk n))∧FnOk l.prog w K mg base CX0 (2+n) f21 (PySem.W.fnOf "beside_text" "beside_text" (defArgs aK) (defBody aK) (defScope aK) .none kV21 dc21 pm21 an21 cd21 ct21) ["term","deep"] (DO K F 2 (Gm n))∧FnOk l.prog w K mg base CX0 (2+n) f23 (PySem.W.fnOf "text_of" "text_of" (defArgs aL) (defBody aL) (defScope aL) .none kV23 dc23 pm23 an23 cd23 ct23) ["term","deep"] (DO K F 2 (Ep n)):=by
  intro n
  induction n with
  |zero=>exact⟨Kh rfl,Kh rfl,Kh rfl,Kh rfl,Kh rfl,Kh rfl,Kh rfl,Kh rfl,Kh rfl⟩
  |succ n ih=>
   have c_tick_text:Fn l.prog w K mg base F (2+n) "tick_text" 2 [] (Gg n):=⟨_,_,_,[],[],ih.1,AL X G a14,k14,b14,.nil,λ_=> .nil⟩;have c_send_text:Fn l.prog w K mg base F (2+n) "send_text" 2 [] (Gh n):=⟨_,_,_,[],[],ih.2.1,AL X G a15,k15,b15,.nil,λ_=> .nil⟩;have c_hear_text:Fn l.prog w K mg base F (2+n) "hear_text" 2 [] (Gi n):=⟨_,_,_,[],[],ih.2.2.1,AL X G a16,k16,b16,.nil,λ_=> .nil⟩;have c_test_text:Fn l.prog w K mg base F (2+n) "test_text" 2 [] (GV n):=⟨_,_,_,[],[],ih.2.2.2.1,AL X G a17,k17,b17,.nil,λ_=> .nil⟩;have c_new_text:Fn l.prog w K mg base F (2+n) "new_text" 2 [] (Gj n):=⟨_,_,_,[],[],ih.2.2.2.2.1,AL X G a18,k18,b18,.nil,λ_=> .nil⟩;have c_parts_texts:Fn l.prog w K mg base F (2+n) "parts_texts" 2 [] (HR n):=⟨_,_,_,[],[],ih.2.2.2.2.2.1,AL X G a19,k19,b19,.nil,λ_=> .nil⟩;have c_pick_text:Fn l.prog w K mg base F (2+n) "pick_text" 2 [] (Gk n):=⟨_,_,_,[],[],ih.2.2.2.2.2.2.1,AL X G a20,k20,b20,.nil,λ_=> .nil⟩;have c_beside_text:Fn l.prog w K mg base F (2+n) "beside_text" 2 [] (Gm n):=⟨_,_,_,[],[],ih.2.2.2.2.2.2.2.1,AL X G a21,k21,b21,.nil,λ_=> .nil⟩;have c_text_of:Fn l.prog w K mg base F (2+n) "text_of" 2 [] (Ep n):=⟨_,_,_,[],[],ih.2.2.2.2.2.2.2.2,AL X G a23,k23,b23,.nil,λ_=> .nil⟩;exact⟨Oa (P:=l.prog) (w:=w) (base:=base) F14 T c_text_of,Ob (P:=l.prog) (w:=w) (base:=base) F15 T c_mark_word c_text_of,Oc (P:=l.prog) (w:=w) (base:=base) F16 T c_mark_word c_text_of,Od (P:=l.prog) (w:=w) (base:=base) F17 T c_mark_word c_text_of,QI (P:=l.prog) (w:=w) (base:=base) F18 T c_text_of,Lr (P:=l.prog) (w:=w) (base:=base) F19 T c_text_of,Oe (P:=l.prog) (w:=w) (base:=base) F20 T c_parts_texts,Ls (P:=l.prog) (w:=w) (base:=base) F21 T c_parts_texts,Rq (P:=l.prog) (w:=w) (base:=base) F23 T c_stop_text c_tick_text c_send_text c_hear_text c_test_text c_pick_text c_beside_text c_new_text c_call_text⟩
 have c_tick_text:Fn l.prog w K mg base F 62 "tick_text" 2 [] (Gg 60):=⟨_,_,_,[],[],(og_tick_text 60).1,AL X G a14,k14,b14,.nil,λ_=> .nil⟩;have c_send_text:Fn l.prog w K mg base F 62 "send_text" 2 [] (Gh 60):=⟨_,_,_,[],[],(og_tick_text 60).2.1,AL X G a15,k15,b15,.nil,λ_=> .nil⟩;have c_hear_text:Fn l.prog w K mg base F 62 "hear_text" 2 [] (Gi 60):=⟨_,_,_,[],[],(og_tick_text 60).2.2.1,AL X G a16,k16,b16,.nil,λ_=> .nil⟩;have c_test_text:Fn l.prog w K mg base F 62 "test_text" 2 [] (GV 60):=⟨_,_,_,[],[],(og_tick_text 60).2.2.2.1,AL X G a17,k17,b17,.nil,λ_=> .nil⟩;have c_new_text:Fn l.prog w K mg base F 62 "new_text" 2 [] (Gj 60):=⟨_,_,_,[],[],(og_tick_text 60).2.2.2.2.1,AL X G a18,k18,b18,.nil,λ_=> .nil⟩;have c_parts_texts:Fn l.prog w K mg base F 62 "parts_texts" 2 [] (HR 60):=⟨_,_,_,[],[],(og_tick_text 60).2.2.2.2.2.1,AL X G a19,k19,b19,.nil,λ_=> .nil⟩;have c_pick_text:Fn l.prog w K mg base F 62 "pick_text" 2 [] (Gk 60):=⟨_,_,_,[],[],(og_tick_text 60).2.2.2.2.2.2.1,AL X G a20,k20,b20,.nil,λ_=> .nil⟩;have c_beside_text:Fn l.prog w K mg base F 62 "beside_text" 2 [] (Gm 60):=⟨_,_,_,[],[],(og_tick_text 60).2.2.2.2.2.2.2.1,AL X G a21,k21,b21,.nil,λ_=> .nil⟩;have c_text_of:Fn l.prog w K mg base F 62 "text_of" 2 [] (Ep 60):=⟨_,_,_,[],[],(og_tick_text 60).2.2.2.2.2.2.2.2,AL X G a23,k23,b23,.nil,λ_=> .nil⟩;have o_show_definition:=IW (P:=l.prog) (w:=w) (base:=base) F24 T c_text_of;have c_show_definition:Fn l.prog w K mg base F 63 "show_definition" 3 [] VF:=⟨_,_,_,[],[],o_show_definition,AL X G a24,k24,b24,.nil,λ_=> .nil⟩;have o_inner_terms:=Lu (P:=l.prog) (w:=w) (base:=base) F25 T;have c_inner_terms:Fn l.prog w K mg base F 1 "inner_terms" 1 [] Tj:=⟨_,_,_,[],[],o_inner_terms,AL X G a25,k25,b25,.nil,λ_=> .nil⟩;have og_calls_of:∀n:Nat,FnOk l.prog w K mg base CX0 (1+n) f26 (PySem.W.fnOf "calls_of" "calls_of" (defArgs Yt) (defBody Yt) (defScope Yt) .none kV26 dc26 pm26 an26 cd26 ct26) ["term"] (DO K F 1 (Rg n)):=by
  intro n
  induction n with
  |zero=>exact Kh rfl
  |succ n ih=>
   have c_calls_of:Fn l.prog w K mg base F (1+n) "calls_of" 1 [] (Rg n):=⟨_,_,_,[],[],ih,AL X G a26,k26,b26,.nil,λ_=> .nil⟩;exact QJ (P:=l.prog) (w:=w) (base:=base) F26 T c_inner_terms c_calls_of
 have c_calls_of:Fn l.prog w K mg base F 41 "calls_of" 1 [] (Rg 40):=⟨_,_,_,[],[],(og_calls_of 40),AL X G a26,k26,b26,.nil,λ_=> .nil⟩;have og_is_guarded:∀n:Nat,FnOk l.prog w K mg base CX0 (1+n) f27 (PySem.W.fnOf "is_guarded" "is_guarded" (defArgs Yu) (defBody Yu) (defScope Yu) .none kV27 dc27 pm27 an27 cd27 ct27) ["term"] (DO K F 1 (Tn n)):=by
  intro n
  induction n with
  |zero=>exact Kh rfl
  |succ n ih=>
   have c_is_guarded:Fn l.prog w K mg base F (1+n) "is_guarded" 1 [] (Tn n):=⟨_,_,_,[],[],ih,AL X G a27,k27,b27,.nil,λ_=> .nil⟩;exact Mb (P:=l.prog) (w:=w) (base:=base) F27 T c_inner_terms c_is_guarded
 have c_is_guarded:Fn l.prog w K mg base F 41 "is_guarded" 1 [] (Tn 40):=⟨_,_,_,[],[],(og_is_guarded 40),AL X G a27,k27,b27,.nil,λ_=> .nil⟩;have og_has_crowd:∀n:Nat,FnOk l.prog w K mg base CX0 (41+n) f28 (PySem.W.fnOf "has_crowd" "has_crowd" (defArgs VB) (defBody VB) (defScope VB) .none kV28 dc28 pm28 an28 cd28 ct28) ["term","beneath"] (DO K F 2 (VG n)):=by
  intro n
  induction n with
  |zero=>exact Kh rfl
  |succ n ih=>
   have ck_has_crowd_beneath:FnK l.prog w K mg base F (41+n) "has_crowd" 1 ["beneath"] 2 (VG n):=⟨_,_,_,ih,AL X G a28,k28,kb_ck_has_crowd_beneath⟩;exact Of (P:=l.prog) (w:=w) (base:=base) F28 T c_inner_terms c_calls_of ck_has_crowd_beneath
 have ck_has_crowd_beneath:FnK l.prog w K mg base F 81 "has_crowd" 1 ["beneath"] 2 (VG 40):=⟨_,_,_,(og_has_crowd 40),AL X G a28,k28,kb_ck_has_crowd_beneath⟩;have o_Book_put:=QK (P:=l.prog) (w:=w) (base:=base) F34 T c_is_guarded c_is_whole c_is_definition_name ck_has_crowd_beneath ck_standing_binders ck_is_term_binders;have mt_Book_put_4:MethD l.prog w K mg base F 82 C_Book "put" 4 [] PB:=⟨_,_,_,[],[],o_Book_put,⟨a34,j34,k34⟩,b34,.nil,λ_=> .nil⟩;have o_Book___init__:=Jt (P:=l.prog) (w:=w) (base:=base) F29 T mt_Book_put_4;have mkk_Book___init___0_rows:MkK l.prog w K mg base F 83 C_Book 0 ["rows"] [0] 2 Ka:=⟨_,_,_,o_Book___init__,⟨mk_Book,a29,j29,kc_Book⟩,km_mkk_Book___init___0_rows⟩;have mk_Book___init___2:MkD l.prog w K mg base F 83 C_Book 2 [] Ka:=⟨_,_,_,_,_,o_Book___init__,⟨mk_Book,a29,j29,kc_Book⟩,b29_2,v29_2,λ_=> .nil⟩;have mk_Book___init___1:MkD l.prog w K mg base F 83 C_Book 2 [.tup []] Ka:=⟨_,_,_,_,_,o_Book___init__,⟨mk_Book,a29,j29,kc_Book⟩,b29_1,v29_1,λ_=>(.cons (Z1 tl_tq_Book___init___rows tv_tq_Book___init___rows) .nil)⟩;have o_Book___len__:=Kc (P:=l.prog) (w:=w) (base:=base) F30 T;have mt_Book___len___1:MethD l.prog w K mg base F 1 C_Book "__len__" 1 [] Rh:=⟨_,_,_,[],[],o_Book___len__,⟨a30,j30,k30⟩,b30,.nil,λ_=> .nil⟩;have o_Book___eq__:=Lv (P:=l.prog) (w:=w) (base:=base) F31 T;have mt_Book___eq___2:MethD l.prog w K mg base F 1 C_Book "__eq__" 2 [] KL:=⟨_,_,_,[],[],o_Book___eq__,⟨a31,j31,k31⟩,b31,.nil,λ_=> .nil⟩;have o_Book___str__:=Kd (P:=l.prog) (w:=w) (base:=base) F32 T c_show_definition;have mt_Book___str___1:MethD l.prog w K mg base F 64 C_Book "__str__" 1 [] Lh:=⟨_,_,_,[],[],o_Book___str__,⟨a32,j32,k32⟩,b32,.nil,λ_=> .nil⟩;have o_Book___repr__:=Ju (P:=l.prog) (w:=w) (base:=base) F33 T;have mt_Book___repr___1:MethD l.prog w K mg base F 1 C_Book "__repr__" 1 [] Ri:=⟨_,_,_,[],[],o_Book___repr__,⟨a33,j33,k33⟩,b33,.nil,λ_=> .nil⟩;have o_Book_get:=QL (P:=l.prog) (w:=w) (base:=base) F35 T c_is_definition_name;have mt_Book_get_2:MethD l.prog w K mg base F 4 C_Book "get" 2 [] aX:=⟨_,_,_,[],[],o_Book_get,⟨a35,j35,k35⟩,b35,.nil,λ_=> .nil⟩;have o_Book_names:=Mc (P:=l.prog) (w:=w) (base:=base) F36 T;have mt_Book_names_1:MethD l.prog w K mg base F 1 C_Book "names" 1 [] cy:=⟨_,_,_,[],[],o_Book_names,⟨a36,j36,k36⟩,b36,.nil,λ_=> .nil⟩;have o_words_of:=QM (P:=l.prog) (w:=w) (base:=base) F37 T;have c_words_of:Fn l.prog w K mg base F 1 "words_of" 1 [] GE:=⟨_,_,_,[],[],o_words_of,AL X G a37,k37,b37,.nil,λ_=> .nil⟩;have o_is_binder_word:=JM (P:=l.prog) (w:=w) (base:=base) F38 T c_is_number_text c_is_name;have c_is_binder_word:Fn l.prog w K mg base F 4 "is_binder_word" 1 [] oF:=⟨_,_,_,[],[],o_is_binder_word,AL X G a38,k38,b38,.nil,λ_=> .nil⟩;have o_Reader___init__:=IX (P:=l.prog) (w:=w) (base:=base) F39 T;have mk_Reader___init___3:MkD l.prog w K mg base F 1 C_Reader 3 [] oG:=⟨_,_,_,[],[],o_Reader___init__,⟨mk_Reader,a39,j39,kc_Reader⟩,b39,.nil,λ_=> .nil⟩;have o_Reader_next_word:=Hh (P:=l.prog) (w:=w) (base:=base) F40 T;have mt_Reader_next_word_1:MethD l.prog w K mg base F 1 C_Reader "next_word" 1 [] JZ:=⟨_,_,_,[],[],o_Reader_next_word,⟨a40,j40,k40⟩,b40,.nil,λ_=> .nil⟩;have o_Reader_need:=Lw (P:=l.prog) (w:=w) (base:=base) F41 T;have mt_Reader_need_2:MethD l.prog w K mg base F 1 C_Reader "need" 2 [] NP:=⟨_,_,_,[],[],o_Reader_need,⟨a41,j41,k41⟩,b41,.nil,λ_=> .nil⟩;have o_Reader_take:=Lx (P:=l.prog) (w:=w) (base:=base) F42 T mt_Reader_next_word_1 mt_Reader_need_2;have mtk_Reader_take_0_word:MethK l.prog w K mg base F 2 C_Reader "take" 0 ["word"] [0] 2 Ja:=⟨_,_,_,o_Reader_take,⟨a42,j42,k42⟩,km_mtk_Reader_take_0_word⟩;have o_Reader_read_mark:=Hi (P:=l.prog) (w:=w) (base:=base) F43 T c_is_name mt_Reader_need_2 mt_Reader_next_word_1;have mt_Reader_read_mark_2:MethD l.prog w K mg base F 4 C_Reader "read_mark" 2 [] Vp:=⟨_,_,_,[],[],o_Reader_read_mark,⟨a43,j43,k43⟩,b43,.nil,λ_=> .nil⟩;have o_Reader_read_binder:=Gc (P:=l.prog) (w:=w) (base:=base) F44 T c_is_binder_word mt_Reader_need_2 mt_Reader_next_word_1;have mt_Reader_read_binder_1:MethD l.prog w K mg base F 5 C_Reader "read_binder" 1 [] aY:=⟨_,_,_,[],[],o_Reader_read_binder,⟨a44,j44,k44⟩,b44,.nil,λ_=> .nil⟩;have o_Reader_read_stop:=Hj (P:=l.prog) (w:=w) (base:=base) F46 T;have mt_Reader_read_stop_2:MethD l.prog w K mg base F 1 C_Reader "read_stop" 2 [] oH:=⟨_,_,_,[],[],o_Reader_read_stop,⟨a46,j46,k46⟩,b46,.nil,λ_=> .nil⟩;have o_Reader_read_marks:=HB (P:=l.prog) (w:=w) (base:=base) F52 T mtk_Reader_take_0_word mt_Reader_next_word_1 mt_Reader_read_mark_2;have mt_Reader_read_marks_2:MethD l.prog w K mg base F 5 C_Reader "read_marks" 2 [] oI:=⟨_,_,_,[],[],o_Reader_read_marks,⟨a52,j52,k52⟩,b52,.nil,λ_=> .nil⟩;have og_Reader_read_rows:∀n:Nat,FnOk l.prog w K mg base CX0 (5+n) f45 (PySem.W.fnOf "read_rows" "Reader.read_rows" (defArgs Vn) (defBody Vn) (defScope Vn) .none kV45 dc45 pm45 an45 cd45 ct45) ["self","bound","sign","end"] (DO K F 4 (Hz n))∧FnOk l.prog w K mg base CX0 (5+n) f47 (PySem.W.fnOf "read_tick" "Reader.read_tick" (defArgs aN) (defBody aN) (defScope aN) .none kV47 dc47 pm47 an47 cd47 ct47) ["self","bound"] (DO K F 2 (IQ n))∧FnOk l.prog w K mg base CX0 (5+n) f48 (PySem.W.fnOf "read_new" "Reader.read_new" (defArgs aO) (defBody aO) (defScope aO) .none kV48 dc48 pm48 an48 cd48 ct48) ["self","bound"] (DO K F 2 (IR n))∧FnOk l.prog w K mg base CX0 (5+n) f49 (PySem.W.fnOf "read_test" "Reader.read_test" (defArgs aP) (defBody aP) (defScope aP) .none kV49 dc49 pm49 an49 cd49 ct49) ["self","bound"] (DO K F 2 (IS n))∧FnOk l.prog w K mg base CX0 (5+n) f50 (PySem.W.fnOf "read_pick" "Reader.read_pick" (defArgs aQ) (defBody aQ) (defScope aQ) .none kV50 dc50 pm50 an50 cd50 ct50) ["self","bound"] (DO K F 2 (IT n))∧FnOk l.prog w K mg base CX0 (5+n) f51 (PySem.W.fnOf "read_beside" "Reader.read_beside" (defArgs aR) (defBody aR) (defScope aR) .none kV51 dc51 pm51 an51 cd51 ct51) ["self","bound"] (DO K F 2 (IU n))∧FnOk l.prog w K mg base CX0 (5+n) f53 (PySem.W.fnOf "read_along" "Reader.read_along" (defArgs aS) (defBody aS) (defScope aS) .none kV53 dc53 pm53 an53 cd53 ct53) ["self","bound"] (DO K F 2 (IA n))∧FnOk l.prog w K mg base CX0 (5+n) f54 (PySem.W.fnOf "read_term" "Reader.read_term" (defArgs aT) (defBody aT) (defScope aT) .none kV54 dc54 pm54 an54 cd54 ct54) ["self","bound"] (DO K F 2 (Ff n)):=by
  intro n
  induction n with
  |zero=>exact⟨Kh rfl,Kh rfl,Kh rfl,Kh rfl,Kh rfl,Kh rfl,Kh rfl,Kh rfl⟩
  |succ n ih=>
   have mtk_Reader_read_rows_1_sign_end:MethK l.prog w K mg base F (5+n) C_Reader "read_rows" 1 ["sign","end"] [0,1] 4 (Hz n):=⟨_,_,_,ih.1,⟨a45,j45,k45⟩,km_mtk_Reader_read_rows_1_sign_end⟩;have mt_Reader_read_tick_2:MethD l.prog w K mg base F (5+n) C_Reader "read_tick" 2 [] (IQ n):=⟨_,_,_,[],[],ih.2.1,⟨a47,j47,k47⟩,b47,.nil,λ_=> .nil⟩;have mt_Reader_read_new_2:MethD l.prog w K mg base F (5+n) C_Reader "read_new" 2 [] (IR n):=⟨_,_,_,[],[],ih.2.2.1,⟨a48,j48,k48⟩,b48,.nil,λ_=> .nil⟩;have mt_Reader_read_test_2:MethD l.prog w K mg base F (5+n) C_Reader "read_test" 2 [] (IS n):=⟨_,_,_,[],[],ih.2.2.2.1,⟨a49,j49,k49⟩,b49,.nil,λ_=> .nil⟩;have mt_Reader_read_pick_2:MethD l.prog w K mg base F (5+n) C_Reader "read_pick" 2 [] (IT n):=⟨_,_,_,[],[],ih.2.2.2.2.1,⟨a50,j50,k50⟩,b50,.nil,λ_=> .nil⟩;have mt_Reader_read_beside_2:MethD l.prog w K mg base F (5+n) C_Reader "read_beside" 2 [] (IU n):=⟨_,_,_,[],[],ih.2.2.2.2.2.1,⟨a51,j51,k51⟩,b51,.nil,λ_=> .nil⟩;have mt_Reader_read_along_2:MethD l.prog w K mg base F (5+n) C_Reader "read_along" 2 [] (IA n):=⟨_,_,_,[],[],ih.2.2.2.2.2.2.1,⟨a53,j53,k53⟩,b53,.nil,λ_=> .nil⟩;have mt_Reader_read_term_2:MethD l.prog w K mg base F (5+n) C_Reader "read_term" 2 [] (Ff n):=⟨_,_,_,[],[],ih.2.2.2.2.2.2.2,⟨a54,j54,k54⟩,b54,.nil,λ_=> .nil⟩;exact⟨Hk (P:=l.prog) (w:=w) (base:=base) F45 T mtk_Reader_take_0_word mt_Reader_next_word_1 mt_Reader_read_term_2,Hl (P:=l.prog) (w:=w) (base:=base) F47 T mt_Reader_read_term_2 mtk_Reader_take_0_word,IY (P:=l.prog) (w:=w) (base:=base) F48 T mt_Reader_read_term_2 mtk_Reader_take_0_word mt_Reader_read_binder_1,Hm (P:=l.prog) (w:=w) (base:=base) F49 T mt_Reader_read_term_2 mtk_Reader_take_0_word mt_Reader_read_mark_2 mt_Reader_need_2 mt_Reader_next_word_1,Hn (P:=l.prog) (w:=w) (base:=base) F50 T mtk_Reader_read_rows_1_sign_end,Ge (P:=l.prog) (w:=w) (base:=base) F51 T mtk_Reader_read_rows_1_sign_end,HC (P:=l.prog) (w:=w) (base:=base) F53 T mt_Reader_read_term_2 mtk_Reader_take_0_word mt_Reader_read_binder_1 mt_Reader_read_mark_2 mt_Reader_need_2 mt_Reader_next_word_1,Ho (P:=l.prog) (w:=w) (base:=base) F54 T c_is_definition_name mt_Reader_read_beside_2 mt_Reader_read_along_2 mt_Reader_read_pick_2 mt_Reader_read_test_2 mt_Reader_read_new_2 mt_Reader_read_tick_2 mt_Reader_read_stop_2 mt_Reader_read_marks_2 mt_Reader_next_word_1⟩
 have mtk_Reader_read_rows_1_sign_end:MethK l.prog w K mg base F 65 C_Reader "read_rows" 1 ["sign","end"] [0,1] 4 (Hz 60):=⟨_,_,_,(og_Reader_read_rows 60).1,⟨a45,j45,k45⟩,km_mtk_Reader_read_rows_1_sign_end⟩;have mt_Reader_read_tick_2:MethD l.prog w K mg base F 65 C_Reader "read_tick" 2 [] (IQ 60):=⟨_,_,_,[],[],(og_Reader_read_rows 60).2.1,⟨a47,j47,k47⟩,b47,.nil,λ_=> .nil⟩;have mt_Reader_read_new_2:MethD l.prog w K mg base F 65 C_Reader "read_new" 2 [] (IR 60):=⟨_,_,_,[],[],(og_Reader_read_rows 60).2.2.1,⟨a48,j48,k48⟩,b48,.nil,λ_=> .nil⟩;have mt_Reader_read_test_2:MethD l.prog w K mg base F 65 C_Reader "read_test" 2 [] (IS 60):=⟨_,_,_,[],[],(og_Reader_read_rows 60).2.2.2.1,⟨a49,j49,k49⟩,b49,.nil,λ_=> .nil⟩;have mt_Reader_read_pick_2:MethD l.prog w K mg base F 65 C_Reader "read_pick" 2 [] (IT 60):=⟨_,_,_,[],[],(og_Reader_read_rows 60).2.2.2.2.1,⟨a50,j50,k50⟩,b50,.nil,λ_=> .nil⟩;have mt_Reader_read_beside_2:MethD l.prog w K mg base F 65 C_Reader "read_beside" 2 [] (IU 60):=⟨_,_,_,[],[],(og_Reader_read_rows 60).2.2.2.2.2.1,⟨a51,j51,k51⟩,b51,.nil,λ_=> .nil⟩;have mt_Reader_read_along_2:MethD l.prog w K mg base F 65 C_Reader "read_along" 2 [] (IA 60):=⟨_,_,_,[],[],(og_Reader_read_rows 60).2.2.2.2.2.2.1,⟨a53,j53,k53⟩,b53,.nil,λ_=> .nil⟩;have mt_Reader_read_term_2:MethD l.prog w K mg base F 65 C_Reader "read_term" 2 [] (Ff 60):=⟨_,_,_,[],[],(og_Reader_read_rows 60).2.2.2.2.2.2.2,⟨a54,j54,k54⟩,b54,.nil,λ_=> .nil⟩;have o_Reader_read_end:=IZ (P:=l.prog) (w:=w) (base:=base) F55 T mt_Reader_need_2;have mt_Reader_read_end_1:MethD l.prog w K mg base F 2 C_Reader "read_end" 1 [] oK:=⟨_,_,_,[],[],o_Reader_read_end,⟨a55,j55,k55⟩,b55,.nil,λ_=> .nil⟩;have o_Reader_read_heads:=HD (P:=l.prog) (w:=w) (base:=base) F56 T c_is_definition_name mt_Reader_next_word_1 mt_Reader_read_binder_1 mt_Reader_need_2 mtk_Reader_take_0_word;have mt_Reader_read_heads_1:MethD l.prog w K mg base F 6 C_Reader "read_heads" 1 [] oL:=⟨_,_,_,[],[],o_Reader_read_heads,⟨a56,j56,k56⟩,b56,.nil,λ_=> .nil⟩;have o_read_definition:=Ia (P:=l.prog) (w:=w) (base:=base) F57 T c_words_of mt_Reader_read_end_1 mt_Reader_read_term_2 mtk_Reader_take_0_word mt_Reader_read_heads_1 mk_Reader___init___3;have c_read_definition:Fn l.prog w K mg base F 66 "read_definition" 1 [] Yx:=⟨_,_,_,[],[],o_read_definition,AL X G a57,k57,b57,.nil,λ_=> .nil⟩;have o_l_bag:=Xk (P:=l.prog) (w:=w) (base:=base) F58 T;have c_l_bag:Fn l.prog w K mg base F 1 "_law_bag" 2 [] aZ:=⟨_,_,_,[],[],o_l_bag,AL X G a58,k58,b58,.nil,λ_=> .nil⟩;have o_l_take:=VH (P:=l.prog) (w:=w) (base:=base) F59 T;have c_l_take:Fn l.prog w K mg base F 1 "_law_take" 2 [] FB:=⟨_,_,_,[],[],o_l_take,AL X G a59,k59,b59,.nil,λ_=> .nil⟩;have og_l_body:∀n:Nat,FnOk l.prog w K mg base CX0 (1+n) f60 (PySem.W.fnOf "_law_body" "_law_body" (defArgs Yv) (defBody Yv) (defScope Yv) .none kV60 dc60 pm60 an60 cd60 ct60) ["_law_bag_here","_law_wide","_law_deep","_law_room","_law_stand"] (DO K F 5 (NQ n)):=by
  intro n
  induction n with
  |zero=>exact Kh rfl
  |succ n ih=>
   have c_l_body:Fn l.prog w K mg base F (1+n) "_law_body" 5 [] (NQ n):=⟨_,_,_,[],[],ih,AL X G a60,k60,b60,.nil,λ_=> .nil⟩;exact VI (P:=l.prog) (w:=w) (base:=base) F60 T c_l_take c_l_body
 have c_l_body:Fn l.prog w K mg base F 15 "_law_body" 5 [] (NQ 14):=⟨_,_,_,[],[],(og_l_body 14),AL X G a60,k60,b60,.nil,λ_=> .nil⟩;have o_l_kept_row:=Md (P:=l.prog) (w:=w) (base:=base) F61 T c_l_take c_l_body;have c_l_kept_row:Fn l.prog w K mg base F 16 "_law_kept_row" 1 [] dA:=⟨_,_,_,[],[],o_l_kept_row,AL X G a61,k61,b61,.nil,λ_=> .nil⟩;have o_l_turned:=QN (P:=l.prog) (w:=w) (base:=base) F62 T c_l_take;have c_l_turned:Fn l.prog w K mg base F 2 "_law_turned" 2 [] Ma:=⟨_,_,_,[],[],o_l_turned,AL X G a62,k62,b62,.nil,λ_=> .nil⟩;exact gi (P:=l.prog) (w:=w) (base:=base) F63 T c_l_turned c_show_definition c_read_definition c_l_take c_l_kept_row c_l_bag mt_Book___repr___1 mt_Book___eq___2 mt_Book_put_4 mt_Book___len___1 mkk_Book___init___0_rows mt_Book___str___1 mk_Book___init___2 mt_Book_get_2 mt_Book_names_1 mk_Book___init___1
theorem walk {l:PySem.W.OpenLaw} {q:Program} {loose:List Str} {XP:(Str->Option Value)->Heap->Prop} {YP:World->Heap->Prop} {d:DefRec} {K:Params->PySem.W.Frag} (hn:l.most=some 63) (hdf:d.params.defaults=[])
 (hY:∀(w:World) (h:Heap),YP w h->(K w.params).In h) (hm:∀ns:List Int,ns.length≤63->∃m,(NS [.frz (ns.map .int)]).run []= .ok (.bl true) m)
 (FF:∀(w:World) (mg:Str->Option Value) (fa:Addr) (h:Heap),(K w.params).In h->h.Ns mainGlobals mg->mg d.name=some (.ref fa)->
  ∃fd:FuncData,(∀(s:Shared) (u:Value),BindsTo s fd ⟨[u],[]⟩ [("_law_script",u)])∧∀base:Heap,(K w.params).In base->base.Ns mainGlobals mg->FnOkG l.prog w (K w.params) mg base CX0 85 fa fd ["_law_script"] (DO (K w.params) (cS (K w.params)) 1 NS)):
 PySem.W.WalkO q loose XP YP l.row.toRowW d [] (λf vs=>PySem.call f vs):=
 L2.Wq (n:=63) (k:=85) (x:="_law_script") (CX:=λ_=>CX0) (sp:=λw=>DO (K w.params) (cS (K w.params)) 1 NS) hn AB hdf ⟨rfl,AB,AB⟩ hY FF (λ_ _ a ns hl _ hS=>ZZ hS (hm ns hl) λ_=>rfl) λ_ _ _ _ _ z=>z
theorem Aa {α:Type _} {a:α} {x y:List α}:a::x++y=a::(x++y):=rfl
theorem Ab {α:Type _} (x:List α):[]++x=x:=rfl
theorem Ac {α:Type _} {x:List α} {n:Nat} {a b:α}:(a::x).set (n+1) b=a::x.set n b:=rfl
theorem Ad {α:Type _} {x:List α} {a b:α}:(a::x).set 0 b=b::x:=rfl
theorem Ae {α:Sort _} {_:Decidable True} (t e:α):ite True t e=t:=if_true t e
theorem Af {α:Sort _} {_:Decidable False} (t e:α):ite False t e=e:=CZ t e
def QO:=And.intro @Aa.{0} (And.intro @Ab.{0} (And.intro @Ac.{0} (And.intro @Ad.{0} (And.intro @Ae.{1} (And.intro @Af.{1} (And.intro @Em (And.intro @Ph (And.intro @Gy (And.intro @LG (And.intro @HL (And.intro @Nz (And.intro @N0 (And.intro @cJ (And.intro @Ji (And.intro @RF (And.intro @cK (And.intro @WZ (And.intro @cL (And.intro @Pi (And.intro @Gz (And.intro @Fw (And.intro @RG (And.intro @Wc (And.intro @Sz (And.intro @LH (And.intro @LI (And.intro @LJ (And.intro @Zd (And.intro @S3 (And.intro @Pj (And.intro @Mv (And.intro @cM (And.intro @S4 (And.intro @Jj (And.intro @Um (And.intro @RH (And.intro @LK (And.intro @Jk (And.intro @Jl (And.intro @We (And.intro @Mw (And.intro @fN (And.intro @Wf (And.intro @Wg (And.intro @Ki (And.intro @Pk (And.intro @Iw (And.intro @Pl (And.intro @N1 (And.intro @Ze (And.intro @S5 (And.intro @G0 (And.intro @N2 (And.intro @E6 (And.intro @fO (And.intro @Pm (And.intro @N3 (And.intro @Wh (And.intro @Zf (And.intro @iadd_int (And.intro @Mq (And.intro @El (And.intro @IG (And.intro @Dm (And.intro @D5 (And.intro @WU (And.intro @Mo (And.intro @Dq (And.intro @Se (And.intro @Sf (And.intro @Si (And.intro @Ir (And.intro @Pb (And.intro @Eb (And.intro @Uq (And.intro @FL (And.intro @Dy (And.intro @Ed (And.intro @Za (And.intro @K1 (And.intro @Mp (And.intro @LF (And.intro @KB (And.intro @Mr (And.intro @Ms (And.intro @Sj (And.intro @Sk (And.intro @WV (And.intro @Sm (And.intro @Sn (And.intro @So (And.intro @Sq (And.intro @add_int (And.intro @sub_int (And.intro @Nu (And.intro @Sr (And.intro @Nv (And.intro @Ss (And.intro @Iv (And.intro @Jh (And.intro @Su (And.intro @toInt_int (And.intro @Pd (And.intro @Sv (And.intro @Pe (And.intro @Pf (And.intro @Sw (And.intro @Nw (And.intro @Sx (And.intro @Ny (And.intro @WW (And.intro @Sy (And.intro @LC (And.intro @Pg (And.intro @ou (And.intro @qR (And.intro @qS (And.intro @qT (And.intro @qU (And.intro @qV (And.intro @qW (And.intro @rX (And.intro @rY (And.intro @rZ (And.intro @oy (And.intro @oz (And.intro @pA (And.intro @pB (And.intro @pC (And.intro @pD (And.intro @pE (And.intro @qX (And.intro @qY (And.intro @n7 (And.intro @qZ (And.intro @qd (And.intro @qe (And.intro @rf (And.intro @rg (And.intro @rj (And.intro @Bool.not_true (And.intro @Bool.not_false (@Bool.false_eq_true)))))))))))))))))))))))))))))))))))))))))))))))))))))))))))))))))))))))))))))))))))))))))))))))))))))))))))))))))))))))))))))))))))))))))))))))
theorem get3 (a b c:D):atI [a,b,c] 0=some a∧atI [a,b,c] 1=some b∧atI [a,b,c] 2=some c:=⟨rfl,rfl,rfl⟩
theorem put3 (a b c d:D):ixN [a,b,c].length 0=some 0∧ixN [a,b,c].length 2=some 2:=⟨rfl,rfl⟩
theorem VJ {y z:Int} (h0:0≤y) (h1:y≤2 ^ 62) (h2:0≤z) (h3:z≤1000001):(y*(2*z+1)+7919*z*z+29).natAbs<2 ^ 256:=by
 have a1:y*(2*z+1)≤2 ^ 62*2000003:=Int.le_trans (Bl h1 AA) (CH AA AB);have a0:0≤y*(2*z+1):=Int.mul_nonneg h0 AA;have b0:0≤7919*z*z:=Int.mul_nonneg AA h2;have b1:7919*z*z≤7919*1000001*1000001:=Int.le_trans (Bl (show 7919*z≤7919*1000001 by omega) h2) (CH h3 AB);omega
def Xl:List D:=[.int 2147483629,.int 2147483587,.int 2147483579,.int 2147483563,.int 2147483549,.int 2147483543,.int 2147483497]
theorem QP (i:Int):∃p:Int,atI Xl (i % 7)=some (.int p)∧0<p∧p≤2147483629:=by
 have h0:0≤i % 7:=CJ _ AB;have h1:i % 7<7:=Bx _ AB;generalize i % 7=r at h0 h1;obtain⟨n,rfl⟩:=BW h0;have hn:n<7:=by omega
 match n,hn with
 |0,_=>exact⟨2147483629,rfl,AB,AB⟩
 |1,_=>exact⟨2147483587,rfl,AB,AB⟩
 |2,_=>exact⟨2147483579,rfl,AB,AB⟩
 |3,_=>exact⟨2147483563,rfl,AB,AB⟩
 |4,_=>exact⟨2147483549,rfl,AB,AB⟩
 |5,_=>exact⟨2147483543,rfl,AB,AB⟩
 |6,_=>exact⟨2147483497,rfl,AB,AB⟩
theorem Tq {k:Nat} {n:Int} (hn:0<n∧n<1073741824):Draws k 1 (FB [.hnd k,.int n]) (λd=>∃r:Int,d= .int r∧0≤r∧r<n):=by
 intro m z b hz;obtain⟨x,y,hm,hx,hy,hy2⟩:=b;have hlen:k<m.length:=(AS.mp hm).1;show ∃a m' z',((gZ (DE 7 [.hnd k,.int n])>>=endOf).run m).noexc=_∧_;have e0:DE 7 [.hnd k,.int n]=[some (.hnd k),some (.int n),none,none,none,none,none]:=rfl;rw[e0];by_cases c:0<x
 ·refine⟨.int (x % n),m.set k (.lst [.int (x / n),.int y,.int z]),z,?_,?_,AA,⟨x % n,rfl,CJ _ AA,Bx _ hn.1⟩,by rw[BB],λj hj=>by rw[A2 (λe=>hj e.symm)]⟩
  ·simp only[QO,gZ];rw[FK hm (get3 _ _ _).1];simp only[QO,AK c];rw[FK hm (get3 _ _ _).1];simp only[QO,Yq x n hn.1];rw[FK hm (get3 _ _ _).1];simp only[QO,LB x n hn];rw[Kj hm (put3 _ _ _ .non).1];rfl
  ·exact⟨x / n,y,by rw[A5 hlen],Int.ediv_nonneg hx AA,hy,hy2⟩
 ·have c0:decide (0<x)=false:=AW c;have hz1:(0:Int)≤(z:Int)+1:=by omega
  have hm2:(m.set k (.lst [.int x,.int y,.int ((z:Int)+1)]))[k]? =some (.lst [.int x,.int y,.int ((z:Int)+1)]):=A5 hlen;obtain⟨p,hp,p0,p1⟩:=QP ((z:Int)+1);obtain⟨q,hq,q0,q1⟩:=QP ((z:Int)+1+3);have hl:=VJ hy hy2 hz1 AA;generalize hlow:y*(2*((z:Int)+1)+1)+7919*((z:Int)+1)*((z:Int)+1)+29=low at hl;have f0:0≤low ^ (3:Int).toNat % p:=CJ _ AA;have f1:low ^ (3:Int).toNat % p<p:=Bx _ p0;generalize hfo:low ^ (3:Int).toNat % p=fo at f0 f1;refine⟨.int (fo*(fo / 4096+((z:Int)+1)) % q / 16 % n),m.set k (.lst [.int x,.int y,.int ((z:Int)+1)]),z+1,?_,?_,AA,⟨_,rfl,CJ _ AA,Bx _ hn.1⟩,by rw[BB],λj hj=>by rw[A2 (λe=>hj e.symm)]⟩
  ·simp only[QO,gZ];rw[FK hm (get3 _ _ _).1];simp only[QO,c0];rw[FK hm (get3 _ _ _).2.2];simp only[QO];rw[Kj hm (put3 _ _ _ .non).2];simp only[QO];show Rs.noexc ((D.ix (.hnd k) (.int 2)>>=_).run (m.set k (.lst [.int x,.int y,.int ((z:Int)+1)])))=_;rw[FK hm2 (get3 _ _ _).2.2];simp only[QO];rw[FK hm2 (get3 _ _ _).2.1];simp only[QO,Zb 2 ((z:Int)+1) (.inl AB)];rw[Zb y (2*((z:Int)+1)+1) (.inl ⟨AA,AA⟩),Dm,Zb 7919 ((z:Int)+1) (.inl AB),Dm,Zb (7919*((z:Int)+1)) ((z:Int)+1) (.inl ⟨AA,AA⟩)];simp only[QO,hlow];rw[XO low 3 ⟨AB,AB,hl⟩,Dm,Yq ((z:Int)+1) 7 AB,Dm,Dv,show[D.int 2147483629,.int 2147483587,.int 2147483579,.int 2147483563,.int 2147483549,.int 2147483543,.int 2147483497]=Xl from rfl,hp];simp only[QO];rw[Yq _ p p0];simp only[QO,hfo];rw[LB fo 4096 ⟨AB,AB⟩];simp only[QO];rw[Zb fo (fo / 4096+((z:Int)+1)) (.inl ⟨AA,AA⟩),Dm,Yq ((z:Int)+1+3) 7 AB,Dm,Dv,hq];simp only[QO];rw[Yq _ q q0];simp only[QO];rw[LB _ 16 ⟨AB,AB⟩];simp only[QO];rw[Yq _ n hn.1];rfl
  ·exact⟨x,y,by rw[hm2];rfl,hx,hy,hy2⟩
theorem aa {s:Str} (h:s.length≤1000):s.length≤sizeLine:=Ag h AB
theorem VL {a b:Str} (h:a.cps.toList=b.cps.toList):a=b:=by
 obtain⟨a⟩:=a;obtain⟨b⟩:=b;exact A9 Str.mk (Array.toList_inj.mp h)
theorem str_beq (a b:Str):(a==b)=decide (a.cps.toList=b.cps.toList):=by
 rw[Bq];simp only[Bc,Ay];exact⟨λh=>by rw[h],VL⟩
def JN (l:List Nat) (t:Str):Bool:=l.all λc=>decide (c∈t.cps.toList)
theorem VM (s:Str):(signs s).length=s.length:=by
 rw[My];simp[signs]
theorem ab {k c:Nat} {n:Int} {A:Type} {f:D->M A} {R:A->Prop} (hn:0<n∧n<1073741824) (h:∀r:Int,0≤r->r<n->Draws k c (f (.int r)) R):Draws k (1+c) (FB [.hnd k,.int n]>>=f) R:=
 S7 (Tq hn) λd hd=>by
  obtain⟨r,rfl,h0,h1⟩:=hd;exact h r h0 h1
theorem VN:∀n:Nat,n<1000->(toString (n:Int):String).length≤3∧((toString (n:Int):String):Str).length≤3:=by decide+kernel
theorem E2 (a b:Str):(a++b).length=a.length+b.length:=by
 rw[My,My,My];show((a.cps++b.cps).toList).length=_;simp
mutual
def HE:Nat->D->Bool
 |_,.non=>true
 |_,.bl _=>true
 |_,.int i=>decide (i.natAbs.log2<1900)
 |_,.str x=>PyData.strOk x && decide (x.length≤1000)
 |0,_=>false
 |k+1,.tup ds=>QR k ds && decide (ds.length≤1000)
 |k+1,.lst ds=>QR k ds && decide (ds.length≤1000)
 |_,_=>false
def QR:Nat->List D->Bool
 |_,[]=>true
 |k,d::ds=>HE k d && QR k ds
end
theorem Og {k:Nat}:∀{ds:List D},(∀d,d∈ds->HE k d=true)->QR k ds=true
 |[],_=>by unfold QR;rfl
 |x::ds,h=>by
  unfold QR;rw[h x AG,Og λd hd=>h d (AF _ hd)];rfl
mutual
theorem Ts:∀(k:Nat) (d:D),HE k d=true->∃p,d.py=some p∧p.canLay0=true∧p.depth≤k∧p.showable=true∧p.hasDict=false
 |k,.non,_=>⟨_,rfl,by simp only[PyData.canLay0],by simp only[PyData.depth];omega,by simp only[PyData.showable],by simp only[PyData.hasDict]⟩
 |k,.bl b,_=>⟨_,rfl,by simp only[PyData.canLay0],by simp only[PyData.depth];omega,by simp only[PyData.showable],by simp only[PyData.hasDict]⟩
 |k,.int i,h=>⟨_,rfl,by simp only[PyData.canLay0],by simp only[PyData.depth];omega,by
  unfold HE at h;simp only[PyData.showable];exact AK (BA (AN h) AB),by simp only[PyData.hasDict]⟩
 |k,.str x,h=>⟨_,rfl,by
  unfold HE at h;rw[Ao]at h;simp only[PyData.canLay0];exact h.1,by simp only[PyData.depth];omega,by simp only[PyData.showable],by simp only[PyData.hasDict]⟩
 |0,.tup ds,h=>by unfold HE at h;cases h
 |0,.lst ds,h=>by unfold HE at h;cases h
 |k+1,.tup ds,h=>by
  unfold HE at h;rw[Ao]at h;obtain⟨ps,e,c,dp,sh,nd⟩:=Rr k ds h.1;refine⟨.tuple ps,?_,?_,?_,?_,?_⟩
  ·unfold D.py;rw[e];rfl
  ·simp only[PyData.canLay0];exact c
  ·simp only[PyData.depth];omega
  ·simp only[PyData.showable];exact sh
  ·simp only[PyData.hasDict];exact nd
 |k+1,.lst ds,h=>by
  unfold HE at h;rw[Ao]at h;obtain⟨ps,e,c,dp,sh,nd⟩:=Rr k ds h.1;refine⟨.list ps,?_,?_,?_,?_,?_⟩
  ·unfold D.py;rw[e];rfl
  ·simp only[PyData.canLay0];exact c
  ·simp only[PyData.depth];omega
  ·simp only[PyData.showable];exact sh
  ·simp only[PyData.hasDict];exact nd
 |k,.frz ds,h=>by cases k<;>(unfold HE at h;cases h)
 |k,.hnd i,h=>by cases k<;>(unfold HE at h;cases h)
 |k,.nam i,h=>by cases k<;>(unfold HE at h;cases h)
 |k,.clo t i,h=>by cases k<;>(unfold HE at h;cases h)
 |k,.dct t i,h=>by cases k<;>(unfold HE at h;cases h)
 |k,.tpx i,h=>by cases k<;>(unfold HE at h;cases h)
 |k,.ktp i,h=>by cases k<;>(unfold HE at h;cases h)
theorem Rr:∀(k:Nat) (ds:List D),QR k ds=true->∃ps,D.pys ds=some ps∧PyData.canLayAll0 ps=true∧PyData.depthAll ps≤k∧PyData.showableAll ps=true∧PyData.hasDictAll ps=false
 |k,[],_=>⟨[],by unfold D.pys;rfl,by simp only[PyData.canLayAll0],by simp only[PyData.depthAll];omega,by simp only[PyData.showableAll],by simp only[PyData.hasDictAll]⟩
 |k,d::ds,h=>by
  unfold QR at h;rw[Ao]at h;obtain⟨p,e,c,dp,sh,nd⟩:=Ts k d h.1;obtain⟨ps,e',c',dp',sh',nd'⟩:=Rr k ds h.2;refine⟨p::ps,?_,?_,?_,?_,?_⟩
  ·unfold D.pys;rw[e,e']
  ·simp only[PyData.canLayAll0,c,c'];rfl
  ·simp only[PyData.depthAll];omega
  ·simp only[PyData.showableAll,sh,sh'];rfl
  ·simp only[PyData.hasDictAll,nd,nd'];rfl
end
theorem Xm {x y:D} {p q:PyData} (hx:x.now=pure x) (hy:y.now=pure y) (e1:x.py=some p) (e2:y.py=some q) (s1:SeqAt.shaped p=true) (s2:SeqAt.shaped q=true):D.eqd x y=pure (.bl (PyData.eqv p q)):=by
 unfold D.eqd;rw[hx,Dm,hy,Dm];unfold D.eqo;rw[e1,e2];dsimp only;rw[An ⟨s1,s2⟩];rfl
theorem NT {k:Nat} {p:PyData} (h:k≤64) (c:p.canLay0=true) (d:p.depth≤k):SeqAt.shaped p=true:=by
 show(p.canLay0 && decide (p.depth≤64))=true;rw[c,AK AA];rfl
theorem Tt {ds:List D} {ps:List PyData} (h:D.pys ds=some ps):ps.isEmpty=ds.isEmpty:=by
 cases ds with
 |nil=>unfold D.pys at h;cases h;rfl
 |cons d ds=>
  unfold D.pys at h
  cases e1:d.py with
  |none=>rw[e1]at h;cases h
  |some p=>
   cases e2:D.pys ds with
   |none=>rw[e1,e2]at h;cases h
   |some ps'=>rw[e1,e2]at h;cases h;rfl
theorem Tu (ps:List PyData):PyData.eqvAll ps []=ps.isEmpty:=by
 cases ps with
 |nil=>simp only[PyData.eqvAll];rfl
 |cons p ps=>simp only[PyData.eqvAll];rfl
theorem Ru {k:Nat} {ds:List D} (hk:k≤60) (h:HE k (.tup ds)=true):D.eq (.tup ds) (.tup [])=pure (.bl ds.isEmpty):=by
 obtain⟨p,e,c,dp,_,_⟩:=Ts k _ h;unfold D.py at e
 cases e2:D.pys ds with
 |none=>rw[e2]at e;cases e
 |some ps=>
  rw[e2]at e
  cases e
  have h2:(D.tup []).py=some (.tuple []):=by unfold D.py D.pys;rfl
  show D.eqd _ _=_;rw[Xm (p:= .tuple ps) (q:= .tuple []) rfl rfl (by unfold D.py;rw[e2];rfl) h2 (NT (show k≤64 by omega) c dp) AC];simp only[PyData.eqv];rw[Tu,Tt e2]
theorem Rv {k:Nat} {ds:List D} (hk:k≤60) (h:HE k (.lst ds)=true):D.eq (.lst ds) (.lst [])=pure (.bl ds.isEmpty):=by
 obtain⟨p,e,c,dp,_,_⟩:=Ts k _ h;unfold D.py at e
 cases e2:D.pys ds with
 |none=>rw[e2]at e;cases e
 |some ps=>
  rw[e2]at e
  cases e
  have h2:(D.lst []).py=some (.list []):=by unfold D.py D.pys;rfl
  show D.eqd _ _=_;rw[Xm (p:= .list ps) (q:= .list []) rfl rfl (by unfold D.py;rw[e2];rfl) h2 (NT (show k≤64 by omega) c dp) AC];simp only[PyData.eqv];rw[Tu,Tt e2]
theorem all_of {fi:Mir.Env->M (List D×Option Nat)} {fe:Mir.Env->M D} {i:Nat} {ρ:Mir.Env} {ds:List D} (p:D->Bool) (hi:fi ρ=pure (ds,none)) (h:∀d,d∈ds->fe ((DB ρ [i]).set i (some d))=pure (.bl (p d))) (hl:ds.length≤100000):
 eB (d1 D.all) (aC (E1 fi (Cq i) DD fe [i]) Ci) ρ=pure (.bl (ds.all p)):=by
 simp only[Zd,Fw,Gz,Mw];rw[HN (λd=> .bl (p d)) hi (λd hd=>⟨_,RH i,h d hd⟩) hl];simp only[Dm,Ny];exact all_map p ds
theorem Ey {A:Type} (a:A) (r:List A):atI (a::r) 0=some a:=fL (n:=0) rfl rfl
theorem md (x y:D):decide (([x]:List D).length=1∧([y]:List D).length=1∧([x]++[y]:List D).length=2)=true:=rfl
theorem Ly (x:D) (rest:List D):Ew 1 2 (x::rest)=[x,.lst rest]:=by
 unfold Ew;simp
theorem Tv (x:Str) (ts:List Str):(ts.any λy=>y==x)=decide (x∈ts):=by
 rw[Bq,Ay,CD];exact⟨λ⟨y,h1,h2⟩=>by rw[←eq_of_beq h2];exact h1,λh=>⟨x,h,Ak x⟩⟩
theorem Rx (x:Str) (ts:List Str):D.isIn (.str x) (.tup (ts.map D.str))=pure (.bl (decide (x∈ts))):=by
 have hf:(ts.map D.str).all D.flat=true:=by simp[D.flat]
 have e1:((D.str x).flat && (ts.map D.str).all D.flat)=true:=by rw[hf];rfl
 show D.inSeq false (.str x) (ts.map D.str)=_;unfold D.inSeq;rw[e1,Eb,Dm,Aq AB,List.any_map,←Tv];rfl
theorem FO (w a b:Str):D.isIn (.str w) (.tup [.str a,.str b])=pure (.bl (decide (w=a∨w=b))):=by
 have h:=Rx w [a,b];rw[show([a,b]:List Str).map D.str=[.str a,.str b]from rfl]at h;rw[h];simp
theorem gj (n c:Nat):D.ne (.int (n:Int)) (.int ((c:Int)+1))=pure (.bl (!decide (n=c+1))):=by
 rw[Kk]
 congr 2
 rw[Bq];simp;omega
theorem erase_perm:∀{ds:List D} {n:Nat} (h:n<ds.length),(ds[n]::ds.eraseIdx n).Perm ds
 |d::ds,0,_=>Bt _
 |d::ds,n+1,h=>by
  show(ds[n]'(B9 h)::d::ds.eraseIdx n).Perm (d::ds);exact(List.Perm.swap d _ _).trans ((erase_perm (B9 h)).cons d)
def Tr {A:Type} (P:Mu->Prop) (x:M A) (Q:A->Mu->Prop):Prop:=∀m,P m->∃a m',x.run m= .ok a m'∧Q a m'
section
variable {A B:Type} {P P' :Mu->Prop} {x:M A} {f:A->M B} {R R' :A->Mu->Prop} {Q:B->Mu->Prop}
theorem ED {a:A} (h:∀m,P m->R a m):Tr P (pure a) R:=λm hm=>⟨a,m,rfl,h m hm⟩
theorem HU (h:Tr P x R) (h' :∀a,Tr (R a) (f a) Q):Tr P (x>>=f) Q:=λm hm=>by
 obtain⟨a,m1,e,r⟩:=h m hm;obtain⟨b,m2,e2,q⟩:=h' a m1 r;exact⟨b,m2,by rw[Do,e];exact e2,q⟩
theorem DV (h:Tr P x R) (h' :∀a m,R a m->R' a m):Tr P x R' :=λm hm=>by
 obtain⟨a,m1,e,r⟩:=h m hm;exact⟨a,m1,e,h' a m1 r⟩
theorem GF (h:Tr P x R) (h' :∀m,P' m->P m):Tr P' x R:=λm hm=>h m (h' m hm)
theorem Cs {C:Type} {P:C->Mu->Prop} (h:∀c,Tr (P c) x R):Tr (λm=>∃c,P c m) x R:=λm ⟨c,hm⟩=>h c m hm
theorem Co {p:Prop} (h:p->Tr P x R):Tr (λm=>p∧P m) x R:=λm ⟨hp,hm⟩=>h hp m hm
theorem Gn (h:Tr P x R):Tr P (M.noexc x) R:=λm hm=>by
 obtain⟨a,m1,e,r⟩:=h m hm;exact⟨a,m1,by unfold M.noexc;simp only[e];rfl,r⟩
theorem Xn {p:Prop} [Decidable p] {y:M A} (h:p) (hy:Tr P y R):Tr P (M.guard (decide p)>>=λ_=>y) R:=by
 rw[Iu h];exact hy
theorem Jv {fg:D->Mir.Env->M Mir.Env} {fb:Mir.Env->M Fl} {I:Nat->Mir.Env->Mu->Prop}:∀(ds:List D) (n:Nat),(∀d,d∈ds->∀ρ i,i<n+ds.length->Tr (I i ρ) (fg d ρ>>=fb) (λfl m=>∃ρ',fl= .nx ρ'∧I (i+1) ρ' m))->∀ρ,Tr (I n ρ) (forL fg fb ds ρ) (λfl m=>∃ρ',fl= .nx ρ'∧I (n+ds.length) ρ' m)
 |[],n,_,ρ=>ED λm hm=>⟨ρ,rfl,hm⟩
 |d::ds,n,hs,ρ=>by
  show Tr _ ((fg d ρ>>=fun ρ=>fb ρ>>=λfl=>match fl with
   | .nx ρ=>forL fg fb ds ρ
   | .ct ρ=>forL fg fb ds ρ
   | .bk ρ=>pure (.nx ρ)
   | .rt d=>pure (.rt d))) _
  rw[←D5];refine HU (hs d AG ρ n (by rw[AI];omega)) λfl=>Cs fun ρ'=>Co λe=>?_;subst e;rw[AI,show n+(ds.length+1)=n+1+ds.length by omega];exact Jv ds (n+1) (λz hz ρ i hi=>hs z (AF _ hz) ρ i (by rw[AI];omega)) ρ'
end
def St (k z:Nat) (l:List (Nat×MO)) (m:Mu):Prop:=(∃y,y≤z∧ot k m y)∧(k::l.map (·.1)).Nodup∧∀p,p∈l->m[p.1]? =some p.2
section
variable {A B:Type} {k z c:Nat} {l:List (Nat×MO)} {x:M A} {f:A->M B} {Q:B->Mu->Prop} {R:A->Prop} {m:Mu}
theorem EV {z' :Nat} (h:St k z l m) (hz:z≤z'):St k z' l m:=⟨by
 obtain⟨y,h1,h2⟩:=h.1;exact⟨y,AA,h2⟩,h.2⟩
theorem gk (h:St k z l m):∃ds,m[k]? =some (.lst ds):=by
 obtain⟨y,h1,⟨a,b,e,_⟩⟩:=h.1;exact⟨_,e⟩
theorem Oh {p:Nat×MO} (h:St k z (p::l) m):St k z l m:=by
 refine⟨h.1,?_,λq hq=>h.2.2 q (AF _ hq)⟩;have:=h.2.1;rw[AO,Au,Au]at this;rw[Au];exact⟨λz=>this.1 (AF _ z),this.2.2⟩
theorem Tw {p q:Nat×MO} (h:St k z (p::q::l) m):St k z (q::p::l) m:=by
 refine⟨h.1,?_,λr hr=>h.2.2 r ?_⟩
 ·have:=h.2.1;simp only[AO,Au,AQ,not_or]at this ⊢;exact⟨⟨this.1.2.1,this.1.1,this.1.2.2⟩,⟨λe=>this.2.1.1 e.symm,this.2.2.1⟩,this.2.1.2,this.2.2.2⟩
 ·simp only[AQ]at hr ⊢;rcases hr with h|h|h
  ·exact .inr (.inl h)
  ·exact .inl h
  ·exact .inr (.inr h)
theorem FP {p:Nat×MO} (h:St k z (p::l) m):m[p.1]? =some p.2:=h.2.2 p AG
theorem Lz {i:Nat} {o o' :MO} (h:St k z ((i,o)::l) m):St k z ((i,o')::l) (m.set i o'):=by
 have nd:=h.2.1;rw[AO,Au,Au]at nd;have hi:i<m.length:=(AS.mp (FP h)).1;refine⟨?_,h.2.1,λp hp=>?_⟩
 ·obtain⟨y,h1,⟨a,b,e,r⟩⟩:=h.1;exact⟨y,h1,a,b,by rw[A2 (λe=>nd.1 (by rw[←e];exact AG))];exact e,r⟩
 ·rcases AQ.mp hp with rfl|hp
  ·exact A5 hi
  ·rw[A2 (λe=>nd.2.1 (by show i∈_;rw[show i=p.1 from e];exact BL hp))];exact h.2.2 p (AF _ hp)
theorem ae {o:MO} (h:St k z l m):St k z ((m.length,o)::l) (m++[o]):=by
 have lt:∀{i:Nat} {u:MO},m[i]? =some u->i<m.length:=λe=>(AS.mp e).1;refine⟨?_,?_,λp hp=>?_⟩
 ·obtain⟨y,h1,⟨a,b,e,r⟩⟩:=h.1;exact⟨y,h1,a,b,by rw[AV (lt e)];exact e,r⟩
 ·have nd:=h.2.1;obtain⟨ds,e⟩:=gk h;have hk:=lt e;rw[AO];simp only[Au,AQ,not_or]at nd ⊢;refine⟨⟨AA,nd.1⟩,λq=>?_,nd.2⟩;obtain⟨p,hp,e2⟩:=AY.mp q;have:=lt (h.2.2 p hp);omega
 ·rcases AQ.mp hp with rfl|hp
  ·simp
  ·rw[AV (lt (h.2.2 p hp))];exact h.2.2 p hp
theorem af (h:Draws k c x R) (hz:z+c≤1000000):Tr (St k z l) x (λa m=>R a∧St k (z+c) l m):=λm hm=>by
 obtain⟨y,hy,hb⟩:=hm.1;obtain⟨a,m',z',e,b',l',r,n,o⟩:=h m y hb AA;refine⟨a,m',e,r,⟨z',AA,b'⟩,hm.2.1,λp hp=>?_⟩;rw[o p.1 (λe=>?_)]
 ·exact hm.2.2 p hp
 ·have nd:=hm.2.1;rw[Au]at nd;exact nd.1 (by rw[←e];exact BL hp)
theorem L0 (h:Draws k c x R) (hz:z+c≤1000000) (hf:∀a,R a->Tr (St k (z+c) l) (f a) Q):Tr (St k z l) (x>>=f) Q:=HU (af h hz) λa=>Co (hf a)
theorem Q2 {f:D->M B} {n:Int} (hn:0<n∧n<1073741824) (hz:z+1≤1000000) (h:∀r:Int,0≤r->r<n->Tr (St k (z+1) l) (f (.int r)) Q):Tr (St k z l) (FB [.hnd k,.int n]>>=f) Q:=
 L0 (Tq hn) hz λd hd=>by
  obtain⟨r,rfl,h0,h1⟩:=hd;exact h r h0 h1
theorem FC {f:D->M B} {o:MO} (h:∀i:Nat,Tr (St k z ((i,o)::l)) (f (.hnd i)) Q):Tr (St k z l) (M.more o>>=f) Q:=λm hm=>h m.length (m++[o]) (ae hm)
theorem Xo {f:D->M B} {i:Nat} {ds:List D} (h:Tr (St k z ((i,.lst ds)::l)) (f (.lst ds)) Q):Tr (St k z ((i,.lst ds)::l)) (D.now (.hnd i)>>=f) Q:=λm hm=>by
 have e:=FP hm;rw[Do];simp only[D.now,e];exact h m hm
theorem dB {f:D->M B} {i:Nat} {ds:List D} {r:Int} {d:D} (e:atI ds r=some d) (h:Tr (St k z ((i,.lst ds)::l)) (f d) Q):Tr (St k z ((i,.lst ds)::l)) (D.ix (.hnd i) (.int r)>>=f) Q:=λm hm=>by
 rw[FK (FP hm) e];exact h m hm
theorem Xp {f:D->M B} {i:Nat} {ds:List D} (h:Tr (St k z ((i,.lst ds)::l)) (f (.int ds.length)) Q):Tr (St k z ((i,.lst ds)::l)) (D.len (.hnd i)>>=f) Q:=by
 show Tr _ ((D.now (.hnd i)>>=D.len1)>>=f) Q;rw[D5];exact Xo h
theorem gm {f:Unit->M B} {i j:Nat} {ds:List D} {r:Int} {d:D} (e:ixN ds.length r=some j) (h:Tr (St k z ((i,.lst (ds.set j d))::l)) (f ()) Q):Tr (St k z ((i,.lst ds)::l)) (M.put i r d>>=f) Q:=λm hm=>by
 rw[Kj (FP hm) e];exact h _ (Lz hm)
theorem gq {f:Unit->M B} {i:Nat} {ds:List D} (h:Tr (St k z ((i,.lst ds)::l)) (f ()) Q):Tr (St k z ((i,.lst ds)::l)) (M.isL i>>=f) Q:=λm hm=>by
 have e:=FP hm;rw[Do];simp only[M.isL,e];exact h m hm
theorem Xq {f:Unit->M B} {i:Nat} {ds:List D} {d:D} (hl:ds.length≤1000) (h:Tr (St k z ((i,.lst (ds++[d]))::l)) (f ()) Q):Tr (St k z ((i,.lst ds)::l)) (M.app i d>>=f) Q:=λm hm=>by
 have e:=FP hm;rw[Do];simp only[M.app,e];rw[An (Bm hl AB)];exact h _ (Lz hm)
theorem gu {f:D->M B} {i:Nat} {ds:List D} {r:Int} (h0:0≤r) (h1:r<(ds.length:Int)) (hl:ds.length≤1000) (h:∀d,d∈ds->∀es,es.length+1=ds.length->(d::es).Perm ds->Tr (St k z ((i,.lst es)::l)) (f d) Q):Tr (St k z ((i,.lst ds)::l)) (M.pop i r>>=f) Q:=λm hm=>by
 have e:=FP hm;obtain⟨n,rfl⟩:=BW h0;have hn:n<ds.length:=by omega
 have e2:seqIndex? (n:Int) ds.length=some n:=by
  unfold seqIndex?;simp;omega
 rw[Do];simp only[M.pop,e,e2,Aj hn];rw[An ⟨AA,AA⟩];refine h _ (List.getElem_mem hn) (ds.eraseIdx n) ?_ (erase_perm hn) _ (Lz hm);rw[List.length_eraseIdx_of_lt hn];omega
theorem JO {p q:Nat×MO} {R:A->Mu->Prop} (h:Tr (St k z (q::p::l)) x R):Tr (St k z (p::q::l)) x R:=GF h λm hm=>Tw hm
end
theorem at_last (xs:List D) (l:D):atI (xs++[l]) (-1)=some l:=by
 unfold atI ixN;simp;rw[show(-1+((xs.length:Int)+1)).toNat=xs.length by omega,An AA];show(xs++[l])[xs.length]? =some l;rw[BQ (Ai _),Nat.sub_self];rfl
inductive Sh (L:Nat):Nat->D->Prop
 |non (k:Nat):Sh L k .non
 |bl (k:Nat) (b:Bool):Sh L k (.bl b)
 |int (k:Nat) {i:Int}:i.natAbs≤10 ^ 39+L->Sh L k (.int i)
 |str (k:Nat) {x:Str}:PyData.strOk x=true->x.length≤7->Sh L k (.str x)
 |tup {k:Nat} {ds:List D}:(∀d,d∈ds->Sh L k d)->ds.length≤L->Sh L (k+1) (.tup ds)
 |lst {k:Nat} {ds:List D}:(∀d,d∈ds->Sh L k d)->ds.length≤L->Sh L (k+1) (.lst ds)
theorem Sh.up {L L' :Nat} (hL:L≤L'):∀{k:Nat} {d:D},Sh L k d->∀{k' :Nat},k≤k'->Sh L' k' d:=by
 intro k d h
 induction h with
 |non k=>intro k' _;exact .non k'
 |bl k b=>intro k' _;exact .bl k' b
 |int k h=>intro k' _;exact .int k' AA
 |str k h1 h2=>intro k' _;exact .str k' h1 h2
 |tup h hl ih=>
  intro k' hk
  cases k' with
  |zero=>omega
  |succ k'=>exact .tup (λd hd=>ih d hd AA) AA
 |lst h hl ih=>
  intro k' hk
  cases k' with
  |zero=>omega
  |succ k'=>exact .lst (λd hd=>ih d hd AA) AA
theorem gv {n:Nat} (h:n≤10 ^ 39+1000):n.log2<1900:=by
 by_cases c:n=0
 ·subst c;decide
 ·rw[Nat.log2_lt c];exact Bm h AC
theorem Sh.ok {L:Nat} (hL:L≤1000):∀{k:Nat} {d:D},Sh L k d->HE k d=true:=by
 intro k d h
 induction h with
 |non k=>unfold HE;rfl
 |bl k b=>unfold HE;rfl
 |int k h=>unfold HE;exact AK (gv AA)
 |str k h1 h2=>unfold HE;rw[h1,AK AA];rfl
 |tup h hl ih=>unfold HE;rw[Og ih,AK AA];rfl
 |lst h hl ih=>unfold HE;rw[Og ih,AK AA];rfl
theorem Sh.now {L k:Nat} {d:D} (h:Sh L k d):d.now=pure d:=by cases h<;>rfl
theorem Xr (xs:List D) (n:Nat) (h:n≤xs.length):cut xs (some (n:Int)) none=xs.drop n:=by
 unfold cut;rw[HT.sIx_none,HT.sIx_nat,Nat.min_eq_left h];rw[List.take_of_length_le (by rw[Ba];exact Ai _)]
theorem Xs (ds:List D):D.list (.tup ds)=pure (.lst ds):=(rfl)
theorem HV (ds:List D):D.tuple (.lst ds)=pure (.tup ds):=(rfl)
theorem ag {fi:Mir.Env->M (List D×Option Nat)} {fg:D->Mir.Env->M Mir.Env} {fb:Mir.Env->M Fl} {ρ:Mir.Env}:Iz fi fg fb ρ=(fi ρ>>=λp=>Iy p.2 p.1 fg fb p.1 ρ):=(rfl)
theorem ah {A:Type} {k z:Nat} {l:List (Nat×MO)} {T:Nat} {al:List D} {f:List D×Option Nat->M A} {Q:A->Mu->Prop} (h:Tr (St k z ((T,.lst al)::l)) (f (al,some T)) Q):Tr (St k z ((T,.lst al)::l)) (D.iter (.hnd T)>>=f) Q:=λm hm=>by
 have e:=FP hm;rw[Do];simp only[D.iter,e];exact h m hm
section
variable (run:Nat->Bool)
def Xt:List Nat->List (List Nat)->Bool->List (List Nat)
 |[],f,_=>f
 |c::cs,f,r=>if run c && r then Xt cs (f.dropLast++[f.getLastD []++[c]]) true else Xt cs (f++[[c]]) (run c)
def VO:Bool->List (List Nat)->Prop
 |_,[]=>True
 |r,t::ts=>(t≠[]∧(∀c∈t,run c=true)∧r=false∧VO true ts)∨((∃c,t=[c]∧run c=false)∧VO false ts)
theorem Ko (c:Nat) (cs:List Nat) (f:List (List Nat)) (r:Bool):Xt run (c::cs) f r=if(run c && r)=true then Xt run cs (f.dropLast++[f.getLastD []++[c]]) true else Xt run cs (f++[[c]]) (run c):=(rfl)
theorem Xu:∀(t:List Nat) (f:List (List Nat)) (x cs:List Nat),(∀c∈t,run c=true)->Xt run (t++cs) (f++[x]) true=Xt run cs (f++[x++t]) true
 |[],f,x,cs,_=>by rw[A3];rfl
 |c::t,f,x,cs,h=>by
  have hc:=h c AG;rw[CF,Ko,hc,An AB,List.dropLast_concat,List.getLastD_concat,Xu t f (x++[c]) cs λd hd=>h d (AF _ hd),Al];rfl
theorem L3:∀(ts f:List (List Nat)) (r:Bool),VO run r ts->Xt run ts.flatten f r=f++ts
 |[],f,r,_=>by rw[A3];rfl
 |t::ts,f,r,h=>by
  rw[List.flatten_cons];rcases h with⟨h0,h1,h2,h3⟩|⟨⟨c,rfl,h1⟩,h3⟩
  ·subst h2;obtain⟨c,t,rfl⟩:∃c u,t=c::u:=by
    cases t with
    |nil=>exact absurd rfl h0
    |cons c u=>exact⟨c,u,rfl⟩
   have hc:=h1 c AG;rw[CF,Ko,hc,Aq AB,Xu run t f [c] _ λd hd=>h1 d (AF _ hd),L3 ts _ true h3,Al];rfl
  ·rw[List.singleton_append,Ko,h1,Cf,Aq AB,L3 ts _ false h3,Al];rfl
end
inductive W where
 |stop
 |call (c:Str) (ws:List Str)
 |rows (k:Bool) (ps:List W)
 |tick (w:W)
 |send (a b:Str) (w:W)
 |test (k:Bool) (a b:Str) (w:W)
 |new (o:Str) (w:W)
 |hear (a o:Str) (w:W)
def sep (s:List Str):List (List Str)->List Str
 |[]=>[]
 |[x]=>x
 |x::y::xs=>x++s++sep s (y::xs)
abbrev EN (k:Bool):Str:=if k=true then "{" else "("
abbrev C7 (k:Bool):Str:=if k=true then "+" else "|"
abbrev De (k:Bool):Str:=if k=true then "}" else ")"
abbrev QS (k:Bool):Str:=if k=true then "=" else "#"
abbrev DF (k:Bool):Str:=if k=true then "pick" else "beside"
abbrev HF (k:Bool):Str:=if k=true then "if" else "unless"
mutual
def W.toks:W->List Str
 | .stop=>["0"]
 | .call c ws=>[c,("<" :Str)]++sep [","] (ws.map λx=>[x])++[(">" :Str)]
 | .rows k ps=>[EN k]++sep [(" " :Str),C7 k," "] (W.toksL ps)++[De k]
 | .tick w=>[("-" :Str),"."]++w.toks
 | .send a b w=>[a,"!",b,"."]++w.toks
 | .test k a b w=>[("[" :Str),a,QS k,b,"]"]++w.toks
 | .new o w=>[("^" :Str),o,"."]++w.toks
 | .hear a o w=>[a,"?",o,"."]++w.toks
def W.toksL:List W->List (List Str)
 |[]=>[]
 |w::ws=>w.toks::W.toksL ws
end
def meant (b:List Str) (x:Str):D:=if x∈b then .int (b.idxOf x:Nat)else .str x
mutual
def W.mean (b:List Str):W->D
 | .stop=> .tup [.str "stop"]
 | .call c ws=> .tup [.str "call",.str c,.tup (ws.map (meant b))]
 | .rows k ps=> .tup [.str (DF k),.tup (W.meanL b ps)]
 | .tick w=> .tup [.str "tick",w.mean b]
 | .send x y w=> .tup [.str "send",meant b x,meant b y,w.mean b]
 | .test k x y w=> .tup [.str (HF k),meant b x,meant b y,w.mean b]
 | .new o w=> .tup [.str "new",w.mean (o::b)]
 | .hear x o w=> .tup [.str "hear",meant b x,w.mean (o::b)]
def W.meanL (b:List Str):List W->List D
 |[]=>[]
 |w::ws=>w.mean b::W.meanL b ws
end
def oO:Str:="abcdefghijklmnopqrstuvwxyzABCDEFGHIJKLMNOPQRSTUVWXYZ0123456789"
def run (c:Nat):Bool:=decide (c∈oO.cps.toList)
def D0 (x:Str):Prop:=x.cps.toList≠[]∧∀c∈x.cps.toList,run c=true
def EW (x:Str):Prop:=∃c,x.cps.toList=[c]∧run c=false
abbrev codes (ts:List Str):List (List Nat):=ts.map (·.cps.toList)
mutual
def W.Ok:W->Prop
 | .stop=>True
 | .call c ws=>D0 c∧∀x∈ws,D0 x
 | .rows _ ps=>W.OkL ps
 | .tick w=>w.Ok
 | .send a b w=>D0 a∧D0 b∧w.Ok
 | .test _ a b w=>D0 a∧D0 b∧w.Ok
 | .new o w=>D0 o∧w.Ok
 | .hear a o w=>D0 a∧D0 o∧w.Ok
def W.OkL:List W->Prop
 |[]=>True
 |w::ws=>w.Ok∧W.OkL ws
end
def Sd (ts:List Str):Prop:=VO run false (codes ts)
theorem Xv {x:Str} {ts:List Str} {r:Bool} (h:EW x) (h' :Sd ts):VO run r (codes (x::ts)):= .inr ⟨h,h'⟩
def lA (ts:List Str):Prop:=∀r,VO run r (codes ts)
theorem EO {x:Str} {ts:List Str} (h:EW x) (h' :Sd ts):lA (x::ts):=λr=>Xv h h'
theorem Tz {ts:List Str} (h:lA ts):Sd ts:=h false
theorem Ke {x:Str} {ts:List Str} (h:D0 x) (h' :lA ts):Sd (x::ts):= .inl ⟨h.1,h.2,rfl,h' true⟩
theorem Me {x:Str} {ts:List Str} (h:EW x) (h' :Sd ts):Sd (x::ts):=Xv h h'
theorem Xw:EW "<" :=⟨60,rfl,AC⟩
theorem Xx:EW ">" :=⟨62,rfl,AC⟩
theorem ai:EW "," :=⟨44,rfl,AC⟩
theorem Kq:EW "." :=⟨46,rfl,AC⟩
theorem aj:EW "-" :=⟨45,rfl,AC⟩
theorem Oi:EW " " :=⟨32,rfl,AC⟩
theorem gy:EW "!" :=⟨33,rfl,AC⟩
theorem gz:EW "?" :=⟨63,rfl,AC⟩
theorem one_up:EW "^" :=⟨94,rfl,AC⟩
theorem g9:EW "[" :=⟨91,rfl,AC⟩
theorem hX:EW "]" :=⟨93,rfl,AC⟩
theorem Xy (k:Bool):EW (EN k):=by cases k;exact⟨40,rfl,AC⟩;exact⟨123,rfl,AC⟩
theorem ak (k:Bool):EW (C7 k):=by cases k;exact⟨124,rfl,AC⟩;exact⟨43,rfl,AC⟩
theorem ao (k:Bool):EW (De k):=by cases k;exact⟨41,rfl,AC⟩;exact⟨125,rfl,AC⟩
theorem Xz (k:Bool):EW (QS k):=by cases k;exact⟨35,rfl,AC⟩;exact⟨61,rfl,AC⟩
theorem mf:D0 "0" :=by
 refine⟨AC,λc hc=>?_⟩;have:c=48:=by simpa using(show c∈[48]from hc)
 subst this;decide+kernel
theorem L4:∀(ws ts:List Str),(∀x∈ws,D0 x)->lA ts->Sd (sep [","] (ws.map λx=>[x])++ts)
 |[],ts,_,ht=>Tz ht
 |[x],ts,h,ht=>Ke (h x AG) ht
 |x::y::ws,ts,h,ht=>Ke (h x AG) (EO ai (L4 (y::ws) ts (λz hz=>h z (AF _ hz)) ht))
mutual
theorem QT:∀(w:W) (ts:List Str),w.Ok->lA ts->Sd (w.toks++ts)
 | .stop,ts,_,ht=>Ke mf ht
 | .call c ws,ts,h,ht=>by
  have:=Ke h.1 (EO Xw (L4 ws (">" ::ts) h.2 (EO Xx (Tz ht))));simpa [W.toks]using this
 | .rows k ps,ts,h,ht=>by
  have:=Me (Xy k) (dC k ps (De k::ts) h (EO (ao k) (Tz ht)));simpa [W.toks]using this
 | .tick w,ts,h,ht=>Me aj (Me Kq (QT w ts h ht))
 | .send a b w,ts,h,ht=>Ke h.1 (EO gy (Ke h.2.1 (EO Kq (QT w ts h.2.2 ht))))
 | .test k a b w,ts,h,ht=>Me g9 (Ke h.1 (EO (Xz k) (Ke h.2.1 (EO hX (QT w ts h.2.2 ht)))))
 | .new o w,ts,h,ht=>Me one_up (Ke h.1 (EO Kq (QT w ts h.2 ht)))
 | .hear a o w,ts,h,ht=>Ke h.1 (EO gz (Ke h.2.1 (EO Kq (QT w ts h.2.2 ht))))
theorem dC (k:Bool):∀(ps:List W) (ts:List Str),W.OkL ps->lA ts->Sd (sep [" ",C7 k," "] (W.toksL ps)++ts)
 |[],ts,_,ht=>Tz ht
 |[w],ts,h,ht=>QT w ts h.1 ht
 |w::v::ps,ts,h,ht=>by
  have:=QT w _ h.1 (EO Oi (Me (ak k) (Me Oi (dC k (v::ps) ts h.2 ht))));simpa [W.toksL,sep]using this
end
def Hs (l:List (Nat×MO)) (m:Mu):Prop:=(l.map (·.1)).Nodup∧∀p,p∈l->m[p.1]? =some p.2
section
variable {A B:Type} {l l' :List (Nat×MO)} {x:M A} {f:A->M B} {Q:B->Mu->Prop} {R:A->Prop} {m:Mu} {i:Nat} {o:MO}
theorem X0 {p:Nat×MO} (h:Hs l m) (hp:p∈l):p.1<m.length:=(AS.mp (h.2 p hp)).1
theorem Kr (h:Hs l m) (e:l.Perm l'):Hs l' m:=⟨(e.map (·.1)).nodup_iff.mp h.1,λp hp=>h.2 p (e.mem_iff.mpr hp)⟩
theorem HW {p:Nat×MO} (h:Hs (p::l) m):Hs l m:=⟨(Au.mp h.1).2,λq hq=>h.2 q (AF _ hq)⟩
theorem Oj {p:Nat×MO} (h:Hs (p::l) m):m[p.1]? =some p.2:=h.2 p AG
theorem Ry {o' :MO} (h:Hs ((i,o)::l) m):Hs ((i,o')::l) (m.set i o'):=by
 have nd:=h.1;rw[AO,Au]at nd;have hi:i<m.length:=X0 h AG;refine⟨h.1,λp hp=>?_⟩;rcases AQ.mp hp with rfl|hp
 ·exact A5 hi
 ·rw[A2 (λe=>nd.1 (by show i∈_;rw[show i=p.1 from e];exact BL hp))];exact h.2 p (AF _ hp)
theorem aq (h:Hs l m):Hs ((m.length,o)::l) (m++[o]):=by
 refine⟨?_,λp hp=>?_⟩
 ·rw[AO,Au];refine⟨λq=>?_,h.1⟩;obtain⟨p,hp,e2⟩:=AY.mp q;have:=X0 h hp;omega
 ·rcases AQ.mp hp with rfl|hp
  ·simp
  ·rw[AV (X0 h hp)];exact h.2 p hp
theorem mh {k z:Nat} (h:St k z l m):∃ds,Hs ((k,.lst ds)::l) m∧∀l' m',Hs ((k,.lst ds)::l') m'->St k z l' m' :=by
 obtain⟨⟨y,hy,x,b,e,r⟩,nd,hl⟩:=h;refine⟨_,⟨nd,λp hp=>?_⟩,λl' m' h'=>⟨⟨y,hy,x,b,Oj h',r⟩,h'.1,λp hp=>h'.2 p (AF _ hp)⟩⟩;rcases AQ.mp hp with rfl|hp
 ·exact e
 ·exact hl p hp
theorem Dd {P P' :Mu->Prop} {a:A} (h:Tr P x (λd m=>d=a∧P' m)) (hf:Tr P' (f a) Q):Tr P (x>>=f) Q:=HU h λd=>Co λe=>by rw[e];exact hf
theorem T3 {P:Mu->Prop} {a:A} (h:x=pure a):Tr P x (λd m=>d=a∧P m):=by rw[h];exact ED λm hm=>⟨rfl,hm⟩
theorem Fh {f:D->M B} (h:∀i:Nat,Tr (Hs ((i,o)::l)) (f (.hnd i)) Q):Tr (Hs l) (M.more o>>=f) Q:=λm hm=>h m.length (m++[o]) (aq hm)
theorem JP {f:D->M B} {ds:List D} (hm:(i,.lst ds)∈l) (h:Tr (Hs l) (f (.lst ds)) Q):Tr (Hs l) (D.now (.hnd i)>>=f) Q:=λm hs=>by
 have e:=hs.2 _ hm;rw[Do];simp only[D.now,e];exact h m hs
theorem hZ {f:D->M B} {ds:List D} {r:Int} {d:D} (hm:(i,.lst ds)∈l) (e:atI ds r=some d) (h:Tr (Hs l) (f d) Q):Tr (Hs l) (D.ix (.hnd i) (.int r)>>=f) Q:=λm hs=>by
 rw[FK (hs.2 _ hm) e];exact h m hs
theorem JQ {f:D->M B} {ds:List D} (hm:(i,.lst ds)∈l) (h:Tr (Hs l) (f (.int ds.length)) Q):Tr (Hs l) (D.len (.hnd i)>>=f) Q:=by
 show Tr _ ((D.now (.hnd i)>>=D.len1)>>=f) Q;rw[D5];exact JP hm h
theorem FD {f:Unit->M B} {ds:List D} (hm:(i,.lst ds)∈l) (h:Tr (Hs l) (f ()) Q):Tr (Hs l) (M.isL i>>=f) Q:=λm hs=>by
 have e:=hs.2 _ hm;rw[Do];simp only[M.isL,e];exact h m hs
theorem FE {f:Unit->M B} {ds:List D} {d:D} (hl:ds.length≤100000) (h:Tr (Hs ((i,.lst (ds++[d]))::l)) (f ()) Q):Tr (Hs ((i,.lst ds)::l)) (M.app i d>>=f) Q:=λm hs=>by
 have e:=Oj hs;rw[Do];simp only[M.app,e];rw[An (Bm hl AB)];exact h _ (Ry hs)
theorem ar {f:Unit->M B} {j:Nat} {ds:List D} {r:Int} {d:D} (e:ixN ds.length r=some j) (h:Tr (Hs ((i,.lst (ds.set j d))::l)) (f ()) Q):Tr (Hs ((i,.lst ds)::l)) (M.put i r d>>=f) Q:=λm hs=>by
 rw[Kj (Oj hs) e];exact h _ (Ry hs)
theorem GG {f:D->M B} {c y:Str} {fs:List (Str×D)} {d:D} (hm:(i,.ins c fs)∈l) (e:fs.lookup y=some d) (h:Tr (Hs l) (f d) Q):Tr (Hs l) (M.fld c i y>>=f) Q:=λm hs=>by
 have e1:=hs.2 _ hm;rw[Do];simp only[M.fld,e1,e,An];exact h m hs
theorem X1 {f:Unit->M B} {c y:Str} {fs:List (Str×D)} (hm:(i,.ins c fs)∈l) (e:fs.lookup y=none) (h:Tr (Hs l) (f ()) Q):Tr (Hs l) (M.meth c i y>>=f) Q:=λm hs=>by
 have e1:=hs.2 _ hm;rw[Do];simp only[M.meth,e1];rw[An ⟨trivial,e⟩];exact h m hs
theorem JR {f:Unit->M B} {c y:Str} {fs:List (Str×D)} {d:D} (hl:fs.length<1000) (h:Tr (Hs ((i,.ins c (JB y d fs))::l)) (f ()) Q):Tr (Hs ((i,.ins c fs)::l)) (M.putF c i y d>>=f) Q:=λm hs=>by
 have e1:=Oj hs;rw[Do];simp only[M.putF,e1];rw[An ⟨trivial,hl⟩];exact h _ (Ry hs)
theorem Q3 (e:l.Perm l') {R:A->Mu->Prop} (h:Tr (Hs l') x R):Tr (Hs l) x R:=GF h λm hm=>Kr hm e
end
section
variable {cls x y:Str} {n i npos nk:Nat} {dds:List D} {gg:List D->M D} {fo fv fi fa fb:Mir.Env->M D} {fs fk:Mir.Env->M (List D)} {ρ:Mir.Env} {pi:List Nat}
theorem HG:En cls x fa ρ=(fa ρ>>=D.ref>>=λk=>M.fld cls k x):=(rfl)
theorem T4:LS cls x fo fv ρ=(fv ρ>>=λd=>fo ρ>>=D.ref>>=λk=>M.putF cls k x d>>=λ_=>pure (.nx ρ)):=(rfl)
theorem au:ET cls x fo fv ρ=(fo ρ>>=D.ref>>=λk=>M.fld cls k x>>=λz=>fv ρ>>=λy=>D.addI z y>>=λd=>M.putF cls k x d>>=λ_=>pure (.nx ρ)):=(rfl)
theorem HX:Cw cls x n dds gg fo fs ρ=(fo ρ>>=λh=>D.ref h>>=λk=>M.meth cls k x>>=λ_=>fs ρ>>=λxs=>M.guard (decide ((D.hnd k::(xs++dds)).length=n))>>=λ_=>gg (D.hnd k::(xs++dds))):=(rfl)
theorem X2:Dc cls x npos nk n pi gg fo fs fk ρ=(fo ρ>>=λh=>D.ref h>>=λk=>M.meth cls k x>>=λ_=>fs ρ>>=λxs=>fk ρ>>=λzs=>M.guard (decide (xs.length=npos∧zs.length=nk∧(D.hnd k::(xs++pick pi zs)).length=n))>>=λ_=>gg (D.hnd k::(xs++pick pi zs))):=(rfl)
theorem Ol:EU cls n dds gg fs ρ=(fs ρ>>=λxs=>M.more (.ins cls [])>>=λs=>M.guard (decide ((s::(xs++dds)).length=n))>>=λ_=>gg (s::(xs++dds))>>=λr=>D.isNon r>>=λ_=>pure s):=(rfl)
theorem VP:JD fo fi fv ρ=(fo ρ>>=λh=>D.ref h>>=λk=>fi ρ>>=λy=>D.num y>>=λi=>M.getL k i>>=λx=>fv ρ>>=λv=>D.addS x v>>=λz=>M.put k i z>>=λ_=>pure (.nx ρ)):=(rfl)
theorem Rz:MX fo fi ρ=(fo ρ>>=D.ref>>=λk=>fi ρ>>=D.key>>=λz=>M.ixK k z):=(rfl)
theorem av {kvs:List (Str×D)}:M3 kvs ρ=M.more (.dic (kvs.map λq=>(.inr q.1,q.2))):=(rfl)
theorem aw:TN fs ρ=(fs ρ>>=λxs=>M.guard (decide (xs.length≤sizeLine))>>=λ_=>pure (.tpx xs)):=(rfl)
theorem VQ:Km fa fb ρ=(fa ρ>>=λx=>D.isTpx x>>=λ_=>fb ρ>>=λy=>D.indexX x y):=(rfl)
theorem VR:Zu fa fb ρ=(fa ρ>>=λx=>D.isLst x>>=λ_=>fb ρ>>=λy=>D.indexL x y):=(rfl)
theorem VS:Zt fs ρ=(fs ρ>>=D.rangeDn):=(rfl)
theorem QU (a b:Int):D.addI (.int a) (.int b)=pure (.int (a+b)):=(rfl)
theorem mi (d:D):pick [0] [d]=[d]:=(rfl)
theorem iA (d e:D):pick [0,1] [d,e]=[d,e]:=(rfl)
theorem pX (a b:D):decide (([]:List D).length=0∧([a]:List D).length=1∧([b,a]:List D).length=2)=true:=(rfl)
theorem pY (a b c d:D):decide (([a]:List D).length=1∧([b,c]:List D).length=2∧([d,a,b,c]:List D).length=4)=true:=(rfl)
theorem VT:D.isNon .non=pure ():=(rfl)
theorem ay (i:Int):D.num (.int i)=pure i:=(rfl)
theorem JS (z:Str):D.key (.str z)=pure (.inr z):=(rfl)
theorem az (ds:List D):D.isTpx (.tpx ds)=pure ():=(rfl)
theorem bA (ds:List D):D.isLst (.lst ds)=pure ():=(rfl)
theorem X3:D.neg (.int 1)=pure (.int (-1)):=(rfl)
end
def Cm:=And.intro @Aa.{0} (And.intro @Ab.{0} (And.intro @Ac.{0} (And.intro @Ad.{0} (And.intro @Ae.{1} (And.intro @Af.{1} (And.intro @Em (And.intro @Ph (And.intro @Gy (And.intro @LG (And.intro @HL (And.intro @Nz (And.intro @N0 (And.intro @cJ (And.intro @Ji (And.intro @RF (And.intro @cK (And.intro @WZ (And.intro @cL (And.intro @Pi (And.intro @Gz (And.intro @Fw (And.intro @RG (And.intro @Wc (And.intro @Sz (And.intro @LH (And.intro @LI (And.intro @LJ (And.intro @Zd (And.intro @S3 (And.intro @Pj (And.intro @Mv (And.intro @cM (And.intro @S4 (And.intro @Jj (And.intro @RH (And.intro @LK (And.intro @Jk (And.intro @Jl (And.intro @We (And.intro @Mw (And.intro @Wf (And.intro @Wg (And.intro @Ki (And.intro @Pk (And.intro @Iw (And.intro @Pl (And.intro @N1 (And.intro @S5 (And.intro @G0 (And.intro @N2 (And.intro @E6 (And.intro @Pm (And.intro @N3 (And.intro @Mq (And.intro @El (And.intro @IG (And.intro @Dm (And.intro @D5 (And.intro @WU (And.intro @Mo (And.intro @Dq (And.intro @Se (And.intro @Sf (And.intro @Si (And.intro @Ir (And.intro @Pb (And.intro @Eb (And.intro @Uq (And.intro @FL (And.intro @Dy (And.intro @Ed (And.intro @Za (And.intro @K1 (And.intro @Mp (And.intro @LF (And.intro @KB (And.intro @Mr (And.intro @Ms (And.intro @Sj (And.intro @Sk (And.intro @WV (And.intro @Sm (And.intro @Sn (And.intro @So (And.intro @Sq (And.intro @add_int (And.intro @sub_int (And.intro @Nu (And.intro @Sr (And.intro @Nv (And.intro @Ss (And.intro @Iv (And.intro @Jh (And.intro @Su (And.intro @toInt_int (And.intro @Pd (And.intro @Sv (And.intro @Pe (And.intro @Pf (And.intro @Sw (And.intro @Nw (And.intro @Sx (And.intro @Ny (And.intro @WW (And.intro @Sy (And.intro @LC (And.intro @Pg (And.intro @ou (And.intro @qR (And.intro @qS (And.intro @qT (And.intro @qU (And.intro @qV (And.intro @qW (And.intro @qX (And.intro @qY (And.intro @n7 (And.intro @qZ (And.intro @qd (And.intro @qe (And.intro @Bool.not_true (And.intro @Bool.not_false (And.intro @Bool.false_eq_true (And.intro @N7 (And.intro @fR (And.intro @Pr (And.intro @md (And.intro @fV (And.intro @HG (And.intro @T4 (And.intro @au (And.intro @HX (And.intro @X2 (And.intro @Ol (And.intro @VP (And.intro @Rz (And.intro @av (And.intro @aw (And.intro @VQ (And.intro @VR (And.intro @VS (And.intro @QU (And.intro @mi (And.intro @iA (And.intro @pX (And.intro @pY (And.intro @VT (And.intro @ay (And.intro @JS (And.intro @az (And.intro @bA (@Zy))))))))))))))))))))))))))))))))))))))))))))))))))))))))))))))))))))))))))))))))))))))))))))))))))))))))))))))))))))))))))))))))))))))))))))))))))))))))
def codeOf:D->Nat
 | .str s=>s.cps.toList.headD 0
 |_=>0
theorem GH (s t:Str) (h:s.length≤1000):jq [.str s,.str t]=pure (.bl (JN s.cps.toList t)):=by
 show M.noexc (jo (DE 3 [.str s,.str t])>>=endOf)=_;have e0:DE 3 [.str s,.str t]=[some (.str s),some (.str t),none]:=rfl;rw[e0];simp only[Cm,jo];rw[HN (ds:=signs s) (λd=> .bl (decide (codeOf d∈t.cps.toList))) (by simp only[Cm];exact Pn s) (λd hd=>?_) (by rw[VM];omega)]
 ·simp only[Cm];have e1:(signs s).map (λd=>D.bl (decide (codeOf d∈t.cps.toList)))=s.cps.toList.map (λc=>D.bl (decide (c∈t.cps.toList))):=by
   unfold signs;rw[Am];rfl
  rw[e1,all_map];simp only[Cm];rfl
 ·unfold signs at hd;obtain⟨c,hc,rfl⟩:=AY.mp hd;refine⟨[some (.str s),some (.str t),some (.str ⟨#[c]⟩)],rfl,?_⟩;simp only[Cm];exact Po c t
theorem call2 {A:Type} (x y:A):decide ([x,y].length=2)=true:=rfl
theorem X4 {A:Type} (x:A):decide ([x].length=1)=true:=rfl
theorem L5 (s:Str) (h:s.length≤1000):ck [.str s,.int 6]=pure (.bl (decide (1≤s.length∧s.length≤6) && JN s.cps.toList "abcdefghijklmnopqrstuvwxyz")):=by
 show M.noexc (cj (DE 2 [.str s,.int 6])>>=endOf)=_;have e0:DE 2 [.str s,.int 6]=[some (.str s),some (.int 6)]:=rfl;rw[e0];simp only[Cm,cj,len_str s (aa h)];by_cases c1:(1:Int)≤(s.length:Int)
 ·by_cases c2:(s.length:Int)≤6
  ·simp only[Cm,AK c1,AK c2,call2,GH s _ h];rw[AK (show 1≤s.length∧s.length≤6 by omega)];rfl
  ·simp only[Cm,AK c1,AW c2];rw[AW (show ¬(1≤s.length∧s.length≤6) by omega)];rfl
 ·simp only[Cm,AW c1];rw[AW (show ¬(1≤s.length∧s.length≤6) by omega)];rfl
def isNum (l:List Nat):Bool:=decide (1≤l.length∧l.length≤2) && JN l "0123456789" && (decide (l=[48])|| !decide (l.head? =some 48))
theorem rO (s:Str) (h:s.length≤1000):js [.str s]=pure (.bl (isNum s.cps.toList)):=by
 show M.noexc (jr (DE 1 [.str s])>>=endOf)=_;have e0:DE 1 [.str s]=[some (.str s)]:=rfl;rw[e0];have hl:=My s;unfold isNum;simp only[Cm,jr,len_str s (aa h)];by_cases c1:(1:Int)≤(s.length:Int)
 ·by_cases c2:(s.length:Int)≤2
  ·simp only[Cm,AK c1,AK c2,call2,GH s _ h,BZ];rw[AK (show 1≤s.cps.toList.length∧s.cps.toList.length≤2 by omega)]
   cases c3:JN s.cps.toList "0123456789" with
   |false=>
    simp only[Cm,c3,CA];rfl
   |true=>
    simp only[Cm,c3,BZ];rw[eq_str,str_beq];simp only[Cm];have e1:(("0" :Str)).cps.toList=[48]:=by decide+kernel
    rw[e1];by_cases c4:s.cps.toList=[48]
    ·simp only[Cm,AK c4];rfl
    ·simp only[Cm,AW c4]
     cases e2:s.cps.toList with
     |nil=>rw[e2]at hl;simp at hl;omega
     |cons c r=>
      rw[WY s 0 (aa h),e2];have e3:atI (c::r) 0=some c:=fL (n:=0) rfl rfl;rw[e3];simp only[Cm,Option.map_some];rw[ne_str,str_beq,e1];simp only[Cm];have e4:decide ((⟨#[c]⟩:Str).cps.toList=[48])=decide ((c::r).head? =some 48):=by
       rw[Bq];simp
      rw[e4];rfl
  ·simp only[Cm,AK c1,AW c2,CA];rw[AW (show ¬(1≤s.cps.toList.length∧s.cps.toList.length≤2) by omega)];rfl
 ·simp only[Cm,AW c1,CA];rw[AW (show ¬(1≤s.cps.toList.length∧s.cps.toList.length≤2) by omega)];rfl
theorem pZ:("f" :Str)=⟨#[102]⟩:=by decide+kernel
theorem L6 (s:Str) (c:Nat):Txt.startswith s ⟨#[c]⟩=decide (s.cps.toList.head? =some c):=by
 obtain⟨⟨l⟩⟩:=s
 cases l with
 |nil=>rfl
 |cons d r=>
  unfold Txt.startswith Builtin.Str.subAt;have e1:(0+(⟨#[c]⟩:Str).length≤(⟨(d::r).toArray⟩:Str).length):=by
   show 0+1≤(d::r).toArray.size;simp
  rw[AK e1,Bool.true_and,Bq];have e2:((⟨(d::r).toArray⟩:Str).cps.extract 0 (0+(⟨#[c]⟩:Str).length))=#[d]:=by
   show(d::r).toArray.extract 0 1=#[d];simp
  rw[e2];simp
theorem X5 (s:Str):(cutS s (some 1) none).cps.toList=s.cps.toList.drop 1:=by
 unfold cutS;have hl:=My s;rw[MV];show(s.cps.toList.drop (HT.sIx s.length 0 (some ((1:Nat):Int)))).take (HT.sIx s.length s.length none - _)=_;rw[HT.sIx_nat,HT.sIx_none]
 cases e:s.cps.toList with
 |nil=>simp
 |cons c r=>
  rw[e]at hl;have:min 1 s.length=1:=by simp at hl;omega
  rw[this,List.take_of_length_le];rw[Ba,hl];exact Ai _
theorem L7 (s:Str):(cutS s (some 1) none).length≤s.length:=by
 rw[My,X5,Ba,←My];omega
abbrev bB:Str:="abcdefghijklmnopqrstuvwxyz"
def NU (l:List Nat):Bool:=(decide (1≤l.length∧l.length≤6) && JN l bB)||(decide (l.head? =some 102) && isNum (l.drop 1))
theorem R5 (s:Str) (h:s.length≤1000):aU [.str s]=pure (.bl (NU s.cps.toList)):=by
 show M.noexc (cq (DE 1 [.str s])>>=endOf)=_;have e0:DE 1 [.str s]=[some (.str s)]:=rfl;rw[e0];have hl:=My s;unfold NU;simp only[Cm,cq,EI "str" (.str s) "str" true rfl rfl AC,BZ,Aa,Ab,call2,L5 s h];rw[←hl]
 cases c1:(decide (1≤s.length∧s.length≤6) && JN s.cps.toList "abcdefghijklmnopqrstuvwxyz")with
 |true=>
  simp only[Cm,c1];rfl
 |false=>
  simp only[Cm,c1,LL,pZ,L6]
  cases c2:decide (s.cps.toList.head? =some 102)with
  |false=>
   simp only[Cm,c2];rfl
  |true=>
   simp only[Cm,c2];rw[Jn s _ _ (aa h)];simp only[Cm,X4];rw[rO _ (Ag (L7 s) h),X5];simp only[Cm];rfl
theorem Mf (s:Str) (h:s.length≤1000):ck [.str s,.int (6 - 1)]=pure (.bl (decide (1≤s.length∧s.length≤5) && JN s.cps.toList "abcdefghijklmnopqrstuvwxyz")):=by
 show M.noexc (cj (DE 2 [.str s,.int 5])>>=endOf)=_;have e0:DE 2 [.str s,.int 5]=[some (.str s),some (.int 5)]:=rfl;rw[e0];simp only[Cm,cj,len_str s (aa h)];by_cases c1:(1:Int)≤(s.length:Int)
 ·by_cases c2:(s.length:Int)≤5
  ·simp only[Cm,AK c1,AK c2,call2,GH s _ h];rw[AK (show 1≤s.length∧s.length≤5 by omega)];rfl
  ·simp only[Cm,AK c1,AW c2];rw[AW (show ¬(1≤s.length∧s.length≤5) by omega)];rfl
 ·simp only[Cm,AW c1];rw[AW (show ¬(1≤s.length∧s.length≤5) by omega)];rfl
abbrev lB:Str:="ABCDEFGHIJKLMNOPQRSTUVWXYZ"
def ER:List Nat->Bool
 |[]=>false
 |c::r=>decide (c∈lB.cps.toList) && (decide (r.length=0)||(decide (1≤r.length∧r.length≤5) && JN r bB))
theorem notIn_one (c:Nat) (z:Str):D.notIn (.str ⟨#[c]⟩) (.str z)=pure (.bl (!decide (c∈z.cps.toList))):=by
 have h:=Mx c z;show pure (D.bl (!(K4 ⟨#[c]⟩ z)))=_;rw[h]
theorem R6 (s:Str) (c:Nat) (r:List Nat) (h:s.length≤1000) (e:s.cps.toList=c::r):D.ix (.str s) (.int 0)=pure (.str ⟨#[c]⟩):=by
 rw[WY s 0 (aa h),e,Ey];rfl
theorem VU (s:Str) (h:s.length≤1000):VD [.str s]=pure (.bl (ER s.cps.toList)):=by
 show M.noexc (jt (DE 1 [.str s])>>=endOf)=_;have e0:DE 1 [.str s]=[some (.str s)]:=rfl;rw[e0];have hl:=My s;have hs:("" :Str).cps.toList=[]:=rfl;simp only[Cm,jt,EI "str" (.str s) "str" true rfl rfl AC,BZ,eq_str]
 cases e:s.cps.toList with
 |nil=>
  rw[str_beq,e,hs,AK rfl]
  try simp only[Cm]
  rfl
 |cons c r=>
  rw[str_beq,e,hs,AW AD]
  try simp only[Cm]
  rw[R6 s c r h e]
  try simp only[Cm]
  rw[notIn_one]
  try simp only[Cm]
  by_cases m:c∈lB.cps.toList
  ·rw[AK m]
   try simp only[Cm]
   rw[len_str s (aa h)]
   try simp only[Cm]
   rw[HP]
   try simp only[Cm]
   have hr:s.length=r.length+1:=by rw[hl,e,AI]
   by_cases z:r.length=0
   ·rw[show((s.length:Int)==1)=true by rw[Bc];omega]
    try simp only[Cm]
    simp only[ER,AK m,AK z];rfl
   ·rw[show((s.length:Int)==1)=false by rw[AZ];omega]
    try simp only[Cm]
    simp only[Pr,Fw,Gz,LJ,LI,LH,Em,El,LC,Gy,Ph,sub_int,Dm,D5,Jn s _ _ (aa h),md,Eb,Aa,Ab,Za];rw[Mf _ (Ag (L7 s) h),X5,e];have hc:(cutS s (some 1) none).length=r.length:=by rw[My,X5,e];rfl
    try simp only[Cm]
    rw[hc];simp only[ER,AK m,AW z];rfl
  ·rw[AW m]
   try simp only[Cm]
   simp only[ER,AW m];rfl
def L8 (l:List Nat):Bool:=NU l||(decide (l.head? =some 120) && isNum (l.drop 1))
theorem pd:("x" :Str)=⟨#[120]⟩:=by decide+kernel
theorem VW (s:Str) (h:s.length≤1000):oF [.str s]=pure (.bl (L8 s.cps.toList)):=by
 show M.noexc (kU (DE 1 [.str s])>>=endOf)=_;have e0:DE 1 [.str s]=[some (.str s)]:=rfl;rw[e0];unfold L8;simp only[Cm,kU,X4,R5 s h]
 cases c1:NU s.cps.toList with
 |true=>
  simp only[Cm,c1];rfl
 |false=>
  simp only[Cm,c1,LL,pd,L6]
  cases c2:decide (s.cps.toList.head? =some 120)with
  |false=>
   simp only[Cm,c2];rfl
  |true=>
   simp only[Cm,c2];rw[Jn s _ _ (aa h)];simp only[Cm,X4];rw[rO _ (Ag (L7 s) h),X5];simp only[Cm];rfl
theorem Jw {l:List Nat} {t:Str} (h:JN l t=true) (ht:∀c,c∈t.cps.toList->run c=true):∀c,c∈l->run c=true:=λc hc=>ht c (AN (A4.mp h c hc))
theorem Om:∀c,c∈bB.cps.toList->run c=true:=by
 have:(bB.cps.toList.all λc=>run c)=true:=by decide+kernel
 exact λc hc=>A4.mp this c hc
theorem T5:∀c,c∈lB.cps.toList->run c=true:=by
 have:(lB.cps.toList.all λc=>run c)=true:=by decide+kernel
 exact λc hc=>A4.mp this c hc
theorem bC:∀c,c∈("0123456789" :Str).cps.toList->run c=true:=by
 have:(("0123456789" :Str).cps.toList.all λc=>run c)=true:=by decide+kernel
 exact λc hc=>A4.mp this c hc
theorem bD:∀c,c∈bB.cps.toList->c∉lB.cps.toList:=by
 have:(bB.cps.toList.all λc=> !decide (c∈lB.cps.toList))=true:=by decide+kernel
 intro c hc h;have:=A4.mp this c hc;rw[AK h]at this
 cases this
structure Wd6 (l:List Nat):Prop where
 le:l.length≤6
 all:∀c,c∈l->run c=true
 hd:∃c r,l=c::r∧c∈bB.cps.toList
theorem QV {l:List Nat} (h:isNum l=true):1≤l.length∧l.length≤2∧∀c,c∈l->run c=true:=by
 unfold isNum at h;rw[Ao,Ao]at h;have h1:=AN h.1.1;exact⟨h1.1,h1.2,Jw h.1.2 bC⟩
theorem X6 {l:List Nat} {k:Nat} (hk:k∈bB.cps.toList) (h:(decide (l.head? =some k) && isNum (l.drop 1))=true):Wd6 l:=by
 rw[Ao]at h;have h1:=AN h.1;obtain⟨a,b,d⟩:=QV h.2
 cases l with
 |nil=>cases h1
 |cons c r=>
  cases h1
  have e:(k::r).drop 1=r:=rfl;rw[e]at a b d;refine⟨by rw[AI];omega,λz hz=>?_,k,r,rfl,hk⟩;rcases AQ.mp hz with rfl|hz
  ·exact Om _ hk
  ·exact d z hz
theorem iB {l:List Nat} (h:NU l=true):Wd6 l:=by
 unfold NU at h;rw[BJ]at h;rcases h with h|h
 ·rw[Ao]at h;have h1:=AN h.1;refine⟨h1.2,Jw h.2 Om,?_⟩
  cases l with
  |nil=>exact absurd h1.1 AD
  |cons c r=>exact⟨c,r,rfl,AN (A4.mp h.2 c AG)⟩
 ·exact X6 AC h
theorem HH {l:List Nat} (h:L8 l=true):Wd6 l:=by
 unfold L8 at h;rw[BJ]at h;rcases h with h|h
 ·exact iB h
 ·exact X6 AC h
theorem dD {l:List Nat} (h:Wd6 l):ER l=false:=by
 obtain⟨c,r,rfl,hc⟩:=h.hd;simp only[ER,AW (bD c hc),Cf]
theorem JT {l:List Nat} (h:ER l=true):l.length≤6∧l≠[]∧∀c,c∈l->run c=true:=by
 cases l with
 |nil=>cases h
 |cons c r=>
  simp only[ER]at h;rw[Ao,BJ]at h;have h1:=AN h.1;rcases h.2 with h2|h2
  ·have h2:=AN h2;have:r=[]:=A8.mp h2;subst this;refine⟨AD,AD,λz hz=>?_⟩;rw[AR.mp hz];exact T5 c h1
  ·rw[Ao]at h2;have h3:=AN h2.1;refine⟨by rw[AI];omega,AD,λz hz=>?_⟩;rcases AQ.mp hz with rfl|hz
   ·exact T5 _ h1
   ·exact Jw h2.2 Om z hz
theorem EZ {s:Str} (h:Wd6 s.cps.toList):s.length≤6:=by rw[My];exact h.le
theorem L9 {s:Str} (h:Wd6 s.cps.toList):D0 s:=by
 refine⟨λe=>?_,λc hc=>h.all c hc⟩;obtain⟨c,r,e2,_⟩:=h.hd;rw[e]at e2
 cases e2
theorem R7 {s:Str} (h:ER s.cps.toList=true):D0 s:=⟨(JT h).2.1,(JT h).2.2⟩
theorem Ib {s:Str} (h:ER s.cps.toList=true):s.length≤6:=by rw[My];exact(JT h).1
theorem IB {s t:Str} (h:Wd6 s.cps.toList) (k:Nat) (ht:t.cps.toList=[k]) (hk:k∉bB.cps.toList):s≠t:=λe=>by
 obtain⟨c,r,e2,hc⟩:=h.hd;rw[e,ht]at e2
 cases e2
 exact hk hc
def DR (b:List Str) (x:Str):Prop:=x∈b
def Dw (o:Str):Prop:=L8 o.cps.toList=true
mutual
def W.Good (b:List Str):W->Prop
 | .stop=>True
 | .call c ws=>ER c.cps.toList=true∧ws.length≤4∧∀x,x∈ws->DR b x
 | .rows _ ps=>ps.length≤40∧W.GoodL b ps
 | .tick w=>w.Good b
 | .send x y w=>DR b x∧DR b y∧w.Good b
 | .test _ x y w=>DR b x∧DR b y∧w.Good b
 | .new o w=>Dw o∧w.Good (o::b)
 | .hear x o w=>DR b x∧Dw o∧w.Good (o::b)
def W.GoodL (b:List Str):List W->Prop
 |[]=>True
 |w::ws=>w.Good b∧W.GoodL b ws
end
mutual
def W.dep:W->Nat
 | .stop=>0
 | .call _ _=>0
 | .rows _ ps=>W.depL ps+1
 | .tick w=>w.dep+1
 | .send _ _ w=>w.dep+1
 | .test _ _ _ w=>w.dep+1
 | .new _ w=>w.dep+1
 | .hear _ _ w=>w.dep+1
def W.depL:List W->Nat
 |[]=>0
 |w::ws=>max w.dep (W.depL ws)
end
abbrev Binds (b:List Str):Prop:=∀x,x∈b->Dw x
theorem R8 {b:List Str} {x:Str} (hb:Binds b) (h:DR b x):Wd6 x.cps.toList:=HH (hb x h)
theorem T6 {b:List Str} {o:Str} (hb:Binds b) (h:Dw o):Binds (o::b):=λx hx=>by
 rcases AQ.mp hx with rfl|hx
 ·exact h
 ·exact hb x hx
theorem dE (s x:List Str) (xs:List (List Str)):sep s (x::xs)=x++(xs.flatMap λy=>s++y):=by
 induction xs generalizing x with
 |nil=>simp[sep]
 |cons y ys ih=>
  show x++s++sep s (y::ys)=_;rw[ih y,BH,Al,Al]
section
variable {rd rw:Nat} {ws:List Str} {A B:Type} {l:List (Nat×MO)} {n:Nat} {t:Str} {rest:List Str} {Q:B->Mu->Prop}
abbrev bE (rw n:Nat):List (Str×D):=[("words",.hnd rw),("names_stand",.bl false),("at",.int (n:Int))]
abbrev RL (rd rw:Nat) (ws:List Str) (n:Nat) (l:List (Nat×MO)):List (Nat×MO):=(rd,.ins "Reader" (bE rw n))::(rw,.lst (ws.map .str))::l
theorem T7:(("words" :Str)=="words")=true∧(("names_stand" :Str)=="words")=false∧(("names_stand" :Str)=="names_stand")=true∧(("at" :Str)=="words")=false∧(("at" :Str)=="names_stand")=false∧(("at" :Str)=="at")=true:=by decide+kernel
theorem MA (rw n:Nat):List.lookup ("words" :Str) (bE rw n)=some (.hnd rw):=by
 simp only[bE,Bk,T7.1]
theorem T8 (rw n:Nat):List.lookup ("at" :Str) (bE rw n)=some (.int (n:Int)):=by
 simp only[bE,Bk,T7.2.2.2.1,T7.2.2.2.2.1,T7.2.2.2.2.2]
theorem bF (rw n:Nat) (y:Str) (h:((y=="words")||(y=="names_stand")||(y=="at"))=false):List.lookup y (bE rw n)=none:=by
 rw[CI,CI]at h;simp only[bE,Bk,h.1.1,h.1.2,h.2,List.lookup_nil]
theorem iC (rw n:Nat) (i:Int):JB "at" (.int i) (bE rw n)=([("words",.hnd rw),("names_stand",.bl false),("at",.int i)]:List (Str×D)):=by
 simp only[bE,JB,show ¬(("words" :Str)="at") by decide+kernel,show ¬(("names_stand" :Str)="at") by decide+kernel,Af,Ae]
theorem C4 {y:Str} {f:Unit->M B} (h:Tr (Hs (RL rd rw ws n l)) (f ()) Q) (hy:((y=="words")||(y=="names_stand")||(y=="at"))=false:=by decide+kernel):Tr (Hs (RL rd rw ws n l)) (M.meth "Reader" rd y>>=f) Q:=
 X1 AG (bF rw n y hy) h
theorem R9 {f:Unit->M B} (h:Tr (Hs (RL rd rw ws (n+1) l)) (f ()) Q):Tr (Hs (RL rd rw ws n l)) (M.fld "Reader" rd "at">>=λz=>D.addI z (.int 1)>>=λd=>M.putF "Reader" rd "at" d>>=f) Q:=by
 refine GG AG (T8 rw n) ?_;rw[QU,Dm];refine JR (show 3<1000 by decide) ?_;rw[iC];exact h
theorem FQ (hw:ws.drop n=t::rest):ws.drop (n+1)=rest:=by
 have:ws.drop (n+1)=(ws.drop n).drop 1:=by rw[List.drop_drop]
 rw[this,hw];rfl
theorem mj (hw:ws.drop n=t::rest):n<ws.length:=by
 have:=A9 List.length hw;rw[Ba,AI]at this;omega
theorem ml (hw:ws.drop n=t::rest):atI (ws.map D.str) (n:Int)=some (.str t):=by
 have h:ws[n]? =some t:=by
  have:=List.getElem?_drop (xs:=ws) (i:=n) (j:=0);rw[hw]at this;exact this.symm
 refine atI_nat ?_;rw[A6,h];rfl
theorem JU (hw:ws.drop n=t::rest):Tr (Hs (RL rd rw ws n l)) (JZ [.hnd rd]) (λd m=>d= .str t∧Hs (RL rd rw ws n l) m):=by
 show Tr _ (M.noexc (kX (DE 1 [.hnd rd])>>=endOf)) _;refine Gn ?_;have e0:DE 1 [.hnd rd]=[some (.hnd rd)]:=rfl;rw[e0];simp only[Cm,kX];refine GG AG (T8 rw n) ?_;refine GG AG (MA rw n) ?_;refine JQ (AF _ AG) ?_
 try simp only[Cm]
 have lt:=mj hw;rw[AK (show(n:Int)<((ws.map D.str).length:Int) by rw[AJ];omega)]
 try simp only[Cm]
 refine GG AG (MA rw n) ?_;refine GG AG (T8 rw n) ?_;rw[←Dy (D.ix _ _)];refine hZ (AF _ AG) (ml hw) ?_;exact ED λm hm=>⟨rfl,hm⟩
theorem X7 (d:D):NP [d,.bl true]=pure .non:=by
 show M.noexc (kY (DE 2 [d,.bl true])>>=endOf)=_;have e0:DE 2 [d,.bl true]=[some d,some (.bl true)]:=rfl;rw[e0];simp only[Cm,kY]
theorem Q4 (hw:ws.drop n=t::rest):Tr (Hs (RL rd rw ws n l)) (Ja [.hnd rd,.str t]) (λd m=>d= .non∧Hs (RL rd rw ws (n+1) l) m):=by
 show Tr _ (M.noexc (kZ (DE 2 [.hnd rd,.str t])>>=endOf)) _;refine Gn ?_;have e0:DE 2 [.hnd rd,.str t]=[some (.hnd rd),some (.str t)]:=rfl;rw[e0];simp only[Cm,kZ];refine C4 ?_;refine C4 ?_;refine Dd (JU hw) ?_;simp only[Cm,eq_str,X7,Ak];refine R9 ?_;exact ED λm hm=>⟨rfl,hm⟩
theorem QW (x:Str) (b:List Str):D.isIn (.str x) (.tpx (b.map .str))=pure (.bl (decide (x∈b))):=Rx x b
theorem NV (b:List Str):D.texts (b.map .str)=some b:=by
 have:=Jm (λx:Str=>x) b;simpa using this
theorem VX (x:Str) (b:List Str) (h:x∈b):D.indexX (.tpx (b.map .str)) (.str x)=pure (.int (b.idxOf x:Nat)):=by
 show(M.opt (D.texts (b.map .str))>>=λxs=>M.guard (decide (x∈xs))>>=λ_=>(pure (D.int (xs.idxOf x:Nat)):M D))=_;rw[NV,Ed,Dm,Iu h];rfl
theorem GI {b:List Str} (hw:ws.drop n=t::rest) (ht:DR b t) (hl:t.length≤1000):Tr (Hs (RL rd rw ws n l)) (Vp [.hnd rd,.tpx (b.map .str)]) (λd m=>d=meant b t∧Hs (RL rd rw ws (n+1) l) m):=by
 show Tr _ (M.noexc (kc (DE 3 [.hnd rd,.tpx (b.map .str)])>>=endOf)) _;refine Gn ?_;have e0:DE 3 [.hnd rd,.tpx (b.map .str)]=[some (.hnd rd),some (.tpx (b.map .str)),none]:=rfl;rw[e0];simp only[Cm,kc];refine C4 ?_;refine Dd (JU hw) ?_
 try simp only[Cm]
 refine C4 ?_;simp only[Cm,QW];by_cases c:t∈b
 ·rw[AK c];simp only[Cm,X7];refine R9 ?_
  try simp only[Cm,QW,AK c,VX t b c]
  refine ED λm hm=>⟨?_,hm⟩;unfold meant;rw[An c]
 ·exact(c ht).elim
theorem HY (hw:ws.drop n=t::rest) (ht:Dw t):Tr (Hs (RL rd rw ws n l)) (aY [.hnd rd]) (λd m=>d= .str t∧Hs (RL rd rw ws (n+1) l) m):=by
 show Tr _ (M.noexc (kd (DE 2 [.hnd rd])>>=endOf)) _;refine Gn ?_;have e0:DE 2 [.hnd rd]=[some (.hnd rd),none]:=rfl;rw[e0];have ht' :L8 t.cps.toList=true:=ht;simp only[Cm,kd];refine C4 ?_;refine Dd (JU hw) ?_
 try simp only[Cm]
 refine C4 ?_;simp only[Cm,VW t (Ag (EZ (HH ht)) AB),ht',X7];refine R9 ?_
 try simp only[Cm]
 exact ED λm hm=>⟨rfl,hm⟩
theorem bG {B' :D}:Tr (Hs (RL rd rw ws n l)) (oH [.hnd rd,B']) (λd m=>d= .tup [.str "stop"]∧Hs (RL rd rw ws (n+1) l) m):=by
 show Tr _ (M.noexc (ke (DE 2 [.hnd rd,B'])>>=endOf)) _;refine Gn ?_;have e0:DE 2 [.hnd rd,B']=[some (.hnd rd),some B']:=rfl;rw[e0];simp only[Cm,ke];refine R9 ?_
 try simp only[Cm]
 exact ED λm hm=>⟨rfl,hm⟩
theorem HI (p:Nat×MO):(p::RL rd rw ws n l).Perm (RL rd rw ws n (p::l)):=(List.Perm.swap _ _ _).trans (List.Perm.cons _ (List.Perm.swap _ _ _))
theorem GJ (p:Nat×MO):(RL rd rw ws n (p::l)).Perm (p::RL rd rw ws n l):=(HI p).symm
theorem NW {f:D->M B} {i:Nat} {ds:List D} {L:List (Nat×MO)} (hm:(i,.lst ds)∈L) (h:Tr (Hs L) (f (.tup ds)) Q):Tr (Hs L) (D.tuple (.hnd i)>>=f) Q:=by
 unfold D.tuple;rw[D5];exact JP hm h
theorem Ic {b:List Str} (hb:Binds b) {i:Nat} {ρ:Mir.Env} (hρ:ρ=[some (.hnd rd),some (.tpx (b.map .str)),some (.hnd i)]):∀(ys:List Str) (acc:List D) (n fuel:Nat) (rest:List Str),(∀y,y∈ys->DR b y)->(ys≠[]->0<acc.length)->acc.length+ys.length≤4->ys.length<fuel->ws.drop n=(ys.flatMap λy=>[(",":Str),y])++(">" :Str)::rest->
 Tr (Hs (RL rd rw ws n ((i,.lst acc)::l))) (Dz (MR (DA (Ck D.eq (Cw "Reader" "next_word" 1 [] JZ (Cg 0) Ci) (eC (.str ",")))) (DA (Fu D.lt D.lt (eC (.int 0)) (eB (d1 D.len) (aC (Cg 2) Ci)) (eC (.int 4))))) (Cj (ET "Reader" "at" (Cg 0) (eC (.int 1)))
  (C5 (Gu (Cg 2) (Cw "Reader" "read_mark" 2 [] Vp (Cg 0) (aC (Cg 1) Ci))))) fuel ρ)
  (λfl m=>fl= .nx ρ∧Hs (RL rd rw ws (n+2*ys.length) ((i,.lst (acc++ys.map (meant b)))::l)) m)
 |_,_,_,0,_,_,_,_,h,_=>absurd h (Bp _)
 |[],acc,n,fuel+1,rest,_,_,_,_,hw=>by
  subst hρ;have hw:ws.drop n=(">" :Str)::rest:=hw;unfold Dz
  try simp only[Cm]
  refine C4 ?_;refine Dd (JU hw) ?_;simp only[Cm,eq_str,show((">" :Str)==", ")=false by decide+kernel];refine ED λm hm=>⟨rfl,?_⟩;rw[CB,A3];exact hm
 |y::ys,acc,n,fuel+1,rest,hy,h0,h4,hf,hw=>by
  subst hρ;rw[BH]at hw;have hw:ws.drop n=("," :Str)::y::((ys.flatMap λy=>[(",":Str),y])++(">" :Str)::rest):=hw;have hw1:=FQ hw;have hw2:=FQ hw1;have hym:=hy y AG;rw[AI]at h4 hf;have h0:=h0 AD;unfold Dz
  try simp only[Cm]
  refine C4 ?_;refine Dd (JU hw) ?_;simp only[Cm,eq_str,Ak];refine JQ (i:=i) (ds:=acc) (AF _ (AF _ AG)) ?_;simp only[Cm,AK (show(0:Int)<(acc.length:Int) by omega),AK (show(acc.length:Int)<4 by omega)];refine R9 ?_
  try simp only[Cm]
  refine FD (i:=i) (ds:=acc) (AF _ (AF _ AG)) ?_;refine C4 ?_;refine Dd (GI hw1 hym (Ag (EZ (R8 hb hym)) AB)) ?_;refine Q3 (GJ _) ?_;refine FE AA ?_;refine Q3 (HI _) ?_
  try simp only[Cm]
  refine DV (Ic hb rfl ys (acc++[meant b y]) (n+1+1) fuel rest (λz hz=>hy z (AF _ hz)) (λ_=>by simp) (by rw[AH,AX];omega) AA hw2) λfl m h=>⟨h.1,?_⟩;have h2:=h.2;rw[Al,show n+1+1+2*ys.length=n+2*(y::ys).length by rw[AI];omega]at h2;exact h2
theorem Fi (ys:List Str):(ys.flatMap λy=>[(",":Str),y]).length=2*ys.length:=by
 induction ys with
 |nil=>rfl
 |cons y ys ih=>rw[BH,AH,ih,AI];simp;omega
theorem HZ (ys:List Str):((ys.map λy=>[y]).flatMap λy=>[(",":Str)]++y)=ys.flatMap λy=>[(",":Str),y]:=by
 rw[List.flatMap_map];rfl
theorem Fj {as:List Str} (hw:ws.drop n=as++rest):ws.drop (n+as.length)=rest:=by
 have:ws.drop (n+as.length)=(ws.drop n).drop as.length:=by rw[List.drop_drop]
 rw[this,hw,List.drop_left]
theorem NX {b:List Str} {i n2:Nat} {ds:List D} {o2:Option D} (hw:ws.drop n2=(">" :Str)::rest):
 Tr (Hs (RL rd rw ws n2 ((i,.lst ds)::l))) (Ja [.hnd rd,.str ">"]>>=λ_=>D.tuple (.hnd i)) (λd m=>d= .tup ds∧Hs (RL rd rw ws (n2+1) l) m):=by
 refine Dd (Q4 hw) ?_;rw[←Dy (D.tuple (.hnd i))];refine NW (ds:=ds) (AF _ (AF _ AG)) ?_;exact ED λm hm=>⟨rfl,HW (Kr hm (GJ _))⟩
theorem X8 {b xs:List Str} (hb:Binds b) (hx:∀x,x∈xs->DR b x) (h4:xs.length≤4) (hw:ws.drop n=("<" :Str)::(sep [(",":Str)] (xs.map λx=>[x])++(">" :Str)::rest)):
 Tr (Hs (RL rd rw ws n l)) (oI [.hnd rd,.tpx (b.map .str)]) (λd m=>d= .tup (xs.map (meant b))∧Hs (RL rd rw ws (n+(sep [(",":Str)] (xs.map λx=>[x])).length+2) l) m):=by
 show Tr _ (M.noexc (kf (DE 3 [.hnd rd,.tpx (b.map .str)])>>=endOf)) _;refine Gn ?_;have e0:DE 3 [.hnd rd,.tpx (b.map .str)]=[some (.hnd rd),some (.tpx (b.map .str)),none]:=rfl;rw[e0];have hw1:=FQ hw;simp only[Cm,kf];refine C4 ?_;refine Dd (Q4 hw) ?_;refine Fh λi=>Q3 (HI _) ?_
 try simp only[Cm]
 refine C4 ?_
 cases xs with
 |nil=>
  have hw1:ws.drop (n+1)=(">" :Str)::rest:=hw1;refine Dd (JU hw1) ?_;simp only[Cm,ne_str,Ak];refine Dd (Ic hb rfl [] [] (n+1) 64 rest (λy hy=>(AM hy).elim) (λh=>(h rfl).elim) AB AB hw1) ?_
  try simp only[Cm]
  refine C4 ?_;exact DV (NX (o2:=none) (b:=b) hw1) λd m h=>⟨h.1,h.2⟩
 |cons x xs=>
  have hxm:=hx x AG;have es:sep [(",":Str)] ((x::xs).map λx=>[x])=[x]++xs.flatMap λy=>[(",":Str),y]:=by rw[AO,dE,HZ]
  rw[es]at hw1 ⊢;have hw1:ws.drop (n+1)=x::((xs.flatMap λy=>[(",":Str),y])++(">" :Str)::rest):=hw1;have hw2:=FQ hw1;have ne:(x==">")=false:=AZ.mpr (IB (R8 hb hxm) 62 AC AC);rw[AI]at h4;refine Dd (JU hw1) ?_;simp only[Cm,ne_str,ne];refine FD (i:=i) (ds:=[]) (AF _ (AF _ AG)) ?_;refine C4 ?_;refine Dd (GI hw1 hxm (Ag (EZ (R8 hb hxm)) AB)) ?_;refine Q3 (GJ _) ?_;refine FE AB ?_;refine Q3 (HI _) ?_
  try simp only[Cm]
  refine Dd (Ic hb rfl xs [meant b x] (n+1+1) 64 rest (λz hz=>hx z (AF _ hz)) (λ_=>by simp) (by simp;omega) AA hw2) ?_
  try simp only[Cm]
  refine C4 ?_;have hw3:ws.drop (n+1+1+2*xs.length)=(">" :Str)::rest:=by
   have:=Fj hw2;rw[Fi]at this;exact this
  refine DV (NX (o2:=none) (b:=b) hw3) λd m h=>⟨h.1,?_⟩;have h2:=h.2;rw[show n+1+1+2*xs.length+1=n+([x]++xs.flatMap λy=>[(",":Str),y]).length+2 by rw[AH,Fi,AX];omega]at h2;exact h2
end
theorem iD:∀c,run c=true->c<0x110000:=by
 have:(oO.cps.toList.all λc=>decide (c<0x110000))=true:=by decide+kernel
 intro c hc;unfold run at hc;exact AN (A4.mp this c (AN hc))
theorem SA {x:Str} (h:∀c,c∈x.cps.toList->run c=true):PyData.strOk x=true:=by
 unfold PyData.strOk;rw[←Array.all_toList,A4];intro c hc;exact AK (iD c (h c hc))
theorem T9:(∀k,PyData.strOk (DF k)=true∧(DF k).length≤7)∧(∀k,PyData.strOk (HF k)=true∧(HF k).length≤7):=by decide+kernel
theorem Jx:PyData.strOk "stop"=true∧PyData.strOk "call"=true∧PyData.strOk "tick"=true∧PyData.strOk "send"=true∧PyData.strOk "new"=true∧PyData.strOk "hear"=true:=by decide+kernel
theorem Fk {b:List Str} {x:Str} (L k:Nat) (hb:Binds b) (hl:b.length≤1000) (h:DR b x):Sh L k (meant b x):=by
 unfold meant;split
 ·refine .int k ?_;have:b.idxOf x≤b.length:=List.idxOf_le_length;have e:(10:Nat) ^ 39=1000000000000000000000000000000000000000:=by decide
  omega
 ·have:=R8 hb h;exact .str k (SA this.all) (Ag (EZ this) AB)
theorem On {L k:Nat} {a b:D} (ha:Sh L k a) (hb:Sh L k b) (hL:2≤L):Sh L (k+1) (.tup [a,b]):= .tup (λd hd=>by
 simp only[AQ,AM,BR]at hd;rcases hd with rfl|rfl<;>assumption) hL
theorem MB {L k:Nat} {a b c:D} (ha:Sh L k a) (hb:Sh L k b) (hc:Sh L k c) (hL:3≤L):Sh L (k+1) (.tup [a,b,c]):= .tup (λd hd=>by
 simp only[AQ,AM,BR]at hd;rcases hd with rfl|rfl|rfl<;>assumption) hL
theorem UA {L k:Nat} {a b c e:D} (ha:Sh L k a) (hb:Sh L k b) (hc:Sh L k c) (he:Sh L k e) (hL:4≤L):Sh L (k+1) (.tup [a,b,c,e]):= .tup (λd hd=>by
 simp only[AQ,AM,BR]at hd;rcases hd with rfl|rfl|rfl|rfl<;>assumption) hL
theorem UC (b:List Str):∀ps:List W,W.meanL b ps=ps.map (W.mean b)
 |[]=>by simp[W.meanL]
 |w::ws=>by simp[W.meanL,UC b ws]
theorem iE:∀ps:List W,W.toksL ps=ps.map W.toks
 |[]=>by simp[W.toksL]
 |w::ws=>by simp[W.toksL,iE ws]
mutual
theorem FG:∀(w:W) (b:List Str),Binds b->b.length+w.dep≤1000->w.Good b->Sh 40 (2*w.dep+2) (w.mean b)
 | .stop,b,_,_,_=> .tup (λd hd=>by rw[AR.mp hd];exact .str _ Jx.1 AB) AB
 | .call c ws,b,hb,hl,h=>by
  refine MB (.str _ Jx.2.1 AB) (.str _ (SA (JT h.1).2.2) (Ag (Ib h.1) AB)) (.tup (λd hd=>?_) ?_) AB
  ·obtain⟨x,hx,rfl⟩:=AY.mp hd;exact Fk _ _ hb AA (h.2.2 x hx)
  ·rw[AJ];have:=h.2.1;omega
 | .rows k ps,b,hb,hl,h=>by
  have hl' :b.length+(W.depL ps+1)≤1000:=hl;refine On (.str _ (T9.1 k).1 (T9.1 k).2) (.tup (k:=2*W.depL ps+2) (λd hd=>JV ps b hb AA h.2 d hd) ?_) AB;rw[UC,AJ];exact h.1
 | .tick w,b,hb,hl,h=>by
  have hl' :b.length+(w.dep+1)≤1000:=hl;exact On (.str _ Jx.2.2.1 AB) ((FG w b hb AA h).up (Ai _) (show 2*w.dep+2≤2*(w.dep+1)+1 by omega)) AB
 | .send x y w,b,hb,hl,h=>by
  have hl' :b.length+(w.dep+1)≤1000:=hl;exact UA (.str _ Jx.2.2.2.1 AB) (Fk _ _ hb AA h.1) (Fk _ _ hb AA h.2.1) ((FG w b hb AA h.2.2).up (Ai _) (show 2*w.dep+2≤2*(w.dep+1)+1 by omega)) AB
 | .test k x y w,b,hb,hl,h=>by
  have hl' :b.length+(w.dep+1)≤1000:=hl;exact UA (.str _ (T9.2 k).1 (T9.2 k).2) (Fk _ _ hb AA h.1) (Fk _ _ hb AA h.2.1) ((FG w b hb AA h.2.2).up (Ai _) (show 2*w.dep+2≤2*(w.dep+1)+1 by omega)) AB
 | .new o w,b,hb,hl,h=>by
  have hl' :b.length+(w.dep+1)≤1000:=hl;exact On (.str _ Jx.2.2.2.2.1 AB) ((FG w (o::b) (T6 hb h.1) (by rw[AI];omega) h.2).up (Ai _) (show 2*w.dep+2≤2*(w.dep+1)+1 by omega)) AB
 | .hear x o w,b,hb,hl,h=>by
  have hl' :b.length+(w.dep+1)≤1000:=hl;exact MB (.str _ Jx.2.2.2.2.2 AB) (Fk _ _ hb AA h.1) ((FG w (o::b) (T6 hb h.2.1) (by rw[AI];omega) h.2.2).up (Ai _) (show 2*w.dep+2≤2*(w.dep+1)+1 by omega)) AB
theorem JV:∀(ps:List W) (b:List Str),Binds b->b.length+W.depL ps≤1000->W.GoodL b ps->∀d,d∈W.meanL b ps->Sh 40 (2*W.depL ps+2) d
 |[],b,_,_,_,d,hd=>(AM hd).elim
 |w::ws,b,hb,hl,h,d,hd=>by
  have hl' :b.length+max w.dep (W.depL ws)≤1000:=hl;rcases AQ.mp hd with rfl|hd
  ·exact(FG w b hb AA h.1).up (Ai _) (show 2*w.dep+2≤2*max w.dep (W.depL ws)+2 by omega)
  ·exact(JV ws b hb AA h.2 d hd).up (Ai _) (show 2*W.depL ws+2≤2*max w.dep (W.depL ws)+2 by omega)
end
theorem iF {b:List Str} (hb:Binds b) {x:Str} (h:DR b x):D0 x:=L9 (R8 hb h)
mutual
theorem GK:∀(w:W) (b:List Str),Binds b->w.Good b->w.Ok
 | .stop,b,_,_=>trivial
 | .call c ws,b,hb,h=>⟨R7 h.1,λx hx=>iF hb (h.2.2 x hx)⟩
 | .rows k ps,b,hb,h=>QX ps b hb h.2
 | .tick w,b,hb,h=>GK w b hb h
 | .send x y w,b,hb,h=>⟨iF hb h.1,iF hb h.2.1,GK w b hb h.2.2⟩
 | .test k x y w,b,hb,h=>⟨iF hb h.1,iF hb h.2.1,GK w b hb h.2.2⟩
 | .new o w,b,hb,h=>⟨L9 (HH h.1),GK w (o::b) (T6 hb h.1) h.2⟩
 | .hear x o w,b,hb,h=>⟨iF hb h.1,L9 (HH h.2.1),GK w (o::b) (T6 hb h.2.1) h.2.2⟩
theorem QX:∀(ps:List W) (b:List Str),Binds b->W.GoodL b ps->W.OkL ps
 |[],b,_,_=>trivial
 |w::ws,b,hb,h=>⟨GK w b hb h.1,QX ws b hb h.2⟩
end
section
variable {rd rw:Nat} {ws:List Str} {A B:Type} {l:List (Nat×MO)} {n:Nat} {t:Str} {rest:List Str} {Q:B->Mu->Prop}
theorem X9 {b0 s0 e0 p0:D} {o5:Option D} {s:Str} {f:Fl->M B} (hw:ws.drop n=(" " :Str)::s::(" " :Str)::rest)
 (h:Tr (Hs (RL rd rw ws (n+1+1+1) l)) (f (.nx [some (.hnd rd),some b0,some s0,some e0,some p0,some (.str " ")])) Q):
 Tr (Hs (RL rd rw ws n l)) (forL (Cq 5) (C5 (Dc "Reader" "take" 0 1 2 [0] Ja (Cg 0) Ci (aC (Cg 5) Ci))) [.str " ",.str s,.str " "] [some (.hnd rd),some b0,some s0,some e0,some p0,o5]>>=f) Q:=by
 have hw1:=FQ hw;have hw2:=FQ hw1;unfold forL
 try simp only[Cm]
 refine C4 ?_;refine Dd (Q4 hw) ?_
 try simp only[Cm]
 unfold forL
 try simp only[Cm]
 refine C4 ?_;refine Dd (Q4 hw1) ?_
 try simp only[Cm]
 unfold forL
 try simp only[Cm]
 refine C4 ?_;refine Dd (Q4 hw2) ?_
 try simp only[Cm]
 unfold forL
 try simp only[Cm]
 exact h
theorem SB {i:Nat} {k:Nat} {ds:List D} {f:D->M B} {L:List (Nat×MO)} (hm:(i,.lst ds)∈L) (hk:k≤60) (ho:HE k (.lst ds)=true) (h:Tr (Hs L) (f (.bl (!ds.isEmpty))) Q):Tr (Hs L) (D.ne (.hnd i) (.lst [])>>=f) Q:=by
 show Tr _ ((D.now (.hnd i)>>=λx=>D.now (.lst [])>>=λy=>M.opt ((D.eqo x y).map λb=> .bl !b))>>=f) _;rw[D5];refine JP hm ?_;have e:=Rv hk ho;have e2:D.eq (.lst ds) (.lst [])=M.opt ((D.eqo (.lst ds) (.lst [])).map .bl):=(rfl);rw[e2]at e;show Tr _ (M.opt ((D.eqo (.lst ds) (.lst [])).map λb=>D.bl !b)>>=f) _
 cases e3:D.eqo (.lst ds) (.lst [])with
 |none=>
  rw[e3]at e;exact absurd (A9 (λx:M D=>x.run []) e) (λz=>by cases z)
 |some b=>
  rw[e3]at e;have:=A9 (λx:M D=>x.run []) e;have hb:b=ds.isEmpty:=by
   injection this with h1 h2
   injection h1
  rw[hb];exact h
theorem Jy {b:List Str} {i:Nat} {g:Nat} (k:Bool) {P:Nat} (hP:P+1≤60):∀(vs:List W) (acc:List D) (n fuel:Nat) (rest:List Str),
 (∀v,v∈vs->Sh 40 P (v.mean b)∧∀n rest l,ws.drop n=v.toks++rest->Tr (Hs (RL rd rw ws n l)) (Ff g [.hnd rd,.tpx (b.map .str)]) (λd m=>d=v.mean b∧Hs (RL rd rw ws (n+v.toks.length) l) m))->
 (∀d,d∈acc->Sh 40 P d)->(vs≠[]->acc≠[])->acc.length+vs.length≤40->vs.length<fuel->ws.drop n=(vs.flatMap λv=>[(" " :Str),C7 k," "]++v.toks)++De k::rest->∀o5:Option D,
 Tr (Hs (RL rd rw ws n ((i,.lst acc)::l))) (Dz (MR (DA (Ck D.eq (Cw "Reader" "next_word" 1 [] JZ (Cg 0) Ci) (eC (.str " ")))) (DA (Ck D.ne (Cg 4) (EG Ci)))) (Cj (E4 (DJ (DS (aC (eC (.str " ")) (aC (Cg 2) (aC (eC (.str " ")) Ci))))) (Cq 5) (C5 (Dc "Reader" "take" 0 1 2 [0] Ja (Cg 0) Ci (aC (Cg 5) Ci))))
  (C5 (Gu (Cg 4) (Cw "Reader" "read_term" 2 [] (Ff g) (Cg 0) (aC (Cg 1) Ci))))) fuel [some (.hnd rd),some (.tpx (b.map .str)),some (.str (C7 k)),some (.str (De k)),some (.hnd i),o5])
  (λfl m=>(∃o6,fl= .nx [some (.hnd rd),some (.tpx (b.map .str)),some (.str (C7 k)),some (.str (De k)),some (.hnd i),o6])∧Hs (RL rd rw ws (n+(vs.flatMap λv=>[(" " :Str),C7 k," "]++v.toks).length) ((i,.lst (acc++vs.map (W.mean b)))::l)) m)
 |_,_,_,0,_,_,_,_,_,h,_,_=>absurd h (Bp _)
 |[],acc,n,fuel+1,rest,_,_,_,_,_,hw,o5=>by
  have hw:ws.drop n=De k::rest:=hw;have ne:((De k:Str)==" ")=false:=by cases k<;>decide+kernel
  unfold Dz
  try simp only[Cm]
  refine C4 ?_;refine Dd (JU hw) ?_;simp only[Cm,eq_str,ne];refine ED λm hm=>⟨⟨_,rfl⟩,?_⟩;rw[CB,A3];exact hm
 |v::vs,acc,n,fuel+1,rest,ih,ha,h0,h4,hf,hw,o5=>by
  rw[BH]at hw;have hw:ws.drop n=(" " :Str)::C7 k::(" " :Str)::(v.toks++((vs.flatMap λv=>[(" " :Str),C7 k," "]++v.toks)++De k::rest)):=by
   rw[hw];simp
  have hw3:=FQ (FQ (FQ hw));rw[AI]at h4 hf;have h0:=h0 AD;have hne:acc.isEmpty=false:=by cases acc with
   |nil=>exact(h0 rfl).elim
   |cons _ _=>rfl
  obtain⟨hv,hr⟩:=ih v AG;unfold Dz
  try simp only[Cm]
  refine C4 ?_;refine Dd (JU hw) ?_;simp only[Cm,eq_str,Ak];refine SB (k:=P+1) (ds:=acc) (AF _ (AF _ AG)) hP (Sh.ok AB (.lst ha AA)) ?_;simp only[Cm,hne,Eh,Wm];refine X9 hw ?_
  try simp only[Cm]
  refine FD (i:=i) (ds:=acc) (AF _ (AF _ AG)) ?_;refine C4 ?_;refine Dd (hr _ _ _ hw3) ?_;refine Q3 (GJ _) ?_;refine FE AA ?_;refine Q3 (HI _) ?_
  try simp only[Cm]
  have hw4:=Fj hw3;refine DV (Jy k hP vs (acc++[v.mean b]) (n+1+1+1+v.toks.length) fuel rest (λz hz=>ih z (AF _ hz)) (λd hd=>?_) (λ_=>by simp) (by rw[AH,AX];omega) AA hw4 _) λfl m h=>⟨h.1,?_⟩
  ·rcases Ap.mp hd with hd|hd
   ·exact ha d hd
   ·rw[AR.mp hd];exact hv
  ·have h2:=h.2;rw[Al]at h2;show Hs (RL rd rw ws (n+((v::vs).flatMap λv=>[(" " :Str),C7 k," "]++v.toks).length) ((i,.lst (acc++(v::vs).map (W.mean b)))::l)) m;rw[show n+((v::vs).flatMap λv=>[(" " :Str),C7 k," "]++v.toks).length=n+1+1+1+v.toks.length+(vs.flatMap λv=>[(" " :Str),C7 k," "]++v.toks).length by
    rw[BH,AH,AH];simp;omega]
   exact h2
theorem VY {b:List Str} (hb:Binds b) (w:W) (h:w.Good b):∃t r,w.toks=t::r∧(t=="}")=false∧(t==")")=false:=by
 have wd:∀{x:Str},DR b x->(x=="}")=false∧(x==")")=false:=λhx=>⟨AZ.mpr (IB (R8 hb hx) 125 AC AC),AZ.mpr (IB (R8 hb hx) 41 AC AC)⟩;have df:∀{x:Str},ER x.cps.toList=true->(x=="}")=false∧(x==")")=false:=λ{x} hx=>by
  refine⟨AZ.mpr λe=>?_,AZ.mpr λe=>?_⟩
  ·rw[e]at hx;exact absurd hx AC
  ·rw[e]at hx;exact absurd hx AC
 cases w with
 |stop=>exact⟨_,_,by simp only[W.toks];rfl,AC,AC⟩
 |call c ws=>exact⟨c,_,by simp only[W.toks,Aa];rfl,(df h.1).1,(df h.1).2⟩
 |rows k ps=>exact⟨EN k,_,by simp only[W.toks,Aa];rfl,by cases k<;>decide+kernel,by cases k<;>decide+kernel⟩
 |tick w=>exact⟨_,_,by simp only[W.toks,Aa];rfl,AC,AC⟩
 |send x y w=>exact⟨x,_,by simp only[W.toks,Aa];rfl,(wd h.1).1,(wd h.1).2⟩
 |test k x y w=>exact⟨_,_,by simp only[W.toks,Aa];rfl,AC,AC⟩
 |new o w=>exact⟨_,_,by simp only[W.toks,Aa];rfl,AC,AC⟩
 |hear x o w=>exact⟨x,_,by simp only[W.toks,Aa];rfl,(wd h.1).1,(wd h.1).2⟩
end
theorem pf:ER ("0" :Str).cps.toList=false:=by decide+kernel
theorem pj:("0" :Str).length≤1000:=by decide+kernel
theorem pq:ER ("-" :Str).cps.toList=false:=by decide+kernel
theorem pw:("-" :Str).length≤1000:=by decide+kernel
theorem mn:(("-" :Str)=="0")=false:=by decide+kernel
theorem pz:ER ("^" :Str).cps.toList=false:=by decide+kernel
theorem p6:("^" :Str).length≤1000:=by decide+kernel
theorem mq:(("^" :Str)=="0")=false:=by decide+kernel
theorem mw:(("^" :Str)=="-")=false:=by decide+kernel
theorem p7:ER ("[" :Str).cps.toList=false:=by decide+kernel
theorem p8:("[" :Str).length≤1000:=by decide+kernel
theorem mz:(("[" :Str)=="0")=false:=by decide+kernel
theorem m8:(("[" :Str)=="-")=false:=by decide+kernel
theorem nA:(("[" :Str)=="^")=false:=by decide+kernel
theorem qA:ER ("{" :Str).cps.toList=false:=by decide+kernel
theorem qB:("{" :Str).length≤1000:=by decide+kernel
theorem nB:(("{" :Str)=="0")=false:=by decide+kernel
theorem nE:(("{" :Str)=="-")=false:=by decide+kernel
theorem nF:(("{" :Str)=="^")=false:=by decide+kernel
theorem nG:(("{" :Str)=="[")=false:=by decide+kernel
theorem qC:ER ("(" :Str).cps.toList=false:=by decide+kernel
theorem qD:("(" :Str).length≤1000:=by decide+kernel
theorem nH:(("(" :Str)=="0")=false:=by decide+kernel
theorem nJ:(("(" :Str)=="-")=false:=by decide+kernel
theorem nK:(("(" :Str)=="^")=false:=by decide+kernel
theorem nL:(("(" :Str)=="[")=false:=by decide+kernel
theorem nM:(("(" :Str)=="{")=false:=by decide+kernel
theorem YA {x:Str} (h:Wd6 x.cps.toList):(x=="0")=false∧(x=="-")=false∧(x=="^")=false∧(x=="[")=false∧(x=="{")=false∧(x=="(")=false:=
 ⟨AZ.mpr (IB h 48 AC AC),AZ.mpr (IB h 45 AC AC),AZ.mpr (IB h 94 AC AC),AZ.mpr (IB h 91 AC AC),AZ.mpr (IB h 123 AC AC),AZ.mpr (IB h 40 AC AC)⟩
section
variable {rd rw:Nat} {ws:List Str} {A B:Type} {l:List (Nat×MO)} {n:Nat} {t:Str} {rest:List Str} {Q:B->Mu->Prop}
theorem QY {i n2:Nat} {ds:List D} {e:Str} (hw:ws.drop n2=e::rest):
 Tr (Hs (RL rd rw ws n2 ((i,.lst ds)::l))) (Ja [.hnd rd,.str e]>>=λ_=>D.tuple (.hnd i)) (λd m=>d= .tup ds∧Hs (RL rd rw ws (n2+1) l) m):=by
 refine Dd (Q4 hw) ?_;rw[←Dy (D.tuple (.hnd i))];refine NW (ds:=ds) (AF _ (AF _ AG)) ?_;exact ED λm hm=>⟨rfl,HW (Kr hm (GJ _))⟩
theorem UD {b:List Str} {g:Nat} (k:Bool) {ps:List W} {P:Nat} (hb:Binds b) (hP:P+1≤60) (hg:W.GoodL b ps) (h40:ps.length≤40)
 (ih:∀v,v∈ps->Sh 40 P (v.mean b)∧v.Good b∧∀n rest l,ws.drop n=v.toks++rest->Tr (Hs (RL rd rw ws n l)) (Ff g [.hnd rd,.tpx (b.map .str)]) (λd m=>d=v.mean b∧Hs (RL rd rw ws (n+v.toks.length) l) m))
 (hw:ws.drop n=EN k::(sep [(" " :Str),C7 k," "] (ps.map W.toks)++De k::rest)):
 Tr (Hs (RL rd rw ws n l)) (Hz (g+1) [.hnd rd,.tpx (b.map .str),.str (C7 k),.str (De k)]) (λd m=>d= .tup (ps.map (W.mean b))∧Hs (RL rd rw ws (n+(sep [(" " :Str),C7 k," "] (ps.map W.toks)).length+2) l) m):=by
 show Tr _ (M.noexc (kg (Hz g) (IQ g) (IR g) (IS g) (IT g) (IU g) (IA g) (Ff g) (DE 6 [.hnd rd,.tpx (b.map .str),.str (C7 k),.str (De k)])>>=endOf)) _;refine Gn ?_;have e0:DE 6 [.hnd rd,.tpx (b.map .str),.str (C7 k),.str (De k)]=[some (.hnd rd),some (.tpx (b.map .str)),some (.str (C7 k)),some (.str (De k)),none,none]:=rfl;rw[e0];have hw1:=FQ hw;simp only[Cm,kg];refine R9 ?_;refine Fh λi=>Q3 (HI _) ?_
 try simp only[Cm]
 refine C4 ?_
 cases ps with
 |nil=>
  have hw1:ws.drop (n+1)=De k::rest:=hw1;refine Dd (JU hw1) ?_;simp only[Cm,ne_str,Ak];refine HU (Jy k hP [] [] (n+1) 64 rest (λv hv=>(AM hv).elim) (λd hd=>(AM hd).elim) (λh=>(h rfl).elim) AB AB hw1 none) λfl=>Co λ⟨o6,e⟩=>?_;subst e
  try simp only[Cm]
  refine C4 ?_;exact DV (QY hw1) λd m h=>⟨h.1,h.2⟩
 |cons v vs=>
  have es:sep [(" " :Str),C7 k," "] ((v::vs).map W.toks)=v.toks++vs.flatMap λv=>[(" " :Str),C7 k," "]++v.toks:=by
   rw[AO,dE,List.flatMap_map]
  rw[es]at hw1 ⊢;have hw1:ws.drop (n+1)=v.toks++((vs.flatMap λv=>[(" " :Str),C7 k," "]++v.toks)++De k::rest):=by rw[hw1,Al]
  have hw2:=Fj hw1;obtain⟨hv,hgv,hr⟩:=ih v AG;obtain⟨t,r,e,n1,n2⟩:=VY hb v hgv;have ne:(t==De k)=false:=by
   cases k
   ·exact n2
   ·exact n1
  rw[AI]at h40;refine Dd (JU (t:=t) (rest:=r++((vs.flatMap λv=>[(" " :Str),C7 k," "]++v.toks)++De k::rest)) (by rw[hw1,e];rfl)) ?_;simp only[Cm,ne_str,ne];refine FD (i:=i) (ds:=[]) (AF _ (AF _ AG)) ?_;refine C4 ?_;refine Dd (hr _ _ _ hw1) ?_;refine Q3 (GJ _) ?_;refine FE AB ?_;refine Q3 (HI _) ?_
  try simp only[Cm]
  refine HU (Jy k hP vs [v.mean b] (n+1+v.toks.length) 64 rest (λz hz=>⟨(ih z (AF _ hz)).1,(ih z (AF _ hz)).2.2⟩) (λd hd=>by rw[AR.mp hd];exact hv) (λ_=>by simp) (by simp;omega) AA hw2 none) λfl=>Co λ⟨o6,e⟩=>?_;subst e
  try simp only[Cm]
  refine C4 ?_;have hw3:=Fj hw2;refine DV (QY hw3) λd m h=>⟨h.1,?_⟩;have h2:=h.2;show Hs (RL rd rw ws (n+(v.toks++vs.flatMap λv=>[(" " :Str),C7 k," "]++v.toks).length+2) l) m;rw[show n+(v.toks++vs.flatMap λv=>[(" " :Str),C7 k," "]++v.toks).length+2=n+1+v.toks.length+(vs.flatMap λv=>[(" " :Str),C7 k," "]++v.toks).length+1 by rw[AH];omega];exact h2
theorem UE (o:Str) (b:List Str) (h:b.length≤1000):D.addX (.tpx [.str o]) (.tpx (b.map .str))=pure (.tpx ((o::b).map .str)):=by
 show(M.guard (decide (([.str o]:List D)≠[]∧([.str o]:List D).length+(b.map D.str).length≤sizeLine))>>=λ_=>(pure (D.tpx ([.str o]++b.map .str)):M D))=_;rw[Iu ⟨AD,Ag (show _≤1001 by rw[AJ,AX];omega) AB⟩];rfl
theorem bH {f:D->M B} {i:Nat} {kvs:List (Key×D)} {z:Key} {d:D} {L:List (Nat×MO)} (hm:(i,.dic kvs)∈L) (e:Ee kvs z=some d) (h:Tr (Hs L) (f d) Q):Tr (Hs L) (M.ixK i z>>=f) Q:=λm hs=>by
 have e1:=hs.2 _ hm;rw[Do];simp only[M.ixK,e1,e];exact h m hs
end
theorem YB {b:List Str}:∀{ps:List W},W.GoodL b ps->∀v,v∈ps->v.Good b
 |w::ws,h,v,hv=>by
  rcases AQ.mp hv with rfl|hv
  ·exact h.1
  ·exact YB h.2 v hv
theorem UF:∀{ps:List W} (v:W),v∈ps->v.dep≤W.depL ps
 |w::ws,v,hv=>by
  show v.dep≤max w.dep (W.depL ws);rcases AQ.mp hv with rfl|hv
  ·omega
  ·have:=UF v hv;omega
section
variable {rd rw:Nat} {ws:List Str} {A B:Type} {l:List (Nat×MO)} {n:Nat} {t:Str} {rest:List Str} {Q:B->Mu->Prop}
def PP (rd rw:Nat) (ws:List Str) (f:Nat):Prop:=∀(w:W) (b:List Str) (n:Nat) (rest:List Str) (l:List (Nat×MO)),3*w.dep+3≤f->Binds b->b.length+w.dep≤24->w.Good b->ws.drop n=w.toks++rest->Tr (Hs (RL rd rw ws n l)) (Ff f [.hnd rd,.tpx (b.map .str)]) (λd m=>d=w.mean b∧Hs (RL rd rw ws (n+w.toks.length) l) m)
theorem YC {f:Nat} {b:List Str} {Q:D->Mu->Prop} (h:Tr (Hs (RL rd rw ws n l)) (Rj (Hz f) (IQ f) (IR f) (IS f) (IT f) (IU f) (IA f) (Ff f) [some (.hnd rd),some (.tpx (b.map .str)),none]>>=endOf) Q):Tr (Hs (RL rd rw ws n l)) (Ff (f+1) [.hnd rd,.tpx (b.map .str)]) Q:=by
 show Tr _ (M.noexc (Rj (Hz f) (IQ f) (IR f) (IS f) (IT f) (IU f) (IA f) (Ff f) (DE 3 [.hnd rd,.tpx (b.map .str)])>>=endOf)) _;exact Gn h
theorem bI {g:Nat} {b:List Str} {w:W} (ih:PP rd rw ws g) (hf:3*w.dep+3≤g) (hb:Binds b) (hl:b.length+w.dep≤24) (hg:w.Good b) (hw:ws.drop n=("-" :Str)::"." ::(w.toks++rest)):
 Tr (Hs (RL rd rw ws n l)) (IQ (g+1) [.hnd rd,.tpx (b.map .str)]) (λd m=>d= .tup [.str "tick",w.mean b]∧Hs (RL rd rw ws (n+1+1+w.toks.length) l) m):=by
 show Tr _ (M.noexc (kh (Hz g) (IQ g) (IR g) (IS g) (IT g) (IU g) (IA g) (Ff g) (DE 2 [.hnd rd,.tpx (b.map .str)])>>=endOf)) _;refine Gn ?_;have e0:DE 2 [.hnd rd,.tpx (b.map .str)]=[some (.hnd rd),some (.tpx (b.map .str))]:=rfl;rw[e0];simp only[Cm,kh];refine R9 ?_;refine C4 ?_;refine Dd (Q4 (FQ hw)) ?_;refine C4 ?_;refine Dd (ih w b _ rest l hf hb hl hg (FQ (FQ hw))) ?_;exact ED λm hm=>⟨rfl,hm⟩
theorem iG {g:Nat} {b:List Str} {x:Str} {w:W} (ih:PP rd rw ws g) (hf:3*w.dep+3≤g) (hb:Binds b) (hl:b.length+1+w.dep≤24) (hx:Dw x) (hg:w.Good (x::b)) (hw:ws.drop n=("^" :Str)::x::"." ::(w.toks++rest)):
 Tr (Hs (RL rd rw ws n l)) (IR (g+1) [.hnd rd,.tpx (b.map .str)]) (λd m=>d= .tup [.str "new",w.mean (x::b)]∧Hs (RL rd rw ws (n+1+1+1+w.toks.length) l) m):=by
 show Tr _ (M.noexc (ki (Hz g) (IQ g) (IR g) (IS g) (IT g) (IU g) (IA g) (Ff g) (DE 3 [.hnd rd,.tpx (b.map .str)])>>=endOf)) _;refine Gn ?_;have e0:DE 3 [.hnd rd,.tpx (b.map .str)]=[some (.hnd rd),some (.tpx (b.map .str)),none]:=rfl;rw[e0];simp only[Cm,ki];refine R9 ?_;refine C4 ?_;refine Dd (HY (FQ hw) hx) ?_
 try simp only[Cm]
 refine C4 ?_;refine Dd (Q4 (FQ (FQ hw))) ?_
 try simp only[Cm]
 refine C4 ?_
 try simp only[Cm,UE x b AA]
 refine Dd (ih w (x::b) _ rest l hf (T6 hb hx) (by rw[AI];exact hl) hg (FQ (FQ (FQ hw)))) ?_;exact ED λm hm=>⟨rfl,hm⟩
theorem bJ {g:Nat} {b:List Str} {k:Bool} {x y:Str} {w:W} (ih:PP rd rw ws g) (hf:3*w.dep+3≤g) (hb:Binds b) (hl:b.length+w.dep≤24) (hx:DR b x) (hy:DR b y) (hg:w.Good b) (hw:ws.drop n=("[" :Str)::x::QS k::y::"]" ::(w.toks++rest)):
 Tr (Hs (RL rd rw ws n l)) (IS (g+1) [.hnd rd,.tpx (b.map .str)]) (λd m=>d= .tup [.str (HF k),meant b x,meant b y,w.mean b]∧Hs (RL rd rw ws (n+1+1+1+1+1+w.toks.length) l) m):=by
 show Tr _ (M.noexc (kj (Hz g) (IQ g) (IR g) (IS g) (IT g) (IU g) (IA g) (Ff g) (DE 5 [.hnd rd,.tpx (b.map .str)])>>=endOf)) _;refine Gn ?_;have e0:DE 5 [.hnd rd,.tpx (b.map .str)]=[some (.hnd rd),some (.tpx (b.map .str)),none,none,none]:=rfl;rw[e0];have hw1:=FQ hw;have hw2:=FQ hw1;have hw3:=FQ hw2;have hw4:=FQ hw3;have hin:D.isIn (.str (QS k)) (.tup [.str "=",.str "#"])=pure (.bl true):=by
  rw[FO]
  cases k<;>rfl
 simp only[Cm,kj];refine R9 ?_;refine C4 ?_;refine Dd (GI hw1 hx (Ag (EZ (R8 hb hx)) AB)) ?_
 try simp only[Cm]
 refine C4 ?_;refine Dd (JU hw2) ?_
 try simp only[Cm]
 refine C4 ?_
 try simp only[Cm,hin,X7]
 refine R9 ?_
 try simp only[Cm]
 refine C4 ?_;refine Dd (GI hw3 hy (Ag (EZ (R8 hb hy)) AB)) ?_
 try simp only[Cm]
 refine C4 ?_;refine Dd (Q4 hw4) ?_
 try simp only[Cm]
 refine Fh λi=>?_
 try simp only[Cm]
 refine bH (d:= .str (HF k)) AG (by cases k<;>rfl) ?_;refine Q3 (HI _) ?_
 try simp only[Cm]
 refine C4 ?_;refine Dd (ih w b _ rest _ hf hb hl hg (FQ hw4)) ?_
 try simp only[Cm]
 exact ED λm hm=>⟨rfl,HW (Kr hm (GJ _))⟩
theorem SC {g:Nat} {b:List Str} {x y:Str} {w:W} (ih:PP rd rw ws g) (hf:3*w.dep+3≤g) (hb:Binds b) (hl:b.length+w.dep≤24) (hx:DR b x) (hy:DR b y) (hg:w.Good b) (hw:ws.drop n=x::("!" :Str)::y::"." ::(w.toks++rest)):
 Tr (Hs (RL rd rw ws n l)) (IA (g+1) [.hnd rd,.tpx (b.map .str)]) (λd m=>d= .tup [.str "send",meant b x,meant b y,w.mean b]∧Hs (RL rd rw ws (n+1+1+1+1+w.toks.length) l) m):=by
 show Tr _ (M.noexc (cz (Hz g) (IQ g) (IR g) (IS g) (IT g) (IU g) (IA g) (Ff g) (DE 6 [.hnd rd,.tpx (b.map .str)])>>=endOf)) _;refine Gn ?_;have e0:DE 6 [.hnd rd,.tpx (b.map .str)]=[some (.hnd rd),some (.tpx (b.map .str)),none,none,none,none]:=rfl;rw[e0];have hw1:=FQ hw;have hw2:=FQ hw1;have hw3:=FQ hw2;have hin:D.isIn (.str "!") (.tup [.str "!",.str "?"])=pure (.bl true):=by
  rw[FO];rfl
 simp only[Cm,cz];refine C4 ?_;refine Dd (GI hw hx (Ag (EZ (R8 hb hx)) AB)) ?_
 try simp only[Cm]
 refine C4 ?_;refine Dd (JU hw1) ?_
 try simp only[Cm]
 refine C4 ?_
 try simp only[Cm,hin,X7]
 refine R9 ?_
 try simp only[Cm,eq_str,Ak]
 refine C4 ?_;refine Dd (GI hw2 hy (Ag (EZ (R8 hb hy)) AB)) ?_
 try simp only[Cm]
 refine C4 ?_;refine Dd (Q4 hw3) ?_
 try simp only[Cm]
 refine C4 ?_;refine Dd (ih w b _ rest l hf hb hl hg (FQ hw3)) ?_
 try simp only[Cm]
 exact ED λm hm=>⟨rfl,hm⟩
theorem SD {g:Nat} {b:List Str} {x y:Str} {w:W} (ih:PP rd rw ws g) (hf:3*w.dep+3≤g) (hb:Binds b) (hl:b.length+1+w.dep≤24) (hx:DR b x) (hy:Dw y) (hg:w.Good (y::b)) (hw:ws.drop n=x::("?" :Str)::y::"." ::(w.toks++rest)):
 Tr (Hs (RL rd rw ws n l)) (IA (g+1) [.hnd rd,.tpx (b.map .str)]) (λd m=>d= .tup [.str "hear",meant b x,w.mean (y::b)]∧Hs (RL rd rw ws (n+1+1+1+1+w.toks.length) l) m):=by
 show Tr _ (M.noexc (cz (Hz g) (IQ g) (IR g) (IS g) (IT g) (IU g) (IA g) (Ff g) (DE 6 [.hnd rd,.tpx (b.map .str)])>>=endOf)) _;refine Gn ?_;have e0:DE 6 [.hnd rd,.tpx (b.map .str)]=[some (.hnd rd),some (.tpx (b.map .str)),none,none,none,none]:=rfl;rw[e0];have hw1:=FQ hw;have hw2:=FQ hw1;have hw3:=FQ hw2;have hin:D.isIn (.str "?") (.tup [.str "!",.str "?"])=pure (.bl true):=by
  rw[FO];rfl
 simp only[Cm,cz];refine C4 ?_;refine Dd (GI hw hx (Ag (EZ (R8 hb hx)) AB)) ?_
 try simp only[Cm]
 refine C4 ?_;refine Dd (JU hw1) ?_
 try simp only[Cm]
 refine C4 ?_
 try simp only[Cm,hin,X7]
 refine R9 ?_
 try simp only[Cm,eq_str,show(("?" :Str)=="!")=false by decide+kernel]
 refine C4 ?_;refine Dd (HY hw2 hy) ?_
 try simp only[Cm]
 refine C4 ?_;refine Dd (Q4 hw3) ?_
 try simp only[Cm]
 refine C4 ?_
 try simp only[Cm,UE y b AA]
 refine Dd (ih w (y::b) _ rest l hf (T6 hb hy) (by rw[AI];exact hl) hg (FQ hw3)) ?_
 try simp only[Cm]
 exact ED λm hm=>⟨rfl,hm⟩
theorem bK {h:Nat} {b:List Str} {ps:List W} (ih:PP rd rw ws h) (hf:3*W.depL ps+3≤h) (hb:Binds b) (hl:b.length+W.depL ps≤24) (h40:ps.length≤40) (hg:W.GoodL b ps) (hw:ws.drop n=EN true::(sep [(" " :Str),C7 true," "] (ps.map W.toks)++De true::rest)):
 Tr (Hs (RL rd rw ws n l)) (IT (h+1+1) [.hnd rd,.tpx (b.map .str)]) (λd m=>d= .tup [.str (DF true),.tup (ps.map (W.mean b))]∧Hs (RL rd rw ws (n+(sep [(" " :Str),C7 true," "] (ps.map W.toks)).length+2) l) m):=by
 show Tr _ (M.noexc (kl (Hz (h+1)) (IQ (h+1)) (IR (h+1)) (IS (h+1)) (IT (h+1)) (IU (h+1)) (IA (h+1)) (Ff (h+1)) (DE 2 [.hnd rd,.tpx (b.map .str)])>>=endOf)) _;refine Gn ?_;have e0:DE 2 [.hnd rd,.tpx (b.map .str)]=[some (.hnd rd),some (.tpx (b.map .str))]:=rfl;rw[e0];simp only[Cm,kl];refine C4 ?_;have z:=UD (l:=l) true (P:=2*W.depL ps+2) hb AA hg h40 (λv hv=>⟨JV ps b hb AA hg _ (by rw[UC];exact BL hv),YB hg v hv,λn rest l hw=>ih v b n rest l (Ag (by have:=UF v hv;omega) hf) hb (by have:=UF v hv;omega) (YB hg v hv) hw⟩) hw;refine Dd z ?_;exact ED λm hm=>⟨rfl,hm⟩
theorem VZ {h:Nat} {b:List Str} {ps:List W} (ih:PP rd rw ws h) (hf:3*W.depL ps+3≤h) (hb:Binds b) (hl:b.length+W.depL ps≤24) (h40:ps.length≤40) (hg:W.GoodL b ps) (hw:ws.drop n=EN false::(sep [(" " :Str),C7 false," "] (ps.map W.toks)++De false::rest)):
 Tr (Hs (RL rd rw ws n l)) (IU (h+1+1) [.hnd rd,.tpx (b.map .str)]) (λd m=>d= .tup [.str (DF false),.tup (ps.map (W.mean b))]∧Hs (RL rd rw ws (n+(sep [(" " :Str),C7 false," "] (ps.map W.toks)).length+2) l) m):=by
 show Tr _ (M.noexc (km (Hz (h+1)) (IQ (h+1)) (IR (h+1)) (IS (h+1)) (IT (h+1)) (IU (h+1)) (IA (h+1)) (Ff (h+1)) (DE 2 [.hnd rd,.tpx (b.map .str)])>>=endOf)) _;refine Gn ?_;have e0:DE 2 [.hnd rd,.tpx (b.map .str)]=[some (.hnd rd),some (.tpx (b.map .str))]:=rfl;rw[e0];simp only[Cm,km];refine C4 ?_;have z:=UD (l:=l) false (P:=2*W.depL ps+2) hb AA hg h40 (λv hv=>⟨JV ps b hb AA hg _ (by rw[UC];exact BL hv),YB hg v hv,λn rest l hw=>ih v b n rest l (Ag (by have:=UF v hv;omega) hf) hb (by have:=UF v hv;omega) (YB hg v hv) hw⟩) hw;refine Dd z ?_;exact ED λm hm=>⟨rfl,hm⟩
theorem iH (f:Nat):PP rd rw ws f:=by
 induction f using Nat.strongRecOn with
 |_ f ih=>
 intro w b n rest l hf hb hl hg hw;obtain⟨f,rfl⟩:∃g,f=g+1:=⟨f - 1,AA⟩;refine YC ?_
 cases w with
 |stop=>
  have hw:ws.drop n=("0" :Str)::rest:=hw;simp only[Cm,Rj];refine C4 ?_;refine Dd (JU hw) ?_
  try simp only[Cm,eq_str,VU _ pj,pf,Ak]
  refine C4 ?_;exact DV bG λd m h=>⟨by rw[h.1];simp only[W.mean],by simpa [W.toks]using h.2⟩
 |call c xs=>
  have hw:ws.drop n=c::"<" ::(sep [(",":Str)] (xs.map λx=>[x])++(">" :Str)::rest):=by
   rw[hw];simp[W.toks]
  have hc:=hg.1;simp only[Cm,Rj];refine C4 ?_;refine Dd (JU hw) ?_
  try simp only[Cm,VU c (Ag (Ib hc) AB),hc]
  refine R9 ?_
  try simp only[Cm]
  refine C4 ?_;refine Dd (X8 hb hg.2.2 hg.2.1 (FQ hw)) ?_
  try simp only[Cm]
  refine ED λm hm=>⟨by simp only[W.mean],?_⟩;rw[show n+(W.call c xs).toks.length=n+1+(sep [(",":Str)] (xs.map λx=>[x])).length+2 by simp only[W.toks,AH,AI,Ah];omega];exact hm
 |rows k ps=>
  have hdep:3*(W.depL ps+1)+3≤f+1:=hf;have hl:b.length+(W.depL ps+1)≤24:=hl;obtain⟨g,rfl⟩:∃g,f=g+1+1:=⟨f - 2,AA⟩;have hw:ws.drop n=EN k::(sep [(" " :Str),C7 k," "] (ps.map W.toks)++De k::rest):=by
   rw[hw,←iE];simp[W.toks]
  have e1:(W.rows k ps).mean b= .tup [.str (DF k),.tup (ps.map (W.mean b))]:=by simp only[W.mean,UC]
  have e2:n+(W.rows k ps).toks.length=n+(sep [(" " :Str),C7 k," "] (ps.map W.toks)).length+2:=by
   simp only[W.toks,iE,AH,AI,Ah];omega
  rw[e1,e2];have ih' :=ih g AA
  cases k with
  |true=>
   have hw' :ws.drop n=("{" :Str)::(sep [(" " :Str),C7 true," "] (ps.map W.toks)++De true::rest):=hw;simp only[Cm,Rj];refine C4 ?_;refine Dd (JU hw') ?_
   try simp only[Cm,eq_str,VU _ qB,qA,Ak,nB,nE,nF,nG]
   refine C4 ?_;exact DV (bK ih' AA hb AA hg.1 hg.2 hw) λd m h=>h
  |false=>
   have hw' :ws.drop n=("(" :Str)::(sep [(" " :Str),C7 false," "] (ps.map W.toks)++De false::rest):=hw;simp only[Cm,Rj];refine C4 ?_;refine Dd (JU hw') ?_
   try simp only[Cm,eq_str,VU _ qD,qC,Ak,nH,nJ,nK,nL,nM]
   refine C4 ?_;exact DV (VZ ih' AA hb AA hg.1 hg.2 hw) λd m h=>h
 |tick w=>
  have hdep:3*(w.dep+1)+3≤f+1:=hf;have hl:b.length+(w.dep+1)≤24:=hl;obtain⟨g,rfl⟩:∃g,f=g+1:=⟨f - 1,AA⟩;have hw:ws.drop n=("-" :Str)::"." ::(w.toks++rest):=by
   rw[hw];simp[W.toks]
  have hg:w.Good b:=hg;simp only[Cm,Rj];refine C4 ?_;refine Dd (JU hw) ?_
  try simp only[Cm,eq_str,VU _ pw,pq,Ak,mn]
  refine C4 ?_;refine DV (bI (ih g AA) AA hb AA hg hw) λd m h=>⟨by rw[h.1];simp only[W.mean],?_⟩;rw[show n+(W.tick w).toks.length=n+1+1+w.toks.length by simp only[W.toks,AH,AI,Ah];omega];exact h.2
 |send x y w=>
  have hdep:3*(w.dep+1)+3≤f+1:=hf;have hl:b.length+(w.dep+1)≤24:=hl;obtain⟨g,rfl⟩:∃g,f=g+1:=⟨f - 1,AA⟩;have hw:ws.drop n=x::("!" :Str)::y::"." ::(w.toks++rest):=by
   rw[hw];simp[W.toks]
  have wx:=R8 hb hg.1;obtain⟨q1,q2,q3,q4,q5,q6⟩:=YA wx;simp only[Cm,Rj];refine C4 ?_;refine Dd (JU hw) ?_
  try simp only[Cm,VU x (Ag (EZ wx) AB),dD wx,eq_str,q1,q2,q3,q4,q5,q6]
  refine C4 ?_;refine DV (SC (ih g AA) AA hb AA hg.1 hg.2.1 hg.2.2 hw) λd m h=>⟨by rw[h.1];simp only[W.mean],?_⟩;rw[show n+(W.send x y w).toks.length=n+1+1+1+1+w.toks.length by simp only[W.toks,AH,AI,Ah];omega];exact h.2
 |test k x y w=>
  have hdep:3*(w.dep+1)+3≤f+1:=hf;have hl:b.length+(w.dep+1)≤24:=hl;obtain⟨g,rfl⟩:∃g,f=g+1:=⟨f - 1,AA⟩;have hw:ws.drop n=("[" :Str)::x::QS k::y::"]" ::(w.toks++rest):=by
   rw[hw];simp[W.toks]
  simp only[Cm,Rj];refine C4 ?_;refine Dd (JU hw) ?_
  try simp only[Cm,eq_str,VU _ p8,p7,Ak,mz,m8,nA]
  refine C4 ?_;refine DV (bJ (ih g AA) AA hb AA hg.1 hg.2.1 hg.2.2 hw) λd m h=>⟨by rw[h.1];simp only[W.mean],?_⟩;rw[show n+(W.test k x y w).toks.length=n+1+1+1+1+1+w.toks.length by simp only[W.toks,AH,AI,Ah];omega];exact h.2
 |new x w=>
  have hdep:3*(w.dep+1)+3≤f+1:=hf;have hl:b.length+(w.dep+1)≤24:=hl;obtain⟨g,rfl⟩:∃g,f=g+1:=⟨f - 1,AA⟩;have hw:ws.drop n=("^" :Str)::x::"." ::(w.toks++rest):=by
   rw[hw];simp[W.toks]
  simp only[Cm,Rj];refine C4 ?_;refine Dd (JU hw) ?_
  try simp only[Cm,eq_str,VU _ p6,pz,Ak,mq,mw]
  refine C4 ?_;refine DV (iG (ih g AA) AA hb AA hg.1 hg.2 hw) λd m h=>⟨by rw[h.1];simp only[W.mean],?_⟩;rw[show n+(W.new x w).toks.length=n+1+1+1+w.toks.length by simp only[W.toks,AH,AI,Ah];omega];exact h.2
 |hear x y w=>
  have hdep:3*(w.dep+1)+3≤f+1:=hf;have hl:b.length+(w.dep+1)≤24:=hl;obtain⟨g,rfl⟩:∃g,f=g+1:=⟨f - 1,AA⟩;have hw:ws.drop n=x::("?" :Str)::y::"." ::(w.toks++rest):=by
   rw[hw];simp[W.toks]
  have wx:=R8 hb hg.1;obtain⟨q1,q2,q3,q4,q5,q6⟩:=YA wx;simp only[Cm,Rj];refine C4 ?_;refine Dd (JU hw) ?_
  try simp only[Cm,VU x (Ag (EZ wx) AB),dD wx,eq_str,q1,q2,q3,q4,q5,q6]
  refine C4 ?_;refine DV (SD (ih g AA) AA hb AA hg.1 hg.2.1 hg.2.2 hw) λd m h=>⟨by rw[h.1];simp only[W.mean],?_⟩;rw[show n+(W.hear x y w).toks.length=n+1+1+1+1+w.toks.length by simp only[W.toks,AH,AI,Ah];omega];exact h.2
end
theorem SE (t:Str):(⟨t.cps.toList.toArray⟩:Str)=t:=VL AD
theorem dF (a b:Str):(a++b).cps.toList=a.cps.toList++b.cps.toList:=by
 show(a.cps++b.cps).toList=_;simp
abbrev fd (f:List (List Nat)):List D:=f.map λc=> .str ⟨c.toArray⟩
theorem YD (ts:List Str):fd (codes ts)=ts.map .str:=by
 unfold fd codes;rw[Am];refine BD λt _=>?_;show D.str ⟨t.cps.toList.toArray⟩=_;rw[SE]
section
variable {A B:Type} {l:List (Nat×MO)} {Q:B->Mu->Prop}
theorem YE {f:D->M B} {i:Nat} {ds:List D} {r:Int} {d:D} {L:List (Nat×MO)} (hm:(i,.lst ds)∈L) (hr:r<0) (e:atI ds r=some d) (h:Tr (Hs L) (f d) Q):Tr (Hs L) (M.getL i r>>=f) Q:=λm hs=>by
 have e1:=hs.2 _ hm;rw[Do];simp only[M.getL,e1,An hr,e];exact h m hs
theorem YF (a b:Str) (h:a.length+b.length≤sizeLine):D.addS (.str a) (.str b)=pure (.str (a++b)):=by
 show(M.guard (decide (a.length+b.length≤sizeLine))>>=λ_=>(pure (D.str (a++b)):M D))=_;rw[Iu h];rfl
theorem bL (xs:List D) (d:D):ixN (xs++[d]).length (-1)=some xs.length:=by
 unfold ixN;simp;rw[show(-1+((xs.length:Int)+1)).toNat=xs.length by omega];omega
theorem bM (w:List Nat) (c:Nat):(⟨w.toArray⟩:Str)++⟨#[c]⟩=⟨(w++[c]).toArray⟩:=VL (by rw[dF])
abbrev WB:Mir.Env->M Fl:=(Cj (C3 4 (Ck D.isIn (Cg 3) (eC (.str "abcdefghijklmnopqrstuvwxyzABCDEFGHIJKLMNOPQRSTUVWXYZ0123456789"))))
 (Cj (Da (MR (Ei (Cg 4)) (Ei (Cg 2))) (JD (Cg 1) (Eg D.neg (eC (.int 1))) (Cg 3)) (C5 (Gu (Cg 1) (Cg 3))))
 (C3 2 (Cg 4))))
theorem Ie {i:Nat} {x:Str}:∀(cs:List Nat) (f:List (List Nat)) (r:Bool) (o3 o4:Option D),(r=true->f≠[])->f.length+cs.length≤13000->(∀w,w∈f->w.length+cs.length≤13000)->
 Tr (Hs ((i,.lst (fd f))::l)) (forL (Cq 3) WB (cs.map λc=> .str ⟨#[c]⟩) [some (.str x),some (.hnd i),some (.bl r),o3,o4]) (λfl m=>(∃r' o3 o4,fl= .nx [some (.str x),some (.hnd i),some (.bl r'),o3,o4])∧Hs ((i,.lst (fd (Xt run cs f r)))::l) m)
 |[],f,r,o3,o4,_,_,_=>ED λm hm=>⟨⟨_,_,_,rfl⟩,hm⟩
 |c::cs,f,r,o3,o4,hr,hl,hw=>by
  rw[AI]at hl hw;have e1:D.isIn (.str ⟨#[c]⟩) (.str "abcdefghijklmnopqrstuvwxyzABCDEFGHIJKLMNOPQRSTUVWXYZ0123456789")=pure (.bl (run c)):=Po c oO;rw[AO,Ko];unfold forL;simp only[Cm,WB,e1];by_cases h:(run c && r)=true
  ·rw[Ao]at h;have hf:=hr h.2;obtain⟨f0,w,rfl⟩:∃f0 w,f=f0++[w]:=⟨f.dropLast,f.getLast hf,(List.dropLast_concat_getLast hf).symm⟩;have hwl:=hw w (BP _ (AR.mpr rfl));have ef:fd (f0++[w])=fd f0++[.str ⟨w.toArray⟩]:=by simp[fd]
   rw[h.1,h.2]
   try simp only[Cm,X3]
   rw[ef];refine YE AG AB (at_last _ _) ?_
   try simp only[Cm]
   rw[YF _ _ (Ag (show _≤14000 by rw[My,My];simp;omega) AB),bM]
   try simp only[Cm]
   refine ar (bL _ _) ?_;rw[List.set_append_right _ _ (Ai _),Nat.sub_self,List.set_cons_zero]
   try simp only[Cm]
   have z:=Ie (i:=i) (x:=x) cs (f0++[w++[c]]) true (some (.str ⟨#[c]⟩)) (some (.bl true)) (λ_=>by simp) (by simp at hl ⊢;omega) (λv hv=>by
    rcases Ap.mp hv with hv|hv
    ·have:=hw v (Be _ hv);omega
    ·rw[AR.mp hv,AH,AX];omega)
   have ef2:fd (f0++[w++[c]])=fd f0++[.str ⟨(w++[c]).toArray⟩]:=by simp[fd]
   rw[ef2]at z;simp only[Bool.true_and,Ae,List.dropLast_concat,List.getLastD_concat];exact z
  ·have h' :(run c && r)=false:=by
    cases q:(run c && r)with
    |true=>exact(h q).elim
    |false=>rfl
   rw[Aq h];have ec:(run c=true->r=true->False):=λa b=>h (by rw[a,b];rfl);have z:=Ie (i:=i) (x:=x) cs (f++[[c]]) (run c) (some (.str ⟨#[c]⟩)) (some (.bl (run c))) (λ_=>by simp) (by rw[AH,AX];omega) (λv hv=>by
    rcases Ap.mp hv with hv|hv
    ·have:=hw v hv;omega
    ·rw[AR.mp hv,AX];omega)
   have ef2:fd (f++[[c]])=fd f++[.str ⟨#[c]⟩]:=by simp[fd]
   rw[ef2]at z;have hl2:(fd f).length≤100000:=by rw[AJ];omega
   cases q:run c with
   |true=>
    have r0:r=false:=by
     cases r with
     |true=>exact(ec q rfl).elim
     |false=>rfl
    rw[q]at z;subst r0
    try simp only[Cm]
    refine FD AG ?_
    try simp only[Cm]
    refine FE hl2 ?_
    try simp only[Cm]
    exact z
   |false=>
    rw[q]at z
    try simp only[Cm]
    refine FD AG ?_
    try simp only[Cm]
    refine FE hl2 ?_
    try simp only[Cm]
    exact z
theorem YG (x:Str) (h:x.length≤12000):Tr (Hs l) (GE [.str x]) (λd m=>∃i,d= .hnd i∧Hs ((i,.lst (fd (Xt run x.cps.toList [] false)))::l) m):=by
 show Tr _ (M.noexc (kS (DE 5 [.str x])>>=endOf)) _;refine Gn ?_;have e0:DE 5 [.str x]=[some (.str x),none,none,none,none]:=rfl;rw[e0];simp only[Cm,kS,Eh];refine Fh λi=>?_
 try simp only[Cm,Pn]
 have hl:x.cps.toList.length≤12000:=by rw[←My];exact h
 refine HU (Ie (i:=i) (x:=x) x.cps.toList [] false none none (λe=>by cases e) (by rw[Ah];omega) (λw hw=>(AM hw).elim)) λfl=>Co λ⟨r',o3,o4,e⟩=>?_;subst e
 try simp only[Cm]
 exact ED λm hm=>⟨i,rfl,hm⟩
end
def xn (i:Nat):Str:=("x" :Str)++(toString (i:Int):Str)
def xw:Nat->List Str
 |0=>[]
 |k+1=>xn k::xw k
theorem Jz:∀i,i<100->L8 (xn i).cps.toList=true:=by decide+kernel
theorem iI:∀i,i<30->∀j,j<30->xn i=xn j->i=j:=by
 have:∀i,i<30->∀j,j<30->(xn i).cps.toList=(xn j).cps.toList->i=j:=by decide+kernel
 exact λi hi j hj e=>this i hi j hj (by rw[e])
theorem HJ:∀k,(xw k).length=k
 |0=>rfl
 |k+1=>by rw[xw,AI,HJ k]
theorem YH {x:Str}:∀{k:Nat},x∈xw k->∃i,i<k∧x=xn i
 |k+1,h=>by
  rcases AQ.mp h with rfl|h
  ·exact⟨k,AA,rfl⟩
  ·obtain⟨i,hi,e⟩:=YH h;exact⟨i,AA,e⟩
theorem MC {k:Nat} (hk:k≤100):Binds (xw k):=λx hx=>by
 obtain⟨i,hi,rfl⟩:=YH hx;exact Jz i AA
theorem UG:∀k:Nat,((List.range k).map xn).reverse=xw k
 |0=>rfl
 |k+1=>by
  rw[Cd,Aw,List.reverse_append,UG k];rfl
theorem dG (i:Int) (h0:0≤i) (h1:i<1000):D.fmt (.int i)=pure (.str (toString i)):=Zh i (by
 by_cases c:i.natAbs=0
 ·rw[c];decide
 ·rw[Nat.log2_lt c];exact BA (show i.natAbs<2 ^ 10 by omega) (Nat.pow_le_pow_right AB AB))
theorem Fm:∀n:Nat,n<1000->((toString (n:Int):String):Str).length≤3:=λn h=>(VN n h).2
theorem iJ (a:Str):Str.empty++a=a:=VL (by rw[dF];rfl)
theorem iK (i:Nat) (h:i<100) {f:Str->M D}:(D.onto Str.empty (.str "x")>>=λacc=>D.fmt (.int (i:Int))>>=λx=>D.onto acc x>>=f)=f (xn i):=by
 rw[LM _ _ (by rw[E2];decide+kernel),Dm,dG _ AA AA,Dm,LM _ _ (Ag (show _≤10 by
  rw[E2,iJ];have:=Fm i AA;have e:("x" :Str).length=1:=by decide+kernel
  omega) AB),Dm,iJ]
 rfl
section
variable {rd rw:Nat} {ws:List Str} {A B:Type} {l:List (Nat×MO)} {n:Nat} {t:Str} {rest:List Str} {Q:B->Mu->Prop}
theorem nN (a d:D):JB ("names_stand" :Str) d [(("words" :Str),a)]=[(("words" :Str),a),("names_stand",d)]:=by
 simp only[JB,show ¬(("words" :Str)="names_stand") by decide+kernel,Af]
theorem nO (a b d:D):JB ("at" :Str) d [(("words" :Str),a),("names_stand",b)]=[(("words" :Str),a),("names_stand",b),("at",d)]:=by
 simp only[JB,show ¬(("words" :Str)="at") by decide+kernel,show ¬(("names_stand" :Str)="at") by decide+kernel,Af]
theorem bN:Tr (Hs ((rd,.ins "Reader" [])::(rw,.lst (ws.map .str))::l)) (oG [.hnd rd,.hnd rw,.bl false]) (λd m=>d= .non∧Hs (RL rd rw ws 0 l) m):=by
 show Tr _ (M.noexc (kW (DE 3 [.hnd rd,.hnd rw,.bl false])>>=endOf)) _;refine Gn ?_;have e0:DE 3 [.hnd rd,.hnd rw,.bl false]=[some (.hnd rd),some (.hnd rw),some (.bl false)]:=rfl;rw[e0];simp only[Cm,kW];refine JR AB ?_;show Tr (Hs ((rd,.ins "Reader" [(("words" :Str),D.hnd rw)])::(rw,.lst (ws.map .str))::l)) _ _;refine JR (show 1<1000 by decide) ?_;rw[nN];refine JR (show 2<1000 by decide) ?_;rw[nO];exact ED λm hm=>⟨rfl,hm⟩
theorem iL (hn:n=ws.length):Tr (Hs (RL rd rw ws n l)) (oK [.hnd rd]) (λd m=>d= .non∧Hs (RL rd rw ws n l) m):=by
 show Tr _ (M.noexc (ko (DE 1 [.hnd rd])>>=endOf)) _;refine Gn ?_;have e0:DE 1 [.hnd rd]=[some (.hnd rd)]:=rfl;rw[e0];simp only[Cm,ko];refine C4 ?_;refine GG AG (T8 rw n) ?_;refine GG AG (MA rw n) ?_;refine JQ (AF _ AG) ?_;rw[AJ,←hn]
 try simp only[Cm,HP,Ak,X7]
 exact ED λm hm=>⟨rfl,hm⟩
theorem SF (ds:List D):D.tupleX (.lst ds)=pure (.tpx ds):=(rfl)
end
abbrev TT (ts:List Str):Str:=⟨(codes ts).flatten.toArray⟩
theorem bO (ts:List Str):(TT ts).cps.toList=(codes ts).flatten:=by simp[TT]
theorem D8 (a b:List Str):TT a++TT b=TT (a++b):=VL (by rw[dF,bO,bO,bO];simp[codes])
theorem J0 (t:Str):TT [t]=t:=VL (by rw[bO];simp[codes])
theorem Ks (t:Str) (ts:List Str):t++TT ts=TT (t::ts):=VL (by rw[dF,bO,bO];simp[codes])
theorem iM (ts:List Str):(TT ts).length=(ts.map (·.length)).sum:=by
 rw[My,bO,List.length_flatten]
 congr 1
 unfold codes;rw[Am];exact BD λt _=>(My t).symm
theorem iN {ts:List Str} (h:∀t,t∈ts->1≤t.length∧t.length≤6):ts.length≤(ts.map (·.length)).sum∧(ts.map (·.length)).sum≤6*ts.length:=by
 induction ts with
 |nil=>simp
 |cons t ts ih=>
  have h1:=h t AG;have h2:=ih λz hz=>h z (AF _ hz);rw[AO,CG,AI];omega
theorem QZ {ts:List Str} (h:∀t,t∈ts->1≤t.length∧t.length≤6):ts.length≤(TT ts).length∧(TT ts).length≤6*ts.length:=by
 rw[iM];exact iN h
theorem UH (s:List Str):∀tss:List (List Str),Str.join (TT s) (tss.map TT)=TT (sep s tss)
 |[]=>rfl
 |[x]=>rfl
 |x::y::xs=>by
  show TT x++TT s++Str.join (TT s) ((y::xs).map TT)=TT (x++s++sep s (y::xs));rw[UH s (y::xs),D8,D8]
theorem UI (s:List Str):∀tss:List (List Str),((tss.map TT).map (·.length)).sum≤(TT (sep s tss)).length
 |[]=>by simp
 |[x]=>by simp[sep]
 |x::y::xs=>by
  have h:=UI s (y::xs);have e:(TT (sep s (x::y::xs))).length=(TT x).length+(TT s).length+(TT (sep s (y::xs))).length:=by
   show(TT (x++s++sep s (y::xs))).length=_;rw[←D8,←D8,E2,E2]
  rw[e,AO,AO,CG];omega
theorem Kt {s:List Str} {a:Str} (tss:List (List Str)) (ha:a=TT s) (h1:(TT (sep s tss)).length≤100000) (h2:tss.length≤1000) (h3:a.length≤10):D.join a (.lst (tss.map λt=> .str (TT t)))=pure (.str (TT (sep s tss))):=by
 show(M.opt (D.texts (tss.map λt=> .str (TT t)))>>=λys=>M.guard (decide ((ys.map (·.length)).sum+ys.length*a.length≤16777216))>>=λ_=>(pure (D.str (Txt.join a ys)):M D))=_;rw[Jm TT,Ed,Dm];have hs:=UI s tss;have hm:(tss.map TT).length*a.length≤1000*10:=Nat.mul_le_mul (by rw[AJ];exact h2) h3;rw[Iu AA,Dm,TL.join_eq,ha,UH]
theorem dH {x:Str} {b:List Str} (hb:Binds b) (h:DR b x):1≤x.length∧x.length≤6:=by
 have w:=R8 hb h;obtain⟨c,r,e,_⟩:=w.hd;refine⟨?_,EZ w⟩;rw[My,e,AI];omega
theorem JW {x:Str} (h:Dw x):1≤x.length∧x.length≤6:=dH (b:=[x]) (λy hy=>by rw[AR.mp hy];exact h) (AR.mpr rfl)
theorem YI {x:Str} (h:ER x.cps.toList=true):1≤x.length∧x.length≤6:=by
 refine⟨?_,Ib h⟩;rw[My]
 cases e:x.cps.toList with
 |nil=>rw[e]at h;cases h
 |cons c r=>rw[AI];omega
theorem bP {P:Str->Prop} {s:List Str} (hs:∀t,t∈s->P t):∀{tss:List (List Str)},(∀ts,ts∈tss->∀t,t∈ts->P t)->∀t,t∈sep s tss->P t
 |[],_,t,ht=>(AM ht).elim
 |[x],h,t,ht=>h x AG t ht
 |x::y::xs,h,t,ht=>by
  have ht:t∈x++s++sep s (y::xs):=ht;rw[Ap,Ap]at ht;rcases ht with(ht|ht)|ht
  ·exact h x AG t ht
  ·exact hs t ht
  ·exact bP hs (λts hts=>h ts (AF _ hts)) t ht
theorem Ez:∀t,t∈(["0","<",">",","," ","+","|","{","}","(",")","-",".","!","?","[","]","=","#","^"]:List Str)->1≤t.length∧t.length≤6:=by decide+kernel
theorem lk (k:Bool):(1≤(EN k).length∧(EN k).length≤6)∧(1≤(C7 k).length∧(C7 k).length≤6)∧(1≤(De k).length∧(De k).length≤6)∧(1≤(QS k).length∧(QS k).length≤6):=by cases k<;>decide+kernel
abbrev B6 (t:Str):Prop:=1≤t.length∧t.length≤6
theorem Fo {x:Str} {ts:List Str} (h:B6 x) (h' :∀t,t∈ts->B6 t):∀t,t∈x::ts->B6 t:=λt ht=>by
 rcases AQ.mp ht with rfl|ht
 ·exact h
 ·exact h' t ht
theorem Er {ts us:List Str} (h:∀t,t∈ts->B6 t) (h' :∀t,t∈us->B6 t):∀t,t∈ts++us->B6 t:=λt ht=>by
 rcases Ap.mp ht with ht|ht
 ·exact h t ht
 ·exact h' t ht
theorem Dk:∀t,t∈([]:List Str)->B6 t:=λt ht=>(AM ht).elim
mutual
theorem FH:∀(w:W) (b:List Str),Binds b->w.Good b->∀t,t∈w.toks->B6 t
 | .stop,b,_,_=>by
  simp only[W.toks];exact Fo (Ez _ AD) Dk
 | .call c ws,b,hb,h=>by
  simp only[W.toks];refine Er (Er (Fo (YI h.1) (Fo (Ez _ AD) Dk)) (bP (Fo (Ez _ AD) Dk) λts hts=>?_)) (Fo (Ez _ AD) Dk);obtain⟨x,hx,rfl⟩:=AY.mp hts;exact Fo (dH hb (h.2.2 x hx)) Dk
 | .rows k ps,b,hb,h=>by
  simp only[W.toks];exact Er (Er (Fo (lk k).1 Dk) (bP (Fo (Ez _ AD) (Fo (lk k).2.1 (Fo (Ez _ AD) Dk))) (Qa ps b hb h.2))) (Fo (lk k).2.2.1 Dk)
 | .tick w,b,hb,h=>by
  simp only[W.toks];exact Er (Fo (Ez _ AD) (Fo (Ez _ AD) Dk)) (FH w b hb h)
 | .send x y w,b,hb,h=>by
  simp only[W.toks];exact Er (Fo (dH hb h.1) (Fo (Ez _ AD) (Fo (dH hb h.2.1) (Fo (Ez _ AD) Dk)))) (FH w b hb h.2.2)
 | .test k x y w,b,hb,h=>by
  simp only[W.toks];exact Er (Fo (Ez _ AD) (Fo (dH hb h.1) (Fo (lk k).2.2.2 (Fo (dH hb h.2.1) (Fo (Ez _ AD) Dk))))) (FH w b hb h.2.2)
 | .new o w,b,hb,h=>by
  simp only[W.toks];exact Er (Fo (Ez _ AD) (Fo (JW h.1) (Fo (Ez _ AD) Dk))) (FH w (o::b) (T6 hb h.1) h.2)
 | .hear x o w,b,hb,h=>by
  simp only[W.toks];exact Er (Fo (dH hb h.1) (Fo (Ez _ AD) (Fo (JW h.2.1) (Fo (Ez _ AD) Dk)))) (FH w (o::b) (T6 hb h.2.1) h.2.2)
theorem Qa:∀(ps:List W) (b:List Str),Binds b->W.GoodL b ps->∀ts,ts∈W.toksL ps->∀t,t∈ts->B6 t
 |[],b,_,_,ts,hts,t,ht=>(AM hts).elim
 |w::ws,b,hb,h,ts,hts,t,ht=>by
  rcases AQ.mp hts with rfl|hts
  ·exact FH w b hb h.1 t ht
  ·exact Qa ws b hb h.2 ts hts t ht
end
def rx (b:List Str) (x:Str):Str:=if x∈b then xn (b.length - 1 - b.idxOf x)else x
mutual
def W.re (b:List Str):W->W
 | .stop=> .stop
 | .call c ws=> .call c (ws.map (rx b))
 | .rows k ps=> .rows k (W.reL b ps)
 | .tick w=> .tick (w.re b)
 | .send x y w=> .send (rx b x) (rx b y) (w.re b)
 | .test k x y w=> .test k (rx b x) (rx b y) (w.re b)
 | .new o w=> .new (xn b.length) (w.re (o::b))
 | .hear x o w=> .hear (rx b x) (xn b.length) (w.re (o::b))
def W.reL (b:List Str):List W->List W
 |[]=>[]
 |w::ws=>w.re b::W.reL b ws
end
theorem Oo (b:List Str):∀ps:List W,W.reL b ps=ps.map (W.re b)
 |[]=>by simp[W.reL]
 |w::ws=>by simp[W.reL,Oo b ws]
theorem YJ:∀(k i:Nat),i<k->(xw k)[i]? =some (xn (k - 1 - i))
 |k+1,0,_=>by simp[xw]
 |k+1,i+1,h=>by
  rw[xw,By,YJ k i AA]
  congr 2
  omega
theorem SG:∀(k i:Nat),k≤30->i<k->(xw k).idxOf (xn (k - 1 - i))=i
 |k+1,0,_,_=>by
  rw[xw,show k+1 - 1 - 0=k by omega,List.idxOf_cons_self]
 |k+1,i+1,hk,h=>by
  have ne:xn k≠xn (k+1 - 1 - (i+1)):=λe=>by
   have:=iI k AA _ AA e;omega
  rw[xw,List.idxOf_cons,AZ.mpr ne,cond_false,show k+1 - 1 - (i+1)=k - 1 - i by omega,SG k i AA AA]
theorem SH {k i:Nat} (h:i<k):xn (k - 1 - i)∈xw k:=Av (YJ k i h)
theorem Va {b:List Str} {x:Str} (hl:b.length≤30) (h:DR b x):meant (xw b.length) (rx b x)=meant b x∧DR (xw b.length) (rx b x):=by
 unfold meant rx;by_cases c:x∈b
 ·have h1:b.idxOf x<b.length:=Bw.mpr c;rw[An c,An c,An (SH h1),SG _ _ hl h1];exact⟨rfl,SH h1⟩
 ·exact(c h).elim
mutual
theorem FI:∀(w:W) (b:List Str),b.length+w.dep≤30->w.Good b->(w.re b).mean (xw b.length)=w.mean b∧(w.re b).Good (xw b.length)
 | .stop,b,_,_=>by
  simp only[W.re,W.mean];exact⟨trivial,trivial⟩
 | .call c ws,b,hl,h=>by
  have hl' :b.length≤30:=by omega
  simp only[W.re,W.mean];have e:(ws.map (rx b)).map (meant (xw b.length))=ws.map (meant b):=by
   rw[Am];exact BD λx hx=>(Va hl' (h.2.2 x hx)).1
  refine⟨by rw[e],h.1,by rw[AJ];exact h.2.1,λx hx=>?_⟩
  ·obtain⟨y,hy,rfl⟩:=AY.mp hx;exact(Va hl' (h.2.2 y hy)).2
 | .rows k ps,b,hl,h=>by
  have hl' :b.length+(W.depL ps+1)≤30:=hl;obtain⟨h1,h2⟩:=Qb ps b AA h.2;simp only[W.re,W.mean,h1];exact⟨trivial,by rw[Oo,AJ];exact h.1,h2⟩
 | .tick w,b,hl,h=>by
  have hl' :b.length+(w.dep+1)≤30:=hl;obtain⟨h1,h2⟩:=FI w b AA h;simp only[W.re,W.mean,h1];exact⟨trivial,h2⟩
 | .send x y w,b,hl,h=>by
  have hl' :b.length+(w.dep+1)≤30:=hl;obtain⟨h1,h2⟩:=FI w b AA h.2.2;simp only[W.re,W.mean,h1,(Va (show b.length≤30 by omega) h.1).1,(Va (show b.length≤30 by omega) h.2.1).1];exact⟨trivial,(Va AA h.1).2,(Va AA h.2.1).2,h2⟩
 | .test k x y w,b,hl,h=>by
  have hl' :b.length+(w.dep+1)≤30:=hl;obtain⟨h1,h2⟩:=FI w b AA h.2.2;simp only[W.re,W.mean,h1,(Va (show b.length≤30 by omega) h.1).1,(Va (show b.length≤30 by omega) h.2.1).1];exact⟨trivial,(Va AA h.1).2,(Va AA h.2.1).2,h2⟩
 | .new o w,b,hl,h=>by
  have hl' :b.length+(w.dep+1)≤30:=hl;obtain⟨h1,h2⟩:=FI w (o::b) (by rw[AI];omega) h.2;rw[AI,xw]at h1 h2;simp only[W.re,W.mean,h1];exact⟨trivial,Jz _ AA,h2⟩
 | .hear x o w,b,hl,h=>by
  have hl' :b.length+(w.dep+1)≤30:=hl;obtain⟨h1,h2⟩:=FI w (o::b) (by rw[AI];omega) h.2.2;rw[AI,xw]at h1 h2;simp only[W.re,W.mean,h1,(Va (show b.length≤30 by omega) h.1).1];exact⟨trivial,(Va AA h.1).2,Jz _ AA,h2⟩
theorem Qb:∀(ps:List W) (b:List Str),b.length+W.depL ps≤30->W.GoodL b ps->W.meanL (xw b.length) (W.reL b ps)=W.meanL b ps∧W.GoodL (xw b.length) (W.reL b ps)
 |[],b,_,_=>by
  simp only[W.reL,W.meanL];exact⟨trivial,trivial⟩
 |w::ws,b,hl,h=>by
  have hl' :b.length+max w.dep (W.depL ws)≤30:=hl;obtain⟨h1,h2⟩:=FI w b AA h.1;obtain⟨h3,h4⟩:=Qb ws b AA h.2;simp only[W.reL,W.meanL,h1,h3];exact⟨trivial,h2,h4⟩
end
mutual
theorem FR:∀(w:W) (b:List Str),(w.re b).dep=w.dep∧(w.re b).toks.length=w.toks.length
 | .stop,b=>by simp only[W.re];exact⟨trivial,trivial⟩
 | .call c ws,b=>by
  simp only[W.re,W.dep,W.toks,AH];refine⟨trivial,?_⟩
  congr 2
  cases ws with
  |nil=>rfl
  |cons x xs=>simp only[AO,dE,AH,List.length_flatMap,Am];rfl
 | .rows k ps,b=>by
  obtain⟨h1,h2⟩:=UJ ps b;simp only[W.re,W.dep,W.toks,AH,h1];refine⟨trivial,?_⟩
  congr 2
  exact h2 _
 | .tick w,b=>by
  obtain⟨h1,h2⟩:=FR w b;simp only[W.re,W.dep,W.toks,AH,h1,h2];exact⟨trivial,trivial⟩
 | .send x y w,b=>by
  obtain⟨h1,h2⟩:=FR w b;simp only[W.re,W.dep,W.toks,AH,h1,h2];exact⟨trivial,rfl⟩
 | .test k x y w,b=>by
  obtain⟨h1,h2⟩:=FR w b;simp only[W.re,W.dep,W.toks,AH,h1,h2];exact⟨trivial,rfl⟩
 | .new o w,b=>by
  obtain⟨h1,h2⟩:=FR w (o::b);simp only[W.re,W.dep,W.toks,AH,h1,h2];exact⟨trivial,rfl⟩
 | .hear x o w,b=>by
  obtain⟨h1,h2⟩:=FR w (o::b);simp only[W.re,W.dep,W.toks,AH,h1,h2];exact⟨trivial,rfl⟩
theorem UJ:∀(ps:List W) (b:List Str),W.depL (W.reL b ps)=W.depL ps∧∀s:List Str,(sep s (W.toksL (W.reL b ps))).length=(sep s (W.toksL ps)).length
 |[],b=>by simp only[W.reL];exact⟨trivial,λ_=>trivial⟩
 |[w],b=>by
  obtain⟨h1,h2⟩:=FR w b;simp only[W.reL,W.depL,W.toksL,h1,sep,h2];exact⟨trivial,λ_=>trivial⟩
 |w::v::ws,b=>by
  obtain⟨h1,h2⟩:=FR w b;obtain⟨h3,h4⟩:=UJ (v::ws) b;refine⟨?_,λs=>?_⟩
  ·show max (w.re b).dep (W.depL (W.reL b (v::ws)))=max w.dep (W.depL (v::ws));rw[h1,h3]
  ·have h4:=h4 s;show(((w.re b).toks++s)++sep s (W.toksL (W.reL b (v::ws)))).length=((w.toks++s)++sep s (W.toksL (v::ws))).length;rw[AH,AH,AH,AH,h2,h4]
end
theorem DI (acc y:Str) (h:acc.length+y.length≤100000):D.onto acc (.str y)=pure (acc++y):=LM _ _ (Ag (show(acc++y).length≤100000 by rw[E2];exact h) AB)
theorem EE (y:Str) (h:y.length≤100000):D.fmt (.str y)=pure (.str y):=Zg y (Ag h AB)
theorem dI (a y:Str) (h:a.length+y.length≤100000):D.add (.str a) (.str y)=pure (.str (a++y)):=add_str _ _ (Ag h AB)
theorem Fp:Str.empty=TT []:=rfl
theorem KN (a:List Str) (t:Str):TT a++t=TT (a++[t]):=by rw[←D8,J0]
theorem Fq:Str.empty.length=0:=rfl
theorem J2:("-." :Str).length=2∧("^x" :Str).length=2∧("?x" :Str).length=2∧("!" :Str).length=1∧("." :Str).length=1∧("[" :Str).length=1∧("]" :Str).length=1∧("{" :Str).length=1∧("}" :Str).length=1∧("(" :Str).length=1∧(")" :Str).length=1∧("<" :Str).length=1∧(">" :Str).length=1∧("," :Str).length=1∧(" + " :Str).length=3∧(" | " :Str).length=3∧("?" :Str).length=1∧("^" :Str).length=1∧("-" :Str).length=1∧("x" :Str).length=1∧("0" :Str).length=1∧("=" :Str).length=1∧("#" :Str).length=1:=by decide+kernel
theorem iO:("-." :Str)=TT ["-","."]:=VL AC
theorem dJ (k:Bool):(if k=true then(" + " :Str)else " | ")=TT [" ",C7 k," "]:=by cases k<;>exact VL AC
theorem rq:("?x" :Str)=("?" :Str)++"x" :=VL AC
theorem r9:("^x" :Str)=("^" :Str)++"x" :=VL AC
theorem iP (a b c:Str):a++b++c=a++(b++c):=VL (by rw[dF,dF,dF,dF,Al])
theorem UK (i:Nat) (h:i<100):D.fmt (.int (i:Int))=pure (.str (toString (i:Int))):=dG _ AA AA
theorem dM {b:List Str} {x:Str} (hb:Binds b) (hl:b.length≤50) (h:DR b x):OP [meant b x,.int (b.length:Int)]=pure (.str (rx b x)):=by
 show M.noexc (gW (DE 2 [meant b x,.int (b.length:Int)])>>=endOf)=_;have e0:DE 2 [meant b x,.int (b.length:Int)]=[some (meant b x),some (.int (b.length:Int))]:=rfl;rw[e0];unfold meant rx;by_cases c:x∈b
 ·have h1:b.idxOf x<b.length:=Bw.mpr c;rw[An c,An c];simp only[Cm,gW,EI "str" (.int (b.idxOf x:Nat)) "int" false rfl rfl rfl];have e:(b.length:Int) - 1 - (b.idxOf x:Nat)=((b.length - 1 - b.idxOf x:Nat):Int):=by omega
  rw[e];have hx:=Fm (b.length - 1 - b.idxOf x) AA;simp only[Cm,DI Str.empty "x" (by rw[Fq];decide+kernel),UK (b.length - 1 - b.idxOf x) AA,iJ,DI "x" (toString ((b.length - 1 - b.idxOf x:Nat):Int):Str) (by rw[show("x" :Str).length=1 by decide+kernel];omega)];rfl
 ·rw[Aq c,Aq c];simp only[Cm,gW,EI "str" (.str x) "str" true rfl rfl rfl]
abbrev WR:List (Str×D):=[("stop",.nam "stop_text"),("tick",.nam "tick_text"),("send",.nam "send_text"),("hear",.nam "hear_text"),("if",.nam "test_text"),("unless",.nam "test_text"),("pick",.nam "pick_text"),("beside",.nam "beside_text"),("new",.nam "new_text"),("call",.nam "call_text")]
abbrev GS (f:Nat):List (Str×(List D->M D)):=[("stop_text",gX),("tick_text",Gg f),("send_text",Gh f),("hear_text",Gi f),("test_text",GV f),("pick_text",Gk f),("beside_text",Gm f),("new_text",Gj f),("call_text",gY)]
theorem Yy {f:Nat} {kw y:Str} {rest:List D} {n R:D} {g:List D->M D} (h1:D.ixTab WR (.str kw)=pure (.nam y)) (h2:KY (GS f) y=some g) (h3:g [.tup (.str kw::rest),n]=pure R):Ep (f+1) [.tup (.str kw::rest),n]=pure R:=by
 show M.noexc (kG (Gg f) (Gh f) (Gi f) (GV f) (Gj f) (HR f) (Gk f) (Gm f) (Ep f) (DE 3 [.tup (.str kw::rest),n])>>=endOf)=_;have e0:DE 3 [.tup (.str kw::rest),n]=[some (.tup (.str kw::rest)),some n,none]:=rfl;rw[e0];have hw:∀fs:Mir.Env->M (List D),OJ 2 2 (GS f) fs [some (.tup (.str kw::rest)),some n,some (.nam y)]=(fs [some (.tup (.str kw::rest)),some n,some (.nam y)]>>=λds=>M.guard (decide (ds.length=2))>>=λ_=>g ds):=λfs=>by
  show(match KY (GS f) y with
   |some g=>fs _>>=λds=>M.guard (decide (ds.length=2))>>=λ_=>g ds
   |none=>M.bad)=_
  rw[h2]
 simp only[Cm,kG];rw[Dv,Ey]
 try simp only[Cm,h1]
 rw[hw]
 try simp only[Cm,h3]
theorem Oq (t n:D):gX [t,n]=pure (.str (TT ["0"])):=by
 rw[J0];rfl
theorem Os {b xs:List Str} {c:Str} (hb:Binds b) (hl:b.length≤50) (hc:ER c.cps.toList=true) (h4:xs.length≤4) (hx:∀x,x∈xs->DR b x) (hr:∀x,x∈xs->B6 (rx b x)):
 gY [.tup [.str "call",.str c,.tup (xs.map (meant b))],.int (b.length:Int)]=pure (.str (TT (([c,"<"]:List Str)++sep [("," :Str)] ((xs.map (rx b)).map λx=>[x])++[(">" :Str)]))):=by
 show M.noexc (j4 (DE 6 [.tup [.str "call",.str c,.tup (xs.map (meant b))],.int (b.length:Int)])>>=endOf)=_;have e0:DE 6 [.tup [.str "call",.str c,.tup (xs.map (meant b))],.int (b.length:Int)]=[some (.tup [.str "call",.str c,.tup (xs.map (meant b))]),some (.int (b.length:Int)),none,none,none,none]:=rfl;rw[e0];have hs:∀t,t∈sep [(",":Str)] ((xs.map (rx b)).map λx=>[x])->B6 t:=bP (Fo (Ez _ AD) Dk) λts hts=>by
  obtain⟨y,hy,rfl⟩:=AY.mp hts;obtain⟨x,hx',rfl⟩:=AY.mp hy;exact Fo (hr x hx') Dk
 have hn:(sep [(",":Str)] ((xs.map (rx b)).map λx=>[x])).length≤20:=by
  cases xs with
  |nil=>simp[sep]
  |cons x xs=>
   rw[AO,AO,dE,HZ,AH,Fi,AJ,AX];rw[AI]at h4;omega
 have ht:=(QZ hs).2;have hcl:=Ib hc;obtain⟨l0,l1,l2⟩:("<" :Str).length=1∧(">" :Str).length=1∧("," :Str).length=1:=by decide+kernel
 have hj:D.join "," (.lst (xs.map λx=> .str (rx b x)))=pure (.str (TT (sep [("," :Str)] ((xs.map (rx b)).map λx=>[x])))):=by
  have:=Kt (s:=[(",":Str)]) (a:=",") ((xs.map (rx b)).map λx=>[x]) (J0 _).symm AA (by rw[AJ,AJ];omega) AC;rw[Am,Am]at this;rw[←this]
  congr 2
  refine BD λx _=>?_;show D.str (rx b x)=D.str (TT [rx b x]);rw[J0]
 simp only[Cm,j4];rw[show D.unpack 3 (.tup [.str "call",.str c,.tup (xs.map (meant b))])=pure [.str "call",.str c,.tup (xs.map (meant b))]from(rfl)]
 try simp only[Cm,EE c AA,DI Str.empty c (by rw[Fq];omega),DI (Str.empty++c) "<" (by rw[E2,Fq];omega)]
 rw[HN (ds:=xs.map (meant b)) (λd=>match d with
  | .str x=> .str x
  | .int i=> .str (xn (b.length - 1 - i.toNat))
  |_=> .non) (by simp only[Cm];exact Wm _) (λd hd=>?_) (by rw[AJ];omega)]
 ·have em:(xs.map (meant b)).map (λd=>match d with
   | .str x=>D.str x
   | .int i=> .str (xn (b.length - 1 - i.toNat))
   |_=> .non)=xs.map λx=> .str (rx b x):=by
   rw[Am];refine BD λx _=>?_;show(match meant b x with
    | .str x=>D.str x
    | .int i=> .str (xn (b.length - 1 - i.toNat))
    |_=> .non)=_
   by_cases q:x∈b
   ·simp only[meant,rx,An q];rfl
   ·simp only[meant,rx,Aq q]
  rw[em];have o5:=DI (Str.empty++c++"<") (TT (sep [(",":Str)] ((xs.map (rx b)).map λx=>[x]))) (by simp only[E2,Fq];omega);have o6:=DI (Str.empty++c++"<"++TT (sep [(",":Str)] ((xs.map (rx b)).map λx=>[x]))) ">" (by simp only[E2,Fq];omega);have o4:=EE (TT (sep [(",":Str)] ((xs.map (rx b)).map λx=>[x]))) AA
  try simp only[Cm,hj,o4,o5,o6]
  rw[Fp,KN,KN,D8,KN];rfl
 ·obtain⟨x,hx',rfl⟩:=AY.mp hd;refine⟨_,RH 5,?_⟩
  try simp only[Cm]
  rw[dM hb hl (hx x hx')];by_cases q:x∈b
  ·simp only[meant,rx,An q];rfl
  ·simp only[meant,rx,Aq q]
theorem add1 (n:Nat):(n:Int)+1=((n+1:Nat):Int):=by omega
theorem Ot {g n:Nat} {v:D} {u:List Str} (h:Ep g [v,.int (n:Int)]=pure (.str (TT u))) (hu:(TT u).length≤60000):Gg (g+1) [.tup [.str "tick",v],.int (n:Int)]=pure (.str (TT (("-" :Str)::"." ::u))):=by
 show M.noexc (j6 (Gg g) (Gh g) (Gi g) (GV g) (Gj g) (HR g) (Gk g) (Gm g) (Ep g) (DE 2 [.tup [.str "tick",v],.int (n:Int)])>>=endOf)=_;have e0:DE 2 [.tup [.str "tick",v],.int (n:Int)]=[some (.tup [.str "tick",v]),some (.int (n:Int))]:=rfl;rw[e0];obtain⟨l1,l2,l3,l4,l5,l6,l7,l8,l9,l10,l11,l12,l13,l14,l15,l16,l17,l18,l19,l20,l21,l22,l23⟩:=J2;have ix:atI [D.str "tick",v] 1=some v:=rfl;have o0:=DI (Str.empty) "-." (by simp only[E2,Fq];omega);have o1:=DI (Str.empty++"-.") (TT u) (by simp only[E2,Fq];omega);simp only[Cm,j6];simp only[Cm,Dv,ix,h,EE _ (Ag hu AB),Ed,o0,o1];rw[iJ,iO,D8];rfl
theorem Ou {g n:Nat} {a c v:D} {x y:Str} {u:List Str} (ha:OP [a,.int (n:Int)]=pure (.str x)) (hc:OP [c,.int (n:Int)]=pure (.str y)) (h:Ep g [v,.int (n:Int)]=pure (.str (TT u))) (hx:x.length≤6) (hy:y.length≤6) (hu:(TT u).length≤60000):Gh (g+1) [.tup [.str "send",a,c,v],.int (n:Int)]=pure (.str (TT (x::("!" :Str)::y::"." ::u))):=by
 show M.noexc (j7 (Gg g) (Gh g) (Gi g) (GV g) (Gj g) (HR g) (Gk g) (Gm g) (Ep g) (DE 6 [.tup [.str "send",a,c,v],.int (n:Int)])>>=endOf)=_;have e0:DE 6 [.tup [.str "send",a,c,v],.int (n:Int)]=[some (.tup [.str "send",a,c,v]),some (.int (n:Int)),none,none,none,none]:=rfl;rw[e0];obtain⟨l1,l2,l3,l4,l5,l6,l7,l8,l9,l10,l11,l12,l13,l14,l15,l16,l17,l18,l19,l20,l21,l22,l23⟩:=J2;have o0:=DI (Str.empty) x (by simp only[E2,Fq];omega);have o1:=DI (Str.empty++x) "!" (by simp only[E2,Fq];omega);have o2:=DI (Str.empty++x++"!") y (by simp only[E2,Fq];omega);have o3:=DI (Str.empty++x++"!"++y) "." (by simp only[E2,Fq];omega);have o4:=DI (Str.empty++x++"!"++y++".") (TT u) (by simp only[E2,Fq];omega);simp only[Cm,j7];rw[show D.unpack 4 (.tup [.str "send",a,c,v])=pure [.str "send",a,c,v]from(rfl)];simp only[Cm,ha,hc,h,EE x AA,EE y AA,EE _ (Ag hu AB),o0,o1,o2,o3,o4];rw[Fp,KN,KN,KN,KN,D8];rfl
theorem Mg {g n:Nat} {a c v:D} {x y:Str} {u:List Str} (ha:OP [a,.int (n:Int)]=pure (.str x)) (hc:OP [c,.int (n:Int)]=pure (.str y)) (h:Ep g [v,.int (n:Int)]=pure (.str (TT u))) (hx:x.length≤6) (hy:y.length≤6) (hu:(TT u).length≤60000):GV (g+1) [.tup [.str "if",a,c,v],.int (n:Int)]=pure (.str (TT (("[" :Str)::x::"=" ::y::"]" ::u))):=by
 show M.noexc (cu (Gg g) (Gh g) (Gi g) (GV g) (Gj g) (HR g) (Gk g) (Gm g) (Ep g) (DE 7 [.tup [.str "if",a,c,v],.int (n:Int)])>>=endOf)=_;have e0:DE 7 [.tup [.str "if",a,c,v],.int (n:Int)]=[some (.tup [.str "if",a,c,v]),some (.int (n:Int)),none,none,none,none,none]:=rfl;rw[e0];obtain⟨l1,l2,l3,l4,l5,l6,l7,l8,l9,l10,l11,l12,l13,l14,l15,l16,l17,l18,l19,l20,l21,l22,l23⟩:=J2;have ek:(("if" :Str)==("if" :Str))=true:=by decide+kernel
 have fs:=EE "=" AA;have o0:=DI (Str.empty) "[" (by simp only[E2,Fq];omega);have o1:=DI (Str.empty++"[") x (by simp only[E2,Fq];omega);have o2:=DI (Str.empty++"["++x) "=" (by simp only[E2,Fq];omega);have o3:=DI (Str.empty++"["++x++"=") y (by simp only[E2,Fq];omega);have o4:=DI (Str.empty++"["++x++"="++y) "]" (by simp only[E2,Fq];omega);have o5:=DI (Str.empty++"["++x++"="++y++"]") (TT u) (by simp only[E2,Fq];omega);simp only[Cm,cu];rw[show D.unpack 4 (.tup [.str "if",a,c,v])=pure [.str "if",a,c,v]from(rfl)];simp only[Cm,eq_str,ek,ha,hc,h,EE x AA,EE y AA,fs,EE _ (Ag hu AB),o0,o1,o2,o3,o4,o5];rw[Fp,KN,KN,KN,KN,KN,D8];rfl
theorem Mh {g n:Nat} {a c v:D} {x y:Str} {u:List Str} (ha:OP [a,.int (n:Int)]=pure (.str x)) (hc:OP [c,.int (n:Int)]=pure (.str y)) (h:Ep g [v,.int (n:Int)]=pure (.str (TT u))) (hx:x.length≤6) (hy:y.length≤6) (hu:(TT u).length≤60000):GV (g+1) [.tup [.str "unless",a,c,v],.int (n:Int)]=pure (.str (TT (("[" :Str)::x::"#" ::y::"]" ::u))):=by
 show M.noexc (cu (Gg g) (Gh g) (Gi g) (GV g) (Gj g) (HR g) (Gk g) (Gm g) (Ep g) (DE 7 [.tup [.str "unless",a,c,v],.int (n:Int)])>>=endOf)=_;have e0:DE 7 [.tup [.str "unless",a,c,v],.int (n:Int)]=[some (.tup [.str "unless",a,c,v]),some (.int (n:Int)),none,none,none,none,none]:=rfl;rw[e0];obtain⟨l1,l2,l3,l4,l5,l6,l7,l8,l9,l10,l11,l12,l13,l14,l15,l16,l17,l18,l19,l20,l21,l22,l23⟩:=J2;have ek:(("unless" :Str)==("if" :Str))=false:=by decide+kernel
 have fs:=EE "#" AA;have o0:=DI (Str.empty) "[" (by simp only[E2,Fq];omega);have o1:=DI (Str.empty++"[") x (by simp only[E2,Fq];omega);have o2:=DI (Str.empty++"["++x) "#" (by simp only[E2,Fq];omega);have o3:=DI (Str.empty++"["++x++"#") y (by simp only[E2,Fq];omega);have o4:=DI (Str.empty++"["++x++"#"++y) "]" (by simp only[E2,Fq];omega);have o5:=DI (Str.empty++"["++x++"#"++y++"]") (TT u) (by simp only[E2,Fq];omega);simp only[Cm,cu];rw[show D.unpack 4 (.tup [.str "unless",a,c,v])=pure [.str "unless",a,c,v]from(rfl)];simp only[Cm,eq_str,ek,ha,hc,h,EE x AA,EE y AA,fs,EE _ (Ag hu AB),o0,o1,o2,o3,o4,o5];rw[Fp,KN,KN,KN,KN,KN,D8];rfl
theorem Ov {g n:Nat} {a v:D} {x:Str} {u:List Str} (hn:n<100) (ha:OP [a,.int (n:Int)]=pure (.str x)) (h:Ep g [v,.int ((n:Int)+1)]=pure (.str (TT u))) (hx:x.length≤6) (hu:(TT u).length≤60000):Gi (g+1) [.tup [.str "hear",a,v],.int (n:Int)]=pure (.str (TT (x::("?" :Str)::xn n::"." ::u))):=by
 show M.noexc (j8 (Gg g) (Gh g) (Gi g) (GV g) (Gj g) (HR g) (Gk g) (Gm g) (Ep g) (DE 5 [.tup [.str "hear",a,v],.int (n:Int)])>>=endOf)=_;have e0:DE 5 [.tup [.str "hear",a,v],.int (n:Int)]=[some (.tup [.str "hear",a,v]),some (.int (n:Int)),none,none,none]:=rfl;rw[e0];obtain⟨l1,l2,l3,l4,l5,l6,l7,l8,l9,l10,l11,l12,l13,l14,l15,l16,l17,l18,l19,l20,l21,l22,l23⟩:=J2;have ln:=Fm n AA;have o0:=DI (Str.empty) x (by simp only[E2,Fq];omega);have o1:=DI (Str.empty++x) "?x" (by simp only[E2,Fq];omega);have o2:=DI (Str.empty++x++"?x") (toString (n:Int):Str) (by simp only[E2,Fq];omega);have o3:=DI (Str.empty++x++"?x"++(toString (n:Int):Str)) "." (by simp only[E2,Fq];omega);have o4:=DI (Str.empty++x++"?x"++(toString (n:Int):Str)++".") (TT u) (by simp only[E2,Fq];omega);simp only[Cm,j8];rw[show D.unpack 3 (.tup [.str "hear",a,v])=pure [.str "hear",a,v]from(rfl)];simp only[Cm,ha,h,EE x AA,UK n hn,EE _ (Ag hu AB),o0,o1,o2,o3,o4];have e:Str.empty++x++"?x"++(toString (n:Int):Str)=Str.empty++x++"?"++xn n:=by
  rw[rq,←iP,iP (Str.empty++x++"?")];rfl
 rw[e,Fp,KN,KN,KN,KN,D8];rfl
theorem Qc {g n:Nat} {v:D} {u:List Str} (hn:n<100) (h:Ep g [v,.int ((n:Int)+1)]=pure (.str (TT u))) (hu:(TT u).length≤60000):Gj (g+1) [.tup [.str "new",v],.int (n:Int)]=pure (.str (TT (("^" :Str)::xn n::"." ::u))):=by
 show M.noexc (kA (Gg g) (Gh g) (Gi g) (GV g) (Gj g) (HR g) (Gk g) (Gm g) (Ep g) (DE 2 [.tup [.str "new",v],.int (n:Int)])>>=endOf)=_;have e0:DE 2 [.tup [.str "new",v],.int (n:Int)]=[some (.tup [.str "new",v]),some (.int (n:Int))]:=rfl;rw[e0];obtain⟨l1,l2,l3,l4,l5,l6,l7,l8,l9,l10,l11,l12,l13,l14,l15,l16,l17,l18,l19,l20,l21,l22,l23⟩:=J2;have ln:=Fm n AA;have ix:atI [D.str "new",v] 1=some v:=rfl;have o0:=DI (Str.empty) "^x" (by simp only[E2,Fq];omega);have o1:=DI (Str.empty++"^x") (toString (n:Int):Str) (by simp only[E2,Fq];omega);have o2:=DI (Str.empty++"^x"++(toString (n:Int):Str)) "." (by simp only[E2,Fq];omega);have o3:=DI (Str.empty++"^x"++(toString (n:Int):Str)++".") (TT u) (by simp only[E2,Fq];omega);simp only[Cm,kA];simp only[Cm,Dv,ix,Ed,h,UK n hn,EE _ (Ag hu AB),o0,o1,o2,o3];have e:Str.empty++"^x"++(toString (n:Int):Str)=Str.empty++"^"++xn n:=by
  rw[r9,←iP,iP (Str.empty++"^")];rfl
 rw[e,Fp,KN,KN,KN,D8];rfl
theorem MD {T:Type} {fe:Mir.Env->M D} {i:Nat} {ρ:Mir.Env} (p q:T->D):∀(ps:List T) (acc:List D),(∀a,a∈ps->fe (ρ.set i (some (p a)))=pure (q a))->ps.length+acc.length≤100000->EA (Cq i) DD fe ρ (ps.map p) acc=pure (acc++ps.map q)
 |[],acc,_,_=>by simp[EA]
 |a::ps,acc,h,hl=>by
  rw[AI]at hl;show(fe (ρ.set i (some (p a)))>>=λy=>M.guard (decide (acc.length<sizeLine))>>=λ_=>EA (Cq i) DD fe ρ (ps.map p) (acc++[y]))=_;rw[h a AG,Dm,Iu (BA (show acc.length<100000 by omega) AB),Dm,MD p q ps _ (λz hz=>h z (AF _ hz)) (by rw[AH,AX];omega)];simp
theorem KO {T:Type} {fi:Mir.Env->M (List D×Option Nat)} {fe:Mir.Env->M D} {i:Nat} {ρ:Mir.Env} {ps:List T} (p q:T->D) (hi:fi ρ=pure (ps.map p,none)) (h:∀a,a∈ps->fe ((DB ρ [i]).set i (some (p a)))=pure (q a)) (hl:ps.length≤100000):Du fi (Cq i) DD fe [i] ρ=pure (ps.map q):=by
 unfold Du;rw[hi,Dm,Uq,Dm,MD p q ps [] h (by simpa using hl),Za];rfl
theorem Qd {g n:Nat} {b:List Str} {kw:Str} {ps:List W} (hl:ps.length≤1000) (h:∀v,v∈ps->Ep g [v.mean b,.int (n:Int)]=pure (.str (TT (v.re b).toks))):HR (g+1) [.tup [.str kw,.tup (ps.map (W.mean b))],.int (n:Int)]=pure (.lst (ps.map λv=> .str (TT (v.re b).toks))):=by
 show M.noexc (kB (Gg g) (Gh g) (Gi g) (GV g) (Gj g) (HR g) (Gk g) (Gm g) (Ep g) (DE 3 [.tup [.str kw,.tup (ps.map (W.mean b))],.int (n:Int)])>>=endOf)=_;have e0:DE 3 [.tup [.str kw,.tup (ps.map (W.mean b))],.int (n:Int)]=[some (.tup [.str kw,.tup (ps.map (W.mean b))]),some (.int (n:Int)),none]:=rfl;rw[e0];have ix:atI [D.str kw,.tup (ps.map (W.mean b))] 1=some (.tup (ps.map (W.mean b))):=rfl;simp only[Cm,kB];rw[KO (ps:=ps) (W.mean b) (λv=> .str (TT (v.re b).toks)) (by simp only[Cm,Dv,ix];exact Wm _) (λv hv=>by simp only[Cm];exact h v hv) AA];simp only[Cm]
theorem Ow {g n:Nat} {b:List Str} {ps:List W} (hl:ps.length≤1000) (h:∀v,v∈ps->Ep g [v.mean b,.int (n:Int)]=pure (.str (TT (v.re b).toks))) (hs:(TT (sep [(" " :Str),C7 true," "] (ps.map λv=>(v.re b).toks))).length≤60000):
 Gk (g+1+1) [.tup [.str (DF true),.tup (ps.map (W.mean b))],.int (n:Int)]=pure (.str (TT ([EN true]++sep [(" " :Str),C7 true," "] (ps.map λv=>(v.re b).toks)++[De true]))):=by
 show M.noexc (kE (Gg (g+1)) (Gh (g+1)) (Gi (g+1)) (GV (g+1)) (Gj (g+1)) (HR (g+1)) (Gk (g+1)) (Gm (g+1)) (Ep (g+1)) (DE 2 [.tup [.str (DF true),.tup (ps.map (W.mean b))],.int (n:Int)])>>=endOf)=_;have e0:DE 2 [.tup [.str (DF true),.tup (ps.map (W.mean b))],.int (n:Int)]=[some (.tup [.str (DF true),.tup (ps.map (W.mean b))]),some (.int (n:Int))]:=rfl;rw[e0];obtain⟨l0,l1⟩:("{" :Str).length=1∧("}" :Str).length=1:=by decide+kernel
 have hp:=Qd (kw:=DF true) hl h;have hj:D.join " + " (.lst (ps.map λv=> .str (TT (v.re b).toks)))=pure (.str (TT (sep [(" " :Str),C7 true," "] (ps.map λv=>(v.re b).toks)))):=by
  have:=Kt (s:=[(" " :Str),C7 true," "]) (a:=" + ") (ps.map λv=>(v.re b).toks) (dJ true) AA (by rw[AJ];exact hl) AC;rw[Am]at this;exact this
 generalize sep [(" " :Str),C7 true," "] (ps.map λv=>(v.re b).toks)=T at hs hj ⊢;have o1:=dI "{" (TT T) AA;have o2:=dI ("{"++TT T) "}" (by simp only[E2];omega);simp only[Cm,kE,hp,hj,o1,o2];rw[Ks,KN];rfl
theorem ME {g n:Nat} {b:List Str} {ps:List W} (hl:ps.length≤1000) (h:∀v,v∈ps->Ep g [v.mean b,.int (n:Int)]=pure (.str (TT (v.re b).toks))) (hs:(TT (sep [(" " :Str),C7 false," "] (ps.map λv=>(v.re b).toks))).length≤60000):
 Gm (g+1+1) [.tup [.str (DF false),.tup (ps.map (W.mean b))],.int (n:Int)]=pure (.str (TT ([EN false]++sep [(" " :Str),C7 false," "] (ps.map λv=>(v.re b).toks)++[De false]))):=by
 show M.noexc (kF (Gg (g+1)) (Gh (g+1)) (Gi (g+1)) (GV (g+1)) (Gj (g+1)) (HR (g+1)) (Gk (g+1)) (Gm (g+1)) (Ep (g+1)) (DE 2 [.tup [.str (DF false),.tup (ps.map (W.mean b))],.int (n:Int)])>>=endOf)=_;have e0:DE 2 [.tup [.str (DF false),.tup (ps.map (W.mean b))],.int (n:Int)]=[some (.tup [.str (DF false),.tup (ps.map (W.mean b))]),some (.int (n:Int))]:=rfl;rw[e0];obtain⟨l0,l1⟩:("(" :Str).length=1∧(")" :Str).length=1:=by decide+kernel
 have hp:=Qd (kw:=DF false) hl h;have hj:D.join " | " (.lst (ps.map λv=> .str (TT (v.re b).toks)))=pure (.str (TT (sep [(" " :Str),C7 false," "] (ps.map λv=>(v.re b).toks)))):=by
  have:=Kt (s:=[(" " :Str),C7 false," "]) (a:=" | ") (ps.map λv=>(v.re b).toks) (dJ false) AA (by rw[AJ];exact hl) AC;rw[Am]at this;exact this
 generalize sep [(" " :Str),C7 false," "] (ps.map λv=>(v.re b).toks)=T at hs hj ⊢;have o0:=DI Str.empty "(" (by simp only[Fq];omega);have o1:=DI (Str.empty++"(") (TT T) (by simp only[E2,Fq];omega);have o2:=DI (Str.empty++"("++TT T) ")" (by simp only[E2,Fq];omega);have o3:=EE (TT T) AA;simp only[Cm,kF,hp,hj,o0,o1,o2,o3];rw[iJ,Ks,KN];rfl
theorem SI (s:List Str):∀{tss:List (List Str)} {x:List Str},x∈tss->x.length≤(sep s tss).length
 |[y],x,h=>by rw[AR.mp h];exact Ai _
 |y::z::tss,x,h=>by
  show x.length≤(y++s++sep s (z::tss)).length;rw[AH,AH];rcases AQ.mp h with rfl|h
  ·omega
  ·have:=SI s h;omega
theorem Ig {w:W} {b:List Str} (hl:b.length+w.dep≤24) (hg:w.Good b):(TT (w.re b).toks).length≤6*w.toks.length:=by
 have h1:=(FI w b AA hg).2;have h2:=(QZ (FH (w.re b) (xw b.length) (MC AA) h1)).2;rw[(FR w b).2]at h2;exact h2
theorem NY {b:List Str} {x:Str} (hl:b.length≤30) (h:DR b x):B6 (rx b x):=dH (MC (k:=b.length) AA) (Va hl h).2
theorem Vb:∀(f:Nat) (w:W) (b:List Str),3*w.dep+3≤f->Binds b->b.length+w.dep≤24->w.toks.length≤3000->w.Good b->Ep f [w.mean b,.int (b.length:Int)]=pure (.str (TT (w.re b).toks)):=by
 intro f
 induction f using Nat.strongRecOn with
 |_ f ih=>
 intro w b hf hb hl ht hg;obtain⟨f,rfl⟩:∃g,f=g+1:=⟨f - 1,AA⟩
 cases w with
 |stop=>
  rw[W.mean,W.re,W.toks];exact Yy (g:=gX) (y:="stop_text") (rfl) (rfl) (Oq _ _)
 |call c xs=>
  rw[W.mean,W.re,W.toks];exact Yy (g:=gY) (y:="call_text") (rfl) (rfl) (Os hb AA hg.1 hg.2.1 hg.2.2 λx hx=>NY AA (hg.2.2 x hx))
 |rows k ps=>
  have hf' :3*(W.depL ps+1)+3≤f+1:=hf;have hl' :b.length+(W.depL ps+1)≤24:=hl;obtain⟨g,rfl⟩:∃g,f=g+1+1:=⟨f - 2,AA⟩;have h40:ps.length≤40:=hg.1;have hlen:=Ig hl hg;have ht' :(sep [(" " :Str),C7 k," "] (ps.map W.toks)).length≤3000:=by
   simp only[W.toks,iE,AH]at ht;omega
  have et:(W.rows k ps).re b= .rows k (ps.map (W.re b)):=by rw[W.re,Oo]
  have ht2:((W.rows k ps).re b).toks=[EN k]++sep [(" " :Str),C7 k," "] (ps.map λv=>(v.re b).toks)++[De k]:=by
   rw[et,W.toks,iE,Am];rfl
  have hs:(TT (sep [(" " :Str),C7 k," "] (ps.map λv=>(v.re b).toks))).length≤60000:=by
   rw[ht2,←D8,←D8,E2,E2]at hlen;omega
  rw[ht2,W.mean,UC];have hv:∀v,v∈ps->Ep g [v.mean b,.int (b.length:Int)]=pure (.str (TT (v.re b).toks)):=λv hv=>ih g AA v b (by have:=UF v hv;omega) hb (by have:=UF v hv;omega) (by have:=SI [(" " :Str),C7 k," "] (BL (f:=W.toks) hv);omega) (YB hg.2 v hv)
  cases k with
  |true=>exact Yy (g:=Gk (g+1+1)) (y:="pick_text") (rfl) (rfl) (Ow AA hv hs)
  |false=>exact Yy (g:=Gm (g+1+1)) (y:="beside_text") (rfl) (rfl) (ME AA hv hs)
 |tick w=>
  have hf' :3*(w.dep+1)+3≤f+1:=hf;have hl' :b.length+(w.dep+1)≤24:=hl;obtain⟨g,rfl⟩:∃g,f=g+1:=⟨f - 1,AA⟩;have ht' :w.toks.length≤3000:=by
   simp only[W.toks,AH]at ht;omega
  have hi:=ih g AA w b AA hb AA ht' hg;have hu:=Ig (w:=w) (b:=b) AA hg;rw[W.mean,W.re,W.toks];exact Yy (g:=Gg (g+1)) (y:="tick_text") (rfl) (rfl) (Ot (u:=(w.re b).toks) hi AA)
 |send x y w=>
  have hf' :3*(w.dep+1)+3≤f+1:=hf;have hl' :b.length+(w.dep+1)≤24:=hl;obtain⟨g,rfl⟩:∃g,f=g+1:=⟨f - 1,AA⟩;have ht' :w.toks.length≤3000:=by
   simp only[W.toks,AH]at ht;omega
  have hi:=ih g AA w b AA hb AA ht' hg.2.2;have hu:=Ig (w:=w) (b:=b) AA hg.2.2;rw[W.mean,W.re,W.toks];exact Yy (g:=Gh (g+1)) (y:="send_text") (rfl) (rfl) (Ou (u:=(w.re b).toks) (dM hb AA hg.1) (dM hb AA hg.2.1) hi (NY AA hg.1).2 (NY AA hg.2.1).2 AA)
 |test k x y w=>
  have hf' :3*(w.dep+1)+3≤f+1:=hf;have hl' :b.length+(w.dep+1)≤24:=hl;obtain⟨g,rfl⟩:∃g,f=g+1:=⟨f - 1,AA⟩;have ht' :w.toks.length≤3000:=by
   simp only[W.toks,AH]at ht;omega
  have hi:=ih g AA w b AA hb AA ht' hg.2.2;have hu:=Ig (w:=w) (b:=b) AA hg.2.2;rw[W.mean,W.re,W.toks];have rx1:=(NY (show b.length≤30 by omega) hg.1).2;have rx2:=(NY (show b.length≤30 by omega) hg.2.1).2
  cases k with
  |true=>exact Yy (g:=GV (g+1)) (y:="test_text") (rfl) (rfl) (Mg (u:=(w.re b).toks) (dM hb AA hg.1) (dM hb AA hg.2.1) hi rx1 rx2 AA)
  |false=>exact Yy (g:=GV (g+1)) (y:="test_text") (rfl) (rfl) (Mh (u:=(w.re b).toks) (dM hb AA hg.1) (dM hb AA hg.2.1) hi rx1 rx2 AA)
 |new o w=>
  have hf' :3*(w.dep+1)+3≤f+1:=hf;have hl' :b.length+(w.dep+1)≤24:=hl;obtain⟨g,rfl⟩:∃g,f=g+1:=⟨f - 1,AA⟩;have ht' :w.toks.length≤3000:=by
   simp only[W.toks,AH]at ht;omega
  have hi:=ih g AA w (o::b) AA (T6 hb hg.1) (by rw[AI];omega) ht' hg.2;have hu:=Ig (w:=w) (b:=(o::b)) (by rw[AI];omega) hg.2;rw[W.mean,W.re,W.toks];exact Yy (g:=Gj (g+1)) (y:="new_text") (rfl) (rfl) (Qc (u:=(w.re (o::b)).toks) AA hi AA)
 |hear x o w=>
  have hf' :3*(w.dep+1)+3≤f+1:=hf;have hl' :b.length+(w.dep+1)≤24:=hl;obtain⟨g,rfl⟩:∃g,f=g+1:=⟨f - 1,AA⟩;have ht' :w.toks.length≤3000:=by
   simp only[W.toks,AH]at ht;omega
  have hi:=ih g AA w (o::b) AA (T6 hb hg.2.1) (by rw[AI];omega) ht' hg.2.2;have hu:=Ig (w:=w) (b:=(o::b)) (by rw[AI];omega) hg.2.2;rw[W.mean,W.re,W.toks];exact Yy (g:=Gi (g+1)) (y:="hear_text") (rfl) (rfl) (Ov (u:=(w.re (o::b)).toks) AA (dM hb AA hg.1) hi (NY AA hg.1).2 AA)
mutual
def wt:D->Nat
 | .str x=>x.length
 | .tup ds=>lC ds
 | .lst ds=>lC ds
 |_=>0
def lC:List D->Nat
 |[]=>0
 |d::ds=>wt d+1+lC ds
end
theorem shown_int {i:Int} (h:i.natAbs≤10 ^ 39+1000):(PyData.shown (.int i)).length≤45:=by
 have e:=int_text_length_le10 (k:=40) AB (a:=i) (Bm h AC);show(Str.ofString (toString i)).length≤45;rw[ofString_length];omega
theorem SJ:∀{ds:List D},(∀d,d∈ds->∃p,d.py=some p∧p.leavesShort 45=true∧p.bulk=wt d)->∃ps,D.pys ds=some ps∧PyData.leavesShortAll 45 ps=true∧PyData.bulkAll ps=lC ds
 |[],_=>⟨[],by unfold D.pys;rfl,by simp only[PyData.leavesShortAll],by simp only[PyData.bulkAll,lC]⟩
 |d::ds,h=>by
  obtain⟨p,e1,s1,b1⟩:=h d AG;obtain⟨ps,e2,s2,b2⟩:=SJ (ds:=ds) λx hx=>h x (AF _ hx);refine⟨p::ps,?_,?_,?_⟩
  ·unfold D.pys;rw[e1,e2]
  ·simp only[PyData.leavesShortAll,s1,s2];rfl
  ·simp only[PyData.bulkAll,lC,b1,b2]
theorem Sh.py {L:Nat} (hL:L≤1000):∀{k:Nat} {d:D},Sh L k d->∃p,d.py=some p∧p.leavesShort 45=true∧p.bulk=wt d:=by
 intro k d h
 induction h with
 |non k=>exact⟨_,rfl,by simp only[PyData.leavesShort],by simp only[PyData.bulk,wt]⟩
 |bl k b=>exact⟨_,rfl,by simp only[PyData.leavesShort],by simp only[PyData.bulk,wt]⟩
 |int k h=>exact⟨_,rfl,by simp only[PyData.leavesShort];exact AK (shown_int AA),by simp only[PyData.bulk,wt]⟩
 |@str k x h1 h2=>exact⟨_,rfl,PyData.leavesShort_of_canLay0 45 (.str x) (by simp only[PyData.canLay0];exact h1) (by simp only[PyData.intsShort]),by simp only[PyData.bulk,wt];rfl⟩
 |tup h hl ih=>
  obtain⟨ps,e,s,b⟩:=SJ ih;exact⟨.tuple ps,by unfold D.py;rw[e];rfl,by simp only[PyData.leavesShort];exact s,by simp only[PyData.bulk,wt];exact b⟩
 |lst h hl ih=>
  obtain⟨ps,e,s,b⟩:=SJ ih;exact⟨.list ps,by unfold D.py;rw[e];rfl,by simp only[PyData.leavesShort];exact s,by simp only[PyData.bulk,wt];exact b⟩
theorem bQ (a b:D):D.unpack 2 (.tup [a,b])=pure [a,b]:=(rfl)
abbrev ones (xs:List Str):List (List Str):=xs.map λx=>[x]
def D1 (c:Str) (xs:List Str) (w:W):List Str:=([c,"<"]:List Str)++sep [(",":Str)] (ones xs)++([">"," ","="," "]:List Str)++w.toks
theorem bR {c:Str} {xs:List Str} {w:W} (hc:D0 c) (hx:∀x,x∈xs->D0 x) (hw:w.Ok):Xt run (codes (D1 c xs w)).flatten [] false=codes (D1 c xs w):=by
 have e:D1 c xs w=c::"<" ::(sep [(",":Str)] (xs.map λx=>[x])++((">" :Str)::" " ::"=" ::" " ::(w.toks++[]))):=by
  simp[D1]
 have h:Sd (D1 c xs w):=by
  rw[e];exact Ke hc (EO Xw (L4 xs _ hx (EO Xx (Me Oi (Me (Xz true) (Me Oi (QT w [] hw λ_=>trivial)))))))
 exact L3 run _ [] false h
section
variable {rd rw:Nat} {ws:List Str} {A B:Type} {l:List (Nat×MO)} {n:Nat} {t:Str} {rest:List Str} {Q:B->Mu->Prop}
theorem NZ {f:D->M B} {i:Nat} {as:List Str} {x:Str} {L:List (Nat×MO)} (hm:(i,.lst (as.map .str))∈L) (h:Tr (Hs L) (f (.bl (!decide (x∈as)))) Q):Tr (Hs L) (D.notIn (.str x) (.hnd i)>>=f) Q:=by
 show Tr _ ((D.now (.hnd i)>>=D.isIn1 true (.str x))>>=f) _;rw[D5];refine JP hm ?_;have e:(D.isIn1 true (.str x) (.lst (as.map .str)):M D)=pure (.bl (!decide (x∈as))):=by
  have hf:(as.map D.str).all D.flat=true:=by simp[D.flat]
  have e1:((D.str x).flat && (as.map D.str).all D.flat)=true:=by rw[hf];rfl
  show(if((D.str x).flat && (as.map D.str).all D.flat)=true then D.inSeq true (.str x) (as.map D.str)else D.inDeep true (.str x) (as.map D.str))=_;rw[An e1];unfold D.inSeq;rw[e1,Eb,Dm,An rfl,List.any_map,←Tv];rfl
 rw[e,Dm];exact h
theorem bS {as:List Str} (h:∀x,x∈as->Dw x):∀d,d∈as.map D.str->Sh 40 0 d:=λd hd=>by
 obtain⟨x,hx,rfl⟩:=AY.mp hd;have:=HH (h x hx);exact .str 0 (SA this.all) (Ag (EZ this) AB)
theorem MF {i:Nat} {c0:D}:∀(ys as:List Str) (n fuel:Nat) (rest:List Str),(∀y,y∈ys->Dw y)->(∀y,y∈as->Dw y)->(as++ys).Nodup->as.length+ys.length≤4->ys.length<fuel->ws.drop n=(if as=[]then sep [(",":Str)] (ones ys)else ys.flatMap λy=>[(",":Str),y])++(">" :Str)::rest->
 Tr (Hs (RL rd rw ws n ((i,.lst (as.map .str))::l))) (Dz (DA (Ck D.ne (Cw "Reader" "next_word" 1 [] JZ (Cg 0) Ci) (eC (.str ">")))) (Cj (Da (DA (Ck D.ne (Cg 2) (EG Ci))) (Cj (C5 (Cw "Reader" "need" 2 [] NP (Cg 0) (aC (Ck D.lt (eB (d1 D.len) (aC (Cg 2) Ci)) (eC (.int 4))) Ci)))
  (C5 (Dc "Reader" "take" 0 1 2 [0] Ja (Cg 0) Ci (aC (eC (.str ",")) Ci)))) C1)
  (Cj (C5 (Cw "Reader" "need" 2 [] NP (Cg 0) (aC (Ck D.notIn (Cw "Reader" "next_word" 1 [] JZ (Cg 0) Ci) (Cg 2)) Ci)))
  (C5 (Gu (Cg 2) (Cw "Reader" "read_binder" 1 [] aY (Cg 0) Ci))))) fuel [some (.hnd rd),some c0,some (.hnd i)])
  (λfl m=>fl= .nx [some (.hnd rd),some c0,some (.hnd i)]∧Hs (RL rd rw ws (n+(if as=[]then sep [(",":Str)] (ones ys)else ys.flatMap λy=>[(",":Str),y]).length) ((i,.lst ((as++ys).map .str))::l)) m)
 |_,_,_,0,_,_,_,_,_,h,_=>absurd h (Bp _)
 |[],as,n,fuel+1,rest,_,_,_,_,_,hw=>by
  have e:(if as=[]then sep [(",":Str)] (ones [])else([]:List Str).flatMap λy=>[(",":Str),y])=[]:=by split<;>rfl
  rw[e]at hw ⊢;have hw:ws.drop n=(">" :Str)::rest:=hw;unfold Dz;simp only[Cm];refine C4 ?_;refine Dd (JU hw) ?_;simp only[Cm,ne_str,Ak];refine ED λm hm=>⟨rfl,?_⟩;rw[A3];exact hm
 |y::ys,as,n,fuel+1,rest,hy,ha,hnd,h4,hf,hw=>by
  have hym:=hy y AG;rw[AI]at h4 hf;have hni:y∉as:=λq=>by
   rw[Br]at hnd;exact hnd.2.2 y q y AG rfl
  have hnd2:(as++[y]++ys).Nodup:=by rw[Al];exact hnd
  have wy:=HH hym;have ny:(y==">")=false:=AZ.mpr (IB wy 62 AC AC);have ih:=λn' hw'=>MF (i:=i) (c0:=c0) ys (as++[y]) n' fuel rest (λz hz=>hy z (AF _ hz)) (λz hz=>by
   rcases Ap.mp hz with hz|hz
   ·exact ha z hz
   ·rw[AR.mp hz];exact hym) hnd2 (by rw[AH,AX];omega) AA hw'
  rw[Aq (by simp:as++[y]≠[])]at ih;have em:(as++[y]).map D.str=as.map .str++[.str y]:=by rw[Aw];rfl
  rw[em]at ih;by_cases h0:as=[]
  ·subst h0;have es:sep [(",":Str)] (ones (y::ys))=y::ys.flatMap λy=>[(",":Str),y]:=by
    unfold ones;rw[AO,dE,HZ];rfl
   rw[An rfl,es]at hw ⊢;have hw:ws.drop n=y::((ys.flatMap λy=>[(",":Str),y])++(">" :Str)::rest):=hw;have hw1:=FQ hw;unfold Dz;simp only[Cm];refine C4 ?_;refine Dd (JU hw) ?_;simp only[Cm,ne_str,ny];refine SB (k:=1) (ds:=([]:List Str).map .str) (AF _ (AF _ AG)) AB AC ?_
   try simp only[Cm,show(!(([]:List Str).map D.str).isEmpty)=false from rfl]
   refine C4 ?_;refine C4 ?_;refine Dd (JU hw) ?_;refine NZ (i:=i) (as:=[]) (AF _ (AF _ AG)) ?_
   try simp only[Cm,show(!decide (y∈([]:List Str)))=true from rfl,X7]
   refine FD (i:=i) (ds:=([]:List Str).map .str) (AF _ (AF _ AG)) ?_;refine C4 ?_;refine Dd (HY hw hym) ?_;refine Q3 (GJ _) ?_;refine FE AB ?_;refine Q3 (HI _) ?_
   try simp only[Cm]
   refine DV (ih (n+1) hw1) λfl m h=>⟨h.1,?_⟩;have h2:=h.2;rw[show n+(y::ys.flatMap λy=>[(",":Str),y]).length=n+1+(ys.flatMap λy=>[(",":Str),y]).length by rw[AI];omega];exact h2
  ·rw[Aq h0]at hw ⊢;rw[BH]at hw ⊢;have hw:ws.drop n=("," :Str)::y::((ys.flatMap λy=>[(",":Str),y])++(">" :Str)::rest):=hw;have hw1:=FQ hw;have hw2:=FQ hw1;have hne:(as.map D.str).isEmpty=false:=by
    cases as with
    |nil=>exact(h0 rfl).elim
    |cons a r=>rfl
   unfold Dz;simp only[Cm];refine C4 ?_;refine Dd (JU hw) ?_;simp only[Cm,ne_str,show((", " :Str)==">")=false by decide+kernel];refine SB (k:=1) (ds:=as.map .str) (AF _ (AF _ AG)) AB (Sh.ok AB (.lst (bS ha) (by rw[AJ];omega))) ?_
   try simp only[Cm,hne]
   refine C4 ?_;refine JQ (i:=i) (ds:=as.map .str) (AF _ (AF _ AG)) ?_
   try simp only[Cm,AJ]
   rw[AK (show(as.length:Int)<4 by omega)]
   try simp only[Cm,X7]
   refine C4 ?_;refine Dd (Q4 hw) ?_
   try simp only[Cm]
   refine C4 ?_;refine C4 ?_;refine Dd (JU hw1) ?_;refine NZ (i:=i) (as:=as) (AF _ (AF _ AG)) ?_
   try simp only[Cm,AW hni,X7]
   refine FD (i:=i) (ds:=as.map .str) (AF _ (AF _ AG)) ?_;refine C4 ?_;refine Dd (HY hw1 hym) ?_;refine Q3 (GJ _) ?_;refine FE (by rw[AJ];omega) ?_;refine Q3 (HI _) ?_
   try simp only[Cm]
   refine DV (ih (n+1+1) hw2) λfl m h=>⟨h.1,?_⟩;have h2:=h.2;show Hs (RL rd rw ws (n+([(",":Str),y]++ys.flatMap λy=>[(",":Str),y]).length) ((i,.lst ((as++y::ys).map .str))::l)) m;rw[show n+([(",":Str),y]++ys.flatMap λy=>[(",":Str),y]).length=n+1+1+(ys.flatMap λy=>[(",":Str),y]).length by rw[AH];simp;omega];rw[Al]at h2;exact h2
theorem YK {c:Str} {xs:List Str} (hc:ER c.cps.toList=true) (hx:∀x,x∈xs->Dw x) (hnd:xs.Nodup) (h4:xs.length≤4) (hw:ws.drop n=c::"<" ::(sep [(",":Str)] (ones xs)++(">" :Str)::rest)):
 Tr (Hs (RL rd rw ws n l)) (oL [.hnd rd]) (λd m=>∃i,d= .tup [.str c,.hnd i]∧Hs (RL rd rw ws (n+(sep [(",":Str)] (ones xs)).length+3) ((i,.lst (xs.map .str))::l)) m):=by
 show Tr _ (M.noexc (kq (DE 3 [.hnd rd])>>=endOf)) _;refine Gn ?_;have e0:DE 3 [.hnd rd]=[some (.hnd rd),none,none]:=rfl;rw[e0];have hw1:=FQ hw;have hw2:=FQ hw1;simp only[Cm,kq];refine C4 ?_;refine Dd (JU hw) ?_
 try simp only[Cm]
 refine C4 ?_
 try simp only[Cm,VU c (Ag (Ib hc) AB),hc,X7]
 refine R9 ?_
 try simp only[Cm]
 refine C4 ?_;refine Dd (Q4 hw1) ?_
 try simp only[Cm]
 refine Fh λi=>Q3 (HI _) ?_
 try simp only[Cm]
 have hw2' :ws.drop (n+1+1)=(if([]:List Str)=[]then sep [(",":Str)] (ones xs)else xs.flatMap λy=>[(",":Str),y])++(">" :Str)::rest:=by rw[An rfl];exact hw2
 have z:=MF (l:=l) (i:=i) (rd:=rd) (rw:=rw) (c0:= .str c) xs [] (n+1+1) 64 rest hx (λy hy=>(AM hy).elim) hnd (by simpa using h4) AA hw2';rw[An rfl]at z;refine Dd z ?_
 try simp only[Cm]
 refine R9 ?_
 try simp only[Cm]
 refine ED λm hm=>⟨i,rfl,?_⟩;rw[show n+(sep [(",":Str)] (ones xs)).length+3=n+1+1+(sep [(",":Str)] (ones xs)).length+1 by omega];exact hm
theorem Vc {a0 a2 a3:D} {o4 o5:Option D} {f:Fl->M B} (hw:ws.drop n=(" " :Str)::"=" ::(" " :Str)::rest)
 (h:Tr (Hs (RL rd rw ws (n+1+1+1) l)) (f (.nx [some a0,some (.hnd rd),some a2,some a3,some (.str " "),o5])) Q):
 Tr (Hs (RL rd rw ws n l)) (forL (Cq 4) (C5 (Dc "Reader" "take" 0 1 2 [0] Ja (Cg 1) Ci (aC (Cg 4) Ci))) [.str " ",.str "=",.str " "] [some a0,some (.hnd rd),some a2,some a3,o4,o5]>>=f) Q:=by
 have hw1:=FQ hw;have hw2:=FQ hw1;unfold forL;simp only[Cm];refine C4 ?_;refine Dd (Q4 hw) ?_
 try simp only[Cm]
 unfold forL;simp only[Cm];refine C4 ?_;refine Dd (Q4 hw1) ?_
 try simp only[Cm]
 unfold forL;simp only[Cm];refine C4 ?_;refine Dd (Q4 hw2) ?_
 try simp only[Cm]
 unfold forL;simp only[Cm];exact h
theorem YL {f:D->M B} {i:Nat} {ds:List D} {L:List (Nat×MO)} (hm:(i,.lst ds)∈L) (h:Tr (Hs L) (f (.lst ds.reverse)) Q):Tr (Hs L) (D.back (.hnd i)>>=f) Q:=by
 unfold D.back;rw[D5];exact JP hm h
theorem Qe {c:Str} {xs:List Str} (w:W) (x:Str) (ex:x=TT (D1 c xs w)) (hl:x.length≤12000) (hc:ER c.cps.toList=true) (hx:∀x,x∈xs->Dw x) (hnd:xs.Nodup) (h4:xs.length≤4) (hd:w.dep≤15) (hg:w.Good xs.reverse):
 Tr (Hs l) (Yx [.str x]) (λd m=>d= .tup [.str c,.int (xs.length:Int),w.mean xs.reverse]∧Hs l m):=by
 show Tr _ (M.noexc (kr (DE 6 [.str x])>>=endOf)) _;refine Gn ?_;have e0:DE 6 [.str x]=[some (.str x),none,none,none,none,none]:=rfl;rw[e0];have hb:Binds xs.reverse:=λy hy=>hx y (List.mem_reverse.mp hy);have hcx:x.cps.toList=(codes (D1 c xs w)).flatten:=by rw[ex,bO]
 unfold kr;simp only[Cm,EI "str" (.str x) "str" true rfl rfl AC];refine HU (YG x hl) λd=>Cs λrw=>Co λe=>?_;subst e;rw[hcx,bR (R7 hc) (λy hy=>L9 (HH (hx y hy))) (GK w _ hb hg),YD]
 try simp only[Cm]
 refine Fh λrd=>?_
 try simp only[Cm]
 refine Dd bN ?_
 try simp only[Cm]
 refine C4 ?_;have hw0:(D1 c xs w).drop 0=c::"<" ::(sep [(",":Str)] (ones xs)++(">" :Str)::(" " ::"=" ::" " ::(w.toks++[]))):=by
  simp[D1]
 refine HU (YK hc hx hnd h4 hw0) λd=>Cs λi=>Co λe=>?_;subst e;rw[bQ];have hw1:(D1 c xs w).drop (0+(sep [(",":Str)] (ones xs)).length+3)=(" " :Str)::"=" ::" " ::(w.toks++[]):=by
  have:=Fj (as:=([c,"<"]:List Str)++sep [(",":Str)] (ones xs)++[(">" :Str)]) (rest:=(" " :Str)::"=" ::" " ::(w.toks++[])) (ws:=D1 c xs w) (n:=0) (by rw[hw0];simp);rw[←this]
  congr 1
  rw[AH,AH];simp;omega
 have hw4:=FQ (FQ (FQ hw1));have hn:0+(sep [(",":Str)] (ones xs)).length+3+1+1+1+w.toks.length=(D1 c xs w).length:=by
  simp only[D1,AH,AI,Ah];omega
 try simp only[Cm,Eh,Wm]
 refine Vc hw1 ?_
 try simp only[Cm]
 refine C4 ?_;refine YL (i:=i) (AF _ (AF _ AG)) ?_;rw[SF,Dm,←List.map_reverse];refine Dd (iH 60 w xs.reverse _ [] _ AA hb (by rw[CK];omega) hg hw4) ?_
 try simp only[Cm]
 refine C4 ?_;refine Dd (iL hn) ?_
 try simp only[Cm]
 refine JQ (i:=i) (ds:=xs.map .str) (AF _ (AF _ AG)) ?_
 try simp only[Cm]
 rw[AJ];exact ED λm hm=>⟨rfl,HW (HW (HW hm))⟩
end
def Qf (k:Nat):List Str:=(List.range k).map xn
theorem UL (k:Nat):(Qf k).reverse=xw k:=UG k
theorem Ku (k:Nat):(Qf k).length=k:=by
 unfold Qf;rw[AJ,Bf]
theorem JX {k:Nat} (h:k≤90):∀x,x∈Qf k->Dw x:=λx hx=>by
 obtain⟨i,hi,rfl⟩:=AY.mp hx;exact Jz i (by have:=Bb.mp hi;omega)
theorem iQ:∀k,k≤4->(Qf k).Nodup:=by decide+kernel
theorem qE {c:Str} {xs b:List Str} {w:W} (hc:ER c.cps.toList=true) (hx:∀x,x∈xs->Dw x) (hb:Binds b) (hg:w.Good b):∀t,t∈D1 c xs w->B6 t:=by
 unfold D1;refine Er (Er (Er (Fo (YI hc) (Fo (Ez _ AD) Dk)) (bP (Fo (Ez _ AD) Dk) λts hts=>?_)) (Fo (Ez _ AD) (Fo (Ez _ AD) (Fo (Ez _ AD) (Fo (Ez _ AD) Dk))))) (FH w b hb hg);obtain⟨x,hx',rfl⟩:=AY.mp hts;exact Fo (JW (hx x hx')) Dk
theorem MG (xs:List Str):(sep [(",":Str)] (ones xs)).length=2*xs.length - 1:=by
 cases xs with
 |nil=>rfl
 |cons x xs=>
  unfold ones;rw[AO,dE,HZ,AH,Fi,AX,AI];omega
theorem d_len (c:Str) (xs:List Str) (w:W):(D1 c xs w).length=2+(2*xs.length - 1)+4+w.toks.length:=by
 unfold D1;rw[AH,AH,AH,MG];rfl
theorem SK {xs:List Str} (h4:xs.length≤4) (hx:∀x,x∈xs->Dw x):D.join "," (.lst (xs.map .str))=pure (.str (TT (sep [(",":Str)] (ones xs))))∧(TT (sep [(",":Str)] (ones xs))).length≤48:=by
 have hs:∀t,t∈sep [(",":Str)] (ones xs)->B6 t:=bP (Fo (Ez _ AD) Dk) λts hts=>by
  obtain⟨x,hx',rfl⟩:=AY.mp hts;exact Fo (JW (hx x hx')) Dk
 have ht:=(QZ hs).2;rw[MG]at ht;refine⟨?_,AA⟩;have:=Kt (s:=[(",":Str)]) (a:=",") (ones xs) (J0 _).symm AA (by rw[AJ];omega) AC;rw[Am]at this;rw[←this]
 congr 2
 refine BD λx _=>?_;show D.str x=D.str (TT [x]);rw[J0]
theorem qF:("> = " :Str)=TT [">"," ","="," "]:=VL AC
theorem qG:("> = " :Str).length=4∧("<" :Str).length=1:=by decide+kernel
theorem iR (c:Str) (xs:List Str) (u:List Str):c++"<"++TT (sep [(",":Str)] (ones xs))++"> = "++TT u=TT (([c,"<"]:List Str)++sep [(",":Str)] (ones xs)++([">"," ","="," "]:List Str)++u):=by
 rw[qF,iP,D8,iP,D8,iP,Ks,Ks];simp only[Aa,Ab,Al]
theorem YM {ρ:Mir.Env} {i:Nat} {fi:Mir.Env->M (List D×Option Nat)} {fe:Mir.Env->M D} {k:Nat} (hk:k≤90) (hi:fi ρ=pure (DL 0 k,none)) (he:∀j:Nat,j<k->fe ((DB ρ [i]).set i (some (.int (j:Int))))=pure (.str (xn j))):Du fi (Cq i) DD fe [i] ρ=pure ((Qf k).map .str):=by
 rw[KO (ps:=List.range k) (λj=> .int (0+((j:Nat):Int))) (λj=> .str (xn j)) (by rw[hi];rfl) (λj hj=>?_) (by rw[Bf];omega)]
 ·unfold Qf;rw[Am];rfl
 ·rw[Int.zero_add];exact he j (Bb.mp hj)
theorem Qg {c:Str} {b:List Str} (w:W) (hc:ER c.cps.toList=true) (hb:Binds b) (h4:b.length≤4) (hd:w.dep≤15) (ht:w.toks.length≤3000) (hg:w.Good b):VF [.str c,.int (b.length:Int),w.mean b]=pure (.str (TT (D1 c (Qf b.length) (w.re b)))):=by
 show M.noexc (kH (DE 5 [.str c,.int (b.length:Int),w.mean b])>>=endOf)=_;have e0:DE 5 [.str c,.int (b.length:Int),w.mean b]=[some (.str c),some (.int (b.length:Int)),some (w.mean b),none,none]:=rfl;rw[e0];have hcl:=Ib hc;obtain⟨hj,hjl⟩:=SK (xs:=Qf b.length) (by rw[Ku];exact h4) (JX AA);have hu:=Ig (w:=w) (b:=b) AA hg;have hx:=Vb 60 w b AA hb AA ht hg;obtain⟨lg,ll⟩:=qG;have f1:=EE c AA;have f2:=EE (TT (sep [(",":Str)] (ones (Qf b.length)))) AA;have f3:=EE (TT (w.re b).toks) AA;have o1:=DI Str.empty c (by simp only[Fq];omega);have o2:=DI (Str.empty++c) "<" (by simp only[E2,Fq];omega);have o3:=DI (Str.empty++c++"<") (TT (sep [(",":Str)] (ones (Qf b.length)))) (by simp only[E2,Fq];omega);have o4:=DI (Str.empty++c++"<"++TT (sep [(",":Str)] (ones (Qf b.length)))) "> = " (by simp only[E2,Fq];omega);have o5:=DI (Str.empty++c++"<"++TT (sep [(",":Str)] (ones (Qf b.length)))++"> = ") (TT (w.re b).toks) (by simp only[E2,Fq];omega);simp only[Cm,kH];rw[YM (k:=b.length) AA (by simp only[Cm];rw[cO _ ⟨AA,AA⟩];rfl) (λj hj=>?_)]
 ·simp only[Cm,f1,o1,o2,hj,f2,o3,o4,hx,f3,o5];rw[iJ,iR];rfl
 ·simp only[Cm];rw[iK j AA]
theorem Mi (d:D) (t:String) (h0:d.now=pure d) (h1:d.kind=some t) (h2:kitB t "str"=some false):aU [d]=pure (.bl false):=by
 show M.noexc (cq (DE 1 [d])>>=endOf)=_;have e0:DE 1 [d]=[some d]:=rfl;rw[e0];simp only[Cm,cq,EI "str" d t false h0 h1 h2,CA]
theorem JY (i:Int):jm [.int i]=pure (.bl true):=by
 show M.noexc (jk (DE 1 [.int i])>>=endOf)=_;have e0:DE 1 [.int i]=[some (.int i)]:=rfl;rw[e0];simp only[Cm,jk,EI "int" (.int i) "int" true rfl rfl rfl,EI "bool" (.int i) "int" false rfl rfl rfl,CA]
theorem lD {b:List Str} {x:Str} (hb:Binds b) (hx:DR b x):aV [meant b x,.int (b.length:Int)]=pure (.bl true):=by
 show M.noexc (ju (DE 2 [meant b x,.int (b.length:Int)])>>=endOf)=_;have e0:DE 2 [meant b x,.int (b.length:Int)]=[some (meant b x),some (.int (b.length:Int))]:=rfl;rw[e0];unfold meant;by_cases c:x∈b
 ·rw[An c];have h1:b.idxOf x<b.length:=Bw.mpr c;simp only[Cm,ju,Mi (.int (b.idxOf x:Nat)) "int" rfl rfl rfl,JY,AK (show(0:Int)≤(b.idxOf x:Nat) by omega),AK (show((b.idxOf x:Nat):Int)<(b.length:Int) by omega)]
 ·exact(c hx).elim
theorem all_true {A:Type} {f:A->Bool} (xs:List A) (h:∀x,x∈xs->f x=true):xs.all f=true:=A4.mpr h
theorem MH {b xs:List Str} (hb:Binds b) (h4:xs.length≤4) (hx:∀x,x∈xs->DR b x):jw [.tup (xs.map (meant b)),.int (b.length:Int)]=pure (.bl true):=by
 show M.noexc (jv (DE 3 [.tup (xs.map (meant b)),.int (b.length:Int)])>>=endOf)=_;have e0:DE 3 [.tup (xs.map (meant b)),.int (b.length:Int)]=[some (.tup (xs.map (meant b))),some (.int (b.length:Int)),none]:=rfl;rw[e0];unfold jv;have hl:(xs.map (meant b)).length=xs.length:=AJ ..;have ha:(eB (d1 D.all) (aC (E1 (DJ (Cg 0)) (Cq 2) DD (Cn 2 aV (aC (Cg 2) (aC (Cg 1) Ci))) [2]) Ci)) [some (.tup (xs.map (meant b))),some (.int (b.length:Int)),none]=pure (.bl ((xs.map (meant b)).all λ_=>true)):=
  all_of (λ_=>true) (by simp only[Cm];exact Wm _) (λd hd=>by
   obtain⟨x,hx',rfl⟩:=AY.mp hd;simp only[Cm];exact lD hb (hx x hx')) AA
 have he:(eB (d1 D.len) (aC (Cg 0) Ci)) [some (.tup (xs.map (meant b))),some (.int (b.length:Int)),none]=pure (.int (xs.length:Int)):=by
  simp only[Cm];rw[hl]
 simp only[Pl,G0,Ji,N0,Nz,Pi,HL,Gy,Ph,Em,El,Dm,D5,EI "tuple" (.tup (xs.map (meant b))) "tuple" true rfl rfl rfl,Jh,BZ,Af,BI,he,Nv,Iv,AW (show ¬((4:Int)<(xs.length:Int)) by omega),Iw,Dq,N1,ha,Ir,Za,all_true (f:=λ_:D=>true) _ (λ_ _=>rfl)]
theorem MI {b:List Str} {f:Nat} {ps:List W} (hl:ps.length≤1000) (ih:∀v,v∈ps->KZ f [v.mean b,.int (b.length:Int)]=pure (.bl true)):VE (f+1) [.tup (ps.map (W.mean b)),.int (b.length:Int)]=pure (.bl true):=by
 show M.noexc (jx (VE f) (KZ f) (DE 3 [.tup (ps.map (W.mean b)),.int (b.length:Int)])>>=endOf)=_;have e0:DE 3 [.tup (ps.map (W.mean b)),.int (b.length:Int)]=[some (.tup (ps.map (W.mean b))),some (.int (b.length:Int)),none]:=rfl;rw[e0];have ha:(eB (d1 D.all) (aC (E1 (DJ (Cg 0)) (Cq 2) DD (EX 1 1 2 (KZ f) (aC (Cg 2) Ci) (aC (Cg 1) Ci)) [2]) Ci)) [some (.tup (ps.map (W.mean b))),some (.int (b.length:Int)),none]=pure (.bl ((ps.map (W.mean b)).all λ_=>true)):=
  all_of (λ_=>true) (by simp only[Cm];exact Wm _) (λd hd=>by
   obtain⟨v,hv,rfl⟩:=AY.mp hd;simp only[Cm];exact ih v hv) (by rw[AJ];omega)
 unfold jx;simp only[N1,RF,Pi,Em,El,Dm,D5,EI "tuple" (.tup (ps.map (W.mean b))) "tuple" true rfl rfl rfl,Jh,Ae,ha,Ir,Za,all_true (f:=λ_:D=>true) _ (λ_ _=>rfl)]
abbrev MK:List (Str×D):=[("tick",.int 0),("send",.int 2),("hear",.int 1),("if",.int 2),("unless",.int 2),("new",.int 0)]
abbrev YN (f:Nat):Mir.Env->M Fl:=
 (Cj (Da (DA (Ck D.eq (Cg 2) (eC (.str "stop")))) (Cu (Ck D.eq (Cg 3) (EG Ci))) C1)
  (Cj (Da (DA (Ck D.isIn (Cg 2) (eC (.tup [.str "pick",.str "beside"])))) (Cu (Fv (Ck D.eq (eB (d1 D.len) (aC (Cg 3) Ci)) (eC (.int 1))) (Cn 2 (VE f) (aC (Ck D.ix (Cg 3) (eC (.int 0))) (aC (Cg 1) Ci))))) C1)
  (Cj (Da (DA (Ck D.eq (Cg 2) (eC (.str "call")))) (Cu (Fv (Ck D.eq (eB (d1 D.len) (aC (Cg 3) Ci)) (eC (.int 2))) (Fv (Cn 1 VD (aC (Ck D.ix (Cg 3) (eC (.int 0))) Ci)) (Cn 2 jw (aC (Ck D.ix (Cg 3) (eC (.int 1))) (aC (Cg 1) Ci)))))) C1)
  (Cj (Da (Dg (DA (Eg (D.notInTab MK) (Cg 2))) (DA (Ck D.ne (eB (d1 D.len) (aC (Cg 3) Ci)) (Ck D.add (Eg (D.ixTab MK) (Cg 2)) (eC (.int 1)))))) (Cu (eC (.bl false))) C1)
  (Cj (FT (Cg 3) (Ut 0 2 (Dr (Cq 4) (Dr (Cq 5) Di))))
  (Cu (Fv (eB (d1 D.all) (aC (E1 (DJ (Cg 4)) (Cq 6) DD (Cn 2 aV (aC (Cg 6) (aC (Cg 1) Ci))) [6]) Ci)) (EX 1 1 2 (KZ f) (aC (Cg 5) Ci) (aC (Ck D.add (Cg 1) (eB (d1 D.toInt) (aC (Ck D.isIn (Cg 2) (eC (.tup [.str "hear",.str "new"]))) Ci))) Ci)))))))))
theorem GL {k f:Nat} {kw:Str} {rest:List D} {n:Int} (hk:k≤60) (h:HE k (.tup (.str kw::rest))=true) {R:M D} (hR:M.noexc (YN f [some (.tup (.str kw::rest)),some (.int n),some (.str kw),some (.lst rest),none,none,none]>>=endOf)=R):KZ (f+1) [.tup (.str kw::rest),.int n]=R:=by
 show M.noexc (jy (VE f) (KZ f) (DE 7 [.tup (.str kw::rest),.int n])>>=endOf)=_;have e0:DE 7 [.tup (.str kw::rest),.int n]=[some (.tup (.str kw::rest)),some (.int n),none,none,none,none,none]:=rfl;rw[e0];have he:=Ru hk h;unfold jy;simp only[Pl,G0,Ji,N0,Nz,Pi,Em,El,IG,Dm,D5,EI "tuple" (.tup (.str kw::rest)) "tuple" true rfl rfl rfl,Jh,BZ,Af,BI,HL,Gy,RG,Gz,ou,Eb];rw[he];simp only[Dm,Iv,D5];rw[Aq (show ¬((D.str kw::rest).isEmpty=true)from λz=>by cases z)];simp only[Ph,Dm,D5];rw[Dv,Ey];simp only[Ed,Dm,D5,EI "str" (.str kw) "str" true rfl rfl rfl,Jh,BZ,Af,BI,Iw,Dq,N2,Em,El,N7];rw[Pl,N2];simp only[Em,El,Dm,D5,N7];rw[mH 1 2 (.str kw::rest) ⟨AB,by rw[AI];omega⟩,Ly];simp only[Dm,D5,Jk,LK,RH,Ac,Ad,Dq];exact hR
structure MKf (kw:Str) (c:Nat) (e:Bool):Prop where
 h1:(kw=="stop")=false
 h2:D.isIn (.str kw) (.tup [.str "pick",.str "beside"])=pure (.bl false)
 h3:(kw=="call")=false
 h4:D.notInTab MK (.str kw)=pure (.bl false)
 h5:D.ixTab MK (.str kw)=pure (.int (c:Int))
 h6:D.isIn (.str kw) (.tup [.str "hear",.str "new"])=pure (.bl e)
theorem bT:MKf "tick" 0 false:=⟨AC,(rfl),AC,(rfl),(rfl),(rfl)⟩
theorem bU:MKf "send" 2 false:=⟨AC,(rfl),AC,(rfl),(rfl),(rfl)⟩
theorem bV:MKf "hear" 1 true:=⟨AC,(rfl),AC,(rfl),(rfl),(rfl)⟩
theorem nP:MKf "if" 2 false:=⟨AC,(rfl),AC,(rfl),(rfl),(rfl)⟩
theorem Vd:MKf "unless" 2 false:=⟨AC,(rfl),AC,(rfl),(rfl),(rfl)⟩
theorem iS:MKf "new" 0 true:=⟨AC,(rfl),AC,(rfl),(rfl),(rfl)⟩
theorem bW (k:Bool):MKf (HF k) 2 false:=by
 cases k
 ·exact Vd
 ·exact nP
theorem iT (r:List D) (l:D):Ew 0 2 (r++[l])=[.lst r,l]:=by
 unfold Ew;simp
theorem nQ {k f:Nat} {kw:Str} {c:Nat} {e:Bool} {n:Nat} (F:MKf kw c e) (ms:List D) (inner:D) (hc:ms.length=c) (hc2:c≤4) (hm:∀m,m∈ms->aV [m,.int (n:Int)]=pure (.bl true)) (hi:KZ f [inner,.int ((n:Int)+(if e then 1 else 0))]=pure (.bl true)) (hk:k≤60) (hok:HE k (.tup (.str kw::(ms++[inner])))=true):KZ (f+1) [.tup (.str kw::(ms++[inner])),.int (n:Int)]=pure (.bl true):=by
 refine GL hk hok ?_;have hlen:(ms++[inner]).length=c+1:=by rw[AH,hc,AX]
 unfold YN;simp only[Cm,eq_str,F.h1,F.h2,F.h3,F.h4,F.h5];rw[gj,AK hlen]
 try simp only[Cm]
 rw[RO 0 2 (ms++[inner]) ⟨AB,by rw[hlen];omega⟩,iT]
 try simp only[Cm]
 rw[HN (ds:=ms) (λd=> .bl ((λ_=>true) d)) (by simp only[Cm];exact S8 ms) (λd hd=>⟨_,RH 6,by
  simp only[Cm];exact hm d hd⟩) AA]
 try simp only[Cm]
 rw[all_map (λ_=>true) ms,all_true (f:=λ_:D=>true) _ (λ_ _=>rfl)]
 try simp only[Cm,F.h6]
 rw[hi];rfl
theorem Ve {k f:Nat} {c:Str} {ms:D} {n:Int} (hc:ER c.cps.toList=true) (hm:jw [ms,.int n]=pure (.bl true)) (hk:k≤60) (hok:HE k (.tup [.str "call",.str c,ms])=true):KZ (f+1) [.tup [.str "call",.str c,ms],.int n]=pure (.bl true):=by
 refine GL hk hok ?_;unfold YN;simp only[Cm,eq_str,show(("call" :Str)=="stop")=false by decide+kernel,show D.isIn (.str "call") (.tup [.str "pick",.str "beside"])=pure (.bl false)from(rfl),Ak];rw[show D.eq (.int (([.str c,ms]:List D).length:Int)) (.int 2)=pure (.bl true)from(rfl)]
 try simp only[Cm]
 rw[LD,Ey]
 try simp only[Cm]
 rw[VU c (Ag (Ib hc) AB),hc]
 try simp only[Cm]
 rw[LD,fL (n:=1) (i:=1) (a:=ms) rfl rfl]
 try simp only[Cm]
 rw[hm];rfl
theorem Vf {k f:Nat} (q:Bool) {ps:D} {n:Int} (hm:VE f [ps,.int n]=pure (.bl true)) (hk:k≤60) (hok:HE k (.tup [.str (DF q),ps])=true):KZ (f+1) [.tup [.str (DF q),ps],.int n]=pure (.bl true):=by
 refine GL hk hok ?_;have e1:(DF q==("stop" :Str))=false:=by cases q<;>decide+kernel
 have e2:D.isIn (.str (DF q)) (.tup [.str "pick",.str "beside"])=pure (.bl true):=by cases q<;>rfl
 unfold YN;simp only[Cm,eq_str,e1,e2];rw[show D.eq (.int (([ps]:List D).length:Int)) (.int 1)=pure (.bl true)from(rfl)]
 try simp only[Cm]
 rw[LD,Ey]
 try simp only[Cm]
 rw[hm];rfl
theorem Vg {f:Nat} {n:Int}:KZ (f+1) [.tup [.str "stop"],.int n]=pure (.bl true):=by
 refine GL (k:=1) AB AC ?_;unfold YN;simp only[Cm,eq_str,Ak];rfl
theorem Ox:∀(f:Nat) (w:W) (b:List Str),2*w.dep+1≤f->Binds b->b.length+w.dep≤28->w.Good b->KZ f [w.mean b,.int (b.length:Int)]=pure (.bl true):=by
 intro f
 induction f using Nat.strongRecOn with
 |_ f ih=>
 intro w b hf hb hl hg;obtain⟨f,rfl⟩:∃g,f=g+1:=⟨f - 1,AA⟩;have hok:=Sh.ok AB (FG w b hb AA hg);have hk:2*w.dep+2≤60:=by omega
 cases w with
 |stop=>
  rw[W.mean];exact Vg
 |call c xs=>
  rw[W.mean]at hok ⊢;exact Ve hg.1 (MH hb hg.2.1 hg.2.2) hk hok
 |rows k ps=>
  rw[W.mean,UC]at hok;rw[W.mean,UC];have hf' :2*(W.depL ps+1)+1≤f+1:=hf;have hl' :b.length+(W.depL ps+1)≤28:=hl;obtain⟨g,rfl⟩:∃g,f=g+1:=⟨f - 1,AA⟩;have h40:ps.length≤40:=hg.1;exact Vf k (MI AA λv hv=>ih g AA v b (by have:=UF v hv;omega) hb (by have:=UF v hv;omega) (YB hg.2 v hv)) hk hok
 |tick w=>
  rw[W.mean]at hok ⊢;have hf' :2*(w.dep+1)+1≤f+1:=hf;have hl' :b.length+(w.dep+1)≤28:=hl;refine nQ bT [] _ rfl AB (λm hm=>(AM hm).elim) ?_ hk hok;exact ih f AA w b AA hb AA hg
 |send x y w=>
  rw[W.mean]at hok ⊢;have hf' :2*(w.dep+1)+1≤f+1:=hf;have hl' :b.length+(w.dep+1)≤28:=hl;refine nQ bU [meant b x,meant b y] _ rfl AB (λm hm=>?_) ?_ hk hok
  ·simp only[AQ,AM,BR]at hm;rcases hm with rfl|rfl
   ·exact lD hb hg.1
   ·exact lD hb hg.2.1
  ·exact ih f AA w b AA hb AA hg.2.2
 |test k x y w=>
  rw[W.mean]at hok ⊢;have hf' :2*(w.dep+1)+1≤f+1:=hf;have hl' :b.length+(w.dep+1)≤28:=hl;refine nQ (bW k) [meant b x,meant b y] _ rfl AB (λm hm=>?_) ?_ hk hok
  ·simp only[AQ,AM,BR]at hm;rcases hm with rfl|rfl
   ·exact lD hb hg.1
   ·exact lD hb hg.2.1
  ·exact ih f AA w b AA hb AA hg.2.2
 |new o w=>
  rw[W.mean]at hok ⊢;have hf' :2*(w.dep+1)+1≤f+1:=hf;have hl' :b.length+(w.dep+1)≤28:=hl;refine nQ iS [] _ rfl AB (λm hm=>(AM hm).elim) ?_ hk hok;exact ih f AA w (o::b) AA (T6 hb hg.1) (by rw[AI];omega) hg.2
 |hear x o w=>
  rw[W.mean]at hok ⊢;have hf' :2*(w.dep+1)+1≤f+1:=hf;have hl' :b.length+(w.dep+1)≤28:=hl;refine nQ bV [meant b x] _ rfl AB (λm hm=>?_) ?_ hk hok
  ·rw[AR.mp hm];exact lD hb hg.1
  ·exact ih f AA w (o::b) AA (T6 hb hg.2.1) (by rw[AI];omega) hg.2.2
section
variable {A B:Type} {k z c:Nat} {l l' :List (Nat×MO)} {Q:B->Mu->Prop} {i:Nat}
theorem bX {m:Mu} (h:St k z l m) (e:l.Perm l'):St k z l' m:=⟨h.1,(e.map (·.1)).cons k|>.nodup_iff.mp h.2.1,λp hp=>h.2.2 p (e.mem_iff.mpr hp)⟩
theorem Qh {P:A->Mu->Prop} {x:M A} (e:l.Perm l') (h:Tr (St k z l') x P):Tr (St k z l) x P:=GF h λm hm=>bX hm e
theorem bY {f:D->M B} {ds:List D} (hm:(i,.lst ds)∈l) (h:Tr (St k z l) (f (.lst ds)) Q):Tr (St k z l) (D.now (.hnd i)>>=f) Q:=λm hs=>by
 have e:=hs.2.2 _ hm;rw[Do];simp only[D.now,e];exact h m hs
theorem Na {f:D->M B} {ds:List D} (hm:(i,.lst ds)∈l) (h:Tr (St k z l) (f (.tup ds)) Q):Tr (St k z l) (D.tuple (.hnd i)>>=f) Q:=by
 unfold D.tuple;rw[D5];exact bY hm h
theorem UM {f:Unit->M B} {ds:List D} (hm:(i,.lst ds)∈l) (h:Tr (St k z l) (f ()) Q):Tr (St k z l) (M.isL i>>=f) Q:=λm hs=>by
 have e:=hs.2.2 _ hm;rw[Do];simp only[M.isL,e];exact h m hs
theorem iU {f:D->M B} {ds:List D} {r:Int} {d:D} (hm:(i,.lst ds)∈l) (e:atI ds r=some d) (h:Tr (St k z l) (f d) Q):Tr (St k z l) (D.ix (.hnd i) (.int r)>>=f) Q:=λm hs=>by
 rw[FK (hs.2.2 _ hm) e];exact h m hs
theorem Oy {f:D->M B} {kvs:List (Key×D)} {y:Key} {d:D} (hm:(i,.dic kvs)∈l) (e:Ee kvs y=some d) (h:Tr (St k z l) (f d) Q):Tr (St k z l) (M.ixK i y>>=f) Q:=λm hs=>by
 have e1:=hs.2.2 _ hm;rw[Do];simp only[M.ixK,e1,e];exact h m hs
theorem iV {P:A->Mu->Prop} {x:M A} {z' :Nat} (hz:z≤z') (h:Tr (St k z' l) x P):Tr (St k z l) x P:=GF h λm hm=>EV hm hz
end
abbrev oP (ps:List W):Nat:=(ps.map λv=>v.toks.length).sum
theorem MJ {b:List Str} {w:W}:∀{ps:List W},W.GoodL b ps->w.Good b->W.GoodL b (ps++[w])
 |[],_,h=>⟨h,trivial⟩
 |v::ps,h,h'=>⟨h.1,MJ h.2 h'⟩
theorem UN (s:List Str):∀tss:List (List Str),(sep s tss).length≤(tss.map (·.length)).sum+s.length*tss.length
 |[]=>by simp[sep]
 |[x]=>by simp[sep]
 |x::y::xs=>by
  have h:=UN s (y::xs);show(x++s++sep s (y::xs)).length≤_;rw[AH,AH,AO,CG,AI,Nat.mul_add,Nat.mul_one];omega
theorem UO {n:Nat}:∀{ps:List W},(∀v,v∈ps->v.dep+2≤n)->2≤n->W.depL ps+2≤n
 |[],_,h=>by simp only[W.depL];omega
 |w::ws,h,h2=>by
  have:=h w AG;have:=UO (ps:=ws) (λv hv=>h v (AF _ hv)) h2;simp only[W.depL];omega
section
variable {k rm:Nat} {z:Nat} {l:List (Nat×MO)}
mutual
def Bd:Nat->W->Prop
 |_,.stop=>True
 |st,.call _ _=>st=1
 |st,.rows q ps=>oQ (if q=true then st else 2) ps
 |st,.tick w=>Bd (max st 1) w
 |st,.send _ _ w=>Bd (max st 1) w
 |st,.hear _ _ w=>Bd (max st 1) w
 |st,.test _ _ _ w=>Bd st w
 |st,.new _ w=>Bd st w
def oQ:Nat->List W->Prop
 |_,[]=>True
 |st,w::ws=>Bd st w∧oQ st ws
end
theorem Kv {st:Nat}:∀{ps:List W},oQ st ps->∀v,v∈ps->Bd st v
 |w::ws,h,v,hv=>by
  rcases AQ.mp hv with rfl|hv
  ·exact h.1
  ·exact Kv h.2 v hv
theorem YO {st:Nat}:∀{ps:List W},(∀v,v∈ps->Bd st v)->oQ st ps
 |[],_=>trivial
 |w::ws,h=>⟨h w AG,YO λv hv=>h v (AF _ hv)⟩
def bZ (wide:Nat) (d:D):Prop:=∃x,d=meant (xw wide) x∧x∈xw wide
theorem J3 {wide:Nat} {q:Int} (hw:wide≤30) (h0:0≤q) (h1:q<(wide:Int)):bZ wide (.int q):=by
 obtain⟨n,rfl⟩:=BW h0;have hn:n<wide:=by omega
 have hm:=SH hn;refine⟨xn (wide - 1 - n),?_,hm⟩;unfold meant;rw[An hm,SG wide n hw hn]
theorem YQ {wide:Nat}:∀{es:List D},(∀d,d∈es->bZ wide d)->∃xs:List Str,es=xs.map (meant (xw wide))∧∀x,x∈xs->x∈xw wide
 |[],_=>⟨[],rfl,λx hx=>(AM hx).elim⟩
 |d::es,h=>by
  obtain⟨x,rfl,hx⟩:=h d AG;obtain⟨xs,e,hs⟩:=YQ (es:=es) λd hd=>h d (AF _ hd);refine⟨x::xs,by rw[e];rfl,λy hy=>?_⟩;rcases AQ.mp hy with rfl|hy
  ·exact hx
  ·exact hs y hy
theorem Oz:∀x,x∈(["A","B","Ring","Zed"]:List Str)->ER x.cps.toList=true:=by decide+kernel
theorem UP {q:Int} (h0:0≤q) (h1:q<4):∃x:Str,D.ix (.lst [.str "A",.str "B",.str "Ring",.str "Zed"]) (.int q)=pure (.str x)∧x∈(["A","B","Ring","Zed"]:List Str):=by
 have:q=0∨q=1∨q=2∨q=3:=by omega
 rcases this with rfl|rfl|rfl|rfl
 ·exact⟨"A",rfl,AD⟩
 ·exact⟨"B",rfl,AD⟩
 ·exact⟨"Ring",rfl,AD⟩
 ·exact⟨"Zed",rfl,AD⟩
def Bo (k rm wide deep st r z q c:Nat) (l:List (Nat×MO)) (d:D) (m:Mu):Prop:=∃(w:W) (r' :Nat),d=w.mean (xw wide)∧w.Good (xw wide)∧w.dep+1≤deep∧Bd st w∧r'≤r∧w.toks.length≤20*q+20*(r - r')∧St k (z+c+50*(r - r')) ((rm,.lst [.int (r' :Int)])::l) m
def lE (k rm f:Nat):Prop:=∀(wide deep st r z:Nat) (l:List (Nat×MO)),1≤deep->wide+deep≤20->deep≤f->1≤r->r≤44->st≤2->z+50*r≤1000000->Tr (St k z ((rm,.lst [.int (r:Int)])::l)) (NQ f [.hnd k,.int (wide:Int),.int (deep:Int),.hnd rm,.int (st:Int)])
 (λd m=>∃(w:W) (r' :Nat),d=w.mean (xw wide)∧w.Good (xw wide)∧w.dep+1≤deep∧Bd st w∧r'<r∧w.toks.length≤20*(r - r')∧St k (z+50*(r - r')) ((rm,.lst [.int (r' :Int)])::l) m)
def qH (g:Nat):Mir.Env->M Fl:=(Cj (C3 11 (GP Ci))
 (Cj (E4 (Kg (Ck D.ix (EG (aC (Cn 2 FB (aC (Cg 0) (aC (eC (.int 4)) Ci))) (aC (eC (.int 6)) Ci))) (eB (d1 D.toInt) (aC (Ck D.eq (Cn 2 FB (aC (Cg 0) (aC (eC (.int 8)) Ci))) (eC (.int 7))) Ci)))) (Cq 8) (Da (DA (Ck D.gt (Ck D.ix (Cg 3) (eC (.int 0))) (eC (.int 0)))) (C5 (Gu (Cg 11) (Cn 5 (NQ g) (aC (Cg 0) (aC (Cg 1) (aC (Ck D.sub (Cg 2) (eC (.int 1))) (aC (Cg 3) (aC (Ck D.ix (EG (aC (Cg 4) (aC (eC (.int 2)) Ci))) (Ck D.mod (Cg 5) (eC (.int 2)))) Ci)))))))) C1))
 (Cu (DS (aC (Ck D.ix (EG (aC (eC (.str "pick")) (aC (eC (.str "beside")) Ci))) (Ck D.mod (Cg 5) (eC (.int 2)))) (aC (eB (d1 D.tuple) (aC (Cg 11) Ci)) Ci))))))
def qI (g:Nat):Mir.Env->M Fl:=(Cj (OD 6 7 (aC (Ck D.ix (EG (aC (eC (.str "A")) (aC (eC (.str "B")) (aC (eC (.str "Ring")) (aC (eC (.str "Zed")) Ci))))) (Cn 2 FB (aC (Cg 0) (aC (eC (.int 4)) Ci)))) (aC (Ck D.mul (Cn 2 FB (aC (Cg 0) (aC (eC (.int 5)) Ci))) (eB (d1 D.toInt) (aC (Ck D.gt (Cg 1) (eC (.int 0))) Ci))) Ci)))
 (Cj (Da (DA (Ck D.gt (eB (d1 D.len) (aC (Cg 3) Ci)) (eC (.int 1)))) (C3 7 (Ck D.ix (Ck D.ix (Cg 3) (eC (.int 1))) (Cg 6))) C1)
 (Cj (Da (Dg (DA (Ck D.ne (Cg 4) (eC (.int 1)))) (MR (DA (Ck D.gt (Cg 7) (eC (.int 0)))) (DA (Ck D.eq (Cg 1) (eC (.int 0)))))) (Cu (DS (aC (eC (.str "tick")) (aC (Cn 5 (NQ g) (aC (Cg 0) (aC (Cg 1) (aC (Ck D.sub (Cg 2) (eC (.int 1))) (aC (Cg 3) (aC (eB (d2 D.max2) (aC (Cg 4) (aC (eC (.int 1)) Ci))) Ci)))))) Ci)))) C1)
 (Cu (DS (aC (eC (.str "call")) (aC (Cg 6) (aC (eB (d1 D.tuple) (aC (E1 (Kg (Cg 7)) (Cq 8) DD (Cn 2 FB (aC (Cg 0) (aC (Cg 1) Ci))) [8]) Ci)) Ci))))))))
def qJ (g:Nat):Mir.Env->M Fl:=(Cj (Da (DA (Ck D.lt (Cg 5) (eC (.int 2)))) (Cu (DS (aC (eC (.str "stop")) Ci))) C1)
 (Cj (Da (Dg (DA (Ck D.eq (Cg 5) (eC (.int 2)))) (DA (Ck D.eq (Cg 5) (eC (.int 14))))) (qI g) C1)
 (Cj (Da (DA (Ck D.lt (Cg 5) (eC (.int 5)))) (Cu (DS (aC (eC (.str "tick")) (aC (Cn 5 (NQ g) (aC (Cg 0) (aC (Cg 1) (aC (Ck D.sub (Cg 2) (eC (.int 1))) (aC (Cg 3) (aC (eB (d2 D.max2) (aC (Cg 4) (aC (eC (.int 1)) Ci))) Ci)))))) Ci)))) C1)
 (Cj (Da (DA (Ck D.lt (Cg 5) (eC (.int 7)))) (Cj (OD 9 10 (aC (Cn 2 FB (aC (Cg 0) (aC (Cg 1) Ci))) (aC (Cn 2 FB (aC (Cg 0) (aC (Cg 1) Ci))) Ci)))
 (Cu (DS (aC (eC (.str "send")) (aC (Cg 9) (aC (Cg 10) (aC (Cn 5 (NQ g) (aC (Cg 0) (aC (Cg 1) (aC (Ck D.sub (Cg 2) (eC (.int 1))) (aC (Cg 3) (aC (eB (d2 D.max2) (aC (Cg 4) (aC (eC (.int 1)) Ci))) Ci)))))) Ci))))))) C1)
 (Cj (Da (Dg (DA (Ck D.lt (Cg 5) (eC (.int 9)))) (DA (Ck D.eq (Cg 5) (eC (.int 15))))) (Cu (DS (aC (eC (.str "hear")) (aC (Cn 2 FB (aC (Cg 0) (aC (Cg 1) Ci))) (aC (Cn 5 (NQ g) (aC (Cg 0) (aC (Ck D.add (Cg 1) (eC (.int 1))) (aC (Ck D.sub (Cg 2) (eC (.int 1))) (aC (Cg 3) (aC (eB (d2 D.max2) (aC (Cg 4) (aC (eC (.int 1)) Ci))) Ci)))))) Ci))))) C1)
 (Cj (Da (DA (Ck D.lt (Cg 5) (eC (.int 11)))) (Cj (OD 9 10 (aC (Cn 2 FB (aC (Cg 0) (aC (Cg 1) Ci))) (aC (Cn 2 FB (aC (Cg 0) (aC (Cg 1) Ci))) Ci)))
 (Cu (DS (aC (Ck D.ix (EG (aC (eC (.str "if")) (aC (eC (.str "unless")) Ci))) (Ck D.sub (Cg 5) (eC (.int 9)))) (aC (Cg 9) (aC (Cg 10) (aC (Cn 5 (NQ g) (aC (Cg 0) (aC (Cg 1) (aC (Ck D.sub (Cg 2) (eC (.int 1))) (aC (Cg 3) (aC (Cg 4) Ci)))))) Ci))))))) C1)
 (Cj (Da (DA (Ck D.eq (Cg 5) (eC (.int 11)))) (Cu (DS (aC (eC (.str "new")) (aC (Cn 5 (NQ g) (aC (Cg 0) (aC (Ck D.add (Cg 1) (eC (.int 1))) (aC (Ck D.sub (Cg 2) (eC (.int 1))) (aC (Cg 3) (aC (Cg 4) Ci)))))) Ci)))) C1)
 (qH g))))))))
def oR (g:Nat):Mir.Env->M Fl:=(Cj (Da (MR (DA (Ck D.eq (Cg 1) (eC (.int 0)))) (DA (Ck D.isIn (Cg 5) (DS (aC (eC (.int 5)) (aC (eC (.int 6)) (aC (eC (.int 7)) (aC (eC (.int 8)) (aC (eC (.int 9)) (aC (eC (.int 10)) (aC (eC (.int 15)) Ci))))))))))) (C3 5 (eC (.int 3))) C1)
 (qJ g))
theorem ba (g:Nat):Fg (NQ g)=(Cj (FT (Ck D.sub (Ck D.ix (Cg 3) (eC (.int 0))) (eC (.int 1))) (fF (Cg 3) (eC (.int 0))))
 (Cj (C3 5 (WL (MR (DA (Ck D.gt (Cg 2) (eC (.int 1)))) (DA (Ck D.gt (Ck D.ix (Cg 3) (eC (.int 0))) (eC (.int 0))))) (Cn 2 FB (aC (Cg 0) (aC (eC (.int 16)) Ci))) (eC (.int 0))))
 (oR g))):=rfl
theorem sA (w:Int):D.isIn (.int w) (.tup [.int 5,.int 6,.int 7,.int 8,.int 9,.int 10,.int 15])=pure (.bl (5==w||6==w||7==w||8==w||9==w||10==w||15==w)):=by
 show D.inSeq false (.int w) [.int 5,.int 6,.int 7,.int 8,.int 9,.int 10,.int 15]=_;unfold D.inSeq;show(M.guard true>>=λ_=>(pure (D.bl (5==w||(6==w||(7==w||(8==w||(9==w||(10==w||(15==w||false)))))))):M D))=_;rw[Eb,Dm,Bool.or_false];simp only[Bool.or_assoc]
theorem sC (a b c d e f g:D):decide (([a,b,c,d,e,f,g]:List D).length=7)=true:=rfl
def rP (k rm pt wide deep st s2 way r z:Nat) (l:List (Nat×MO)) (o6 o7:Option D) (i:Nat) (ρ:Mir.Env) (m:Mu):Prop:=∃(ps:List W) (r' :Nat) (o8:Option D),ρ=[some (.hnd k),some (.int (wide:Int)),some (.int (deep:Int)),some (.hnd rm),some (.int (st:Int)),some (.int (way:Int)),o6,o7,o8,none,none,some (.hnd pt)]∧ps.length≤i∧W.GoodL (xw wide) ps∧(∀v,v∈ps->v.dep+2≤deep)∧(∀v,v∈ps->Bd s2 v)∧r'≤r∧oP ps≤20*(r - r')∧
 St k (z+50*(r - r')) ((pt,.lst (ps.map (W.mean (xw wide))))::(rm,.lst [.int (r' :Int)])::l) m
theorem Vh {pt g wide deep st s2 way r:Nat} (F:lE k rm g) (hd:2≤deep) (hl:wide+deep≤20) (hf:deep≤g+1) (hr:r≤44) (hs2:s2≤2) (hs:D.ix (.lst [.int (st:Int),.int 2]) (.int ((way:Int) % 2))=pure (.int (s2:Int))) (hz:z+50*r≤1000000) (d:D) (ρ:Mir.Env) (i:Nat) (hi:i<6):
 Tr (rP k rm pt wide deep st s2 way r z l none none i ρ) (Cq 8 d ρ>>=(Da (DA (Ck D.gt (Ck D.ix (Cg 3) (eC (.int 0))) (eC (.int 0)))) (C5 (Gu (Cg 11) (Cn 5 (NQ g) (aC (Cg 0) (aC (Cg 1) (aC (Ck D.sub (Cg 2) (eC (.int 1))) (aC (Cg 3) (aC (Ck D.ix (EG (aC (Cg 4) (aC (eC (.int 2)) Ci))) (Ck D.mod (Cg 5) (eC (.int 2)))) Ci)))))))) C1)) (λfl m=>∃ρ',fl= .nx ρ'∧rP k rm pt wide deep st s2 way r z l none none (i+1) ρ' m):=by
 refine Cs λps=>Cs λr'=>Cs λo5=>Co λe=>Co λh1=>Co λh2=>Co λh3=>Co λh4=>Co λh5=>Co λh6=>?_;subst e;simp only[Cm];refine iU (i:=rm) (ds:=[.int (r' :Int)]) (AF _ AG) (r:=0) rfl ?_
 try simp only[Cm]
 by_cases c:(0:Int)<(r' :Int)
 ·rw[AK c]
  try simp only[Cm]
  refine UM AG ?_;refine Qh (List.Perm.swap _ _ _) ?_;have e1:(deep:Int) - 1=((deep - 1:Nat):Int):=by omega
  rw[e1,Yq (way:Int) 2 AB]
  try simp only[Cm,hs]
  refine HU (F wide (deep - 1) s2 r' _ _ AA AA AA AA AA hs2 AA) λd=>Cs λw=>Cs λr2=>Co λe=>Co λg1=>Co λg2=>Co λg3=>Co λg4=>Co λg5=>?_;subst e;refine Qh (List.Perm.swap _ _ _) ?_;refine Xq (by rw[AJ];omega) ?_
  try simp only[Cm]
  refine ED λm hm=>⟨_,rfl,ps++[w],r2,_,rfl,?_,MJ h2 g1,?_,?_,AA,?_,?_⟩
  ·rw[AH,AX];omega
  ·intro v hv;rcases Ap.mp hv with hv|hv
   ·exact h3 v hv
   ·rw[AR.mp hv];omega
  ·intro v hv;rcases Ap.mp hv with hv|hv
   ·exact h4 v hv
   ·rw[AR.mp hv];exact g3
  ·unfold oP at h6 ⊢;rw[Aw,List.sum_append];simp only[AO,CB,CG,List.sum_nil];omega
  ·rw[Aw];exact EV hm AA
 ·rw[AW c]
  try simp only[Cm]
  exact ED λm hm=>⟨_,rfl,ps,r',_,rfl,AA,h2,h3,h4,h5,h6,hm⟩
theorem nR {g wide deep st r:Nat} (way:Nat) (F:lE k rm g) (hway:12≤way∧way<14) (hd:2≤deep) (hl:wide+deep≤20) (hf:deep≤g+1) (hr:r≤44) (hst:st≤2) (hz:z+2+50*r≤1000000):
 Tr (St k z ((rm,.lst [.int (r:Int)])::l)) (qH g [some (.hnd k),some (.int (wide:Int)),some (.int (deep:Int)),some (.hnd rm),some (.int (st:Int)),some (.int (way:Int)),none,none,none,none,none,none]>>=endOf) (Bo k rm wide deep st r z 1 2 l):=by
 unfold qH;simp only[Cm];refine FC λpt=>?_
 try simp only[Cm,Eh]
 refine Q2 ⟨AB,AB⟩ AA λq1 q0 q2=>?_
 try simp only[Cm]
 refine Q2 ⟨AB,AB⟩ AA λs1 s0 s2=>?_
 try simp only[Cm,HP]
 obtain⟨n,hn,e⟩:∃n:Nat,n≤6∧D.ix (.lst [.int q1,.int 6]) (.int (if(s1==7)=true then 1 else 0))=pure (.int (n:Int)):=by
  cases (s1==7)with
  |true=>exact⟨6,AA,rfl⟩
  |false=>exact⟨q1.toNat,AA,by rw[show(q1.toNat:Int)=q1 by omega];rfl⟩
 rw[e]
 try simp only[Cm]
 rw[cO _ ⟨AA,AA⟩]
 try simp only[Cm,Uq]
 obtain⟨q,hq,hs⟩:∃q:Bool,D.ix (.lst [.str "pick",.str "beside"]) (.int ((way:Int) % 2))=pure (.str (DF q))∧D.ix (.lst [.int (st:Int),.int 2]) (.int ((way:Int) % 2))=pure (.int ((if q=true then st else 2:Nat):Int)):=by
  have e:((way:Int) % 2)=((way % 2:Nat):Int):=by omega
  rw[e];have:way % 2=0∨way % 2=1:=by omega
  rcases this with h|h
  ·exact⟨true,by rw[h];rfl,by rw[h];rfl⟩
  ·exact⟨false,by rw[h];rfl,by rw[h];rfl⟩
 have st' :=λd (_:d∈DL 0 (n:Int).toNat) ρ i (hi:i<0+(DL 0 (n:Int).toNat).length)=>Vh (l:=l) (pt:=pt) (way:=way) (st:=st) F hd hl hf hr (s2:=if q=true then st else 2) (by split<;>omega) hs (z:=z+2) hz d ρ i (by rw[Wn]at hi;omega);refine HU (GF (Jv (DL 0 (n:Int).toNat) 0 st' _) λm hm=>⟨[],r,_,rfl,AD,trivial,λv hv=>(AM hv).elim,λv hv=>(AM hv).elim,Ai _,by simp[oP],?_⟩) λfl=>Cs fun ρ'=>Co λe=>?_
 ·rw[Nat.sub_self,Nat.mul_zero];exact EV hm AA
 subst e;refine Cs λps=>Cs λr'=>Cs λo5=>Co λe=>Co λh1=>Co λh2=>Co λh3=>Co λh4=>Co λh5=>Co λs6=>?_;subst e;rw[Wn]at h1;have h6:ps.length≤6:=by omega
 have hsl:(sep [(" " :Str),C7 q," "] (ps.map W.toks)).length≤oP ps+3*ps.length:=by
  have:=UN [(" " :Str),C7 q," "] (ps.map W.toks);rw[Am,AJ]at this;exact this
 try simp only[Cm,Yq (way:Int) 2 AB,hq]
 refine Na AG ?_
 try simp only[Cm]
 refine ED λm hm=>⟨.rows q ps,r',by rw[W.mean,UC],⟨AA,h2⟩,UO h3 hd,by rw[Bd];exact YO h4,h5,?_,Oh hm⟩;simp only[W.toks,iE,AH,AX];omega
theorem J4 {w' :W} {wide deep st r r' z c:Nat} {l:List (Nat×MO)} {m:Mu} {w:W} {d:D} (e:d=w'.mean (xw wide)) (g:w'.Good (xw wide)) (hdep:w'.dep+1≤deep) (hb:Bd st w') (h4:r'<r) (ht:w'.toks.length≤20+w.toks.length) (h5:w.toks.length≤20*(r - r')) (hm:St k (z+c+50*(r - r')) ((rm,.lst [.int (r' :Int)])::l) m):Bo k rm wide deep st r z 1 c l d m:=
 ⟨w',r',e,g,hdep,hb,AA,AA,hm⟩
theorem lF {wide:Nat} (h:1≤wide) (h2:wide≤30):0<(wide:Int)∧(wide:Int)<1073741824:=by omega
theorem ML {ρ:Mir.Env} {wide mm:Nat} (hw:wide≤28) (hM:mm≤4) (hp:0<mm->1≤wide) (h0:∀d,slot ((ρ.set 8 none).set 8 (some d)) 0=pure (.hnd k)) (h1:∀d,slot ((ρ.set 8 none).set 8 (some d)) 1=pure (.int (wide:Int))) (hi:(Kg (Cg 7)) ρ=pure (DL 0 mm,none)):
 Draws k 4 (Du (Kg (Cg 7)) (Cq 8) DD (Cn 2 FB (aC (Cg 0) (aC (Cg 1) Ci))) [8] ρ) (λds=>∃xs:List Str,ds=xs.map (meant (xw wide))∧xs.length≤4∧∀x,x∈xs->x∈xw wide):=by
 unfold Du;rw[hi,Dm,Uq,Dm];refine Wj (mF (Wi (cN (c:=1) (R:=bZ wide) (DL 0 mm) [] (λd hd=>⟨_,RH 8,?_⟩) (by rw[Wn];simp;omega) (λd hd=>(AM hd).elim)) λes hes=>?_) (by rw[Wn];omega))
 ·have hM0:0<mm:=by
   have:=List.length_pos_of_mem hd;rw[Wn]at this;exact this
  simp only[Cm];rw[h0 d]
  try simp only[Cm]
  rw[h1 d]
  try simp only[Cm]
  have h:=ab (k:=k) (c:=0) (f:=λd=>(pure d:M D)) (R:=bZ wide) (lF (hp hM0) AA) λr r0 r1=>S6 (J3 AA r0 r1);rw[Dy]at h;exact h
 ·obtain⟨hl2,ha⟩:=hes;obtain⟨xs,e,hx⟩:=YQ ha;rw[Wn,Ah]at hl2;refine⟨xs,e,?_,hx⟩;have:=A9 List.length e;rw[AJ]at this;omega
theorem oS (st:Nat):(if 1>(st:Int)then(1:Int)else(st:Int))=((max st 1:Nat):Int):=by split<;>omega
theorem nS {g deep st r wide:Nat} {way:Int} (F:lE k rm g) (hd:2≤deep) (hr1:1≤r) (hl:wide+deep≤20) (hf:deep≤g+1) (hr:r≤43) (hst:st≤2) (hz:z+20+50*r≤1000000):
 Tr (St k z ((rm,.lst [.int (r:Int)])::l)) (qI g [some (.hnd k),some (.int (wide:Int)),some (.int (deep:Int)),some (.hnd rm),some (.int (st:Int)),some (.int way),none,none,none,none,none,none]) (λfl m=>∃d,fl= .rt d∧Bo k rm wide deep st r z 1 20 l d m):=by
 have e1:(deep:Int) - 1=((deep - 1:Nat):Int):=by omega
 unfold qI;simp only[Cm];refine Q2 ⟨AB,AB⟩ AA λq q0 q1=>?_;obtain⟨c,ec,hc⟩:=UP q0 q1
 try simp only[Cm]
 rw[ec]
 try simp only[Cm]
 refine Q2 ⟨AB,AB⟩ AA λp p0 p1=>?_
 try simp only[Cm]
 obtain⟨M,hM,hp,em⟩:∃M:Nat,M≤4∧(0<M->1≤wide)∧D.mul (.int p) (.int (if decide ((0:Int)<(wide:Int))=true then 1 else 0))=pure (.int (M:Int)):=by
  by_cases c0:wide=0
  ·refine⟨0,AA,λh=>absurd h AA,?_⟩;rw[AW (show ¬((0:Int)<(wide:Int)) by omega),Aq AB,Zb _ _ (.inr ⟨AB,AB⟩),Int.mul_zero];rfl
  ·refine⟨p.toNat,AA,λ_=>by omega,?_⟩;rw[AK (show(0:Int)<(wide:Int) by omega),An rfl,Zb _ _ (.inr ⟨AB,AB⟩),Int.mul_one,show(p.toNat:Int)=p by omega]
 rw[em]
 try simp only[Cm]
 refine Xp ?_
 try simp only[Cm]
 rw[show decide ((1:Int)<(([.int (r:Int)]:List D).length:Int))=false from AW AD]
 try simp only[Cm,Kk,HP]
 by_cases hs:st=1
 ·subst hs;rw[show((((1:Nat):Int))==1)=true from rfl]
  try simp only[Cm]
  have nb:(decide ((0:Int)<(M:Int)) && ((wide:Int)==0))=false:=by
   by_cases c0:wide=0
   ·rw[AW (show ¬((0:Int)<(M:Int)) by omega),Cf]
   ·rw[AZ.mpr (show(wide:Int)≠0 by omega),Bool.and_false]
  by_cases m0:(0:Int)<(M:Int)
  ·rw[AK m0]at nb ⊢;rw[Bool.true_and]at nb
   try simp only[Cm]
   rw[nb]
   try simp only[Cm]
   refine L0 (ML (wide:=wide) (mm:=M) AA hM hp (λd=>rfl) (λd=>rfl) (by simp only[Cm];rw[cO _ ⟨AA,AA⟩];rfl)) AA λds hds=>?_;obtain⟨xs,rfl,h4,hx⟩:=hds
   try simp only[Cm,HV]
   refine ED λm hm=>⟨_,rfl,.call c xs,r,by rw[W.mean],⟨Oz c hc,h4,hx⟩,by simp only[W.dep];omega,by rw[Bd],Ai _,?_,EV hm AA⟩;have hn:(sep [(",":Str)] (xs.map λx=>[x])).length≤8:=by
    cases xs with
    |nil=>simp[sep]
    |cons x xs=>
     rw[AO,dE,HZ,AH,Fi,AX];rw[AI]at h4;omega
   simp only[W.toks,AH,AI,Ah];omega
  ·rw[AW m0]
   try simp only[Cm]
   refine L0 (ML (wide:=wide) (mm:=M) AA hM hp (λd=>rfl) (λd=>rfl) (by simp only[Cm];rw[cO _ ⟨AA,AA⟩];rfl)) AA λds hds=>?_;obtain⟨xs,rfl,h4,hx⟩:=hds
   try simp only[Cm,HV]
   refine ED λm hm=>⟨_,rfl,.call c xs,r,by rw[W.mean],⟨Oz c hc,h4,hx⟩,by simp only[W.dep];omega,by rw[Bd],Ai _,?_,EV hm AA⟩;have hn:(sep [(",":Str)] (xs.map λx=>[x])).length≤8:=by
    cases xs with
    |nil=>simp[sep]
    |cons x xs=>
     rw[AO,dE,HZ,AH,Fi,AX];rw[AI]at h4;omega
   simp only[W.toks,AH,AI,Ah];omega
 ·rw[AZ.mpr (show(st:Int)≠1 by omega)]
  try simp only[Cm,e1]
  rw[oS];refine HU (F wide (deep - 1) (max st 1) r (z+1+1) l AA AA AA hr1 AA AA AA) λd=>Cs λw=>Cs λr2=>Co λe=>Co λg1=>Co λg2=>Co λg3=>Co λg4=>Co λg5=>?_;subst e
  try simp only[Cm]
  exact ED λm hm=>⟨_,rfl,J4 (w' := .tick w) (by rw[W.mean]) g1 (by simp only[W.dep];omega) (by rw[Bd];exact g3) g4 (by simp only[W.toks,AH,AI,Ah];omega) g5 (EV hm AA)⟩
theorem YR {g deep st r wide way:Nat} (F:lE k rm g) (h16:way<16) (hway:2≤way->2≤deep∧1≤r) (hw1:5≤way∧way≤10∨way=15->1≤wide) (hd:1≤deep) (hl:wide+deep≤20) (hf:deep≤g+1) (hr:r≤43) (hst:st≤2) (hz:z+20+50*r≤1000000):
 Tr (St k z ((rm,.lst [.int (r:Int)])::l)) (qJ g [some (.hnd k),some (.int (wide:Int)),some (.int (deep:Int)),some (.hnd rm),some (.int (st:Int)),some (.int (way:Int)),none,none,none,none,none,none]>>=endOf) (Bo k rm wide deep st r z 1 20 l):=by
 unfold qJ;simp only[Cm];by_cases w2:way<2
 ·rw[AK (show(way:Int)<2 by omega)]
  try simp only[Cm]
  refine ED λm hm=>⟨.stop,r,by rw[W.mean],trivial,by simp only[W.dep];omega,by rw[Bd];trivial,Ai _,?_,EV hm AA⟩;simp only[W.toks,AX];omega
 obtain⟨hd2,hr1⟩:=hway AA;have e1:(deep:Int) - 1=((deep - 1:Nat):Int):=by omega
 have e2:(wide:Int)+1=((wide+1:Nat):Int):=by omega
 rw[AW (show ¬((way:Int)<2) by omega)]
 try simp only[Cm,HP]
 by_cases w3:way=2∨way=14
 ·have call:=nS (z:=z) (l:=l) (way:=(way:Int)) F hd2 hr1 hl hf hr hst AA;rcases w3 with rfl|rfl
  ·rw[show((((2:Nat):Int))==2)=true from rfl]
   try simp only[Cm]
   refine HU call λfl=>Cs λd=>Co λe=>?_;subst e
   try simp only[Cm]
   exact ED λm hm=>hm
  ·rw[show((((14:Nat):Int))==2)=false from rfl]
   try simp only[Cm]
   rw[show((((14:Nat):Int))==14)=true from rfl]
   try simp only[Cm]
   refine HU call λfl=>Cs λd=>Co λe=>?_;subst e
   try simp only[Cm]
   exact ED λm hm=>hm
 rw[AZ.mpr (show(way:Int)≠2 by omega)]
 try simp only[Cm]
 rw[AZ.mpr (show(way:Int)≠14 by omega)]
 try simp only[Cm]
 by_cases w5:way<5
 ·rw[AK (show(way:Int)<5 by omega)]
  try simp only[Cm,e1]
  rw[oS];refine HU (F wide (deep - 1) (max st 1) r z l AA AA AA hr1 AA AA AA) λd=>Cs λw=>Cs λr2=>Co λe=>Co λg1=>Co λg2=>Co λg3=>Co λg4=>Co λg5=>?_;subst e
  try simp only[Cm]
  exact ED λm hm=>J4 (w' := .tick w) (by rw[W.mean]) g1 (by simp only[W.dep];omega) (by rw[Bd];exact g3) g4 (by simp only[W.toks,AH,AI,Ah];omega) g5 (EV hm AA)
 rw[AW (show ¬((way:Int)<5) by omega)]
 try simp only[Cm]
 by_cases w7:way<7
 ·have hwd:=hw1 (.inl AA);rw[AK (show(way:Int)<7 by omega)]
  try simp only[Cm]
  refine Q2 (lF hwd AA) AA λp p0 p1=>?_
  try simp only[Cm]
  refine Q2 (lF hwd AA) AA λq q0 q1=>?_;obtain⟨x,ex,hx⟩:=J3 AA p0 p1;obtain⟨y,ey,hy⟩:=J3 AA q0 q1
  try simp only[Cm,e1]
  rw[oS];refine HU (F wide (deep - 1) (max st 1) r (z+1+1) l AA AA AA hr1 AA AA AA) λd=>Cs λw=>Cs λr2=>Co λe=>Co λg1=>Co λg2=>Co λg3=>Co λg4=>Co λg5=>?_;subst e
  try simp only[Cm]
  exact ED λm hm=>J4 (w' := .send x y w) (by rw[W.mean,←ex,←ey]) ⟨hx,hy,g1⟩ (by simp only[W.dep];omega) (by rw[Bd];exact g3) g4 (by simp only[W.toks,AH,AI,Ah];omega) g5 (EV hm AA)
 rw[AW (show ¬((way:Int)<7) by omega)]
 try simp only[Cm]
 by_cases w9:way<9∨way=15
 ·have hwd:=hw1 AA;have hear:Tr (St k z ((rm,.lst [.int (r:Int)])::l)) (FB [.hnd k,.int (wide:Int)]>>=λa=>(NQ g [.hnd k,.int ((wide:Int)+1),.int ((deep:Int) - 1),.hnd rm,.int (if 1>(st:Int)then 1 else(st:Int))]>>=λb=>(pure (.tup [.str "hear",a,b]):M D))) (Bo k rm wide deep st r z 1 20 l):=by
   refine Q2 (lF hwd AA) AA λp p0 p1=>?_;obtain⟨x,ex,hx⟩:=J3 AA p0 p1;rw[e1,e2,oS];refine HU (F (wide+1) (deep - 1) (max st 1) r (z+1) l AA AA AA hr1 AA AA AA) λd=>Cs λw=>Cs λr2=>Co λe=>Co λg1=>Co λg2=>Co λg3=>Co λg4=>Co λg5=>?_;subst e;exact ED λm hm=>J4 (w' := .hear x (xn wide) w) (by rw[W.mean,←ex];rfl) ⟨hx,Jz _ AA,g1⟩ (by simp only[W.dep];omega) (by rw[Bd];exact g3) g4 (by simp only[W.toks,AH,AI,Ah];omega) g5 (EV hm AA)
  by_cases c9:way<9
  ·rw[AK (show(way:Int)<9 by omega)]
   try simp only[Cm]
   exact hear
  ·rw[AW (show ¬((way:Int)<9) by omega)]
   try simp only[Cm]
   rw[Bc.mpr (show(way:Int)=15 by omega)]
   try simp only[Cm]
   exact hear
 rw[AW (show ¬((way:Int)<9) by omega)]
 try simp only[Cm]
 rw[AZ.mpr (show(way:Int)≠15 by omega)]
 try simp only[Cm]
 by_cases w11:way<11
 ·have hwd:=hw1 (.inl AA);rw[AK (show(way:Int)<11 by omega)]
  try simp only[Cm]
  refine Q2 (lF hwd AA) AA λp p0 p1=>?_
  try simp only[Cm]
  refine Q2 (lF hwd AA) AA λq q0 q1=>?_;obtain⟨x,ex,hx⟩:=J3 AA p0 p1;obtain⟨y,ey,hy⟩:=J3 AA q0 q1;obtain⟨b,hb⟩:∃b:Bool,D.ix (.lst [.str "if",.str "unless"]) (.int ((way:Int) - 9))=pure (.str (HF b)):=by
   have:way=9∨way=10:=by omega
   rcases this with rfl|rfl
   ·exact⟨true,rfl⟩
   ·exact⟨false,rfl⟩
  try simp only[Cm,e1,hb]
  refine HU (F wide (deep - 1) st r (z+1+1) l AA AA AA hr1 AA hst AA) λd=>Cs λw=>Cs λr2=>Co λe=>Co λg1=>Co λg2=>Co λg3=>Co λg4=>Co λg5=>?_;subst e
  try simp only[Cm]
  exact ED λm hm=>J4 (w' := .test b x y w) (by rw[W.mean,←ex,←ey]) ⟨hx,hy,g1⟩ (by simp only[W.dep];omega) (by rw[Bd];exact g3) g4 (by simp only[W.toks,AH,AI,Ah];omega) g5 (EV hm AA)
 rw[AW (show ¬((way:Int)<11) by omega)]
 try simp only[Cm]
 by_cases w12:way=11
 ·rw[Bc.mpr (show(way:Int)=11 by omega)]
  try simp only[Cm,e1,e2]
  refine HU (F (wide+1) (deep - 1) st r z l AA AA AA hr1 AA hst AA) λd=>Cs λw=>Cs λr2=>Co λe=>Co λg1=>Co λg2=>Co λg3=>Co λg4=>Co λg5=>?_;subst e
  try simp only[Cm]
  exact ED λm hm=>J4 (w' := .new (xn wide) w) (by rw[W.mean];rfl) ⟨Jz _ AA,g1⟩ (by simp only[W.dep];omega) (by rw[Bd];exact g3) g4 (by simp only[W.toks,AH,AI,Ah];omega) g5 (EV hm AA)
 rw[AZ.mpr (show(way:Int)≠11 by omega)]
 try simp only[Cm]
 refine DV (nR way F ⟨AA,AA⟩ hd2 hl hf AA hst AA) λd m hm=>?_;obtain⟨w,r',e,g1,g2,g3,g4,g5,g6⟩:=hm;exact⟨w,r',e,g1,g2,g3,g4,g5,EV g6 AA⟩
theorem nT {g deep st r wide way:Nat} (F:lE k rm g) (h16:way<16) (hway:2≤way->2≤deep∧1≤r) (hd:1≤deep) (hl:wide+deep≤20) (hf:deep≤g+1) (hr:r≤43) (hst:st≤2) (hz:z+20+50*r≤1000000):
 Tr (St k z ((rm,.lst [.int (r:Int)])::l)) (oR g [some (.hnd k),some (.int (wide:Int)),some (.int (deep:Int)),some (.hnd rm),some (.int (st:Int)),some (.int (way:Int)),none,none,none,none,none,none]>>=endOf) (Bo k rm wide deep st r z 1 20 l):=by
 unfold oR;simp only[Cm,HP];by_cases w0:wide=0
 ·rw[Bc.mpr (show(wide:Int)=0 by omega)]
  try simp only[Cm,sC,sA]
  by_cases c:5≤way∧way≤10∨way=15
  ·have e:((5:Int)==(way:Int)||(6:Int)==(way:Int)||(7:Int)==(way:Int)||(8:Int)==(way:Int)||(9:Int)==(way:Int)||(10:Int)==(way:Int)||(15:Int)==(way:Int))=true:=by
    simp only[BJ,Bc];omega
   rw[e]
   try simp only[Cm]
   exact YR (way:=3) F AA (λ_=>hway AA) (λh=>by omega) hd hl hf hr hst hz
  ·have e:((5:Int)==(way:Int)||(6:Int)==(way:Int)||(7:Int)==(way:Int)||(8:Int)==(way:Int)||(9:Int)==(way:Int)||(10:Int)==(way:Int)||(15:Int)==(way:Int))=false:=by
    simp only[CI,AZ];omega
   rw[e]
   try simp only[Cm]
   exact YR F h16 hway (λh=>absurd h c) hd hl hf hr hst hz
 ·rw[AZ.mpr (show(wide:Int)≠0 by omega)]
  try simp only[Cm]
  exact YR F h16 hway (λ_=>by omega) hd hl hf hr hst hz
theorem bb (k rm:Nat) (f:Nat):lE k rm f:=by
 induction f with
 |zero=>intro wide deep st r z l h1 h2 h3;omega
 |succ g ih=>
 intro wide deep st r z l hd hl hf h1 hr hst hz;show Tr _ (M.noexc (Fg (NQ g) (DE 12 [.hnd k,.int (wide:Int),.int (deep:Int),.hnd rm,.int (st:Int)])>>=endOf)) _;refine Gn ?_;have e0:DE 12 [.hnd k,.int (wide:Int),.int (deep:Int),.hnd rm,.int (st:Int)]=[some (.hnd k),some (.int (wide:Int)),some (.int (deep:Int)),some (.hnd rm),some (.int (st:Int)),none,none,none,none,none,none,none]:=rfl;rw[e0,ba];simp only[Cm];refine dB (d:= .int (r:Int)) rfl ?_
 try simp only[Cm]
 refine gm (j:=0) rfl ?_;have e1:(r:Int) - 1=((r - 1:Nat):Int):=by omega
 rw[e1];show Tr (St k z ((rm,.lst [.int ((r - 1:Nat):Int)])::l)) _ _
 try simp only[Cm]
 have fin:∀(way:Nat) (z' :Nat),way<16->z'≤z+10->(2≤way->2≤deep∧1≤r - 1)->Tr (St k z' ((rm,.lst [.int ((r - 1:Nat):Int)])::l)) (oR g [some (.hnd k),some (.int (wide:Int)),some (.int (deep:Int)),some (.hnd rm),some (.int (st:Int)),some (.int (way:Int)),none,none,none,none,none,none]>>=endOf) (λd m=>∃(w:W) (r' :Nat),d=w.mean (xw wide)∧w.Good (xw wide)∧w.dep+1≤deep∧Bd st w∧r'<r∧w.toks.length≤20*(r - r')∧St k (z+50*(r - r')) ((rm,.lst [.int (r' :Int)])::l) m):=λway z' hw hz' hc=>by
  refine DV (nT ih hw hc hd hl AA AA hst AA) λd m hm=>?_;obtain⟨w,r',e,h1,h2,h3,h4,h5,h6⟩:=hm;exact⟨w,r',e,h1,h2,h3,AA,AA,EV h6 AA⟩
 by_cases c:(1:Int)<(deep:Int)
 ·rw[AK c]
  try simp only[Cm]
  refine dB (d:= .int ((r - 1:Nat):Int)) rfl ?_
  try simp only[Cm]
  by_cases c2:(0:Int)<((r - 1:Nat):Int)
  ·rw[AK c2]
   try simp only[Cm]
   refine Q2 ⟨AB,AB⟩ AA λq q0 q1=>?_;obtain⟨way,rfl⟩:=BW q0
   try simp only[Cm]
   exact fin way (z+1) AA AA λ_=>⟨AA,AA⟩
  ·rw[AW c2]
   try simp only[Cm]
   exact fin 0 z AA AA λh=>absurd h AA
 ·rw[AW c]
  try simp only[Cm]
  exact fin 0 z AA AA λh=>absurd h AA
end
theorem O0 {A:Type} {fe:Mir.Env->M D} {ρ:Mir.Env} {i:Nat} (h g:A->D):∀(xs:List A) (acc:List D),(∀a,a∈xs->fe (ρ.set i (some (h a)))=pure (g a))->xs.length+acc.length≤100000->EA (Cq i) DD fe ρ (xs.map h) acc=pure (acc++xs.map g)
 |[],acc,_,_=>by rw[CB,CB,A3];rfl
 |a::xs,acc,hf,hl=>by
  rw[AI]at hl;show(fe (ρ.set i (some (h a)))>>=λy=>M.guard (decide (acc.length<sizeLine))>>=λ_=>EA (Cq i) DD fe ρ (xs.map h) (acc++[y]))=_;rw[hf a AG,Dm,Iu (BA (show acc.length<100000 by omega) AB),Dm,O0 h g xs (acc++[g a]) (λz hz=>hf z (AF _ hz)) (by rw[AH,AX];omega),Al];rfl
theorem Qi {A:Type} {fi:Mir.Env->M (List D×Option Nat)} {fe:Mir.Env->M D} {ρ:Mir.Env} {i:Nat} {xs:List A} (h g:A->D) (hi:fi ρ=pure (xs.map h,none)) (hf:∀a,a∈xs->fe ((DB ρ [i]).set i (some (h a)))=pure (g a)) (hl:xs.length≤100000):Du fi (Cq i) DD fe [i] ρ=pure (xs.map g):=by
 unfold Du;rw[hi,Dm,Uq,Dm,O0 h g xs [] hf (by simpa using hl),Za,BX]
def names:List D->List Str
 |[]=>[]
 | .str x::r=>x::names r
 |_::r=>names r
theorem O1 {A:Type} {fi fi1:Mir.Env->M (List D×Option Nat)} {fe:Mir.Env->M D} {ρ:Mir.Env} {i j:Nat} {own:List Nat} {xs:List A} (h:A->D) (g:A->List D) (hi:fi ρ=pure (xs.map h,none)) (h1:∀a,a∈xs->fi1 ((DB ρ own).set i (some (h a)))=pure (g a,none))
 (he:∀a,a∈xs->∀d,fe ((DB ((DB ρ own).set i (some (h a))) [j]).set j (some d))=pure d) (hl:(xs.flatMap g).length≤100000):LQ fi (Cq i) DD fi1 (Cq j) DD fe own [j] ρ=pure (xs.flatMap g):=by
 unfold LQ;rw[hi,Dm,Uq,Dm];have go:∀(ys:List A) (acc:List D),(∀a,a∈ys->a∈xs)->acc.length+(ys.flatMap g).length≤100000->Hq (Cq i) DD (KW fi1 (Cq j) DD fe [j]) (DB ρ own) (ys.map h) acc=pure (acc++ys.flatMap g):=by
  intro ys
  induction ys with
  |nil=>intro acc _ _;rw[CB,List.flatMap_nil,A3];rfl
  |cons a ys ih=>
   intro acc hs hl;rw[BH,AH]at hl;show(KW fi1 (Cq j) DD fe [j] ((DB ρ own).set i (some (h a))) acc>>=λa2=>Hq (Cq i) DD (KW fi1 (Cq j) DD fe [j]) (DB ρ own) (ys.map h) a2)=_;unfold KW;rw[h1 a (hs a AG),Dm,Uq,Dm];have q:=O0 (fe:=fe) (ρ:=DB ((DB ρ own).set i (some (h a))) [j]) (i:=j) id id (g a) acc (λd _=>he a (hs a AG) d) AA;rw[CU]at q;rw[q,Dm];have z:=ih (acc++g a) (λb hb=>hs b (AF _ hb)) (by rw[AH];omega);rw[BH,←Al];exact z
 rw[go xs [] (λa ha=>ha) (by simpa using hl),Za,BX]
theorem O2 {fi fi1:Mir.Env->M (List D×Option Nat)} {fg fg1:D->Mir.Env->M Mir.Env} {ft ft1:Mir.Env->M Bool} {fe:Mir.Env->M D} {own vs1:List Nat} {ρ:Mir.Env}:Wv fi fg ft fi1 fg1 ft1 fe own vs1 ρ=(LQ fi fg ft fi1 fg1 ft1 fe own vs1 ρ>>=λds=>pure (.lst ds)):=(rfl)
theorem Vi {fi:Mir.Env->M (List D×Option Nat)} {fg:D->Mir.Env->M Mir.Env} {ft:Mir.Env->M Bool} {fe:Mir.Env->M D} {own:List Nat} {ρ:Mir.Env}:OF fi fg ft fe own ρ=(TM fi fg ft fe own ρ>>=λxs=>pure (.lst ((dS xs).map .str))):=(rfl)
theorem J5 (ρ:Mir.Env) (i j:Nat):DB ρ [i,j]=(ρ.set j none).set i none:=(rfl)
def hM (l:List D) (d:D):List D:=match d with
 | .tup _=>l
 |d=>[d]
theorem YS (xs:List D) (l:D):cut (xs++[l]) (some (-1)) none=[l]:=by
 unfold cut;have e1:HT.sIx (xs++[l]).length 0 (some (-1))=xs.length:=by
  unfold HT.sIx;simp only[AH,AX];split<;>omega
 have e2:HT.sIx (xs++[l]).length (xs++[l]).length none=(xs++[l]).length:=rfl;rw[e1,e2];simp
theorem nU:D.neg (.int 1)=pure (.int (-1)):=rfl
theorem Qj (w a b c:Str):D.isIn (.str w) (.tup [.str a,.str b,.str c])=pure (.bl (decide (w=a∨w=b∨w=c))):=by
 have h:=Rx w [a,b,c];rw[show([a,b,c]:List Str).map D.str=[.str a,.str b,.str c]from rfl]at h;rw[h];simp
structure One (kw:Str):Prop where
 h1:decide (kw="pick"∨kw="beside")=false
 h2:decide (kw="stop"∨kw="call")=false
 h3:(kw=="call")=false
 h4:(kw=="beside")=false
theorem bc:∀w,w∈(["tick","send","hear","if","unless","new"]:List Str)->decide (w="pick"∨w="beside")=false∧decide (w="stop"∨w="call")=false∧(w=="call")=false∧(w=="beside")=false:=by decide+kernel
theorem UQ {w:Str} (h:w∈(["tick","send","hear","if","unless","new"]:List Str)):One w:=let ⟨a,b,c,d⟩:=bc w h;⟨a,b,c,d⟩
theorem Fs (q:Bool):One (HF q):=by cases q<;>exact UQ AD
theorem Vq {kw:Str} {ms:List D} {x:D} (h:One kw):Tj [.tup (.str kw::(ms++[x]))]=pure (.tup [x]):=by
 show M.noexc (Yw (DE 1 [.tup (.str kw::(ms++[x]))])>>=endOf)=_;have e0:DE 1 [.tup (.str kw::(ms++[x]))]=[some (.tup (.str kw::(ms++[x])))]:=rfl;rw[e0];have sl:D.slice (.tup (D.str kw::(ms++[x]))) (some (-1)) none=pure (.tup [x]):=by
  rw[Uo,←CF,YS]
 simp only[Cm,Yw,Dv,Ey,FO,h.h1,h.h2,nU,sl]
theorem Ih (q:Bool) (ds:List D):Tj [.tup [.str (DF q),.tup ds]]=pure (.tup ds):=by
 show M.noexc (Yw (DE 1 [.tup [.str (DF q),.tup ds]])>>=endOf)=_;have e0:DE 1 [.tup [.str (DF q),.tup ds]]=[some (.tup [.str (DF q),.tup ds])]:=rfl;rw[e0];have h1:decide (DF q="pick"∨DF q="beside")=true:=by cases q<;>decide+kernel
 have i1:atI [D.str (DF q),D.tup ds] 1=some (.tup ds):=fL (n:=1) rfl rfl;simp only[Cm,Yw,Dv,Ey,FO,h1,i1]
theorem GM {kw:Str} {r:List D} (h:kw="stop"∨kw="call"):Tj [.tup (.str kw::r)]=pure (.tup []):=by
 show M.noexc (Yw (DE 1 [.tup (.str kw::r)])>>=endOf)=_;have e0:DE 1 [.tup (.str kw::r)]=[some (.tup (.str kw::r))]:=rfl;rw[e0];have h1:decide (kw="pick"∨kw="beside")=false:=by rcases h with rfl|rfl<;>decide+kernel
 simp only[Cm,Yw,Dv,Ey,FO,h1,AK h]
theorem YT (w:W) (b:List Str):∃x r,w.mean b= .tup (.str x::r):=by
 cases w<;>rw[W.mean]<;>exact⟨_,_,rfl⟩
theorem J6 {b:List Str}:∀{ps:List W} {d:D},d∈W.meanL b ps->∃v,v∈ps∧d=v.mean b:=λ{ps d} h=>by
 rw[UC]at h;obtain⟨v,hv,e⟩:=AY.mp h;exact⟨v,hv,e.symm⟩
theorem J7 {n:Nat} {kw:Str} {r:List D} (h:kw="tick"∨kw="send"∨kw="hear"):Tn (n+1) [.tup (.str kw::r)]=pure (.bl true):=by
 show M.noexc (cx (Tn n) (DE 2 [.tup (.str kw::r)])>>=endOf)=_;have e0:DE 2 [.tup (.str kw::r)]=[some (.tup (.str kw::r)),none]:=rfl;rw[e0];simp only[Cm,cx,Dv,Ey,Qj,AK h]
theorem GN {n:Nat} {kw:Str} {r ds:List D} (h1:decide (kw="tick"∨kw="send"∨kw="hear")=false) (h2:(kw=="call")=false) (hi:Tj [.tup (.str kw::r)]=pure (.tup ds)) (ih:∀d,d∈ds->Tn n [d]=pure (.bl true)) (hl:ds.length≤1000):
 Tn (n+1) [.tup (.str kw::r)]=pure (.bl true):=by
 show M.noexc (cx (Tn n) (DE 2 [.tup (.str kw::r)])>>=endOf)=_;have e0:DE 2 [.tup (.str kw::r)]=[some (.tup (.str kw::r)),none]:=rfl;rw[e0];have ne:D.ne (.str kw) (.str "call")=pure (.bl (!(kw=="call"))):=rfl;simp only[Cm,cx,Dv,Ey,Qj,h1];rw[ne,h2]
 try simp only[Cm]
 rw[Qi (xs:=ds) id (λ_=> .bl true) (by simp only[Cm,hi];rw[Wm,CU]) (λd hd=>by simp only[Cm,FL,id];exact ih d hd) AA]
 try simp only[Cm]
 rw[all_map (λ_=>true) ds,all_true (f:=λ_:D=>true) _ (λ_ _=>rfl)];rfl
theorem SL:∀(n:Nat) (w:W) (b:List Str) (st:Nat),w.dep+1≤n->Bd st w->st≠1->w.Good b->Tn n [w.mean b]=pure (.bl true):=by
 intro n
 induction n with
 |zero=>intro w b st h;omega
 |succ n ih=>
 intro w b st h hb hs hg;have f3:∀x,x∈(["stop","pick","beside","if","unless","new"]:List Str)->decide (x="tick"∨x="send"∨x="hear")=false:=by decide+kernel
 cases w with
 |stop=>rw[W.mean];exact GN (f3 _ AD) AC (GM (.inl rfl)) (λd hd=>(AM hd).elim) AD
 |call c xs=>rw[Bd]at hb;exact absurd hb hs
 |tick w=>rw[W.mean];exact J7 (.inl rfl)
 |send x y w=>rw[W.mean];exact J7 (.inr (.inl rfl))
 |hear x o w=>rw[W.mean];exact J7 (.inr (.inr rfl))
 |rows q ps=>
  rw[Bd]at hb;have h:W.depL ps+1+1≤n+1:=h;rw[W.mean];refine GN (by cases q<;>exact f3 _ AD) (by cases q<;>decide+kernel) (Ih q _) (λd hd=>?_) (by rw[UC,AJ];have:=hg.1;omega);obtain⟨v,hv,rfl⟩:=J6 hd;exact ih v b _ (by have:=UF v hv;omega) (Kv hb v hv) (by cases q<;>simp<;>omega) (YB hg.2 v hv)
 |test q x y w=>
  rw[Bd]at hb;have h:w.dep+1+1≤n+1:=h;rw[W.mean];refine GN (ds:=[w.mean b]) (by cases q<;>exact f3 _ AD) (Fs q).h3 (Vq (ms:=[meant b x,meant b y]) (Fs q)) (λd hd=>?_) AD;rw[AR.mp hd];exact ih w b st AA hb hs hg.2.2
 |new o w=>
  rw[Bd]at hb;have h:w.dep+1+1≤n+1:=h;rw[W.mean];refine GN (ds:=[w.mean (o::b)]) (f3 _ AD) AC (Vq (ms:=[]) (UQ AD)) (λd hd=>?_) AD;rw[AR.mp hd];exact ih w (o::b) st AA hb hs hg.2
theorem iW {n:Nat} {kw:Str} {r ds:List D} (h2:(kw=="call")=false) (hi:Tj [.tup (.str kw::r)]=pure (.tup ds)) (ih:∀d,d∈ds->Rg n [d]=pure (.lst [])) (hl:ds.length≤1000):
 Rg (n+1) [.tup (.str kw::r)]=pure (.lst []):=by
 show M.noexc (kI (Rg n) (DE 3 [.tup (.str kw::r)])>>=endOf)=_;have e0:DE 3 [.tup (.str kw::r)]=[some (.tup (.str kw::r)),none,none]:=rfl;rw[e0];simp only[Cm,kI,Dv,Ey,eq_str,h2,O2];have e:ds.flatMap (λ_=>([]:List D))=[]:=by simp
 rw[O1 (xs:=ds) id (λ_=>[]) (by simp only[Cm,hi];rw[Wm,CU]) (λd hd=>by simp only[Cm,J5,id];rw[ih d hd];try simp only[Cm];rw[S8]) (λd hd x=>by simp only[Cm,J5,id]) (by rw[e];simp)];rw[e]
 try simp only[Cm]
theorem YU:∀(n:Nat) (w:W) (b:List Str),w.dep+1≤n->Bd 2 w->w.Good b->Rg n [w.mean b]=pure (.lst []):=by
 intro n
 induction n with
 |zero=>intro w b h;omega
 |succ n ih=>
 intro w b h hb hg
 cases w with
 |stop=>rw[W.mean];exact iW AC (GM (.inl rfl)) (λd hd=>(AM hd).elim) AD
 |call c xs=>rw[Bd]at hb;omega
 |tick w=>
  rw[Bd]at hb;have h:w.dep+1+1≤n+1:=h;rw[W.mean];refine iW (ds:=[w.mean b]) AC (Vq (ms:=[]) (UQ AD)) (λd hd=>?_) AD;rw[AR.mp hd];exact ih w b AA hb hg
 |send x y w=>
  rw[Bd]at hb;have h:w.dep+1+1≤n+1:=h;rw[W.mean];refine iW (ds:=[w.mean b]) AC (Vq (ms:=[meant b x,meant b y]) (UQ AD)) (λd hd=>?_) AD;rw[AR.mp hd];exact ih w b AA hb hg.2.2
 |hear x o w=>
  rw[Bd]at hb;have h:w.dep+1+1≤n+1:=h;rw[W.mean];refine iW (ds:=[w.mean (o::b)]) AC (Vq (ms:=[meant b x]) (UQ AD)) (λd hd=>?_) AD;rw[AR.mp hd];exact ih w (o::b) AA hb hg.2.2
 |rows q ps=>
  rw[Bd]at hb;have h:W.depL ps+1+1≤n+1:=h;rw[W.mean];refine iW (by cases q<;>decide+kernel) (Ih q _) (λd hd=>?_) (by rw[UC,AJ];have:=hg.1;omega);obtain⟨v,hv,rfl⟩:=J6 hd;have hv2:=Kv hb v hv;have e2:(if q=true then 2 else 2:Nat)=2:=by cases q<;>rfl
  rw[e2]at hv2;exact ih v b (by have:=UF v hv;omega) hv2 (YB hg.2 v hv)
 |test q x y w=>
  rw[Bd]at hb;have h:w.dep+1+1≤n+1:=h;rw[W.mean];refine iW (ds:=[w.mean b]) (Fs q).h3 (Vq (ms:=[meant b x,meant b y]) (Fs q)) (λd hd=>?_) AD;rw[AR.mp hd];exact ih w b AA hb hg.2.2
 |new o w=>
  rw[Bd]at hb;have h:w.dep+1+1≤n+1:=h;rw[W.mean];refine iW (ds:=[w.mean (o::b)]) AC (Vq (ms:=[]) (UQ AD)) (λd hd=>?_) AD;rw[AR.mp hd];exact ih w (o::b) AA hb hg.2
theorem UR:D.ne (.lst []) (.lst [])=pure (.bl false):=by
 show D.ned (.lst []) (.lst [])=_;unfold D.ned D.eqo;rfl
theorem dN {n:Nat} {kw:Str} {r ds:List D} (hc:kw="beside"->Rg 40 [.tup (.str kw::r)]=pure (.lst [])) (hi:Tj [.tup (.str kw::r)]=pure (.tup ds)) (ih:∀d,d∈ds->VG n [d,.bl true]=pure (.bl false)) (hl:ds.length≤1000):
 VG (n+1) [.tup (.str kw::r),.bl true]=pure (.bl false):=by
 show M.noexc (kJ (VG n) (DE 4 [.tup (.str kw::r),.bl true])>>=endOf)=_;have e0:DE 4 [.tup (.str kw::r),.bl true]=[some (.tup (.str kw::r)),some (.bl true),none,none]:=rfl;rw[e0];have fin:M.noexc ((Cj (C3 2 (Yp (Cg 1) (Ck D.notIn (Ck D.ix (Cg 0) (eC (.int 0))) (DS (aC (eC (.str "beside")) (aC (eC (.str "new")) Ci))))))
  (Cu (eB (d1 D.any) (aC (E1 (DJ (Cn 1 Tj (aC (Cg 0) Ci))) (Cq 3) DD (EX 1 1 2 (VG n) (aC (Cg 3) Ci) (aC (Cg 2) Ci)) [3]) Ci)))) [some (.tup (.str kw::r)),some (.bl true),none,none]>>=endOf)=pure (.bl false):=by
  simp only[Cm];rw[Qi (xs:=ds) id (λ_=> .bl false) (by simp only[Cm,hi];rw[Wm,CU]) (λd hd=>by simp only[Cm,FL,id];exact ih d hd) AA]
  try simp only[Cm]
  rw[any_map (λ_=>false) ds,show(ds.any λ_=>false)=false by simp];rfl
 unfold kJ;simp only[Cm,Dv,Ey,eq_str]
 cases hk:(kw=="beside")with
 |true=>
  try simp only[Cm]
  rw[hc (Bc.mp hk)]
  try simp only[Cm,UR]
  simp only[Cm]at fin;exact fin
 |false=>
  try simp only[Cm]
  simp only[Cm]at fin;exact fin
theorem YV:∀(n:Nat) (w:W) (b:List Str) (st:Nat),w.dep+1≤n->w.dep≤30->Bd st w->w.Good b->VG n [w.mean b,.bl true]=pure (.bl false):=by
 intro n
 induction n with
 |zero=>intro w b st h;omega
 |succ n ih=>
 intro w b st h hd30 hb hg;have kb:∀x,x∈(["stop","call","tick","send","hear","new","pick","if","unless"]:List Str)->x≠"beside" :=by decide+kernel
 have cb:∀x (r:List D),x∈(["stop","call","tick","send","hear","new","pick","if","unless"]:List Str)->x="beside"->Rg 40 [.tup (.str x::r)]=pure (.lst []):=λx r h e=>absurd e (kb x h)
 cases w with
 |stop=>rw[W.mean];exact dN (cb _ _ AD) (GM (.inl rfl)) (λd hd=>(AM hd).elim) AD
 |call c xs=>rw[W.mean];exact dN (cb _ _ AD) (GM (.inr rfl)) (λd hd=>(AM hd).elim) AD
 |tick w=>
  rw[Bd]at hb;have h:w.dep+1+1≤n+1:=h;have hd30:w.dep+1≤30:=hd30;rw[W.mean];refine dN (ds:=[w.mean b]) (cb _ _ AD) (Vq (ms:=[]) (UQ AD)) (λd hd=>?_) AD;rw[AR.mp hd];exact ih w b _ AA AA hb hg
 |send x y w=>
  rw[Bd]at hb;have h:w.dep+1+1≤n+1:=h;have hd30:w.dep+1≤30:=hd30;rw[W.mean];refine dN (ds:=[w.mean b]) (cb _ _ AD) (Vq (ms:=[meant b x,meant b y]) (UQ AD)) (λd hd=>?_) AD;rw[AR.mp hd];exact ih w b _ AA AA hb hg.2.2
 |hear x o w=>
  rw[Bd]at hb;have h:w.dep+1+1≤n+1:=h;have hd30:w.dep+1≤30:=hd30;rw[W.mean];refine dN (ds:=[w.mean (o::b)]) (cb _ _ AD) (Vq (ms:=[meant b x]) (UQ AD)) (λd hd=>?_) AD;rw[AR.mp hd];exact ih w (o::b) _ AA AA hb hg.2.2
 |rows q ps=>
  have hb0:=hb;rw[Bd]at hb;have h:W.depL ps+1+1≤n+1:=h;have hd30:W.depL ps+1≤30:=hd30;have hc:DF q="beside"->Rg 40 [(W.rows q ps).mean b]=pure (.lst []):=λe=>by
   cases q with
   |true=>exact absurd e AC
   |false=>exact YU 40 (.rows false ps) b (by show W.depL ps+1+1≤40;omega) (by rw[Bd];exact hb) hg
  rw[W.mean]at hc ⊢;refine dN hc (Ih q _) (λd hd=>?_) (by rw[UC,AJ];have:=hg.1;omega);obtain⟨v,hv,rfl⟩:=J6 hd;exact ih v b _ (by have:=UF v hv;omega) (by have:=UF v hv;omega) (Kv hb v hv) (YB hg.2 v hv)
 |test q x y w=>
  rw[Bd]at hb;have h:w.dep+1+1≤n+1:=h;have hd30:w.dep+1≤30:=hd30;rw[W.mean];refine dN (ds:=[w.mean b]) (cb _ _ (by cases q<;>simp)) (Vq (ms:=[meant b x,meant b y]) (Fs q)) (λd hd=>?_) AD;rw[AR.mp hd];exact ih w b st AA AA hb hg.2.2
 |new o w=>
  rw[Bd]at hb;have h:w.dep+1+1≤n+1:=h;have hd30:w.dep+1≤30:=hd30;rw[W.mean];refine dN (ds:=[w.mean (o::b)]) (cb _ _ AD) (Vq (ms:=[]) (UQ AD)) (λd hd=>?_) AD;rw[AR.mp hd];exact ih w (o::b) st AA AA hb hg.2
mutual
def W.mks (b:List Str):W->List D
 | .stop=>[]
 | .call _ ws=>ws.map (meant b)
 | .rows _ ps=>W.mksL b ps
 | .tick w=>w.mks b
 | .send x y w=>[meant b x,meant b y]++w.mks b
 | .test _ x y w=>[meant b x,meant b y]++w.mks b
 | .new o w=>w.mks (o::b)
 | .hear x o w=>[meant b x]++w.mks (o::b)
def W.mksL (b:List Str):List W->List D
 |[]=>[]
 |w::ws=>w.mks b++W.mksL b ws
end
theorem J8 (b:List Str):∀ps:List W,W.mksL b ps=ps.flatMap (W.mks b)
 |[]=>rfl
 |w::ws=>by rw[BH,←J8 b ws];rfl
def Yz (d:D):Prop:=∃j:Nat,d= .int (j:Int)
theorem YW {b:List Str} {x:Str} (h:DR b x):Yz (meant b x):=by
 unfold meant;rw[An (show x∈b from h)];exact⟨_,rfl⟩
mutual
theorem IC:∀(w:W) (b:List Str),w.Good b->(∀m,m∈w.mks b->Yz m)∧(w.mks b).length≤w.toks.length
 | .stop,b,_=>⟨λm hm=>(AM hm).elim,by simp[W.mks]⟩
 | .call c xs,b,hg=>⟨λm hm=>by
  obtain⟨x,hx,rfl⟩:=AY.mp hm;exact YW (hg.2.2 x hx),by
  simp only[W.mks,W.toks,AJ,AH,AI,Ah];have:=MG xs;unfold ones at this;rw[this];omega⟩
 | .rows q ps,b,hg=>by
  obtain⟨h1,h2⟩:=YX ps b hg.2 [(" " :Str),C7 q," "];refine⟨h1,?_⟩;simp only[W.mks,W.toks,AH,AX];omega
 | .tick w,b,hg=>by
  obtain⟨h1,h2⟩:=IC w b hg;refine⟨h1,?_⟩;simp only[W.mks,W.toks,AH,AI,Ah];omega
 | .send x y w,b,hg=>by
  obtain⟨h1,h2⟩:=IC w b hg.2.2;refine⟨λm hm=>?_,?_⟩
  ·simp only[W.mks,Ap,AQ,AM,BR]at hm;rcases hm with(rfl|rfl)|hm
   ·exact YW hg.1
   ·exact YW hg.2.1
   ·exact h1 m hm
  ·simp only[W.mks,W.toks,AH,AI,Ah];omega
 | .test q x y w,b,hg=>by
  obtain⟨h1,h2⟩:=IC w b hg.2.2;refine⟨λm hm=>?_,?_⟩
  ·simp only[W.mks,Ap,AQ,AM,BR]at hm;rcases hm with(rfl|rfl)|hm
   ·exact YW hg.1
   ·exact YW hg.2.1
   ·exact h1 m hm
  ·simp only[W.mks,W.toks,AH,AI,Ah];omega
 | .new o w,b,hg=>by
  obtain⟨h1,h2⟩:=IC w (o::b) hg.2;refine⟨h1,?_⟩;simp only[W.mks,W.toks,AH,AI,Ah];omega
 | .hear x o w,b,hg=>by
  obtain⟨h1,h2⟩:=IC w (o::b) hg.2.2;refine⟨λm hm=>?_,?_⟩
  ·simp only[W.mks,Ap,AQ,AM,BR]at hm;rcases hm with rfl|hm
   ·exact YW hg.1
   ·exact h1 m hm
  ·simp only[W.mks,W.toks,AH,AI,Ah];omega
theorem YX:∀(ps:List W) (b:List Str),W.GoodL b ps->∀s:List Str,(∀m,m∈W.mksL b ps->Yz m)∧(W.mksL b ps).length≤(sep s (W.toksL ps)).length
 |[],b,_,s=>⟨λm hm=>(AM hm).elim,by simp[W.mksL]⟩
 |[w],b,hg,s=>by
  obtain⟨h1,h2⟩:=IC w b hg.1;refine⟨λm hm=>?_,?_⟩
  ·rw[W.mksL,W.mksL,A3]at hm;exact h1 m hm
  ·rw[W.mksL,W.mksL,A3];exact h2
 |w::v::ws,b,hg,s=>by
  obtain⟨h1,h2⟩:=IC w b hg.1;obtain⟨h3,h4⟩:=YX (v::ws) b hg.2 s;refine⟨λm hm=>?_,?_⟩
  ·rw[W.mksL]at hm;rcases Ap.mp hm with hm|hm
   ·exact h1 m hm
   ·exact h3 m hm
  ·rw[W.mksL,AH];show _≤(w.toks++s++sep s (W.toksL (v::ws))).length;rw[AH,AH];omega
end
theorem Vj {m:D} (h:Yz m):D.isT "tuple" m=pure (.bl false):=by
 obtain⟨j,rfl⟩:=h;exact EI "tuple" (.int j) "int" false rfl rfl rfl
theorem nV {l:List D} {m:D} (h:Yz m):hM l m=[m]:=by obtain⟨j,rfl⟩:=h;rfl
theorem dO {l:List D}:∀{ms:List D},(∀m,m∈ms->Yz m)->ms.flatMap (hM l)=ms
 |[],_=>rfl
 |m::ms,h=>by
  rw[BH,nV (h m AG),dO λx hx=>h x (AF _ hx)];rfl
theorem YY {n:Nat} {d:D} {R:M D} (h:M.noexc (Vo (O9 n) [some d,none,none,none,none,none]>>=endOf)=R):O9 (n+1) [d]=R:=h
theorem Vk {n:Nat} {kw:Str} {ms r ds:List D} (h:One kw) (hm:∀m,m∈ms->Yz m) (ih:O9 n [D.tup ds]=pure (.lst r)) (hl:ms.length+r.length≤3000):O9 (n+1) [.tup (.str kw::(ms++[D.tup ds]))]=pure (.lst (ms++r)):=by
 refine YY ?_;simp only[Cm,Vo];rw[mH 1 2 (.str kw::(ms++[D.tup ds])) ⟨AB,by rw[AI];omega⟩,Ly]
 try simp only[Cm]
 rw[FO,h.h1]
 try simp only[Cm]
 rw[eq_str,h.h3]
 try simp only[Cm,O2]
 have e:(ms++[D.tup ds]).flatMap (hM r)=ms++r:=by
  rw[List.flatMap_append,dO hm,List.flatMap_singleton];rfl
 rw[O1 (xs:=ms++[D.tup ds]) id (hM r) (by simp only[Cm];rw[S8,CU]) (λa ha=>?_) (λa ha d=>by simp only[Cm,id,J5]) (by rw[e,AH];omega)]
 ·try simp only[Cm]
  rw[e]
 ·simp only[Cm,id,J5];rcases Ap.mp ha with ha|ha
  ·rw[Vj (hm a ha)]
   try simp only[Cm]
   rw[S8,nV (hm a ha)]
  ·rw[AR.mp ha,EI "tuple" (D.tup ds) "tuple" true rfl rfl rfl]
   try simp only[Cm]
   rw[ih]
   try simp only[Cm]
   rw[S8];rfl
theorem YZ:∀(n:Nat) (w:W) (b:List Str),w.dep+1≤n->w.toks.length≤3000->w.Good b->O9 n [w.mean b]=pure (.lst (w.mks b)):=by
 intro n
 induction n with
 |zero=>intro w b h;omega
 |succ n ih=>
 intro w b h ht hg;have hi:=IC w b hg;have one:∀{kw:Str} {ms:List D} {v:W} {c:List Str},One kw->(∀m,m∈ms->Yz m)->ms.length+v.toks.length≤3000->v.dep+1≤n->v.Good c->O9 (n+1) [.tup (.str kw::(ms++[v.mean c]))]=pure (.lst (ms++v.mks c)):=λ{kw ms v c} ho hm hl hd hv=>by
  have q:=ih v c hd AA hv;have hj:=(IC v c hv).2;obtain⟨x,r,e⟩:=YT v c;rw[e]at q ⊢;exact Vk ho hm q AA
 cases w with
 |stop=>
  rw[W.mean];show M.noexc (Vo (O9 n) (DE 6 [.tup [.str "stop"]])>>=endOf)=pure (.lst []);have e0:DE 6 [.tup [.str "stop"]]=[some (.tup [.str "stop"]),none,none,none,none,none]:=rfl;rw[e0];simp only[Cm,Vo];rw[mH 1 2 [.str "stop"] ⟨AB,AB⟩,Ly]
  try simp only[Cm]
  rw[FO,show decide (("stop" :Str)="pick"∨("stop" :Str)="beside")=false by decide+kernel]
  try simp only[Cm]
  rw[eq_str,show(("stop" :Str)=="call")=false by decide+kernel]
  try simp only[Cm,O2]
  rw[O1 (xs:=([]:List D)) id (hM []) (by simp only[Cm];rw[S8];rfl) (λa ha=>(AM ha).elim) (λa ha=>(AM ha).elim) AB]
  try simp only[Cm]
  rfl
 |call c xs=>
  rw[W.mean];show M.noexc (Vo (O9 n) (DE 6 [.tup [.str "call",.str c,.tup (xs.map (meant b))]])>>=endOf)=pure (.lst (xs.map (meant b)));have e0:DE 6 [.tup [.str "call",.str c,.tup (xs.map (meant b))]]=[some (.tup [.str "call",.str c,.tup (xs.map (meant b))]),none,none,none,none,none]:=rfl;rw[e0];simp only[Cm,Vo];rw[mH 1 2 [.str "call",.str c,.tup (xs.map (meant b))] ⟨AB,AD⟩,Ly]
  try simp only[Cm]
  rw[FO,show decide (("call" :Str)="pick"∨("call" :Str)="beside")=false by decide+kernel]
  try simp only[Cm]
  rw[eq_str,show(("call" :Str)=="call")=true by decide+kernel]
  try simp only[Cm]
  rw[LD,show atI [D.str c,.tup (xs.map (meant b))] 1=some (.tup (xs.map (meant b)))from fL (n:=1) rfl rfl]
  try simp only[Cm]
  rw[Xs]
  try simp only[Cm]
 |rows q ps=>
  have h:W.depL ps+1+1≤n+1:=h;have hl:=hi.2;rw[W.mean];show O9 (n+1) [.tup [.str (DF q),.tup (W.meanL b ps)]]=pure (.lst (W.mksL b ps));show M.noexc (Vo (O9 n) (DE 6 [.tup [.str (DF q),.tup (W.meanL b ps)]])>>=endOf)=_;have e0:DE 6 [.tup [.str (DF q),.tup (W.meanL b ps)]]=[some (.tup [.str (DF q),.tup (W.meanL b ps)]),none,none,none,none,none]:=rfl;rw[e0];have h1:decide (DF q="pick"∨DF q="beside")=true:=by cases q<;>decide+kernel
  simp only[Cm,Vo];rw[mH 1 2 [.str (DF q),.tup (W.meanL b ps)] ⟨AB,AD⟩,Ly]
  try simp only[Cm]
  rw[FO,h1]
  try simp only[Cm,O2]
  have hl2:(ps.flatMap (W.mks b)).length≤3000:=by rw[←J8];exact Ag hl ht
  rw[O1 (xs:=ps) (W.mean b) (W.mks b) (by simp only[Cm];rw[LD,Ey];try simp only[Cm];rw[Wm,UC]) (λv hv=>?_) (λa ha d=>by simp only[Cm,J5]) AA]
  ·try simp only[Cm]
   rw[J8]
  ·simp only[Cm,J5];have ht2:v.toks.length≤3000:=by
    have:=SI [(" " :Str),C7 q," "] (tss:=W.toksL ps) (x:=v.toks) (by rw[iE];exact AY.mpr ⟨v,hv,rfl⟩);have ht' :([EN q]++sep [(" " :Str),C7 q," "] (W.toksL ps)++[De q]).length≤3000:=ht;rw[AH,AH]at ht';omega
   rw[ih v b (by have:=UF v hv;omega) ht2 (YB hg.2 v hv)]
   try simp only[Cm]
   rw[S8]
 |tick w=>
  have h:w.dep+1+1≤n+1:=h;simp only[W.toks,AH,AI,Ah]at ht;rw[W.mean];exact one (ms:=[]) (UQ AD) (λm hm=>(AM hm).elim) (by simp;omega) AA hg
 |send x y w=>
  have h:w.dep+1+1≤n+1:=h;simp only[W.toks,AH,AI,Ah]at ht;rw[W.mean];exact one (ms:=[meant b x,meant b y]) (UQ AD) (λm hm=>by
   simp only[AQ,AM,BR]at hm;rcases hm with rfl|rfl
   ·exact YW hg.1
   ·exact YW hg.2.1) (by simp;omega) AA hg.2.2
 |test q x y w=>
  have h:w.dep+1+1≤n+1:=h;simp only[W.toks,AH,AI,Ah]at ht;rw[W.mean];exact one (ms:=[meant b x,meant b y]) (Fs q) (λm hm=>by
   simp only[AQ,AM,BR]at hm;rcases hm with rfl|rfl
   ·exact YW hg.1
   ·exact YW hg.2.1) (by simp;omega) AA hg.2.2
 |new o w=>
  have h:w.dep+1+1≤n+1:=h;simp only[W.toks,AH,AI,Ah]at ht;rw[W.mean];exact one (ms:=[]) (UQ AD) (λm hm=>(AM hm).elim) (by simp;omega) AA hg.2
 |hear x o w=>
  have h:w.dep+1+1≤n+1:=h;simp only[W.toks,AH,AI,Ah]at ht;rw[W.mean];exact one (ms:=[meant b x]) (UQ AD) (λm hm=>by
   rw[AR.mp hm];exact YW hg.1) (by simp;omega) AA hg.2.2
theorem Nb {i:Nat} {ft:Mir.Env->M Bool} {fe:Mir.Env->M D} {ρ:Mir.Env} (ht:∀d,Yz d->ft (ρ.set i (some d))=pure false):∀(ms:List D) (acc:List Str),(∀m,m∈ms->Yz m)->OE (Cq i) ft fe ρ ms acc=pure acc
 |[],acc,_=>rfl
 |d::ms,acc,h=>by
  show(ft (ρ.set i (some d))>>=λt=>if t=true then fe (ρ.set i (some d))>>=λy=>D.txt y>>=λx=>M.guard (decide (acc.length+1<4096))>>=λ_=>OE (Cq i) ft fe ρ ms (acc++[x])else OE (Cq i) ft fe ρ ms acc)=_;rw[ht d (h d AG),Dm,Aq AB];exact Nb ht ms acc λm hm=>h m (AF _ hm)
theorem Mj {w:W} {b:List Str} (n:D) (hd:w.dep≤30) (ht:w.toks.length≤3000) (hg:w.Good b):mX [w.mean b,n]=pure (.tup []):=by
 show M.noexc (j0 (DE 3 [w.mean b,n])>>=endOf)=_;have e0:DE 3 [w.mean b,n]=[some (w.mean b),some n,none]:=rfl;rw[e0];simp only[Cm,j0,Vi];unfold TM;simp only[Cm];rw[YZ 40 w b AA ht hg]
 try simp only[Cm]
 rw[S8]
 try simp only[Cm]
 rw[Nb (λd hd=>by simp only[Cm];obtain⟨j,rfl⟩:=hd;rw[EI "str" (.int j) "int" false rfl rfl rfl];rfl) (w.mks b) [] (IC w b hg).1]
 try simp only[Cm,HV]
 rfl
def iX:List Str:=["A","B","Ring","Zed"]
structure Rw where
 c:Str
 n:Nat
 w:W
structure Rw.Ok (p:Rw):Prop where
 c:p.c∈iX
 n:p.n≤4
 g:p.w.Good (xw p.n)
 d:p.w.dep≤10
 t:p.w.toks.length≤900
 b:Bd 0 p.w
abbrev Rw.m (p:Rw):D:=p.w.mean (xw p.n)
abbrev Rw.vd (p:Rw):D:= .tup [.int (p.n:Int),p.m]
abbrev Rw.kv (p:Rw):Key×D:=(.inr p.c,p.vd)
abbrev Rw.d (p:Rw):D:= .tup [.str p.c,.int (p.n:Int),p.m]
def Rw.tx (p:Rw):Str:=TT (D1 p.c (Qf p.n) (p.w.re (xw p.n)))
theorem Rw.Ok.df {p:Rw} (h:p.Ok):ER p.c.cps.toList=true:=Oz _ h.c
theorem HK:∀x,x∈iX->x.length≤4∧PyData.strOk x=true:=by decide+kernel
theorem Ya {n:Nat} (h:n≤30):Binds (xw n):=MC AA
theorem Qk {p:Rw} (h:p.Ok):VF [.str p.c,.int (p.n:Int),p.m]=pure (.str p.tx):=by
 have hn:=h.n;have q:=Qg (b:=xw p.n) p.w h.df (Ya AA) (by rw[HJ];exact hn) (by have:=h.d;omega) (by have:=h.t;omega) h.g;rw[HJ]at q;exact q
theorem SM {p:Rw} (h:p.Ok):(p.w.re (xw p.n)).mean (xw p.n)=p.m∧(p.w.re (xw p.n)).Good (xw p.n):=by
 have hn:=h.n;have hd:=h.d;have q:=FI p.w (xw p.n) (by rw[HJ];omega) h.g;rw[HJ]at q;exact q
theorem Ql {p:Rw} (h:p.Ok):(D1 p.c (Qf p.n) (p.w.re (xw p.n))).length≤920∧∀t,t∈D1 p.c (Qf p.n) (p.w.re (xw p.n))->B6 t:=by
 have hn:=h.n;refine⟨?_,qE h.df (JX AA) (Ya AA) (SM h).2⟩;rw[d_len,Ku,(FR _ _).2];have:=h.t;omega
theorem O3 {p:Rw} (h:p.Ok):p.tx.length≤5600:=by
 obtain⟨a,b⟩:=Ql h;have:=(QZ b).2;unfold Rw.tx;omega
theorem Yb {p:Rw} (h:p.Ok) {l:List (Nat×MO)}:Tr (Hs l) (Yx [.str p.tx]) (λd m=>d=p.d∧Hs l m):=by
 have hn:=h.n;obtain⟨e,g⟩:=SM h;have q:=Qe (l:=l) (c:=p.c) (xs:=Qf p.n) (p.w.re (xw p.n)) p.tx rfl (by have:=O3 h;omega) h.df (JX AA) (iQ _ hn) (by rw[Ku];exact hn) (by rw[(FR _ _).1];have:=h.d;omega) (by rw[UL];exact g);rw[UL,e,Ku]at q;exact q
theorem Nc {k:Nat} {d:D} (hk:k≤60) (h:HE k d=true):∃p,d.py=some p∧SeqAt.shaped p=true∧p.canLay0=true:=by
 obtain⟨p,e,c,dp,_,_⟩:=Ts k d h;refine⟨p,e,?_,c⟩;unfold SeqAt.shaped;rw[c,AK (show p.depth≤64 by omega)];rfl
theorem Qm {k:Nat} {d:D} (hk:k≤60) (h:HE k d=true):D.eqo d d=some true:=by
 obtain⟨p,e,s,c⟩:=Nc hk h;unfold D.eqo;rw[e];dsimp only;rw[An ⟨s,s⟩,PySem.SeqAt.eqv_refl p c]
theorem Qn {k:Nat} {d:D} (hk:k≤60) (hn:d.now=pure d) (h:HE k d=true):D.ned d d=pure (.bl false):=by
 unfold D.ned;rw[hn,Dm,Dm,Qm hk h];rfl
theorem iY {k:Nat} {ds:List D} (hk:k≤60) (h:HE k (.lst ds)=true):D.ne (.lst ds) (.lst ds)=pure (.bl false):=Qn hk rfl h
theorem nW {p:Rw} (h:p.Ok):Sh 40 22 p.m:=by
 have hn:=h.n;have hd:=h.d;exact(FG p.w (xw p.n) (Ya AA) (by rw[HJ];omega) h.g).up (Ai _) AA
theorem Yc (n:Nat) (k:Nat) (h:n≤40):Sh 40 k (.int (n:Int)):= .int k (Ag (show((n:Int)).natAbs≤40 by omega) (Nat.le_add_left _ _))
theorem qK {p:Rw} (h:p.Ok) (k:Nat):Sh 40 k (.str p.c):= .str k (HK _ h.c).2 (Ag (HK _ h.c).1 AB)
theorem nX {p:Rw} (h:p.Ok):Sh 40 23 p.vd:=On (Yc _ _ (by have:=h.n;omega)) (nW h) AB
theorem nY {p:Rw} (h:p.Ok):Sh 40 23 p.d:=MB (qK h _) (Yc _ _ (by have:=h.n;omega)) (nW h) AB
structure Rws (rows:List Rw):Prop where
 ok:∀p,p∈rows->p.Ok
 nd:(rows.map Rw.c).Nodup
theorem US:∀{l m:List Str},l.Nodup->(∀x,x∈l->x∈m)->l.length≤m.length
 |[],_,_,_=>BM _
 |x::l,m,nd,h=>by
  rw[Au]at nd;have hx:=h x AG;have q:=US (l:=l) (m:=m.erase x) nd.2 λy hy=>(List.mem_erase_of_ne (λe=>by rw[e]at hy;exact nd.1 hy)).mpr (h y (AF _ hy));rw[List.length_erase_of_mem hx]at q;have:=List.length_pos_of_mem hx;rw[AI];omega
theorem MM {A B:Type} {f:A->B}:∀{l:List B} {rows:List A},l.Perm (rows.map f)->∃S:List A,S.Perm rows∧S.map f=l
 |[],rows,h=>by
  have e:=h.length_eq;rw[AJ]at e;have:rows=[]:=A8.mp e.symm;exact⟨[],by rw[this],rfl⟩
 |b::l,rows,h=>by
  obtain⟨a,ha,rfl⟩:=AY.mp (h.mem_iff.mp AG);obtain⟨r1,r2,rfl⟩:=List.append_of_mem ha;have h2:l.Perm ((r1++r2).map f):=by
   refine List.Perm.cons_inv (h.trans ?_);rw[Aw,AO,Aw];exact List.perm_middle
  obtain⟨S,s1,s2⟩:=MM h2;exact⟨a::S,(s1.cons a).trans List.perm_middle.symm,by rw[AO,s2]⟩
theorem Rws.len {rows:List Rw} (h:Rws rows):rows.length≤4:=by
 have q:=US (m:=iX) h.nd λx hx=>by
  obtain⟨p,hp,rfl⟩:=AY.mp hx;exact(h.ok p hp).c
 rw[AJ]at q;exact q
def Ea (rows:List Rw) (p:Rw):List Rw:=if(rows.any λq=>decide (q.c=p.c))=true then rows.map (λq=>if q.c=p.c then p else q)else rows++[p]
theorem bf (rows:List Rw) (p:Rw):putD (rows.map Rw.kv) (.inr p.c) p.vd=(Ea rows p).map Rw.kv:=by
 unfold putD Ea;have e:((rows.map Rw.kv).any λq=>decide (q.1=(Sum.inr p.c:Key)))=rows.any λq=>decide (q.c=p.c):=by
  rw[List.any_map]
  congr 1
  funext q
  show decide ((Sum.inr q.c:Key)=Sum.inr p.c)=_;rw[Bq,Ay,Ay];exact⟨λh=>Sum.inr.inj h,λh=>by rw[h]⟩
 rw[e];split
 ·rw[Am,Am];refine BD λq _=>?_;show(if(Sum.inr q.c:Key)=Sum.inr p.c then((Sum.inr q.c:Key),p.vd)else q.kv)=(if q.c=p.c then p else q).kv;by_cases c:q.c=p.c
  ·rw[An (by rw[c]),An c,c]
  ·rw[Aq (λz=>c (Sum.inr.inj z)),Aq c]
 ·rw[Aw];rfl
theorem Qo {rows:List Rw} {p:Rw} (h:p.c∉rows.map Rw.c):Ea rows p=rows++[p]:=by
 unfold Ea;rw[Aq];rw[CD];rintro⟨q,hq,e⟩;exact h (AY.mpr ⟨q,hq,AN e⟩)
theorem Yd (rows:List Rw) (p:Rw):(Ea rows p).map Rw.c=if p.c∈rows.map Rw.c then rows.map Rw.c else rows.map Rw.c++[p.c]:=by
 by_cases h:p.c∈rows.map Rw.c
 ·rw[An h];unfold Ea;rw[An (by
   obtain⟨q,hq,e⟩:=AY.mp h;exact CD.mpr ⟨q,hq,AK e⟩),Am]
  refine BD λq _=>?_;show(if q.c=p.c then p else q).c=q.c;split
  ·rename_i c;exact c.symm
  ·rfl
 ·rw[Aq h,Qo h,Aw];rfl
theorem Rws.put {rows:List Rw} {p:Rw} (h:Rws rows) (hp:p.Ok):Rws (Ea rows p):=by
 refine⟨λq hq=>?_,?_⟩
 ·unfold Ea at hq;split at hq
  ·obtain⟨r,hr,rfl⟩:=AY.mp hq;split
   ·exact hp
   ·exact h.ok r hr
  ·rcases Ap.mp hq with hq|hq
   ·exact h.ok q hq
   ·rw[AR.mp hq];exact hp
 ·rw[Yd];split
  ·exact h.nd
  ·rename_i c
   exact Br.mpr ⟨h.nd,AD,λx hx y hy=>by rw[AR.mp hy];rintro rfl;exact c hx⟩
theorem Rws.one {rows:List Rw} (h:Rws rows) {p q:Rw} (hp:p∈rows) (hq:q∈rows) (e:p.c=q.c):p=q:=by
 have nd:=h.nd
 clear h
 induction rows with
 |nil=>exact(AM hp).elim
 |cons r rows ih=>
  rw[AO,Au]at nd;rcases AQ.mp hp with h1|h1
  ·rcases AQ.mp hq with h2|h2
   ·rw[h1,h2]
   ·exact absurd (AY.mpr ⟨q,h2,by rw[←e,h1]⟩) nd.1
  ·rcases AQ.mp hq with h2|h2
   ·exact absurd (AY.mpr ⟨p,h1,by rw[e,h2]⟩) nd.1
   ·exact ih h1 h2 nd.2
theorem O4 {rows:List Rw} (h:Rws rows) {p:Rw} (hp:p∈rows):Ee (rows.map Rw.kv) (.inr p.c)=some p.vd:=by
 unfold Ee;have nd:=h.nd
 clear h
 induction rows with
 |nil=>exact(AM hp).elim
 |cons r rows ih=>
  rw[AO,Au]at nd;rw[AO];rcases AQ.mp hp with rfl|hp
  ·rw[B5 AD];rfl
  ·rw[B7 (by
    simp only[Ay];intro z;exact nd.1 (AY.mpr ⟨p,hp,(Sum.inr.inj z).symm⟩))]
   exact ih hp nd.2
theorem Ye (rows:List Rw):cg (rows.map Rw.kv)=some (rows.map Rw.c):=by
 induction rows with
 |nil=>rfl
 |cons r rows ih=>
  show(cg (rows.map Rw.kv)).map (r.c::·)=_;rw[ih];rfl
theorem Qp {rows:List Rw} (h:Rws rows):∃S:List Rw,S.Perm rows∧S.map Rw.c=dS (rows.map Rw.c):=by
 have pm:(dS (rows.map Rw.c)).Perm (rows.map Rw.c):=(List.perm_ext_iff_of_nodup ((LO _).imp λ{a b} q e=>by rw[e]at q;exact Kl _ q) h.nd).mpr λx=>LP;exact MM pm
abbrev BO (K:Nat):MO:= .ins "Book" [("kept",.hnd K)]
theorem Y0 (K:Nat):List.lookup ("kept" :Str) ([("kept",.hnd K)]:List (Str×D))=some (.hnd K):=rfl
theorem Y1 (K:Nat):∀y,y∈(["put","get","names","__len__","__eq__","__str__","__repr__"]:List Str)->List.lookup y ([("kept",.hnd K)]:List (Str×D))=none:=by
 have h:∀y,y∈(["put","get","names","__len__","__eq__","__str__","__repr__"]:List Str)->(y=="kept")=false:=by decide+kernel
 intro y hy;rw[Bk,h y hy];rfl
theorem qL (x y:D):decide (([x]:List D).length=1∧([y]:List D).length=1∧([x,y]:List D).length=2)=true:=rfl
section
variable {A:Type} {k z i:Nat} {l:List (Nat×MO)} {Q:A->Mu->Prop}
theorem FS {c y:Str} {fs:List (Str×D)} {d:D} {f:D->M A} (hm:(i,.ins c fs)∈l) (e:fs.lookup y=some d) (h:Tr (St k z l) (f d) Q):Tr (St k z l) (M.fld c i y>>=f) Q:=λm hs=>by
 have e1:=hs.2.2 _ hm;rw[Do];simp only[M.fld,e1,Ae,e];exact h m hs
theorem Y2 {c y:Str} {fs:List (Str×D)} {f:Unit->M A} (hm:(i,.ins c fs)∈l) (e:fs.lookup y=none) (h:Tr (St k z l) (f ()) Q):Tr (St k z l) (M.meth c i y>>=f) Q:=λm hs=>by
 have e1:=hs.2.2 _ hm;rw[Do];simp only[M.meth,e1,e,and_self,Ae];exact h m hs
theorem bg {kvs:List (Key×D)} {x:Key} {d:D} {f:Unit->M A} (hl:kvs.length≤1000) (h:Tr (St k z ((i,.dic (putD kvs x d))::l)) (f ()) Q):Tr (St k z ((i,.dic kvs)::l)) (M.putK i x d>>=f) Q:=λm hs=>by
 have e1:=FP hs;rw[Do];simp only[M.putK,e1];rw[An (Bm hl AB)];exact h _ (Lz hs)
theorem bh {c y:Str} {fs:List (Str×D)} {d:D} {f:Unit->M A} (hl:fs.length<1000) (h:Tr (St k z ((i,.ins c (JB y d fs))::l)) (f ()) Q):Tr (St k z ((i,.ins c fs)::l)) (M.putF c i y d>>=f) Q:=λm hs=>by
 have e1:=FP hs;rw[Do];simp only[M.putF,e1];rw[An ⟨trivial,hl⟩];exact h _ (Lz hs)
theorem J9 {kvs:List (Key×D)} {f:List (Key×D)->M A} (hm:(i,.dic kvs)∈l) (h:Tr (St k z l) (f kvs) Q):Tr (St k z l) (M.kvs i>>=f) Q:=λm hs=>by
 have e1:=hs.2.2 _ hm;rw[Do];simp only[M.kvs,e1];exact h m hs
theorem iZ {c:Str} {fs:List (Str×D)} {f:D->M A} (hm:(i,.ins c fs)∈l) (h:Tr (St k z l) (f (.bl true)) Q):Tr (St k z l) (M.isO c i>>=f) Q:=λm hs=>by
 have e1:=hs.2.2 _ hm;rw[Do];simp only[M.isO,e1,Ae];exact h m hs
theorem SN {B:Type} {o:Option B} {b:B} {f:B->M A} (e:o=some b) (h:Tr (St k z l) (f b) Q):Tr (St k z l) (M.opt o>>=f) Q:=by
 subst e;exact h
end
section
variable {k z b K:Nat} {l:List (Nat×MO)} {rows:List Rw}
theorem SO {p:Rw} (hb:(b,BO K)∈l) (h:Rws rows) (hp:p.Ok):Tr (St k z ((K,.dic (rows.map Rw.kv))::l)) (PB [.hnd b,.str p.c,.int (p.n:Int),p.m]) (λe m=>e= .non∧St k z ((K,.dic ((Ea rows p).map Rw.kv))::l) m):=by
 show Tr _ (M.noexc (kK (DE 4 [.hnd b,.str p.c,.int (p.n:Int),p.m])>>=endOf)) _;have e0:DE 4 [.hnd b,.str p.c,.int (p.n:Int),p.m]=[some (.hnd b),some (.str p.c),some (.int (p.n:Int)),some p.m]:=rfl;rw[e0];refine Gn ?_;have hn:=hp.n;have hd:=hp.d;have ht:=hp.t;have df:=VU p.c (Ag (HK _ hp.c).1 AB);rw[hp.df]at df;have wh:=JY (p.n:Int);have it:=Ox 40 p.w (xw p.n) AA (Ya AA) (by rw[HJ];omega) hp.g;rw[HJ]at it;have st:=Mj (w:=p.w) (b:=xw p.n) (.int (p.n:Int)) AA AA hp.g;have gr:=SL 40 p.w (xw p.n) 0 AA hp.b AB hp.g;have cw:=YV 40 p.w (xw p.n) 0 AA AA hp.b hp.g;have le1:decide ((0:Int)≤(p.n:Int))=true:=AK AA;have le2:decide ((p.n:Int)≤4)=true:=AK AA;have nt:D.ne (.tup []) (.tup [])=pure (.bl false):=Qn (k:=1) AB rfl AC;have hl:(rows.map Rw.kv).length≤1000:=by
  rw[AJ];have:=h.len;omega
 unfold kK;simp only[Cm,df,wh,LG,le1,le2,qL,it,st,nt,gr,cw,Bool.and_true,Bool.and_self,show ∀(fo fi fv:Mir.Env->M D) (ρ:Mir.Env),TC fo fi fv ρ=(fv ρ>>=λd=>fo ρ>>=λx=>D.ref x>>=λk=>fi ρ>>=λy=>D.key y>>=λz=>M.putK k z d>>=λ_=>pure (.nx ρ))from λ_ _ _ _=>rfl];refine FS (AF _ hb) (Y0 K) ?_
 try simp only[Cm,JS]
 refine bg hl ?_;rw[bf]
 try simp only[Cm]
 exact ED λm hm=>⟨rfl,hm⟩
theorem ia {p:Rw} (hb:(b,BO K)∈l) (hk:(K,.dic (rows.map Rw.kv))∈l) (h:Rws rows) (hp:p∈rows):Tr (St k z l) (aX [.hnd b,.str p.c]) (λe m=>e=p.vd∧St k z l m):=by
 show Tr _ (M.noexc (kQ (DE 3 [.hnd b,.str p.c])>>=endOf)) _;have e0:DE 3 [.hnd b,.str p.c]=[some (.hnd b),some (.str p.c),none]:=rfl;rw[e0];refine Gn ?_;have df:=VU p.c (Ag (HK _ (h.ok p hp).c).1 AB);rw[(h.ok p hp).df]at df;unfold kQ;simp only[Cm,df];show Tr _ (M.noexc (Cu (MX (En "Book" "kept" (Cg 0)) (Cg 1)) [some (.hnd b),some (.str p.c),none])>>=endOf) _;refine HU (R:=λfl m=>fl= .rt p.vd∧St k z l m) (Gn ?_) λfl=>Co λe=>?_
 ·simp only[Cm,Rz,HG];refine FS hb (Y0 K) ?_
  try simp only[Cm,JS]
  refine Oy hk (O4 h hp) ?_;exact ED λm hm=>⟨rfl,hm⟩
 ·subst e;simp only[Cm];exact ED λm hm=>⟨rfl,hm⟩
theorem Yf (hb:(b,BO K)∈l) (hk:(K,.dic (rows.map Rw.kv))∈l) (h:Rws rows):Tr (St k z l) (cy [.hnd b]) (λe m=>e= .lst ((dS (rows.map Rw.c)).map .str)∧St k z l m):=by
 show Tr _ (M.noexc (kR (DE 1 [.hnd b])>>=endOf)) _;have e0:DE 1 [.hnd b]=[some (.hnd b)]:=rfl;rw[e0];refine Gn ?_;unfold kR;simp only[Cm,HG];refine FS hb (Y0 K) ?_
 try simp only[Cm]
 unfold D.sortDct
 try simp only[Cm]
 refine J9 hk ?_;refine SN (Ye rows) ?_;rw[Iu (show(rows.map Rw.c).length<64∧(rows.map Rw.c).Nodup from⟨by rw[AJ];have:=h.len;omega,h.nd⟩)]
 try simp only[Cm]
 exact ED λm hm=>⟨rfl,hm⟩
theorem ib (hb:(b,BO K)∈l) (hk:(K,.dic (rows.map Rw.kv))∈l):Tr (St k z l) (Rh [.hnd b]) (λe m=>e= .int (rows.length:Int)∧St k z l m):=by
 show Tr _ (M.noexc (kM (DE 1 [.hnd b])>>=endOf)) _;have e0:DE 1 [.hnd b]=[some (.hnd b)]:=rfl;rw[e0];refine Gn ?_;unfold kM;simp only[Cm,HG];refine FS hb (Y0 K) ?_
 try simp only[Cm]
 unfold D.lenDct
 try simp only[Cm]
 refine J9 hk ?_
 try simp only[Cm]
 exact ED λm hm=>⟨by rw[AJ],hm⟩
theorem bj (hb:(b,BO K)∈l) (hk:(K,.dic (rows.map Rw.kv))∈l) (h:Rws rows):Tr (St k z l) (Ri [.hnd b]) (λe m=>e= .str (("Book(" :Str)++(toString (rows.length:Int):Str)++")")∧St k z l m):=by
 show Tr _ (M.noexc (kP (DE 1 [.hnd b])>>=endOf)) _;have e0:DE 1 [.hnd b]=[some (.hnd b)]:=rfl;rw[e0];refine Gn ?_;have hl:=h.len;have sl:("Book(" :Str).length=5∧(")" :Str).length=1∧Str.empty.length=0:=by decide+kernel
 have tl:=Fm rows.length AA;unfold kP;simp only[Cm,HG];rw[DI _ _ (by rw[sl.1,sl.2.2];decide)]
 try simp only[Cm]
 refine FS hb (Y0 K) ?_
 try simp only[Cm]
 unfold D.lenDct
 try simp only[Cm]
 refine J9 hk ?_
 try simp only[Cm]
 rw[AJ,UK rows.length AA]
 try simp only[Cm]
 have e1:(Str.empty++("Book(" :Str))="Book(" :=iJ _;rw[e1,DI _ _ (by rw[sl.1];omega)]
 try simp only[Cm]
 rw[DI _ _ (by rw[E2,sl.1,sl.2.1];omega)]
 try simp only[Cm]
 exact ED λm hm=>⟨rfl,hm⟩
end
section
variable {P:Mu->Prop} {T:Type}
theorem SQ {fg:D->Mir.Env->M Mir.Env} {fe:Mir.Env->M D} {ρ:Mir.Env} (p q:T->D):∀(ps:List T) (acc:List D),(∀a,a∈ps->∃ρ',fg (p a) ρ=pure ρ'∧Tr P (fe ρ') (λd m=>d=q a∧P m))->ps.length+acc.length≤100000->Tr P (EA fg DD fe ρ (ps.map p) acc) (λes m=>es=acc++ps.map q∧P m)
 |[],acc,_,_=>ED λm hm=>⟨AD,hm⟩
 |a::ps,acc,h,hl=>by
  rw[AI]at hl;obtain⟨ρ',e,t⟩:=h a AG;show Tr _ (fg (p a) ρ>>=fun ρ'=>(pure true:M Bool)>>=λt=>if t=true then fe ρ'>>=λy=>M.guard (decide (acc.length<sizeLine))>>=λ_=>EA fg DD fe ρ (ps.map p) (acc++[y])else EA fg DD fe ρ (ps.map p) acc) _;rw[e,Dm,Dm,An rfl];refine Dd t ?_;refine Xn (BA (show acc.length<100000 by omega) AB) ?_;refine DV (SQ p q ps (acc++[q a]) (λz hz=>h z (AF _ hz)) (by rw[AH,AX];omega)) λes m hes=>⟨?_,hes.2⟩;rw[hes.1,Al];rfl
theorem O5 {fi:Mir.Env->M (List D×Option Nat)} {fg:D->Mir.Env->M Mir.Env} {fe:Mir.Env->M D} {own:List Nat} {ρ:Mir.Env} {ps:List T} (p q:T->D) (hi:fi ρ=pure (ps.map p,none)) (h:∀a,a∈ps->∃ρ',fg (p a) (DB ρ own)=pure ρ'∧Tr P (fe ρ') (λd m=>d=q a∧P m)) (hl:ps.length≤100000):Tr P (Du fi fg DD fe own ρ) (λes m=>es=ps.map q∧P m):=by
 unfold Du;rw[hi,Dm,Uq,Dm];refine Gn (DV (SQ p q ps [] h (by simpa using hl)) λes m hes=>⟨?_,hes.2⟩);rw[hes.1,BX]
end
theorem ie {A:Type} {k z:Nat} {l:List (Nat×MO)} {x:M A} {R:A->Prop} (h:∀L,Tr (Hs L) x (λd m=>R d∧Hs L m)):Tr (St k z l) x (λd m=>R d∧St k z l m):=λm hm=>by
 obtain⟨ds,h1,h2⟩:=mh hm;obtain⟨a,m',e,r,h3⟩:=h _ m h1;exact⟨a,m',e,r,h2 _ _ h3⟩
section
variable {k z b K:Nat} {l:List (Nat×MO)} {rows:List Rw}
theorem Qq {rows ro:List Rw} (h:Rws ro):∀(rs:List Rw),(∀p,p∈rs->p∈ro)->MY (ro.map Rw.kv) (rs.map Rw.kv)=some true
 |[],_=>rfl
 |p::rs,hs=>by
  have hp:=hs p AG;have e1:=O4 h hp;have e2:D.eqo p.vd p.vd=some true:=Qm (k:=23) AB ((nX (h.ok p hp)).ok AB);have e3:=Qq (rows:=rows) h rs λq hq=>hs q (AF _ hq);show(match Ee (ro.map Rw.kv) (.inr p.c)with
   |none=>some false
   |some e=>match D.eqo p.vd e,MY (ro.map Rw.kv) (rs.map Rw.kv)with
    |some b,some c=>some (b && c)
    |_,_=>none)=some true
  rw[e1];dsimp only;rw[e2,e3];rfl
theorem nZ {b' K' :Nat} {ro:List Rw} (hb:(b,BO K)∈l) (hk:(K,.dic (rows.map Rw.kv))∈l) (hb' :(b',BO K')∈l) (hk' :(K',.dic (ro.map Rw.kv))∈l) (h:Rws ro) (hs:∀p,p∈rows->p∈ro):
 Tr (St k z l) (KL [.hnd b,.hnd b']) (λe m=>e= .bl (rows.length==ro.length)∧St k z l m):=by
 show Tr _ (M.noexc (kN (DE 2 [.hnd b,.hnd b'])>>=endOf)) _;have e0:DE 2 [.hnd b,.hnd b']=[some (.hnd b),some (.hnd b')]:=rfl;rw[e0];refine Gn ?_;unfold kN;simp only[Cm,HG,show ∀(cls:Str) (fa:Mir.Env->M D) (ρ:Mir.Env),aA cls fa ρ=(fa ρ>>=D.ref>>=λk=>M.isO cls k)from λ_ _ _=>rfl];refine iZ hb' ?_
 try simp only[Cm]
 refine FS hb (Y0 K) ?_
 try simp only[Cm]
 refine FS hb' (Y0 K') ?_
 try simp only[Cm]
 unfold D.eqDct
 try simp only[Cm]
 refine J9 hk ?_
 try simp only[Cm]
 refine J9 hk' ?_;refine SN (Qq (rows:=rows) h rows hs) ?_
 try simp only[Cm]
 exact ED λm hm=>⟨by rw[AJ,AJ,Bool.and_true],hm⟩
theorem ij {S:List Rw} (hb:(b,BO K)∈l) (hk:(K,.dic (rows.map Rw.kv))∈l) (h:Rws rows) (hp:S.Perm rows) (hS:S.map Rw.c=dS (rows.map Rw.c)):Tr (St k z l) (Lh [.hnd b]) (λe m=>e= .str (Txt.join "\n" (S.map Rw.tx))∧St k z l m):=by
 show Tr _ (M.noexc (kO (DE 3 [.hnd b])>>=endOf)) _;have e0:DE 3 [.hnd b]=[some (.hnd b),none,none]:=rfl;rw[e0];refine Gn ?_;unfold kO;have hl:=h.len;have hSl:S.length≤4:=by rw[hp.length_eq];exact hl
 have it:Tr (St k z l) (DJ (eB (d1 D.sortDct) (aC (En "Book" "kept" (Cg 0)) Ci)) [some (.hnd b),none,none]) (λp m=>p=(S.map (λq=>D.str q.c),none)∧St k z l m):=by
  simp only[Cm,HG];refine FS hb (Y0 K) ?_
  try simp only[Cm]
  unfold D.sortDct
  try simp only[Cm]
  refine J9 hk ?_;refine SN (Ye rows) ?_;rw[Iu (show(rows.map Rw.c).length<64∧(rows.map Rw.c).Nodup from⟨by rw[AJ];omega,h.nd⟩)]
  try simp only[Cm]
  rw[S8,←hS,Am];exact ED λm hm=>⟨rfl,hm⟩
 have lc:Tr (St k z l) (Du (DJ (eB (d1 D.sortDct) (aC (En "Book" "kept" (Cg 0)) Ci))) (Cq 2) DD (Cn 3 VF (aC (Cg 2) (aC (Ck D.ix (MX (En "Book" "kept" (Cg 0)) (Cg 2)) (eC (.int 0))) (aC (Ck D.ix (MX (En "Book" "kept" (Cg 0)) (Cg 2)) (eC (.int 1))) Ci)))) [2] [some (.hnd b),none,none]) (λes m=>es=S.map (λq=>D.str q.tx)∧St k z l m):=by
  unfold Du;refine Dd it ?_;rw[Uq,Dm];refine Gn (DV (SQ (λq:Rw=>D.str q.c) (λq=>D.str q.tx) S [] (λq hq=>⟨_,RH 2,?_⟩) (by simp;omega)) λes m hes=>⟨?_,hes.2⟩)
  ·have hq' :=hp.mem_iff.mp hq;have hok:=h.ok q hq';simp only[Cm,FL,Rz,HG];refine FS hb (Y0 K) ?_
   try simp only[Cm,JS]
   refine Oy hk (O4 h hq') ?_;rw[Dv,Ey]
   try simp only[Cm]
   refine FS hb (Y0 K) ?_
   try simp only[Cm,JS]
   refine Oy hk (O4 h hq') ?_;rw[Dv,show atI [D.int (q.n:Int),q.m] 1=some q.m from fL (n:=1) rfl rfl]
   try simp only[Cm]
   exact T3 (Qk hok)
  ·rw[hes.1,BX]
 simp only[Cm];refine Dd lc ?_
 try simp only[Cm]
 have jn:D.join "\n" (.lst (S.map λq=>D.str q.tx))=pure (.str (Txt.join "\n" (S.map Rw.tx))):=by
  show(D.now (.lst _)>>=D.join1 _)=_;show D.join2 "\n" (S.map λq=>D.str q.tx)=_;unfold D.join2;have e1:D.texts (S.map λq=>D.str q.tx)=some (S.map Rw.tx):=by
   rw[←NV (S.map Rw.tx),Am];rfl
  rw[e1];have hsum:((S.map Rw.tx).map (·.length)).sum≤S.length*5600:=by
   clear e1 lc it hS
   have hh:∀q,q∈S->q.tx.length≤5600:=λq hq=>O3 (h.ok q (hp.mem_iff.mp hq))
   clear hp hSl
   induction S with
   |nil=>simp
   |cons q S ih=>
    rw[AO,AO,CG,AI];have:=ih λr hr=>hh r (AF _ hr);have:=hh q AG;omega
  show(M.guard (decide (((S.map Rw.tx).map (·.length)).sum+(S.map Rw.tx).length*("\n" :Str).length≤16777216))>>=λ_=>(pure (D.str (Txt.join "\n" (S.map Rw.tx))):M D))=_;rw[Iu (by rw[AJ,show("\n" :Str).length=1 from by decide+kernel];omega)];rfl
 rw[jn]
 try simp only[Cm]
 exact ED λm hm=>⟨rfl,hm⟩
end
section
variable {k z b K:Nat} {l:List (Nat×MO)} {rows:List Rw}
theorem Qr {rows:List Rw} (h:Rws rows):∀(ps:List Rw),(∀p,p∈ps->p.Ok)->Rws (ps.foldl Ea rows)
 |[],_=>h
 |p::ps,hp=>Qr (h.put (hp p AG)) ps λq hq=>hp q (AF _ hq)
theorem Nd:∀(ps rows:List Rw),((rows++ps).map Rw.c).Nodup->ps.foldl Ea rows=rows++ps
 |[],rows,_=>by simp
 |p::ps,rows,h=>by
  have hn:p.c∉rows.map Rw.c:=λhc=>by
   rw[Aw,Br]at h;exact h.2.2 _ hc _ (by rw[AO];exact AG) rfl
  rw[List.foldl_cons,Qo hn,Nd ps (rows++[p]) (by rw[Al];exact h),Al];rfl
theorem UT {fg:D->Mir.Env->M Mir.Env} {fb:Mir.Env->M Fl} {I:Mir.Env->Prop} (hb:(b,BO K)∈l)
 (step:∀(p:Rw) ρ,p.Ok->I ρ->∃ρ',fg p.d ρ=pure ρ'∧I ρ'∧fb ρ'=(M.meth "Book" b "put">>=λ_=>PB [.hnd b,.str p.c,.int (p.n:Int),p.m]>>=λ_=>pure (.nx ρ'))):
 ∀(ps rows:List Rw) ρ,Rws rows->(∀p,p∈ps->p.Ok)->I ρ->Tr (St k z ((K,.dic (rows.map Rw.kv))::l)) (forL fg fb (ps.map Rw.d) ρ) (λfl m=>(∃ρ',fl= .nx ρ'∧I ρ')∧St k z ((K,.dic ((ps.foldl Ea rows).map Rw.kv))::l) m)
 |[],rows,ρ,_,_,hI=>ED λm hm=>⟨⟨ρ,rfl,hI⟩,hm⟩
 |p::ps,rows,ρ,h,hp,hI=>by
  obtain⟨ρ',e1,e2,e3⟩:=step p ρ (hp p AG) hI;show Tr _ ((fg p.d ρ>>=fun ρ=>fb ρ>>=λfl=>match fl with
   | .nx ρ=>forL fg fb (ps.map Rw.d) ρ
   | .ct ρ=>forL fg fb (ps.map Rw.d) ρ
   | .bk ρ=>pure (.nx ρ)
   | .rt d=>pure (.rt d)):M Fl) _
  rw[e1,Dm,e3,D5];refine Y2 (AF _ hb) (Y1 K _ AD) ?_;rw[D5];refine Dd (SO hb h (hp p AG)) ?_;rw[Dm];exact UT hb step ps (Ea rows p) ρ' (h.put (hp p AG)) (λq hq=>hp q (AF _ hq)) e2
def sD (b:Nat) (al:D) (ρ:Mir.Env):Prop:=∃o2 o3 o4,ρ=[some (.hnd b),some al,o2,o3,o4]
theorem Kw (a b c:D):D.unpack 3 (.tup [a,b,c])=pure [a,b,c]:=(rfl)
theorem MN {ps:List Rw} (hp:∀p,p∈ps->p.Ok):Tr (St k z ((b,.ins "Book" [])::l)) (Ka [.hnd b,.tup (ps.map Rw.d)]) (λe m=>∃K,e= .non∧St k z ((K,.dic ((ps.foldl Ea []).map Rw.kv))::(b,BO K)::l) m):=by
 show Tr _ (M.noexc (kL (DE 5 [.hnd b,.tup (ps.map Rw.d)])>>=endOf)) _;have e0:DE 5 [.hnd b,.tup (ps.map Rw.d)]=[some (.hnd b),some (.tup (ps.map Rw.d)),none,none,none]:=rfl;rw[e0];refine Gn ?_;unfold kL;simp only[Cm,T4,show ∀ρ:Mir.Env,M3 [] ρ=M.more (.dic [])from λ_=>rfl];refine FC λK=>?_
 try simp only[Cm]
 refine JO ?_;refine bh AB ?_;refine JO ?_
 try simp only[Cm]
 unfold Eh;simp only[Cm,Wm];refine HU (UT (k:=k) (z:=z) (b:=b) (K:=K) (l:=(b,BO K)::l) (I:=sD b (.tup (ps.map Rw.d))) AG (λp ρ hpo hI=>?_) ps [] _ ⟨λq hq=>(AM hq).elim,B3⟩ hp ⟨_,_,_,rfl⟩) λfl=>Co λe=>?_
 ·obtain⟨o2,o3,o4,rfl⟩:=hI;refine⟨[some (.hnd b),some (.tup (ps.map Rw.d)),some (.str p.c),some (.int (p.n:Int)),some p.m],?_,⟨_,_,_,rfl⟩,?_⟩
  ·simp only[Cm,Jl,Kw]
  ·simp only[Cm,HX]
 ·obtain⟨ρ',rfl,_⟩:=e;simp only[Cm];exact ED λm hm=>⟨K,rfl,hm⟩
theorem Qs (hz:z≤900000):Tr (St k z l) (dA [.hnd k]) (λe m=>∃p:Rw,e=p.d∧p.Ok∧St k (z+3000) l m):=by
 show Tr _ (M.noexc (ky (DE 4 [.hnd k])>>=endOf)) _;have e0:DE 4 [.hnd k]=[some (.hnd k),none,none,none]:=rfl;rw[e0];refine Gn ?_;unfold ky;simp only[Cm];refine Q2 ⟨AB,AB⟩ AA λn n0 n1=>?_
 try simp only[Cm]
 refine Q2 ⟨AB,AB⟩ AA λq q0 q1=>?_;obtain⟨r,hr,er⟩:∃r:Nat,(1≤r∧r≤40)∧D.ix (.lst [.int 4,.int 12,.int 40]) (.int q)=pure (.int (r:Int)):=by
  have:q=0∨q=1∨q=2:=by omega
  rcases this with rfl|rfl|rfl
  ·exact⟨4,⟨AB,AB⟩,rfl⟩
  ·exact⟨12,⟨AB,AB⟩,rfl⟩
  ·exact⟨40,⟨AB,AB⟩,rfl⟩
 try simp only[Cm]
 rw[er]
 try simp only[Cm]
 refine FC λrm=>?_
 try simp only[Cm]
 refine Q2 ⟨AB,AB⟩ AA λd d0 d1=>?_;obtain⟨dp,hdp,ed⟩:∃r:Nat,(1≤r∧r≤11)∧D.ix (.lst [.int 3,.int 6,.int 11]) (.int d)=pure (.int (r:Int)):=by
  have:d=0∨d=1∨d=2:=by omega
  rcases this with rfl|rfl|rfl
  ·exact⟨3,⟨AB,AB⟩,rfl⟩
  ·exact⟨6,⟨AB,AB⟩,rfl⟩
  ·exact⟨11,⟨AB,AB⟩,rfl⟩
 try simp only[Cm]
 rw[ed]
 try simp only[Cm]
 obtain⟨wide,rfl⟩:=BW n0;refine HU (bb k rm 14 wide dp 0 r (z+1+1+1) l hdp.1 AA AA hr.1 AA AB AA) λe=>Cs λw=>Cs λr2=>Co λe=>Co λg1=>Co λg2=>Co λg3=>Co λg4=>Co λg5=>?_;subst e
 try simp only[Cm]
 refine iV (z' :=z+2500) AA ?_;refine Q2 ⟨AB,AB⟩ AA λp p0 p1=>?_;obtain⟨c,ec,hc⟩:=UP p0 p1
 try simp only[Cm]
 rw[ec]
 try simp only[Cm]
 exact ED λm hm=>⟨⟨c,wide,w⟩,rfl,⟨hc,by show wide≤4;omega,g1,by show w.dep≤10;omega,by show w.toks.length≤900;omega,g3⟩,EV (Oh hm) AA⟩
end
section
variable {k z b K:Nat} {l:List (Nat×MO)}
def rQ (k z s3 s2:Nat) (l:List (Nat×MO)) (al:D) (all:List Rw) (i:Nat) (ρ:Mir.Env) (m:Mu):Prop:=∃(found left:List Rw) (o4:Option D),ρ=[some (.hnd k),some al,some (.hnd s2),some (.hnd s3),o4]∧(found++left).Perm all∧left.length+i=all.length∧St k (z+i) ((s3,.lst (found.map Rw.d))::(s2,.lst (left.map Rw.d))::l) m
theorem bo {A:Type} {Q:A->Mu->Prop} {i:Nat} {left:List Rw} {r:Int} {f:D->M A} (h0:0≤r) (h1:r<(left.length:Int)) (hl:left.length≤1000) (h:∀p es,(p::es).Perm left->Tr (St k z ((i,.lst (es.map Rw.d))::l)) (f p.d) Q):Tr (St k z ((i,.lst (left.map Rw.d))::l)) (M.pop i r>>=f) Q:=by
 refine gu h0 (by rw[AJ];exact h1) (by rw[AJ];exact hl) λd hd es hes pm=>?_;obtain⟨S,s1,s2⟩:=MM pm
 cases S with
 |nil=>cases s2
 |cons p S=>
  rw[AO]at s2;obtain⟨e1,e2⟩:=List.cons.inj s2;rw[←e1,←e2];exact h p S s1
theorem KA {S:List Rw} (hS:S.length≤4) (hz:z≤900000):Tr (St k z l) (Ma [.hnd k,.lst (S.map Rw.d)]) (λe m=>∃(i:Nat) (U:List Rw),e= .hnd i∧U.Perm S∧St k (z+4) ((i,.lst (U.map Rw.d))::l) m):=by
 show Tr _ (M.noexc (kz (DE 5 [.hnd k,.lst (S.map Rw.d)])>>=endOf)) _;have e0:DE 5 [.hnd k,.lst (S.map Rw.d)]=[some (.hnd k),some (.lst (S.map Rw.d)),none,none,none]:=rfl;rw[e0];refine Gn ?_;unfold kz;simp only[Cm];rw[show D.listH (.lst (S.map Rw.d))=M.more (.lst (S.map Rw.d))from rfl];refine FC λs2=>?_
 try simp only[Cm]
 refine FC λs3=>?_
 try simp only[Cm]
 unfold Eh;simp only[Cm];rw[AJ,cO _ ⟨AA,AA⟩]
 try simp only[Cm]
 have step:∀d,d∈DL 0 (S.length:Int).toNat->∀ρ i,i<0+(DL 0 (S.length:Int).toNat).length->Tr (rQ k z s3 s2 l (.lst (S.map Rw.d)) S i ρ) (Cq 4 d ρ>>=C5 (Gu (Cg 3) (Wp (Cg 2) (Cn 2 FB (aC (Cg 0) (aC (eB (d1 D.len) (aC (Cg 2) Ci)) Ci)))))) (λfl m=>∃ρ',fl= .nx ρ'∧rQ k z s3 s2 l (.lst (S.map Rw.d)) S (i+1) ρ' m):=λd hd ρ i hi=>by
  rw[Wn]at hi;refine Cs λfound=>Cs λleft=>Cs λo4=>Co λe=>Co λh1=>Co λh2=>?_;subst e;have hfl:found.length≤4:=by
   have:=h1.length_eq;rw[AH]at this;omega
  simp only[Cm];refine UM AG ?_;refine JO ?_;rw[show ∀(fa fb:Mir.Env->M D) (ρ:Mir.Env),Wp fa fb ρ=(fa ρ>>=λx=>D.ref x>>=λk=>M.isL k>>=λ_=>fb ρ>>=λy=>D.part y>>=λo=>match o with
   |some i=>M.pop k i
   |none=>M.bad)from λ_ _ _=>rfl]
  simp only[Cm];refine gq ?_
  try simp only[Cm]
  refine Xp ?_;rw[AJ]
  try simp only[Cm]
  refine Q2 ⟨AA,AA⟩ AA λq q0 q1=>?_;rw[show D.part (.int q)=pure (some q)from rfl]
  try simp only[Cm]
  refine bo q0 q1 AA λp es pm=>?_;refine JO ?_;refine Xq (by rw[AJ];omega) ?_
  try simp only[Cm]
  refine ED λm hm=>⟨_,rfl,found++[p],es,_,rfl,?_,?_,?_⟩
  ·rw[Al];exact(List.Perm.append_left found pm).trans h1
  ·have:=pm.length_eq;rw[AI]at this;omega
  ·rw[Aw];exact hm
 refine HU (GF (Jv (DL 0 (S.length:Int).toNat) 0 step _) λm hm=>⟨[],S,_,rfl,Bt _,rfl,hm⟩) λfl=>Cs fun ρ'=>Co λe=>?_;subst e;refine Cs λfound=>Cs λleft=>Cs λo4=>Co λe=>Co λh1=>Co λh2=>?_;subst e;rw[Wn]at h2 ⊢;have hl0:left=[]:=A8.mp AA;subst hl0;rw[A3]at h1;simp only[Cm];exact ED λm hm=>⟨s3,found,rfl,h1,EV (Oh (Tw hm)) AA⟩
end
def D9:List Str:=["0","<",">",","," ","+","|","{","}","(",")","-",".","!","?","[","]","=","#","^"]
theorem bp {P:Str->Prop} (hl:∀t,t∈D9->P t) (k:Bool):P (EN k)∧P (C7 k)∧P (De k)∧P (QS k):=by
 cases k<;>exact⟨hl _ (by simp[D9]),hl _ (by simp[D9]),hl _ (by simp[D9]),hl _ (by simp[D9])⟩
theorem Nf {P:Str->Prop} (hr:∀x,D0 x->P x) {x:Str} {b:List Str} (hb:Binds b) (h:DR b x):P x:=hr _ (iF hb h)
theorem Yg {P:Str->Prop} (hr:∀x,D0 x->P x) {x:Str} (h:Dw x):P x:=hr _ (L9 (HH h))
theorem dP {P:Str->Prop} (hr:∀x,D0 x->P x) {x:Str} (h:ER x.cps.toList=true):P x:=hr _ (R7 h)
theorem Gf {P:Str->Prop} {x:Str} {ts:List Str} (h:P x) (h' :∀t,t∈ts->P t):∀t,t∈x::ts->P t:=λt ht=>by
 rcases AQ.mp ht with rfl|ht
 ·exact h
 ·exact h' t ht
theorem Es {P:Str->Prop} {ts us:List Str} (h:∀t,t∈ts->P t) (h' :∀t,t∈us->P t):∀t,t∈ts++us->P t:=λt ht=>by
 rcases Ap.mp ht with ht|ht
 ·exact h t ht
 ·exact h' t ht
theorem D2 {P:Str->Prop}:∀t,t∈([]:List Str)->P t:=λt ht=>(AM ht).elim
mutual
theorem GO {P:Str->Prop} (hl:∀t,t∈D9->P t) (hr:∀x,D0 x->P x):∀(w:W) (b:List Str),Binds b->w.Good b->∀t,t∈w.toks->P t
 | .stop,b,_,_=>by
  simp only[W.toks];exact Gf (hl _ (by simp[D9])) D2
 | .call c ws,b,hb,h=>by
  simp only[W.toks];refine Es (Es (Gf (dP hr h.1) (Gf (hl _ (by simp[D9])) D2)) (bP (Gf (hl _ (by simp[D9])) D2) λts hts=>?_)) (Gf (hl _ (by simp[D9])) D2);obtain⟨x,hx,rfl⟩:=AY.mp hts;exact Gf (Nf hr hb (h.2.2 x hx)) D2
 | .rows k ps,b,hb,h=>by
  simp only[W.toks];exact Es (Es (Gf ((bp hl k)).1 D2) (bP (Gf (hl _ (by simp[D9])) (Gf ((bp hl k)).2.1 (Gf (hl _ (by simp[D9])) D2))) (Qt hl hr ps b hb h.2))) (Gf ((bp hl k)).2.2.1 D2)
 | .tick w,b,hb,h=>by
  simp only[W.toks];exact Es (Gf (hl _ (by simp[D9])) (Gf (hl _ (by simp[D9])) D2)) (GO hl hr w b hb h)
 | .send x y w,b,hb,h=>by
  simp only[W.toks];exact Es (Gf (Nf hr hb h.1) (Gf (hl _ (by simp[D9])) (Gf (Nf hr hb h.2.1) (Gf (hl _ (by simp[D9])) D2)))) (GO hl hr w b hb h.2.2)
 | .test k x y w,b,hb,h=>by
  simp only[W.toks];exact Es (Gf (hl _ (by simp[D9])) (Gf (Nf hr hb h.1) (Gf ((bp hl k)).2.2.2 (Gf (Nf hr hb h.2.1) (Gf (hl _ (by simp[D9])) D2))))) (GO hl hr w b hb h.2.2)
 | .new o w,b,hb,h=>by
  simp only[W.toks];exact Es (Gf (hl _ (by simp[D9])) (Gf (Yg hr h.1) (Gf (hl _ (by simp[D9])) D2))) (GO hl hr w (o::b) (T6 hb h.1) h.2)
 | .hear x o w,b,hb,h=>by
  simp only[W.toks];exact Es (Gf (Nf hr hb h.1) (Gf (hl _ (by simp[D9])) (Gf (Yg hr h.2.1) (Gf (hl _ (by simp[D9])) D2)))) (GO hl hr w (o::b) (T6 hb h.2.1) h.2.2)
theorem Qt {P:Str->Prop} (hl:∀t,t∈D9->P t) (hr:∀x,D0 x->P x):∀(ps:List W) (b:List Str),Binds b->W.GoodL b ps->∀ts,ts∈W.toksL ps->∀t,t∈ts->P t
 |[],b,_,_,ts,hts,t,ht=>(AM hts).elim
 |w::ws,b,hb,h,ts,hts,t,ht=>by
  rcases AQ.mp hts with rfl|hts
  ·exact GO hl hr w b hb h.1 t ht
  ·exact Qt hl hr ws b hb h.2 ts hts t ht
end
theorem qM {P:Str->Prop} (hl:∀t,t∈D9->P t) (hr:∀x,D0 x->P x) {c:Str} {xs b:List Str} {w:W} (hc:ER c.cps.toList=true) (hx:∀x,x∈xs->Dw x) (hb:Binds b) (hg:w.Good b):∀t,t∈D1 c xs w->P t:=by
 unfold D1;refine Es (Es (Es (Gf (dP hr hc) (Gf (hl _ (by simp[D9])) D2)) (bP (Gf (hl _ (by simp[D9])) D2) λts hts=>?_)) (Gf (hl _ (by simp[D9])) (Gf (hl _ (by simp[D9])) (Gf (hl _ (by simp[D9])) (Gf (hl _ (by simp[D9])) D2))))) (GO hl hr w b hb hg);obtain⟨x,hx',rfl⟩:=AY.mp hts;exact Gf (Yg hr (hx x hx')) D2
theorem ik {x:Str} (h:∀c,c∈x.cps.toList->c<128):PyData.strOk x=true:=by
 unfold PyData.strOk;rw[←Array.all_toList,A4];intro c hc;have:=h c hc;exact AK AA
theorem il:run 10=false:=by decide+kernel
theorem ip:∀t,t∈D9->(10:Nat)∉t.cps.toList:=by decide+kernel
theorem bq:∀t,t∈D9->∀c,c∈t.cps.toList->c<128:=by decide+kernel
theorem br:∀c,run c=true->c<128:=λc h=>by
 have q:oO.cps.toList.all (λc=>decide (c<128))=true:=by decide+kernel
 exact AN (A4.mp q c (AN h))
theorem Yh {P:Nat->Prop} {p:Rw} (h:p.Ok) (hl:∀t,t∈D9->∀c,c∈t.cps.toList->P c) (hr:∀c,run c=true->P c):∀c,c∈p.tx.cps.toList->P c:=by
 have hn:=h.n;have hd:=qM (P:=λt=>∀c,c∈t.cps.toList->P c) hl (λx hx c hc=>hr c (hx.2 c hc)) h.df (JX (k:=p.n) AA) (Ya (n:=p.n) AA) (SM h).2;unfold Rw.tx;rw[bO];intro c m;obtain⟨cs,hc,hm⟩:=List.mem_flatten.mp m;obtain⟨t,ht,rfl⟩:=AY.mp hc;exact hd t ht c hm
theorem iq {p:Rw} (h:p.Ok):(10:Nat)∉p.tx.cps.toList:=λm=>by
 have q:=Yh (P:=λc=>c≠10) h (λt ht c hc e=>by subst e;exact ip t ht hc) (λc hc e=>by subst e;rw[il]at hc;cases hc) 10 m;exact q rfl
theorem ir {p:Rw} (h:p.Ok):PyData.strOk p.tx=true:=ik (Yh h bq br)
theorem iu {p:Rw} (h:p.Ok):p.tx≠"" :=λe=>by
 obtain⟨_,b⟩:=Ql h;have q:=(QZ b).1;have l0:p.tx.length=0:=by rw[e];decide+kernel
 unfold Rw.tx at l0;rw[d_len]at q;omega
theorem SR {S:List Rw} (h:∀p,p∈S->p.Ok) (hne:S≠[]):Txt.split (Txt.join "\n" (S.map Rw.tx)) "\n"=S.map Rw.tx:=by
 refine TL.split_join (s:=10) (S:=[]) AC AC (by simpa using hne) λt ht=>?_;obtain⟨p,hp,rfl⟩:=AY.mp ht;exact iq (h p hp)
theorem UU {xs:List Str} (h:∀x,x∈xs->PyData.strOk x=true):D.ne (.lst (xs.map .str)) (.lst (xs.map .str))=pure (.bl false):=by
 have e:∀xs:List Str,D.pys (xs.map .str)=some (xs.map .str):=by
  intro xs
  induction xs with
  |nil=>rfl
  |cons x xs ih=>
   show(match D.py (.str x),D.pys (xs.map .str)with
    |some p,some ps=>some (p::ps)
    |_,_=>none)=_
   rw[ih];rfl
 have e1:(D.lst (xs.map .str)).py=some (.list (xs.map .str)):=by
  unfold D.py;rw[e];rfl
 have c:PyData.canLay0 (.list (xs.map .str))=true:=by
  unfold PyData.canLay0
  clear e e1
  induction xs with
  |nil=>rfl
  |cons x xs ih=>
   rw[AO,PyData.canLayAll0,ih λy hy=>h y (AF _ hy),PyData.canLay0,h x AG];rfl
 have dp:PyData.depth (.list (xs.map .str))≤64:=by
  have q:∀xs:List Str,PyData.depthAll (xs.map .str)≤1:=by
   intro xs
   induction xs with
   |nil=>simp[PyData.depthAll]
   |cons x xs ih=>
    rw[AO,PyData.depthAll,PyData.depth];omega
  rw[PyData.depth];have:=q xs;omega
 have s:SeqAt.shaped (.list (xs.map .str))=true:=by
  unfold SeqAt.shaped;rw[c,AK dp];rfl
 show D.ned _ _=_;unfold D.ned;show((pure (D.lst (xs.map .str)):M D)>>=λx=>(pure (D.lst (xs.map .str)):M D)>>=λy=>M.opt ((D.eqo x y).map λb=>D.bl (!b)))=_;rw[Dm,Dm];unfold D.eqo;rw[e1];dsimp only;rw[An ⟨s,s⟩,PySem.SeqAt.eqv_refl _ c];rfl
theorem bu {S:List Rw} (h:∀p,p∈S->p.Ok) (hl:S.length≤40):D.ne (.lst (S.map Rw.d)) (.lst (S.map Rw.d))=pure (.bl false):=
 iY (k:=24) AB (Sh.ok (L:=40) AB (.lst (λd hd=>by
  obtain⟨p,hp,rfl⟩:=AY.mp hd;exact nY (h p hp)) (by rw[AJ];exact hl)))
theorem Qu {S:List Rw} (h:∀p,p∈S->p.Ok) (hl:S.length≤40):D.ne (.lst (S.map Rw.d)) (.lst [])=pure (.bl (!S.isEmpty)):=by
 have hok:HE 24 (.lst (S.map Rw.d))=true:=Sh.ok (L:=40) AB (.lst (λd hd=>by
  obtain⟨p,hp,rfl⟩:=AY.mp hd;exact nY (h p hp)) (by rw[AJ];exact hl))
 cases S with
 |nil=>exact UR
 |cons p S=>
  obtain⟨q,e,s,c⟩:=Nc AB hok;show D.ned _ _=_;unfold D.ned;show((pure (D.lst ((p::S).map Rw.d)):M D)>>=λx=>(pure (D.lst []):M D)>>=λy=>M.opt ((D.eqo x y).map λb=>D.bl (!b)))=_;rw[Dm,Dm];unfold D.eqo;rw[e];have e2:(D.lst []).py=some (.list []):=rfl;rw[e2];dsimp only;rw[An ⟨s,AC⟩];have e3:∃x xs,q= .list (x::xs):=by
   unfold D.py at e
   cases z:D.pys ((p::S).map Rw.d)with
   |none=>rw[z]at e;cases e
   |some ps=>
    rw[z]at e
    cases e
    cases ps with
    |nil=>
     exfalso
     rw[AO]at z;unfold D.pys at z;split at z
     ·cases z
     ·cases z
    |cons x xs=>exact⟨x,xs,rfl⟩
  obtain⟨x,xs,rfl⟩:=e3;rfl
section
variable {k z b K:Nat} {l:List (Nat×MO)} {rows S:List Rw}
theorem O6 {A:Type} {Q:A->Mu->Prop} {f:D->M A} (hb:(b,BO K)∈l) (hk:(K,.dic (rows.map Rw.kv))∈l) (h:Rws rows) (hp:S.Perm rows) (hS:S.map Rw.c=dS (rows.map Rw.c)) (hf:Tr (St k z l) (f (.str (Txt.join "\n" (S.map Rw.tx)))) Q):Tr (St k z l) (D.strO "Book" Lh (.hnd b)>>=f) Q:=by
 show Tr _ ((M.meth "Book" b "__str__">>=λ_=>Lh [.hnd b]>>=D.spS)>>=f) _;rw[D5];refine Y2 hb (Y1 K _ AD) ?_;rw[D5];refine Dd (ij hb hk h hp hS) ?_;show Tr _ ((pure (.str _):M D)>>=f) _;rw[Dm];exact hf
theorem Qv {A:Type} {Q:A->Mu->Prop} {f:D->M A} (hb:(b,BO K)∈l) (hk:(K,.dic (rows.map Rw.kv))∈l) (h:Rws rows) (hf:Tr (St k z l) (f (.str (("Book(" :Str)++(toString (rows.length:Int):Str)++")"))) Q):Tr (St k z l) (D.reprO "Book" Ri (.hnd b)>>=f) Q:=by
 show Tr _ ((M.meth "Book" b "__repr__">>=λ_=>Ri [.hnd b]>>=D.spS)>>=f) _;rw[D5];refine Y2 hb (Y1 K _ AD) ?_;rw[D5];refine Dd (bj hb hk h) ?_;show Tr _ ((pure (.str _):M D)>>=f) _;rw[Dm];exact hf
theorem UV {A:Type} {Q:A->Mu->Prop} {f:D->M A} (hb:(b,BO K)∈l) (hk:(K,.dic (rows.map Rw.kv))∈l) (h:Rws rows) (hf:Tr (St k z l) (f (.int (rows.length:Int))) Q):Tr (St k z l) (D.lenO "Book" Rh (.hnd b)>>=f) Q:=by
 show Tr _ ((M.meth "Book" b "__len__">>=λ_=>Rh [.hnd b]>>=D.spL)>>=f) _;rw[D5];refine Y2 hb (Y1 K _ AD) ?_;rw[D5];refine Dd (ib hb hk) ?_;have hl:=h.len;show Tr _ ((M.guard (decide ((0:Int)≤(rows.length:Int)∧(rows.length:Int)<2 ^ 63))>>=λ_=>(pure (.int (rows.length:Int)):M D))>>=f) _;rw[Iu (show(0:Int)≤(rows.length:Int)∧(rows.length:Int)<2 ^ 63 by omega),Dm,Dm];exact hf
theorem Kx {A:Type} {Q:A->Mu->Prop} {f:D->M A} {neg:Bool} {b' K' :Nat} {ro:List Rw} (hb:(b,BO K)∈l) (hk:(K,.dic (rows.map Rw.kv))∈l) (hb' :(b',BO K')∈l) (hk' :(K',.dic (ro.map Rw.kv))∈l) (h:Rws ro) (hs:∀p,p∈rows->p∈ro)
 (hf:Tr (St k z l) (f (.bl (if neg=true then !(rows.length==ro.length)else(rows.length==ro.length)))) Q):Tr (St k z l) (D.spec2 "Book" "__eq__" KL neg (.hnd b) (.hnd b')>>=f) Q:=by
 show Tr _ ((M.meth "Book" b "__eq__">>=λ_=>M.meth "Book" b' "__eq__">>=λ_=>KL [.hnd b,.hnd b']>>=D.spB neg)>>=f) _;rw[D5];refine Y2 hb (Y1 K _ AD) ?_;rw[D5];refine Y2 hb' (Y1 K' _ AD) ?_;rw[D5];refine Dd (nZ hb hk hb' hk' h hs) ?_;show Tr _ ((pure (.bl _):M D)>>=f) _;rw[Dm];exact hf
theorem Yi {A:Type} {T:Nat} {al:List D} {f:Unit->M A} {Q:A->Mu->Prop} (hT:(T,.lst al)∈l) (h:Tr (St k z l) (f ()) Q):Tr (St k z l) (M.st (some T) al>>=f) Q:=λm hm=>by
 have e:Ml (some T) al m:=hm.2.2 _ hT;rw[Do];simp only[M.st,An e];exact h m hm
theorem Qw {fg:D->Mir.Env->M Mir.Env} {fb:Mir.Env->M Fl} {I:Mir.Env->Prop} {T:Nat} {al:List D} (hb:(b,BO K)∈l) (hT:(T,.lst al)∈l)
 (step:∀(p:Rw) ρ,p.Ok->I ρ->∃ρ',fg p.d ρ=pure ρ'∧I ρ'∧fb ρ'=(M.meth "Book" b "put">>=λ_=>PB [.hnd b,.str p.c,.int (p.n:Int),p.m]>>=λ_=>pure (.nx ρ'))):
 ∀(ps rows:List Rw) ρ,Rws rows->(∀p,p∈ps->p.Ok)->I ρ->Tr (St k z ((K,.dic (rows.map Rw.kv))::l)) (Iy (some T) al fg fb (ps.map Rw.d) ρ) (λfl m=>(∃ρ',fl= .nx ρ'∧I ρ')∧St k z ((K,.dic ((ps.foldl Ea rows).map Rw.kv))::l) m)
 |[],rows,ρ,_,_,hI=>Yi (AF _ hT) (ED λm hm=>⟨⟨ρ,rfl,hI⟩,hm⟩)
 |p::ps,rows,ρ,h,hp,hI=>by
  obtain⟨ρ',e1,e2,e3⟩:=step p ρ (hp p AG) hI;show Tr _ (M.st (some T) al>>=λ_=>(fg p.d ρ>>=fun ρ=>fb ρ>>=λfl=>match fl with
   | .nx ρ=>Iy (some T) al fg fb (ps.map Rw.d) ρ
   | .ct ρ=>Iy (some T) al fg fb (ps.map Rw.d) ρ
   | .bk ρ=>pure (.nx ρ)
   | .rt d=>pure (.rt d)):M Fl) _
  refine Yi (AF _ hT) ?_;rw[e1,Dm,e3,D5];refine Y2 (AF _ hb) (Y1 K _ AD) ?_;rw[D5];refine Dd (SO hb h (hp p AG)) ?_;rw[Dm];exact Qw hb hT step ps (Ea rows p) ρ' (h.put (hp p AG)) (λq hq=>hp q (AF _ hq)) e2
end
def Yj:Mir.Env->M Fl:=(Da (Dg (DA (Ck (D.neO "Book" KL) (Cg 13) (Cg 3))) (DA (Ck D.ne (eB (d1 (D.reprO "Book" Ri)) (aC (Cg 13) Ci)) (eB (d1 (D.reprO "Book" Ri)) (aC (Cg 3) Ci))))) (Cu (eC (.bl false))) C1)
def qN:Mir.Env->M Fl:=(Cj (Da (Dg (MR (DA (Ck D.ne (Cg 10) (EG Ci))) (DA (Ck (D.eqO "Book" KL) (Cg 13) (Cg 3)))) (DA (Ck D.ne (eB (d1 (D.lenO "Book" Rh)) (aC (Cg 13) Ci)) (eB (d2 D.max2) (aC (eC (.int 0)) (aC (Ck D.sub (eB (d1 D.len) (aC (Cg 10) Ci)) (eC (.int 1))) Ci)))))) (Cu (eC (.bl false))) C1)
 (Cj (Iz (DJ (Cn 2 Ma (aC (Cg 2) (aC (Cg 10) Ci)))) (KR 3 (Dr (Cq 5) (Dr (Cq 6) (Dr (Cq 7) Di)))) (C5 (Cw "Book" "put" 4 [] PB (Cg 13) (aC (Cg 5) (aC (Cg 6) (aC (Cg 7) Ci))))))
 Yj))
def qO:Mir.Env->M Fl:=(Cj (C3 13 (FN "Book" 0 1 2 [0] Ka Ci (aC (eB (d1 D.tuple) (aC (Ej (Cn 2 Ma (aC (Cg 2) (aC (Cg 10) Ci))) (GR (eC (.int 1))) GQ) Ci)) Ci)))
 qN)
def nh:Mir.Env->M Fl:=(E4 (Kg (eC (.int 2))) (Cq 4) qO)
def iw:Mir.Env->M Fl:=(Cj (C3 12 (EU "Book" 2 [] Ka (aC (eB (d1 D.tuple) (aC (Cn 2 Ma (aC (Cg 2) (aC (Cg 10) Ci))) Ci)) Ci)))
 (Cj (Da (Dg (DA (Ck (D.neO "Book" KL) (Cg 12) (Cg 3))) (Dg (E7 (DA (Ck (D.eqO "Book" KL) (Cg 12) (Cg 3)))) (DA (Ck D.ne (eB (d1 (D.strO "Book" Lh)) (aC (Cg 12) Ci)) (eB (d1 (D.strO "Book" Lh)) (aC (Cg 3) Ci)))))) (Cu (eC (.bl false))) C1)
 nh))
def iy:Mir.Env->M Fl:=(Cj (Da (Dg (DA (Ck D.ne (E1 (DJ (Cg 10)) (Cq 9) DD (Ck D.ix (Cg 9) (eC (.int 0))) [9]) (Cw "Book" "names" 1 [] cy (Cg 3) Ci))) (DA (Ck D.ne (eB (d1 D.len) (aC (Cg 8) Ci)) (eB (d1 (D.lenO "Book" Rh)) (aC (Cg 3) Ci))))) (Cu (eC (.bl false))) C1)
 (Cj (Da (DA (Ck D.ne (E1 (DJ (Cg 10)) (Cq 9) DD (Ck D.add (DS (aC (Ck D.ix (Cg 9) (eC (.int 0))) Ci)) (Cw "Book" "get" 2 [] aX (Cg 3) (aC (Ck D.ix (Cg 9) (eC (.int 0))) Ci))) [9]) (Cg 10))) (Cu (eC (.bl false))) C1)
 (Cj (Da (DA (Ck D.ne (E1 (DJ (Cg 10)) (KR 3 (Dr (Cq 5) (Dr (Cq 6) (Dr (Cq 7) Di)))) DD (Cn 3 VF (aC (Cg 5) (aC (Cg 6) (aC (Cg 7) Ci)))) [5,6,7]) (Cg 8))) (Cu (eC (.bl false))) C1)
 iw)))
def UW:Mir.Env->M Fl:=(Cj (C3 8 (E1 (DJ (Nn D.split (eB (d1 (D.strO "Book" Lh)) (aC (Cg 3) Ci)) (eC (.str "\n")))) (Cq 9) (DA (Ck D.ne (Cg 9) (eC (.str "")))) (Cg 9) [9]))
 (Cj (C3 10 (E1 (DJ (Cg 8)) (Cq 11) DD (Cn 1 Yx (aC (Cg 11) Ci)) [11]))
 iy))
def UX:Mir.Env->M Fl:=(Cj (FT (Cn 1 dA (aC (Cg 2) Ci)) (KR 3 (Dr (Cq 5) (Dr (Cq 6) (Dr (Cq 7) Di)))))
 (C5 (Cw "Book" "put" 4 [] PB (Cg 3) (aC (Cg 5) (aC (Cg 6) (aC (Cg 7) Ci))))))
theorem iz:(Cj (C3 2 (Cn 2 aZ (aC (Cg 0) (aC (Cg 1) Ci))))
 (Cj (C3 3 (EU "Book" 2 [.tup []] Ka Ci))
 (Cj (E4 (Kg (Cn 2 FB (aC (Cg 2) (aC (eC (.int 6)) Ci)))) (Cq 4) (Cj (FT (Cn 1 dA (aC (Cg 2) Ci)) (KR 3 (Dr (Cq 5) (Dr (Cq 6) (Dr (Cq 7) Di)))))
 (C5 (Cw "Book" "put" 4 [] PB (Cg 3) (aC (Cg 5) (aC (Cg 6) (aC (Cg 7) Ci)))))))
 (Cj (C3 8 (E1 (DJ (Nn D.split (eB (d1 (D.strO "Book" Lh)) (aC (Cg 3) Ci)) (eC (.str "\n")))) (Cq 9) (DA (Ck D.ne (Cg 9) (eC (.str "")))) (Cg 9) [9]))
 (Cj (C3 10 (E1 (DJ (Cg 8)) (Cq 11) DD (Cn 1 Yx (aC (Cg 11) Ci)) [11]))
 (Cj (Da (Dg (DA (Ck D.ne (E1 (DJ (Cg 10)) (Cq 9) DD (Ck D.ix (Cg 9) (eC (.int 0))) [9]) (Cw "Book" "names" 1 [] cy (Cg 3) Ci))) (DA (Ck D.ne (eB (d1 D.len) (aC (Cg 8) Ci)) (eB (d1 (D.lenO "Book" Rh)) (aC (Cg 3) Ci))))) (Cu (eC (.bl false))) C1)
 (Cj (Da (DA (Ck D.ne (E1 (DJ (Cg 10)) (Cq 9) DD (Ck D.add (DS (aC (Ck D.ix (Cg 9) (eC (.int 0))) Ci)) (Cw "Book" "get" 2 [] aX (Cg 3) (aC (Ck D.ix (Cg 9) (eC (.int 0))) Ci))) [9]) (Cg 10))) (Cu (eC (.bl false))) C1)
 (Cj (Da (DA (Ck D.ne (E1 (DJ (Cg 10)) (KR 3 (Dr (Cq 5) (Dr (Cq 6) (Dr (Cq 7) Di)))) DD (Cn 3 VF (aC (Cg 5) (aC (Cg 6) (aC (Cg 7) Ci)))) [5,6,7]) (Cg 8))) (Cu (eC (.bl false))) C1)
 (Cj (C3 12 (EU "Book" 2 [] Ka (aC (eB (d1 D.tuple) (aC (Cn 2 Ma (aC (Cg 2) (aC (Cg 10) Ci))) Ci)) Ci)))
 (Cj (Da (Dg (DA (Ck (D.neO "Book" KL) (Cg 12) (Cg 3))) (Dg (E7 (DA (Ck (D.eqO "Book" KL) (Cg 12) (Cg 3)))) (DA (Ck D.ne (eB (d1 (D.strO "Book" Lh)) (aC (Cg 12) Ci)) (eB (d1 (D.strO "Book" Lh)) (aC (Cg 3) Ci)))))) (Cu (eC (.bl false))) C1)
 (E4 (Kg (eC (.int 2))) (Cq 4) (Cj (C3 13 (FN "Book" 0 1 2 [0] Ka Ci (aC (eB (d1 D.tuple) (aC (Ej (Cn 2 Ma (aC (Cg 2) (aC (Cg 10) Ci))) (GR (eC (.int 1))) GQ) Ci)) Ci)))
 (Cj (Da (Dg (MR (DA (Ck D.ne (Cg 10) (EG Ci))) (DA (Ck (D.eqO "Book" KL) (Cg 13) (Cg 3)))) (DA (Ck D.ne (eB (d1 (D.lenO "Book" Rh)) (aC (Cg 13) Ci)) (eB (d2 D.max2) (aC (eC (.int 0)) (aC (Ck D.sub (eB (d1 D.len) (aC (Cg 10) Ci)) (eC (.int 1))) Ci)))))) (Cu (eC (.bl false))) C1)
 (Cj (Iz (DJ (Cn 2 Ma (aC (Cg 2) (aC (Cg 10) Ci)))) (KR 3 (Dr (Cq 5) (Dr (Cq 6) (Dr (Cq 7) Di)))) (C5 (Cw "Book" "put" 4 [] PB (Cg 13) (aC (Cg 5) (aC (Cg 6) (aC (Cg 7) Ci))))))
 (Da (Dg (DA (Ck (D.neO "Book" KL) (Cg 13) (Cg 3))) (DA (Ck D.ne (eB (d1 (D.reprO "Book" Ri)) (aC (Cg 13) Ci)) (eB (d1 (D.reprO "Book" Ri)) (aC (Cg 3) Ci))))) (Cu (eC (.bl false))) C1)))))))))))))))=(Cj (C3 2 (Cn 2 aZ (aC (Cg 0) (aC (Cg 1) Ci))))
 (Cj (C3 3 (EU "Book" 2 [.tup []] Ka Ci))
 (Cj (E4 (Kg (Cn 2 FB (aC (Cg 2) (aC (eC (.int 6)) Ci)))) (Cq 4) UX)
 UW))):=rfl
theorem Qx {n:Nat}:∀{xs:List Str},(∀x,x∈xs->x.length≤n)->(Str.join "\n" xs).length≤xs.length*(n+1)
 |[],_=>Ag (show Str.empty.length≤0 by decide+kernel) (BM _)
 |[x],h=>by
  have:=h x AG;show x.length≤1*(n+1);omega
 |x::y::r,h=>by
  have a:=h x AG;have q:=Qx (xs:=y::r) λz hz=>h z (AF _ hz);show(x++"\n"++Str.join "\n" (y::r)).length≤(r.length+1+1)*(n+1);rw[E2,E2,show("\n" :Str).length=1 from by decide+kernel];rw[AI]at q;rw[Nat.add_mul (r.length+1) 1,Nat.one_mul];omega
def i3:D->Bool
 | .str x=> !(x=="")
 |_=>false
theorem Vl {S:List Rw} (h:∀p,p∈S->p.Ok) (hl:S.length≤4):∃xs:List Str,Txt.split (Txt.join "\n" (S.map Rw.tx)) "\n"=xs∧xs.length≤4∧(xs.map D.str).filter i3=S.map (λq=>D.str q.tx):=by
 by_cases c:S=[]
 ·subst c;exact⟨[""],AC,AB,by first|rfl|simp[i3]⟩
 ·refine⟨S.map Rw.tx,SR h c,by rw[AJ];exact hl,?_⟩;rw[Am,List.filter_eq_self.mpr]
  ·rfl
  ·intro d hd;obtain⟨p,hp,rfl⟩:=AY.mp hd;show(!(p.tx==""))=true;rw[AZ.mpr (iu (h p hp))];rfl
theorem i4 (ρ:Mir.Env) (i j n:Nat):DB ρ [i,j,n]=((ρ.set n none).set j none).set i none:=(rfl)
section
variable {k z b K:Nat} {l:List (Nat×MO)} {rows S:List Rw} {F:D} {o1 o4 o5 o6 o7 o8 o9 o10 o11 o12 o13:Option D}
theorem ni (hb:(b,BO K)∈l) (hk:(K,.dic (rows.map Rw.kv))∈l) (h:Rws rows) (hp:S.Perm rows) (hS:S.map Rw.c=dS (rows.map Rw.c)):Tr (St k z l) ((E1 (DJ (Nn D.split (eB (d1 (D.strO "Book" Lh)) (aC (Cg 3) Ci)) (eC (.str "\n")))) (Cq 9) (DA (Ck D.ne (Cg 9) (eC (.str "")))) (Cg 9) [9]) [some F,o1,some (.hnd k),some (.hnd b),o4,o5,o6,o7,o8,o9,o10,o11,o12,o13]) (λd m=>d= .lst (S.map λq=>D.str q.tx)∧St k z l m):=by
 have hl:=h.len;have hSl:S.length≤4:=by rw[hp.length_eq];exact hl
 have hok:∀q,q∈S->q.Ok:=λq hq=>h.ok q (hp.mem_iff.mp hq);obtain⟨xs,e1,e2,e3⟩:=Vl hok hSl;have it:Tr (St k z l) ((DJ (Nn D.split (eB (d1 (D.strO "Book" Lh)) (aC (Cg 3) Ci)) (eC (.str "\n")))) [some F,o1,some (.hnd k),some (.hnd b),o4,o5,o6,o7,o8,o9,o10,o11,o12,o13]) (λp m=>p=(xs.map D.str,none)∧St k z l m):=by
  simp only[Cm];refine O6 hb hk h hp hS ?_;have jl:(Txt.join "\n" (S.map Rw.tx)).length≤10000000:=by
   rw[TL.join_eq];have q:=Qx (n:=5600) (xs:=S.map Rw.tx) λx hx=>by
    obtain⟨p,hp,rfl⟩:=AY.mp hx;exact O3 (hok p hp)
   rw[AJ]at q;omega
  have e4:D.split (Txt.join "\n" (S.map Rw.tx)) (.str "\n")=pure (D.lst (xs.map D.str)):=by
   show(M.guard (decide _)>>=λ_=>(pure (D.lst ((Txt.split (Txt.join "\n" (S.map Rw.tx)) "\n").map D.str)):M D))=_;rw[Iu ⟨AC,jl⟩,e1];rfl
  generalize Txt.join "\n" (S.map Rw.tx)=big at e4
  try simp only[Cm]
  rw[e4]
  try simp only[Cm]
  rw[S8];exact ED λm hm=>⟨rfl,hm⟩
 have lc:Tr (St k z l) (Du (DJ (Nn D.split (eB (d1 (D.strO "Book" Lh)) (aC (Cg 3) Ci)) (eC (.str "\n")))) (Cq 9) (DA (Ck D.ne (Cg 9) (eC (.str "")))) (Cg 9) [9] [some F,o1,some (.hnd k),some (.hnd b),o4,o5,o6,o7,o8,o9,o10,o11,o12,o13]) (λes m=>es=S.map (λq=>D.str q.tx)∧St k z l m):=by
  unfold Du;refine Dd it ?_;rw[Uq,Dm];have q:=HM (fg:=Cq 9) (ft:=DA (Ck D.ne (Cg 9) (eC (.str "")))) (fe:=Cg 9) (ρ:=DB [some F,o1,some (.hnd k),some (.hnd b),o4,o5,o6,o7,o8,o9,o10,o11,o12,o13] [9]) i3 (λd=>d) (xs.map D.str) [] (λd hd=>by
   obtain⟨x,hx,rfl⟩:=AY.mp hd;refine⟨_,RH 9,?_,λ_=>?_⟩
   ·simp only[Cm,FL,ne_str];rfl
   ·simp only[Cm,FL]) (by rw[AJ];simp;omega)
  rw[BX,List.map_id'',e3]at q
  ·exact Gn (T3 q)
  ·intro d;rfl
 rw[Mw];exact Dd lc (ED λm hm=>⟨rfl,hm⟩)
theorem nj (hok:∀q,q∈S->q.Ok) (hSl:S.length≤4):Tr (St k z l) ((E1 (DJ (Cg 8)) (Cq 11) DD (Cn 1 Yx (aC (Cg 11) Ci)) [11]) [some F,o1,some (.hnd k),some (.hnd b),o4,o5,o6,o7,some (.lst (S.map λq=>D.str q.tx)),o9,o10,o11,o12,o13]) (λd m=>d= .lst (S.map Rw.d)∧St k z l m):=by
 rw[Mw];refine Dd (O5 (ps:=S) (λq:Rw=>D.str q.tx) Rw.d (by simp only[Cm];rw[S8]) (λq hq=>⟨_,RH 11,?_⟩) AA) (ED λm hm=>⟨rfl,hm⟩);simp only[Cm,FL];exact ie (R:=λd=>d=q.d) λL=>Yb (hok q hq)
theorem nq (hSl:S.length≤4):Tr (St k z l) ((E1 (DJ (Cg 10)) (Cq 9) DD (Ck D.ix (Cg 9) (eC (.int 0))) [9]) [some F,o1,some (.hnd k),some (.hnd b),o4,o5,o6,o7,some (.lst (S.map λq=>D.str q.tx)),o9,some (.lst (S.map Rw.d)),o11,o12,o13]) (λd m=>d= .lst (S.map λq=>D.str q.c)∧St k z l m):=by
 rw[Mw];refine Dd (O5 (ps:=S) Rw.d (λq:Rw=>D.str q.c) (by simp only[Cm];rw[S8]) (λq hq=>⟨_,RH 9,?_⟩) AA) (ED λm hm=>⟨rfl,hm⟩);simp only[Cm,FL];rw[Dv,Ey]
 try simp only[Cm]
 exact ED λm hm=>⟨rfl,hm⟩
theorem nr (hb:(b,BO K)∈l) (hk:(K,.dic (rows.map Rw.kv))∈l) (h:Rws rows) (hp:S.Perm rows):Tr (St k z l) ((Du (DJ (Cg 10)) (Cq 9) DD (Ck D.add (DS (aC (Ck D.ix (Cg 9) (eC (.int 0))) Ci)) (Cw "Book" "get" 2 [] aX (Cg 3) (aC (Ck D.ix (Cg 9) (eC (.int 0))) Ci))) [9]) [some F,o1,some (.hnd k),some (.hnd b),o4,o5,o6,o7,some (.lst (S.map λq=>D.str q.tx)),o9,some (.lst (S.map Rw.d)),o11,o12,o13]) (λes m=>es=S.map Rw.d∧St k z l m):=by
 have hSl:S.length≤4:=by rw[hp.length_eq];exact h.len
 refine O5 (ps:=S) Rw.d Rw.d (by simp only[Cm];rw[S8]) (λq hq=>⟨_,RH 9,?_⟩) AA;simp only[Cm,FL,HX];rw[Dv,Ey]
 try simp only[Cm]
 refine Y2 hb (Y1 K _ AD) ?_
 try simp only[Cm]
 refine Dd (ia hb hk h (hp.mem_iff.mp hq)) ?_;exact T3 rfl
theorem nu (hok:∀q,q∈S->q.Ok) (hSl:S.length≤4):Tr (St k z l) ((Du (DJ (Cg 10)) (KR 3 (Dr (Cq 5) (Dr (Cq 6) (Dr (Cq 7) Di)))) DD (Cn 3 VF (aC (Cg 5) (aC (Cg 6) (aC (Cg 7) Ci)))) [5,6,7]) [some F,o1,some (.hnd k),some (.hnd b),o4,o5,o6,o7,some (.lst (S.map λq=>D.str q.tx)),o9,some (.lst (S.map Rw.d)),o11,o12,o13]) (λes m=>es=(S.map λq=>D.str q.tx)∧St k z l m):=by
 refine O5 (ps:=S) Rw.d (λq:Rw=>D.str q.tx) (by simp only[Cm];rw[S8]) (λq hq=>?_) AA;rw[i4];refine⟨_,by simp only[Cm,Jl,Kw];rfl,?_⟩;simp only[Cm];exact T3 (Qk (hok q hq))
end
theorem bw {rows:List Rw} {p:Rw} {q:Rw} (h:q∈Ea rows p):q=p∨q∈rows:=by
 unfold Ea at h;split at h
 ·obtain⟨r,hr,rfl⟩:=AY.mp h;split
  ·exact .inl rfl
  ·exact .inr hr
 ·rcases Ap.mp h with h|h
  ·exact .inr h
  ·exact .inl (AR.mp h)
theorem Qy:∀{ps rows:List Rw} {q:Rw},q∈ps.foldl Ea rows->q∈ps∨q∈rows
 |[],_,_,h=> .inr h
 |p::ps,rows,q,h=>by
  rcases Qy (ps:=ps) h with h|h
  ·exact .inl (AF _ h)
  ·rcases bw h with rfl|h
   ·exact .inl AG
   ·exact .inr h
theorem MP {rows:List Rw} {p:Rw} {x:Str} (h:x=p.c∨x∈rows.map Rw.c):x∈(Ea rows p).map Rw.c:=by
 rw[Yd];split
 ·rename_i c
  rcases h with rfl|h
  ·exact c
  ·exact h
 ·rcases h with rfl|h
  ·exact BP _ (AR.mpr rfl)
  ·exact Be _ h
theorem KP:∀{ps rows:List Rw} {x:Str},x∈ps.map Rw.c∨x∈rows.map Rw.c->x∈(ps.foldl Ea rows).map Rw.c
 |[],_,_,h=>h.resolve_left (AM)
 |p::ps,rows,x,h=>by
  refine KP (ps:=ps) (rows:=Ea rows p) ?_;rcases h with h|h
  ·rw[AO]at h;rcases AQ.mp h with rfl|h
   ·exact .inr (MP (.inl rfl))
   ·exact .inl h
  ·exact .inr (MP (.inr h))
theorem sub_len {a c:List Rw} (h:Rws a) (hs:∀q,q∈a->q∈c):a.length≤c.length:=by
 have q:=US (m:=c.map Rw.c) h.nd λx hx=>by
  obtain⟨p,hp,rfl⟩:=AY.mp hx;exact BL (hs p hp)
 rw[AJ,AJ]at q;exact q
theorem i5 {a c:List Rw} (h:Rws a) (hs:∀x,x∈a.map Rw.c->x∈c.map Rw.c):a.length≤c.length:=by
 have q:=US (m:=c.map Rw.c) h.nd hs;rw[AJ,AJ]at q;exact q
theorem Rws.perm {rows U:List Rw} (h:Rws rows) (hp:U.Perm rows):Rws U:=⟨λq hq=>h.ok q (hp.mem_iff.mp hq),(hp.map Rw.c).nodup_iff.mpr h.nd⟩
theorem Rws.tail {U:List Rw} (h:Rws U):Rws (U.drop 1):=by
 cases U with
 |nil=>exact h
 |cons p U=>
  have nd:=h.nd;rw[AO,Au]at nd;exact⟨λq hq=>h.ok q (AF _ hq),nd.2⟩
theorem Rws.made {U:List Rw} (h:Rws U):U.foldl Ea []=U:=by
 rw[Nd U [] (by rw[BX];exact h.nd),BX]
theorem bx {rows U S:List Rw} (hS:S.map Rw.c=dS (rows.map Rw.c)) (hp:U.Perm rows):S.map Rw.c=dS (U.map Rw.c):=by
 rw[hS];exact OA (LO _) (LO _) λx=>by rw[LP,LP];exact(hp.map Rw.c).mem_iff.symm
theorem dQ (x:D):pick [0] [x]=[x]:=(rfl)
theorem i6 (U:List Rw):cut (U.map Rw.d) (some 1) none=(U.drop 1).map Rw.d:=by
 cases U with
 |nil=>rfl
 |cons p U=>
  rw[show(1:Int)=((1:Nat):Int)from rfl,Xr _ 1 AD,List.map_drop]
section
variable {k z b K:Nat} {l:List (Nat×MO)} {rows S:List Rw} {F:D} {o1 o4 o5 o6 o7 o8 o9 o10 o11 o12 o13:Option D}
theorem Yk (hp:S.Perm rows) (h:Rws rows) (hz:z≤800000):Tr (St k z l) ((EU "Book" 2 [] Ka (aC (eB (d1 D.tuple) (aC (Cn 2 Ma (aC (Cg 2) (aC (Cg 10) Ci))) Ci)) Ci)) [some F,o1,some (.hnd k),some (.hnd b),o4,o5,o6,o7,some (.lst (S.map λq=>D.str q.tx)),o9,some (.lst (S.map Rw.d)),o11,o12,o13]) (λd m=>∃(b2 K2 i:Nat) (U:List Rw),d= .hnd b2∧U.Perm rows∧St k (z+4) ((K2,.dic (U.map Rw.kv))::(b2,BO K2)::(i,.lst (U.map Rw.d))::l) m):=by
 have hSl:S.length≤4:=by rw[hp.length_eq];exact h.len
 simp only[Cm,Ol];refine HU (KA hSl AA) λd=>Cs λi=>Cs λU=>Co λe=>Co λpm=>?_;subst e;have hU:=h.perm (pm.trans hp)
 try simp only[Cm]
 refine Na AG ?_
 try simp only[Cm]
 refine FC λb2=>?_
 try simp only[Cm]
 refine HU (MN (ps:=U) hU.ok) λd=>Cs λK2=>Co λe=>?_;subst e;rw[hU.made]
 try simp only[Cm]
 exact ED λm hm=>⟨b2,K2,i,U,rfl,pm.trans hp,hm⟩
theorem Yl (hp:S.Perm rows) (h:Rws rows) (hz:z≤800000):Tr (St k z l) ((FN "Book" 0 1 2 [0] Ka Ci (aC (eB (d1 D.tuple) (aC (Ej (Cn 2 Ma (aC (Cg 2) (aC (Cg 10) Ci))) (GR (eC (.int 1))) GQ) Ci)) Ci)) [some F,o1,some (.hnd k),some (.hnd b),o4,o5,o6,o7,some (.lst (S.map λq=>D.str q.tx)),o9,some (.lst (S.map Rw.d)),o11,o12,o13]) (λd m=>∃(b2 K2 i:Nat) (U:List Rw),d= .hnd b2∧U.Perm rows∧St k (z+4) ((K2,.dic ((U.drop 1).map Rw.kv))::(b2,BO K2)::(i,.lst (U.map Rw.d))::l) m):=by
 have hSl:S.length≤4:=by rw[hp.length_eq];exact h.len
 rw[show ∀(cls:Str) (npos nk n:Nat) (pi:List Nat) (gg:List D->M D) (fs fk:Mir.Env->M (List D)) (ρ:Mir.Env),FN cls npos nk n pi gg fs fk ρ=(fs ρ>>=λxs=>fk ρ>>=λzs=>M.more (.ins cls [])>>=λs=>M.guard (decide (xs.length=npos∧zs.length=nk∧(s::(xs++pick pi zs)).length=n))>>=λ_=>gg (s::(xs++pick pi zs))>>=λr=>D.isNon r>>=λ_=>pure s)from λ_ _ _ _ _ _ _ _ _=>rfl];simp only[Cm];refine HU (KA hSl AA) λd=>Cs λi=>Cs λU=>Co λe=>Co λpm=>?_;subst e;have hU:=h.perm (pm.trans hp)
 try simp only[Cm]
 rw[show D.slice (.hnd i) (some 1) none=(D.now (.hnd i)>>=D.slice1 (some 1) none)from rfl,D5];refine Xo ?_;rw[show D.slice1 (some 1) none (.lst (U.map Rw.d))=pure (D.lst (cut (U.map Rw.d) (some 1) none))from rfl,i6]
 try simp only[Cm]
 rw[HV]
 try simp only[Cm,dQ]
 refine FC λb2=>?_
 try simp only[Cm,dQ]
 refine HU (MN (ps:=U.drop 1) hU.tail.ok) λd=>Cs λK2=>Co λe=>?_;subst e;rw[hU.tail.made]
 try simp only[Cm]
 exact ED λm hm=>⟨b2,K2,i,U,rfl,pm.trans hp,hm⟩
def sE (F:D) (k b b3:Nat) (S:List Rw) (ρ:Mir.Env):Prop:=∃o1 o4 o5 o6 o7 o9 o11 o12:Option D,ρ=[some F,o1,some (.hnd k),some (.hnd b),o4,o5,o6,o7,some (.lst (S.map λq=>D.str q.tx)),o9,some (.lst (S.map Rw.d)),o11,o12,some (.hnd b3)]
def lG (F:D) (k b:Nat) (S:List Rw) (ρ:Mir.Env):Prop:=∃o1 o4 o5 o6 o7 o9 o11 o12 o13:Option D,ρ=[some F,o1,some (.hnd k),some (.hnd b),o4,o5,o6,o7,some (.lst (S.map λq=>D.str q.tx)),o9,some (.lst (S.map Rw.d)),o11,o12,o13]
theorem nv {b3 K3:Nat} {U:List Rw} (hb:(b,BO K)∈l) (hk:(K,.dic (rows.map Rw.kv))∈l) (h:Rws rows) (hp:S.Perm rows) (hU:U.Perm rows) (hz:z≤800000):Tr (St k z ((K3,.dic ((U.drop 1).map Rw.kv))::(b3,BO K3)::l)) (qN [some F,o1,some (.hnd k),some (.hnd b),o4,o5,o6,o7,some (.lst (S.map λq=>D.str q.tx)),o9,some (.lst (S.map Rw.d)),o11,o12,some (.hnd b3)]) (λfl m=>(∃ρ',fl= .nx ρ'∧lG F k b S ρ')∧∃l',St k (z+4) (l'++l) m):=by
 have hSl:S.length≤4:=by rw[hp.length_eq];exact h.len
 have hok:∀q,q∈S->q.Ok:=λq hq=>h.ok q (hp.mem_iff.mp hq);have hUr:=h.perm hU;have hV:=hUr.tail;have hVs:∀q,q∈U.drop 1->q∈rows:=λq hq=>hU.mem_iff.mp (List.mem_of_mem_drop hq);have lS:S.length=rows.length:=hp.length_eq;have lU:U.length=rows.length:=hU.length_eq;have lV:(U.drop 1).length=rows.length - 1:=by rw[Ba,lU]
 have hl:=h.len;have go:Tr (St k z ((K3,.dic ((U.drop 1).map Rw.kv))::(b3,BO K3)::l)) ((Cj (Iz (DJ (Cn 2 Ma (aC (Cg 2) (aC (Cg 10) Ci)))) (KR 3 (Dr (Cq 5) (Dr (Cq 6) (Dr (Cq 7) Di)))) (C5 (Cw "Book" "put" 4 [] PB (Cg 13) (aC (Cg 5) (aC (Cg 6) (aC (Cg 7) Ci)))))) Yj) [some F,o1,some (.hnd k),some (.hnd b),o4,o5,o6,o7,some (.lst (S.map λq=>D.str q.tx)),o9,some (.lst (S.map Rw.d)),o11,o12,some (.hnd b3)]) (λfl m=>(∃ρ',fl= .nx ρ'∧lG F k b S ρ')∧∃l',St k (z+4) (l'++l) m):=by
  rw[Pl,ag];simp only[Cm];refine HU (KA hSl AA) λd=>Cs λT=>Cs λW2=>Co λe=>Co λpm=>?_;subst e;have hW:=h.perm (pm.trans hp)
  try simp only[Cm]
  refine ah ?_
  try simp only[Cm]
  refine JO ?_;refine HU (Qw (b:=b3) (K:=K3) (T:=T) (al:=W2.map Rw.d) (I:=sE F k b b3 S) (AF _ AG) AG (λp ρ hpo hI=>?_) W2 (U.drop 1) _ hV hW.ok ⟨_,_,_,_,_,_,_,_,rfl⟩) λfl=>Co λe=>?_
  ·obtain⟨o1,o4,o5,o6,o7,o9,o11,o12,rfl⟩:=hI;refine⟨_,by simp only[Cm,Jl,Kw];rfl,⟨_,_,_,_,_,_,_,_,rfl⟩,?_⟩;simp only[Cm,HX]
  ·obtain⟨ρ',rfl,hI⟩:=e;obtain⟨o1,o4,o5,o6,o7,o9,o11,o12,rfl⟩:=hI;have hR:=Qr hV W2 hW.ok;have hRs:∀q,q∈W2.foldl Ea (U.drop 1)->q∈rows:=λq hq=>(Qy hq).elim (λz=>hp.mem_iff.mp (pm.mem_iff.mp z)) (hVs q);have lR:(W2.foldl Ea (U.drop 1)).length=rows.length:=by
    refine Nat.le_antisymm (sub_len hR hRs) (i5 h λx hx=>KP (.inl ?_));exact((pm.trans hp).map Rw.c).mem_iff.mpr hx
   generalize W2.foldl Ea (U.drop 1)=R at hR hRs lR;have m0:(b3,BO K3)∈(K3,.dic (R.map Rw.kv))::(T,.lst (W2.map Rw.d))::(b3,BO K3)::l:=AF _ (AF _ AG);have up:∀{p:Nat×MO},p∈l->p∈(K3,.dic (R.map Rw.kv))::(T,.lst (W2.map Rw.d))::(b3,BO K3)::l:=λhp=>AF _ (AF _ (AF _ hp))
   try simp only[Cm]
   unfold Yj;simp only[Cm];refine Kx m0 AG (up hb) (up hk) h hRs ?_;rw[lR,Ak]
   try simp only[Cm]
   refine Qv m0 AG hR ?_
   try simp only[Cm]
   refine Qv (up hb) (up hk) h ?_;rw[lR]
   try simp only[Cm,ne_str,Ak]
   exact ED λm hm=>⟨⟨_,rfl,_,_,_,_,_,_,_,_,_,rfl⟩,[_,_,_],hm⟩
 have mx:(if(S.length:Int) - 1>0 then(S.length:Int) - 1 else 0)=((U.drop 1).length:Int):=by
  rw[lV];split<;>omega
 have up:∀{p:Nat×MO},p∈l->p∈(K3,.dic ((U.drop 1).map Rw.kv))::(b3,BO K3)::l:=λhp=>AF _ (AF _ hp);have tst:∀{A:Type} {f:Bool->M A} {Q:A->Mu->Prop},Tr (St k z ((K3,.dic ((U.drop 1).map Rw.kv))::(b3,BO K3)::l)) (f false) Q->Tr (St k z ((K3,.dic ((U.drop 1).map Rw.kv))::(b3,BO K3)::l)) ((MR (DA (Ck D.ne (Cg 10) (EG Ci))) (DA (Ck (D.eqO "Book" KL) (Cg 13) (Cg 3)))) [some F,o1,some (.hnd k),some (.hnd b),o4,o5,o6,o7,some (.lst (S.map λq=>D.str q.tx)),o9,some (.lst (S.map Rw.d)),o11,o12,some (.hnd b3)]>>=f) Q:=λ{A f Q} hf=>by
  simp only[Cm];rw[Qu hok AA]
  try simp only[Cm]
  cases hS0:S with
  |nil=>
   rw[show(!(List.isEmpty ([]:List Rw)))=false from rfl]
   try simp only[Cm]
   exact hf
  |cons s0 S0=>
   rw[show(!(List.isEmpty (s0::S0)))=true from rfl]
   try simp only[Cm]
   refine Kx (AF _ AG) AG (up hb) (up hk) h hVs ?_;have:((U.drop 1).length==rows.length)=false:=by
    rw[lV,AZ];have:0<S.length:=by rw[hS0];simp
    omega
   rw[this]
   try simp only[Cm]
   exact hf
 unfold qN;rw[Pl,G0,Ji];simp only[D5];refine tst ?_;rw[Aq AB];simp only[Cm];refine UV (AF _ AG) AG hV ?_
 try simp only[Cm]
 rw[AJ]
 try simp only[Cm,mx,Kk,Ak]
 exact go
end
section
variable {k z b K:Nat} {l:List (Nat×MO)} {rows S:List Rw} {F:D} {o1 o4 o5 o6 o7 o8 o9 o10 o11 o12 o13:Option D}
def rR (F:D) (k b:Nat) (S:List Rw) (l:List (Nat×MO)) (z i:Nat) (ρ:Mir.Env) (m:Mu):Prop:=lG F k b S ρ∧∃l',St k (z+i*8) (l'++l) m
theorem n5 (hb:(b,BO K)∈l) (hk:(K,.dic (rows.map Rw.kv))∈l) (h:Rws rows) (hp:S.Perm rows) (hz:z≤700000) (d:D) (ρ:Mir.Env) (i:Nat) (hi:i≤2):Tr (rR F k b S l z i ρ) (Cq 4 d ρ>>=qO) (λfl m=>∃ρ',fl= .nx ρ'∧rR F k b S l z (i+1) ρ' m):=by
 refine Co λhI=>Cs λl'=>?_;obtain⟨o1,o4,o5,o6,o7,o9,o11,o12,o13,rfl⟩:=hI;rw[RH,Dm];simp only[Ac,Ad];unfold qO;rw[Pl,E6];simp only[D5];refine HU (Yl hp h AA) λd=>Cs λb3=>Cs λK3=>Cs λj=>Cs λU=>Co λe=>Co λpm=>?_;subst e;rw[Dm,Dq];simp only[Ac,Ad];refine DV (nv (l:=(j,.lst (U.map Rw.d))::(l'++l)) (AF _ (BP _ hb)) (AF _ (BP _ hk)) h hp pm AA) λfl m hm=>?_;obtain⟨⟨ρ',e,hR⟩,l2,hs⟩:=hm;refine⟨ρ',e,hR,l2++((j,.lst (U.map Rw.d))::l'),?_⟩;rw[Al,CF];exact EV hs AA
theorem i7 (hb:(b,BO K)∈l) (hk:(K,.dic (rows.map Rw.kv))∈l) (h:Rws rows) (hp:S.Perm rows) (hS:S.map Rw.c=dS (rows.map Rw.c)) (hz:z≤600000):Tr (St k z l) (iw [some F,o1,some (.hnd k),some (.hnd b),o4,o5,o6,o7,some (.lst (S.map λq=>D.str q.tx)),o9,some (.lst (S.map Rw.d)),o11,o12,o13]) (λfl m=>∃ρ',fl= .nx ρ'∧lG F k b S ρ'):=by
 have hl:=h.len;unfold iw;rw[Pl,E6];simp only[D5];refine HU (Yk hp h AA) λd=>Cs λb2=>Cs λK2=>Cs λi=>Cs λU=>Co λe=>Co λpm=>?_;subst e;rw[Dm,Dq];simp only[Ac,Ad];have hU:=h.perm pm;have hUs:∀q,q∈U->q∈rows:=λq hq=>pm.mem_iff.mp hq;have up:∀{p:Nat×MO},p∈l->p∈(K2,.dic (U.map Rw.kv))::(b2,BO K2)::(i,.lst (U.map Rw.d))::l:=λhp=>AF _ (AF _ (AF _ hp));have m0:(b2,BO K2)∈(K2,.dic (U.map Rw.kv))::(b2,BO K2)::(i,.lst (U.map Rw.d))::l:=AF _ AG;rw[Pl,G0];simp only[Cm];refine Kx m0 AG (up hb) (up hk) h hUs ?_;rw[pm.length_eq,Ak]
 try simp only[Cm]
 refine Kx m0 AG (up hb) (up hk) h hUs ?_;rw[pm.length_eq,Ak]
 try simp only[Cm]
 refine O6 (S:=S) m0 AG hU (hp.trans pm.symm) (bx hS pm) ?_
 try simp only[Cm]
 refine O6 (S:=S) (up hb) (up hk) h hp hS ?_
 try simp only[Cm,ne_str,Ak]
 unfold nh;simp only[N3,Eh,Jj,Ph,Dm,D5,cO 2 ⟨AB,AB⟩,Uq];have st:=λd (_:d∈DL 0 (2:Int).toNat) ρ j (hj:j<0+(DL 0 (2:Int).toNat).length)=>n5 (F:=F) (k:=k) (z:=z+4) (up hb) (up hk) h hp AA d ρ j (by rw[Wn]at hj;exact Nat.le_of_lt (BA hj AB));refine DV (GF (Jv (DL 0 (2:Int).toNat) 0 st _) λm hm=>⟨⟨_,_,_,_,_,_,_,_,_,rfl⟩,[],by rw[Nat.zero_mul];exact hm⟩) λfl m hm=>?_;obtain⟨ρ',e,hI,_⟩:=hm;exact⟨ρ',e,hI⟩
theorem i8 (hb:(b,BO K)∈l) (hk:(K,.dic (rows.map Rw.kv))∈l) (h:Rws rows) (hp:S.Perm rows) (hS:S.map Rw.c=dS (rows.map Rw.c)) (hz:z≤600000):Tr (St k z l) (iy [some F,o1,some (.hnd k),some (.hnd b),o4,o5,o6,o7,some (.lst (S.map λq=>D.str q.tx)),o9,some (.lst (S.map Rw.d)),o11,o12,o13]) (λfl m=>∃ρ',fl= .nx ρ'∧lG F k b S ρ'):=by
 have hSl:S.length≤4:=by rw[hp.length_eq];exact h.len
 have hok:∀q,q∈S->q.Ok:=λq hq=>h.ok q (hp.mem_iff.mp hq);have n1:D.ne (.lst (S.map λq=>D.str q.c)) (.lst ((dS (rows.map Rw.c)).map .str))=pure (.bl false):=by
  rw[←hS,show(S.map λq=>D.str q.c)=(S.map Rw.c).map .str from by rw[Am];rfl];refine UU λx hx=>?_;obtain⟨q,hq,rfl⟩:=AY.mp hx;exact(HK _ (hok q hq).c).2
 have n2:D.ne (.lst (S.map λq=>D.str q.tx)) (.lst (S.map λq=>D.str q.tx))=pure (.bl false):=by
  rw[show(S.map λq=>D.str q.tx)=(S.map Rw.tx).map .str from by rw[Am];rfl];refine UU λx hx=>?_;obtain⟨q,hq,rfl⟩:=AY.mp hx;exact ir (hok q hq)
 have n3:=bu hok AA;unfold iy;rw[Pl,G0,Ji,HL,Gy];simp only[D5];refine Dd (nq hSl) ?_;simp only[Cm,HX];refine Y2 hb (Y1 K _ AD) ?_
 try simp only[Cm]
 refine Dd (Yf hb hk h) ?_;rw[n1]
 try simp only[Cm]
 refine UV hb hk h ?_;rw[AJ,hp.length_eq]
 try simp only[Cm,Kk,Ak]
 refine Dd (nr hb hk h hp) ?_;rw[n3]
 try simp only[Cm]
 refine Dd (nu hok hSl) ?_;rw[n2]
 try simp only[Cm]
 exact i7 hb hk h hp hS hz
theorem bz (hb:(b,BO K)∈l) (hk:(K,.dic (rows.map Rw.kv))∈l) (h:Rws rows) (hz:z≤600000):Tr (St k z l) (UW [some F,o1,some (.hnd k),some (.hnd b),o4,o5,o6,o7,o8,o9,o10,o11,o12,o13]) (λfl m=>∃S ρ',fl= .nx ρ'∧lG F k b S ρ'):=by
 obtain⟨S,hp,hS⟩:=Qp h;have hSl:S.length≤4:=by rw[hp.length_eq];exact h.len
 have hok:∀q,q∈S->q.Ok:=λq hq=>h.ok q (hp.mem_iff.mp hq);unfold UW;rw[Pl,E6];simp only[D5];refine Dd (ni hb hk h hp hS) ?_;rw[Dm,Dq];simp only[Ac,Ad];rw[Pl,E6];simp only[D5];refine Dd (nj hok hSl) ?_;rw[Dm,Dq];simp only[Ac,Ad];refine DV (i8 hb hk h hp hS hz) λfl m hm=>?_;obtain⟨ρ',e,hr⟩:=hm;exact⟨S,ρ',e,hr⟩
def rS (F:D) (k b K:Nat) (i:Nat) (ρ:Mir.Env) (m:Mu):Prop:=∃(rows:List Rw) (o1 o4 o5 o6 o7 o8 o9 o10 o11 o12 o13:Option D),ρ=[some F,o1,some (.hnd k),some (.hnd b),o4,o5,o6,o7,o8,o9,o10,o11,o12,o13]∧Rws rows∧St k (1+i*3000) ((K,.dic (rows.map Rw.kv))::(b,BO K)::[]) m
theorem Ym (d:D) (ρ:Mir.Env) (i:Nat) (hi:i≤6):Tr (rS F k b K i ρ) (Cq 4 d ρ>>=UX) (λfl m=>∃ρ',fl= .nx ρ'∧rS F k b K (i+1) ρ' m):=by
 refine Cs λrows=>Cs λo1=>Cs λo4=>Cs λo5=>Cs λo6=>Cs λo7=>Cs λo8=>Cs λo9=>Cs λo10=>Cs λo11=>Cs λo12=>Cs λo13=>Co λe=>Co λh=>?_;subst e;unfold UX;simp only[Cm];refine HU (Qs AA) λd=>Cs λp=>Co λe=>Co λhpo=>?_;subst e
 try simp only[Cm,Jl,Kw,HX]
 refine Y2 (AF _ AG) (Y1 K _ AD) ?_
 try simp only[Cm]
 refine Dd (SO AG h hpo) ?_
 try simp only[Cm]
 exact ED λm hm=>⟨_,rfl,Ea rows p,_,_,_,_,_,_,_,_,_,_,_,rfl,h.put hpo,EV hm AA⟩
def qP (ns:List Int) (_:Nat) (ρ:Mir.Env) (_:Mu):Prop:=∃o1 o2 o3 o4 o5 o6 o7 o8 o9 o10 o11 o12 o13:Option D,ρ=[some (.frz (ns.map .int)),o1,o2,o3,o4,o5,o6,o7,o8,o9,o10,o11,o12,o13]
theorem i9 {ns:List Int} {o1 o3 o4 o5 o6 o7 o8 o9 o10 o11 o12 o13:Option D}:Tr (St k 0 []) ((Cj (C3 3 (EU "Book" 2 [.tup []] Ka Ci))
 (Cj (E4 (Kg (Cn 2 FB (aC (Cg 2) (aC (eC (.int 6)) Ci)))) (Cq 4) UX)
 UW)) [some (.frz (ns.map .int)),o1,some (.hnd k),o3,o4,o5,o6,o7,o8,o9,o10,o11,o12,o13]) (λfl m=>∃ρ',fl= .nx ρ'∧qP ns 0 ρ' m):=by
 rw[Pl,E6];simp only[D5];simp only[Cm,Ol];refine FC λb=>?_
 try simp only[Cm]
 refine HU (MN (ps:=[]) (λp hp=>(AM hp).elim)) λd=>Cs λK=>Co λe=>?_;subst e
 try simp only[Cm]
 unfold Eh;simp only[Cm];refine Q2 ⟨AB,AB⟩ AA λn n0 n1=>?_
 try simp only[Cm]
 rw[cO _ ⟨AA,AA⟩]
 try simp only[Cm]
 have st:=λd (_:d∈DL 0 n.toNat) ρ i (hi:i<0+(DL 0 n.toNat).length)=>Ym (F:= .frz (ns.map .int)) (k:=k) (b:=b) (K:=K) d ρ i (by rw[Wn]at hi;omega);refine HU (GF (Jv (DL 0 n.toNat) 0 st _) λm hm=>⟨[],_,_,_,_,_,_,_,_,_,_,_,rfl,⟨λq hq=>(AM hq).elim,B3⟩,by rw[Nat.zero_mul];exact hm⟩) λfl=>Cs fun ρ'=>Co λe=>?_;subst e;refine Cs λrows=>Cs λo1=>Cs λo4=>Cs λo5=>Cs λo6=>Cs λo7=>Cs λo8=>Cs λo9=>Cs λo10=>Cs λo11=>Cs λo12=>Cs λo13=>Co λe=>Co λh=>?_;subst e;rw[Dq];refine DV (bz (AF _ AG) AG h (by rw[Wn];omega)) λfl m hm=>?_;obtain⟨S,ρ',e,o1,o4,o5,o6,o7,o9,o11,o12,o13,e2⟩:=hm;exact⟨ρ',e,_,_,_,_,_,_,_,_,_,_,_,_,_,e2⟩
end
abbrev BG:Mir.Env->M Fl:=(Cj (C3 3 (eB (d1 D.abs) (aC (Cg 2) Ci)))
 (Cj (Da (DA (Ck D.lt (Cg 3) (Ck D.pow (eC (.int 10)) (eC (.int 18))))) (C3 3 (eC (.int 0))) C1)
 (Cu (GP (aC (Cg 3) (aC (Ck D.add (Ck D.add (Ck D.mod (Cg 2) (eC (.int 1000000000000000003))) (Ck D.mul (eC (.int 104729)) (Cg 1))) (eC (.int 17))) (aC (eC (.int 0)) Ci)))))))
theorem cA (ns:List Int) (i:Nat) (hi:i≤64) (m:Mu):∃x y:Int,0≤x∧0≤y∧y≤2 ^ 62∧(aZ [.frz (ns.map .int),.int i]).run m= .ok (.hnd m.length) (m++[.lst [.int x,.int y,.int 0]]):=by
 show ∃x y:Int,0≤x∧0≤y∧y≤2 ^ 62∧(M.noexc (HS (DE 4 [.frz (ns.map .int),.int i])>>=endOf)).run m=_;have e0:DE 4 [.frz (ns.map D.int),.int i]=[some (.frz (ns.map .int)),some (.int i),none,none]:=rfl;rw[e0];have fin:∀cell:Int,∃x y:Int,0≤x∧0≤y∧y≤2 ^ 62∧(M.noexc (BG [some (.frz (ns.map .int)),some (.int i),some (.int cell),none]>>=endOf)).run m= .ok (.hnd m.length) (m++[.lst [.int x,.int y,.int 0]]):=λcell=>by
  by_cases c:(if cell<0 then -cell else cell)<10 ^ 18
  ·refine⟨0,cell % 1000000000000000003+104729*(i:Int)+17,AB,AA,AA,?_⟩;unfold BG;simp only[Cm];rw[Pc 10 18 ⟨AB,AB,AB⟩];simp only[Cm,show((18:Int).toNat)=18 from rfl,AK c];rw[Yq _ _ AB,Zb 104729 _ (.inl ⟨AB,AB⟩)];simp only[Cm];rfl
  ·refine⟨if cell<0 then -cell else cell,cell % 1000000000000000003+104729*(i:Int)+17,by split<;>omega,AA,AA,?_⟩;unfold BG;simp only[Cm];rw[Pc 10 18 ⟨AB,AB,AB⟩];simp only[Cm,show((18:Int).toNat)=18 from rfl,AW c];rw[Yq _ _ AB,Zb 104729 _ (.inl ⟨AB,AB⟩)];simp only[Cm];rfl
 have eb:HS=Cj (C3 2 (eC (.int 0))) (Cj (Da (DA (Ck D.lt (Cg 1) (eB (d1 D.len) (aC (Cg 0) Ci)))) (C3 2 (Ck D.ix (Cg 0) (Cg 1))) C1) BG):=rfl;rw[eb];simp only[Pl,E6,Ph,Dm,D5,Dq,Ac,Ad];simp only[G0,HL,Gy,Zd,Fw,Gz,Em,El,IG,Dm,D5,Ny,Nw,Nu,Iv,AJ];by_cases c:(i:Int)<(ns.length:Int)
 ·have hk:(ns.map D.int)[i]? =some (.int (ns[i]'(by omega))):=by
   rw[A6,Aj AA];rfl
  rw[AK c,An rfl];simp only[E6,Gy,Ph,Em,El,IG,Dm,D5];rw[fM,fL rfl hk,Ed];simp only[Dm,Dq,Ac,Ad];exact fin _
 ·rw[AW c,Aq AB];simp only[Iw,Dm,Dq];exact fin _
theorem cB (m:Mu) {x y:Int} (h0:0≤x) (h1:0≤y) (h2:y≤2 ^ 62):St m.length 0 [] (m++[.lst [.int x,.int y,.int 0]]):=⟨⟨0,Ai _,x,y,AD,h0,h1,h2⟩,AD,λp hp=>(AM hp).elim⟩
theorem jA {A:Type} {ns:List Int} {i:Nat} (hi:i≤64) {f:D->M A} {Q:A->Mu->Prop} (h:∀k,Tr (St k 0 []) (f (.hnd k)) Q):Tr (λ_=>True) (aZ [.frz (ns.map .int),.int i]>>=f) Q:=λm _=>by
 obtain⟨x,y,x0,y0,y1,eb⟩:=cA ns i hi m;rw[Do,eb];exact h m.length _ (cB m x0 y0 y1)
section
theorem Yn {ns:List Int} (n:Nat) (hn:n≤6) (d:D) (hd:d∈DL 0 n) (ρ:Mir.Env) (i:Nat):Tr (qP ns i ρ) (Cq 1 d ρ>>=(Cj (C3 2 (Cn 2 aZ (aC (Cg 0) (aC (Cg 1) Ci))))
 (Cj (C3 3 (EU "Book" 2 [.tup []] Ka Ci))
 (Cj (E4 (Kg (Cn 2 FB (aC (Cg 2) (aC (eC (.int 6)) Ci)))) (Cq 4) (Cj (FT (Cn 1 dA (aC (Cg 2) Ci)) (KR 3 (Dr (Cq 5) (Dr (Cq 6) (Dr (Cq 7) Di)))))
 (C5 (Cw "Book" "put" 4 [] PB (Cg 3) (aC (Cg 5) (aC (Cg 6) (aC (Cg 7) Ci)))))))
 (Cj (C3 8 (E1 (DJ (Nn D.split (eB (d1 (D.strO "Book" Lh)) (aC (Cg 3) Ci)) (eC (.str "\n")))) (Cq 9) (DA (Ck D.ne (Cg 9) (eC (.str "")))) (Cg 9) [9]))
 (Cj (C3 10 (E1 (DJ (Cg 8)) (Cq 11) DD (Cn 1 Yx (aC (Cg 11) Ci)) [11]))
 (Cj (Da (Dg (DA (Ck D.ne (E1 (DJ (Cg 10)) (Cq 9) DD (Ck D.ix (Cg 9) (eC (.int 0))) [9]) (Cw "Book" "names" 1 [] cy (Cg 3) Ci))) (DA (Ck D.ne (eB (d1 D.len) (aC (Cg 8) Ci)) (eB (d1 (D.lenO "Book" Rh)) (aC (Cg 3) Ci))))) (Cu (eC (.bl false))) C1)
 (Cj (Da (DA (Ck D.ne (E1 (DJ (Cg 10)) (Cq 9) DD (Ck D.add (DS (aC (Ck D.ix (Cg 9) (eC (.int 0))) Ci)) (Cw "Book" "get" 2 [] aX (Cg 3) (aC (Ck D.ix (Cg 9) (eC (.int 0))) Ci))) [9]) (Cg 10))) (Cu (eC (.bl false))) C1)
 (Cj (Da (DA (Ck D.ne (E1 (DJ (Cg 10)) (KR 3 (Dr (Cq 5) (Dr (Cq 6) (Dr (Cq 7) Di)))) DD (Cn 3 VF (aC (Cg 5) (aC (Cg 6) (aC (Cg 7) Ci)))) [5,6,7]) (Cg 8))) (Cu (eC (.bl false))) C1)
 (Cj (C3 12 (EU "Book" 2 [] Ka (aC (eB (d1 D.tuple) (aC (Cn 2 Ma (aC (Cg 2) (aC (Cg 10) Ci))) Ci)) Ci)))
 (Cj (Da (Dg (DA (Ck (D.neO "Book" KL) (Cg 12) (Cg 3))) (Dg (E7 (DA (Ck (D.eqO "Book" KL) (Cg 12) (Cg 3)))) (DA (Ck D.ne (eB (d1 (D.strO "Book" Lh)) (aC (Cg 12) Ci)) (eB (d1 (D.strO "Book" Lh)) (aC (Cg 3) Ci)))))) (Cu (eC (.bl false))) C1)
 (E4 (Kg (eC (.int 2))) (Cq 4) (Cj (C3 13 (FN "Book" 0 1 2 [0] Ka Ci (aC (eB (d1 D.tuple) (aC (Ej (Cn 2 Ma (aC (Cg 2) (aC (Cg 10) Ci))) (GR (eC (.int 1))) GQ) Ci)) Ci)))
 (Cj (Da (Dg (MR (DA (Ck D.ne (Cg 10) (EG Ci))) (DA (Ck (D.eqO "Book" KL) (Cg 13) (Cg 3)))) (DA (Ck D.ne (eB (d1 (D.lenO "Book" Rh)) (aC (Cg 13) Ci)) (eB (d2 D.max2) (aC (eC (.int 0)) (aC (Ck D.sub (eB (d1 D.len) (aC (Cg 10) Ci)) (eC (.int 1))) Ci)))))) (Cu (eC (.bl false))) C1)
 (Cj (Iz (DJ (Cn 2 Ma (aC (Cg 2) (aC (Cg 10) Ci)))) (KR 3 (Dr (Cq 5) (Dr (Cq 6) (Dr (Cq 7) Di)))) (C5 (Cw "Book" "put" 4 [] PB (Cg 13) (aC (Cg 5) (aC (Cg 6) (aC (Cg 7) Ci))))))
 (Da (Dg (DA (Ck (D.neO "Book" KL) (Cg 13) (Cg 3))) (DA (Ck D.ne (eB (d1 (D.reprO "Book" Ri)) (aC (Cg 13) Ci)) (eB (d1 (D.reprO "Book" Ri)) (aC (Cg 3) Ci))))) (Cu (eC (.bl false))) C1)))))))))))))))) (λfl m=>∃ρ',fl= .nx ρ'∧qP ns (i+1) ρ' m):=by
 refine Cs λo1=>Cs λo2=>Cs λo3=>Cs λo4=>Cs λo5=>Cs λo6=>Cs λo7=>Cs λo8=>Cs λo9=>Cs λo10=>Cs λo11=>Cs λo12=>Cs λo13=>?_;obtain⟨j,hj,rfl⟩:=RJ hd;intro m e;subst e;refine(?_:Tr (λ_=>True) _ _) m trivial;rw[Int.zero_add,iz];simp only[RH,Dm,E6,Ki,Fw,Gz,Em,El,IG,Ac,Ad,D5,n7,Eb,Dq];rw[Pl,E6];simp only[RH,Dm,Ki,Fw,Gz,Em,El,IG,Ac,Ad,D5,n7,Eb,Dq];refine jA AA λk=>?_;exact DV i9 λfl m h=>h
end
theorem jB:NR=Cj (E4 (Kg (eB (d2 D.max2) (aC (eC (.int 2)) (aC (eB (d2 D.min2) (aC (eC (.int 6)) (aC (eB (d1 D.len) (aC (Cg 0) Ci)) Ci))) Ci)))) (Cq 1) (Cj (C3 2 (Cn 2 aZ (aC (Cg 0) (aC (Cg 1) Ci))))
 (Cj (C3 3 (EU "Book" 2 [.tup []] Ka Ci))
 (Cj (E4 (Kg (Cn 2 FB (aC (Cg 2) (aC (eC (.int 6)) Ci)))) (Cq 4) (Cj (FT (Cn 1 dA (aC (Cg 2) Ci)) (KR 3 (Dr (Cq 5) (Dr (Cq 6) (Dr (Cq 7) Di)))))
 (C5 (Cw "Book" "put" 4 [] PB (Cg 3) (aC (Cg 5) (aC (Cg 6) (aC (Cg 7) Ci)))))))
 (Cj (C3 8 (E1 (DJ (Nn D.split (eB (d1 (D.strO "Book" Lh)) (aC (Cg 3) Ci)) (eC (.str "\n")))) (Cq 9) (DA (Ck D.ne (Cg 9) (eC (.str "")))) (Cg 9) [9]))
 (Cj (C3 10 (E1 (DJ (Cg 8)) (Cq 11) DD (Cn 1 Yx (aC (Cg 11) Ci)) [11]))
 (Cj (Da (Dg (DA (Ck D.ne (E1 (DJ (Cg 10)) (Cq 9) DD (Ck D.ix (Cg 9) (eC (.int 0))) [9]) (Cw "Book" "names" 1 [] cy (Cg 3) Ci))) (DA (Ck D.ne (eB (d1 D.len) (aC (Cg 8) Ci)) (eB (d1 (D.lenO "Book" Rh)) (aC (Cg 3) Ci))))) (Cu (eC (.bl false))) C1)
 (Cj (Da (DA (Ck D.ne (E1 (DJ (Cg 10)) (Cq 9) DD (Ck D.add (DS (aC (Ck D.ix (Cg 9) (eC (.int 0))) Ci)) (Cw "Book" "get" 2 [] aX (Cg 3) (aC (Ck D.ix (Cg 9) (eC (.int 0))) Ci))) [9]) (Cg 10))) (Cu (eC (.bl false))) C1)
 (Cj (Da (DA (Ck D.ne (E1 (DJ (Cg 10)) (KR 3 (Dr (Cq 5) (Dr (Cq 6) (Dr (Cq 7) Di)))) DD (Cn 3 VF (aC (Cg 5) (aC (Cg 6) (aC (Cg 7) Ci)))) [5,6,7]) (Cg 8))) (Cu (eC (.bl false))) C1)
 (Cj (C3 12 (EU "Book" 2 [] Ka (aC (eB (d1 D.tuple) (aC (Cn 2 Ma (aC (Cg 2) (aC (Cg 10) Ci))) Ci)) Ci)))
 (Cj (Da (Dg (DA (Ck (D.neO "Book" KL) (Cg 12) (Cg 3))) (Dg (E7 (DA (Ck (D.eqO "Book" KL) (Cg 12) (Cg 3)))) (DA (Ck D.ne (eB (d1 (D.strO "Book" Lh)) (aC (Cg 12) Ci)) (eB (d1 (D.strO "Book" Lh)) (aC (Cg 3) Ci)))))) (Cu (eC (.bl false))) C1)
 (E4 (Kg (eC (.int 2))) (Cq 4) (Cj (C3 13 (FN "Book" 0 1 2 [0] Ka Ci (aC (eB (d1 D.tuple) (aC (Ej (Cn 2 Ma (aC (Cg 2) (aC (Cg 10) Ci))) (GR (eC (.int 1))) GQ) Ci)) Ci)))
 (Cj (Da (Dg (MR (DA (Ck D.ne (Cg 10) (EG Ci))) (DA (Ck (D.eqO "Book" KL) (Cg 13) (Cg 3)))) (DA (Ck D.ne (eB (d1 (D.lenO "Book" Rh)) (aC (Cg 13) Ci)) (eB (d2 D.max2) (aC (eC (.int 0)) (aC (Ck D.sub (eB (d1 D.len) (aC (Cg 10) Ci)) (eC (.int 1))) Ci)))))) (Cu (eC (.bl false))) C1)
 (Cj (Iz (DJ (Cn 2 Ma (aC (Cg 2) (aC (Cg 10) Ci)))) (KR 3 (Dr (Cq 5) (Dr (Cq 6) (Dr (Cq 7) Di)))) (C5 (Cw "Book" "put" 4 [] PB (Cg 13) (aC (Cg 5) (aC (Cg 6) (aC (Cg 7) Ci))))))
 (Da (Dg (DA (Ck (D.neO "Book" KL) (Cg 13) (Cg 3))) (DA (Ck D.ne (eB (d1 (D.reprO "Book" Ri)) (aC (Cg 13) Ci)) (eB (d1 (D.reprO "Book" Ri)) (aC (Cg 3) Ci))))) (Cu (eC (.bl false))) C1)))))))))))))))) (Cu (eC (.bl true))):=rfl
theorem law_true (ns:List Int) (h:ns.length≤63):∃m,(NS [.frz (ns.map .int)]).run []= .ok (.bl true) m:=by
 suffices q:Tr (λ_=>True) (NS [.frz (ns.map .int)]) (λd _=>d= .bl true) by
  obtain⟨a,m,e,r⟩:=q [] trivial;exact⟨m,by rw[e,r]⟩
 show Tr _ (M.noexc (NR (DE 14 [.frz (ns.map .int)])>>=endOf)) _;refine Gn ?_;have e0:DE 14 [.frz (ns.map D.int)]=[some (.frz (ns.map .int)),none,none,none,none,none,none,none,none,none,none,none,none,none]:=rfl;rw[e0,jB];obtain⟨n,hn,en⟩:∃n:Nat,n≤6∧(Kg (eB (d2 D.max2) (aC (eC (.int 2)) (aC (eB (d2 D.min2) (aC (eC (.int 6)) (aC (eB (d1 D.len) (aC (Cg 0) Ci)) Ci))) Ci)))) [some (.frz (ns.map .int)),none,none,none,none,none,none,none,none,none,none,none,none,none]=pure (DL 0 n,none):=by
  simp only[Cm];generalize hv:(if(if((ns.map D.int).length:Int)<6 then((ns.map D.int).length:Int)else 6)>2 then(if((ns.map D.int).length:Int)<6 then((ns.map D.int).length:Int)else 6)else 2)=v;have hv2:0≤v∧v≤6:=by
   subst hv;split
   ·split<;>omega
   ·omega
  refine⟨v.toNat,AA,?_⟩;rw[cO _ ⟨AA,AA⟩]
 rw[Pl,N3];unfold Eh;rw[en];simp only[Dm,D5,Uq];have st:=λd (hd:d∈DL 0 n) ρ i (hi:i<0+(DL 0 n).length)=>Yn (ns:=ns) n hn d hd ρ i;refine HU (GF (Jv (DL 0 n) 0 st _) λm hm=>⟨_,_,_,_,_,_,_,_,_,_,_,_,_,rfl⟩) λfl=>Cs fun ρ'=>Co λe=>?_;subst e;refine Cs λo1=>Cs λo2=>Cs λo3=>Cs λo4=>Cs λo5=>Cs λo6=>Cs λo7=>Cs λo8=>Cs λo9=>Cs λo10=>Cs λo11=>Cs λo12=>Cs λo13=>?_;intro m e;subst e;rw[Dq];exact⟨_,m,rfl,rfl⟩
end LW
open PySem PySem.W PyProof.Rows
set_option maxRecDepth 100000 in
set_option maxHeartbeats 0 in
theorem PySem.Challenge.cw_sentnames_k22_books_as_texts_holds : PySem.Challenge.rw_sentnames_k22_books_as_texts.Holds := by
 w_on;o_law
 refine Mir.dU (K:=LW.preK.heap_1) (as:=LW.topAs) (e:=LW.topEq) (r:=LW.hdR) (q:=LW.hdQ) (M:=30000) (loose:=LW.hdN) (kwd:=[]) rfl (by kernel_rfl) (λs=>by kernel_rfl) LW.lH AE AE AE AE (by first|assumption|decide+kernel) AC ⟨rfl,rfl,rfl,rfl,rfl,AC⟩ ?_ ?_
 (w_witness2)
 k_fill
 refine LW.walk (l:=PySem.Challenge.rw_sentnames_k22_books_as_texts) rfl rfl (λw h Y=>PySem.W.kIn_of Y) LW.law_true ?F
 case F=>
  intro w mg fa h KX G hmg
  refine' LW.all_mk KX G hmg ?a0 ?l0 ?c0 ?k0 ?a1 ?l1 ?c1 ?k1 ?a2 ?l2 ?c2 ?k2 ?w2_0 ?r2_0 ?a3 ?l3 ?c3 ?k3 ?a4 ?l4 ?c4 ?k4 ?a5 ?l5 ?c5 ?k5 ?a6 ?l6 ?c6 ?k6 ?a7 ?l7 ?c7 ?k7 ?a8 ?l8 ?c8 ?k8 ?a9 ?l9 ?c9 ?k9 ?w9_0 ?r9_0 ?a10 ?l10 ?c10 ?k10 ?a11 ?l11 ?c11 ?k11 ?w11_0 ?r11_0 ?a12 ?l12 ?c12 ?k12 ?a13 ?l13 ?c13 ?k13 ?a14 ?l14 ?c14 ?k14 ?a15 ?l15 ?c15 ?k15 ?a16 ?l16 ?c16 ?k16 ?a17 ?l17 ?c17 ?k17 ?a18 ?l18 ?c18 ?k18 ?a19 ?l19 ?c19 ?k19 ?a20 ?l20 ?c20 ?k20 ?a21 ?l21 ?c21 ?k21 ?a22 ?l22 ?c22 ?k22 ?a23 ?l23 ?c23 ?k23 ?a24 ?l24 ?c24 ?k24 ?a25 ?l25 ?c25 ?k25 ?a26 ?l26 ?c26 ?k26 ?a27 ?l27 ?c27 ?k27 ?a28 ?l28 ?c28 ?k28 ?a29 ?j29 ?l29 ?c29 ?k29 ?tl_tq_Book___init___rows ?tv_tq_Book___init___rows ?t29 ?tt29 ?v29 ?a30 ?j30 ?l30 ?c30 ?k30 ?a31 ?j31 ?l31 ?c31 ?k31 ?a32 ?j32 ?l32 ?c32 ?k32 ?a33 ?j33 ?l33 ?c33 ?k33 ?a34 ?j34 ?l34 ?c34 ?k34 ?a35 ?j35 ?l35 ?c35 ?k35 ?a36 ?j36 ?l36 ?c36 ?k36 ?a37 ?l37 ?c37 ?k37 ?a38 ?l38 ?c38 ?k38 ?a39 ?j39 ?l39 ?c39 ?k39 ?a40 ?j40 ?l40 ?c40 ?k40 ?a41 ?j41 ?l41 ?c41 ?k41 ?a42 ?j42 ?l42 ?c42 ?k42 ?a43 ?j43 ?l43 ?c43 ?k43 ?a44 ?j44 ?l44 ?c44 ?k44 ?a45 ?j45 ?l45 ?c45 ?k45 ?a46 ?j46 ?l46 ?c46 ?k46 ?a47 ?j47 ?l47 ?c47 ?k47 ?a48 ?j48 ?l48 ?c48 ?k48 ?a49 ?j49 ?l49 ?c49 ?k49 ?a50 ?j50 ?l50 ?c50 ?k50 ?a51 ?j51 ?l51 ?c51 ?k51 ?a52 ?j52 ?l52 ?c52 ?k52 ?a53 ?j53 ?l53 ?c53 ?k53 ?a54 ?j54 ?l54 ?c54 ?k54 ?a55 ?j55 ?l55 ?c55 ?k55 ?a56 ?j56 ?l56 ?c56 ?k56 ?a57 ?l57 ?c57 ?k57 ?a58 ?l58 ?c58 ?k58 ?a59 ?l59 ?c59 ?k59 ?a60 ?l60 ?c60 ?k60 ?a61 ?l61 ?c61 ?k61 ?a62 ?l62 ?c62 ?k62 ?a63 ?l63 ?c63 ?k63 ?aC_Book ?pg_Book ?hd_Book ?po_Book ?sa_Book ?mk_Book ?kc_Book ?aC_Reader ?pg_Reader ?hd_Reader ?po_Reader ?sa_Reader ?mk_Reader ?kc_Reader ?oa_Book ?ob_Book ?oc_Book ?od_Book ?oe_Book ?of_Book ?nA_Book_kept ?nA_Reader_at ?nA_Reader_names_stand ?nA_Reader_words ?g_BINDERS ?lg_BINDERS ?vg_BINDERS ?g_CAPITALS ?rg_CAPITALS ?g_FIGURES ?rg_FIGURES ?g_FRESH ?rg_FRESH ?g_GUARDS ?lg_GUARDS ?vg_GUARDS ?g_LETTERS ?rg_LETTERS ?g_LISTS ?lg_LISTS ?vg_LISTS ?g_MOST_FIGURES ?rg_MOST_FIGURES ?g_MOST_LETTERS ?rg_MOST_LETTERS ?g_MOST_MARKS ?rg_MOST_MARKS ?g_MOST_PARAMETERS ?rg_MOST_PARAMETERS ?g_RUNNING ?rg_RUNNING ?g_MARKS ?ld_MARKS ?sd_MARKS ?td_MARKS ?g_WRITERS ?ld_WRITERS ?sd_WRITERS ?td_WRITERS ?z_KeyError ?z_abs ?z_all ?z_any ?z_bool ?z_int ?z_isinstance ?z_len ?z_list ?z_max ?z_min ?z_range ?z_repr ?z_sorted ?z_str ?z_tuple
  (case aC_Book=>k_is)
  (case aC_Reader=>k_is)
  (case a0=>k_is)
  (case l0=>k_is)
  (case c0=>k_is)
  (case k0=>k_is)
  (case a1=>k_is)
  (case l1=>k_is)
  (case c1=>k_is)
  (case k1=>k_is)
  (case a2=>k_is)
  (case l2=>k_is)
  (case c2=>k_is)
  (case k2=>k_is)
  (case w2_0=>k_is)
  (case r2_0=>first|rfl|exact⟨_,rfl⟩)
  (case a3=>k_is)
  (case l3=>k_is)
  (case c3=>k_is)
  (case k3=>k_is)
  (case a4=>k_is)
  (case l4=>k_is)
  (case c4=>k_is)
  (case k4=>k_is)
  (case a5=>k_is)
  (case l5=>k_is)
  (case c5=>k_is)
  (case k5=>k_is)
  (case a6=>k_is)
  (case l6=>k_is)
  (case c6=>k_is)
  (case k6=>k_is)
  (case a7=>k_is)
  (case l7=>k_is)
  (case c7=>k_is)
  (case k7=>k_is)
  (case a8=>k_is)
  (case l8=>k_is)
  (case c8=>k_is)
  (case k8=>k_is)
  (case a9=>k_is)
  (case l9=>k_is)
  (case c9=>k_is)
  (case k9=>k_is)
  (case w9_0=>k_is)
  (case r9_0=>first|rfl|exact⟨_,rfl⟩)
  (case a10=>k_is)
  (case l10=>k_is)
  (case c10=>k_is)
  (case k10=>k_is)
  (case a11=>k_is)
  (case l11=>k_is)
  (case c11=>k_is)
  (case k11=>k_is)
  (case w11_0=>k_is)
  (case r11_0=>first|rfl|exact⟨_,rfl⟩)
  (case a12=>k_is)
  (case l12=>k_is)
  (case c12=>k_is)
  (case k12=>k_is)
  (case a13=>k_is)
  (case l13=>k_is)
  (case c13=>k_is)
  (case k13=>k_is)
  (case a14=>k_is)
  (case l14=>k_is)
  (case c14=>k_is)
  (case k14=>k_is)
  (case a15=>k_is)
  (case l15=>k_is)
  (case c15=>k_is)
  (case k15=>k_is)
  (case a16=>k_is)
  (case l16=>k_is)
  (case c16=>k_is)
  (case k16=>k_is)
  (case a17=>k_is)
  (case l17=>k_is)
  (case c17=>k_is)
  (case k17=>k_is)
  (case a18=>k_is)
  (case l18=>k_is)
  (case c18=>k_is)
  (case k18=>k_is)
  (case a19=>k_is)
  (case l19=>k_is)
  (case c19=>k_is)
  (case k19=>k_is)
  (case a20=>k_is)
  (case l20=>k_is)
  (case c20=>k_is)
  (case k20=>k_is)
  (case a21=>k_is)
  (case l21=>k_is)
  (case c21=>k_is)
  (case k21=>k_is)
  (case a22=>k_is)
  (case l22=>k_is)
  (case c22=>k_is)
  (case k22=>k_is)
  (case a23=>k_is)
  (case l23=>k_is)
  (case c23=>k_is)
  (case k23=>k_is)
  (case a24=>k_is)
  (case l24=>k_is)
  (case c24=>k_is)
  (case k24=>k_is)
  (case a25=>k_is)
  (case l25=>k_is)
  (case c25=>k_is)
  (case k25=>k_is)
  (case a26=>k_is)
  (case l26=>k_is)
  (case c26=>k_is)
  (case k26=>k_is)
  (case a27=>k_is)
  (case l27=>k_is)
  (case c27=>k_is)
  (case k27=>k_is)
  (case a28=>k_is)
  (case l28=>k_is)
  (case c28=>k_is)
  (case k28=>k_is)
  (case a29=>k_is)
  (case j29=>k_is)
  (case l29=>k_is)
  (case c29=>k_is)
  (case k29=>k_is)
  (case t29=>k_is)
  (case tt29=>first|rfl|decide)
  (case v29=>exact(.cons (by first|rfl|exact⟨_,rfl⟩) .nil))
  (case a30=>k_is)
  (case j30=>k_is)
  (case l30=>k_is)
  (case c30=>k_is)
  (case k30=>k_is)
  (case a31=>k_is)
  (case j31=>k_is)
  (case l31=>k_is)
  (case c31=>k_is)
  (case k31=>k_is)
  (case a32=>k_is)
  (case j32=>k_is)
  (case l32=>k_is)
  (case c32=>k_is)
  (case k32=>k_is)
  (case a33=>k_is)
  (case j33=>k_is)
  (case l33=>k_is)
  (case c33=>k_is)
  (case k33=>k_is)
  (case a34=>k_is)
  (case j34=>k_is)
  (case l34=>k_is)
  (case c34=>k_is)
  (case k34=>k_is)
  (case a35=>k_is)
  (case j35=>k_is)
  (case l35=>k_is)
  (case c35=>k_is)
  (case k35=>k_is)
  (case a36=>k_is)
  (case j36=>k_is)
  (case l36=>k_is)
  (case c36=>k_is)
  (case k36=>k_is)
  (case a37=>k_is)
  (case l37=>k_is)
  (case c37=>k_is)
  (case k37=>k_is)
  (case a38=>k_is)
  (case l38=>k_is)
  (case c38=>k_is)
  (case k38=>k_is)
  (case a39=>k_is)
  (case j39=>k_is)
  (case l39=>k_is)
  (case c39=>k_is)
  (case k39=>k_is)
  (case a40=>k_is)
  (case j40=>k_is)
  (case l40=>k_is)
  (case c40=>k_is)
  (case k40=>k_is)
  (case a41=>k_is)
  (case j41=>k_is)
  (case l41=>k_is)
  (case c41=>k_is)
  (case k41=>k_is)
  (case a42=>k_is)
  (case j42=>k_is)
  (case l42=>k_is)
  (case c42=>k_is)
  (case k42=>k_is)
  (case a43=>k_is)
  (case j43=>k_is)
  (case l43=>k_is)
  (case c43=>k_is)
  (case k43=>k_is)
  (case a44=>k_is)
  (case j44=>k_is)
  (case l44=>k_is)
  (case c44=>k_is)
  (case k44=>k_is)
  (case a45=>k_is)
  (case j45=>k_is)
  (case l45=>k_is)
  (case c45=>k_is)
  (case k45=>k_is)
  (case a46=>k_is)
  (case j46=>k_is)
  (case l46=>k_is)
  (case c46=>k_is)
  (case k46=>k_is)
  (case a47=>k_is)
  (case j47=>k_is)
  (case l47=>k_is)
  (case c47=>k_is)
  (case k47=>k_is)
  (case a48=>k_is)
  (case j48=>k_is)
  (case l48=>k_is)
  (case c48=>k_is)
  (case k48=>k_is)
  (case a49=>k_is)
  (case j49=>k_is)
  (case l49=>k_is)
  (case c49=>k_is)
  (case k49=>k_is)
  (case a50=>k_is)
  (case j50=>k_is)
  (case l50=>k_is)
  (case c50=>k_is)
  (case k50=>k_is)
  (case a51=>k_is)
  (case j51=>k_is)
  (case l51=>k_is)
  (case c51=>k_is)
  (case k51=>k_is)
  (case a52=>k_is)
  (case j52=>k_is)
  (case l52=>k_is)
  (case c52=>k_is)
  (case k52=>k_is)
  (case a53=>k_is)
  (case j53=>k_is)
  (case l53=>k_is)
  (case c53=>k_is)
  (case k53=>k_is)
  (case a54=>k_is)
  (case j54=>k_is)
  (case l54=>k_is)
  (case c54=>k_is)
  (case k54=>k_is)
  (case a55=>k_is)
  (case j55=>k_is)
  (case l55=>k_is)
  (case c55=>k_is)
  (case k55=>k_is)
  (case a56=>k_is)
  (case j56=>k_is)
  (case l56=>k_is)
  (case c56=>k_is)
  (case k56=>k_is)
  (case a57=>k_is)
  (case l57=>k_is)
  (case c57=>k_is)
  (case k57=>k_is)
  (case a58=>k_is)
  (case l58=>k_is)
  (case c58=>k_is)
  (case k58=>k_is)
  (case a59=>k_is)
  (case l59=>k_is)
  (case c59=>k_is)
  (case k59=>k_is)
  (case a60=>k_is)
  (case l60=>k_is)
  (case c60=>k_is)
  (case k60=>k_is)
  (case a61=>k_is)
  (case l61=>k_is)
  (case c61=>k_is)
  (case k61=>k_is)
  (case a62=>k_is)
  (case l62=>k_is)
  (case c62=>k_is)
  (case k62=>k_is)
  (case a63=>k_is)
  (case l63=>k_is)
  (case c63=>k_is)
  (case k63=>k_is)
  (case pg_Book=>k_is)
  (case hd_Book=>k_is)
  (case po_Book=>k_is)
  (case sa_Book=>k_is)
  (case mk_Book=>k_is)
  (case kc_Book=>k_is)
  (case pg_Reader=>k_is)
  (case hd_Reader=>k_is)
  (case po_Reader=>k_is)
  (case sa_Reader=>k_is)
  (case mk_Reader=>k_is)
  (case kc_Reader=>k_is)
  (case oa_Book=>k_is)
  (case ob_Book=>k_is)
  (case oc_Book=>k_is)
  (case od_Book=>k_is)
  (case oe_Book=>first|kernel_rfl|rfl)
  (case of_Book=>k_is)
  (case nA_Book_kept=>k_is)
  (case nA_Reader_at=>k_is)
  (case nA_Reader_names_stand=>k_is)
  (case nA_Reader_words=>k_is)
  (case g_BINDERS=>k_is)
  (case lg_BINDERS=>k_is)
  (case vg_BINDERS=>exact(.cons (by first|rfl|exact⟨_,rfl⟩) (.cons (by first|rfl|exact⟨_,rfl⟩) .nil)))
  (case g_CAPITALS=>k_is)
  (case rg_CAPITALS=>first|rfl|exact⟨_,rfl⟩)
  (case g_FIGURES=>k_is)
  (case rg_FIGURES=>first|rfl|exact⟨_,rfl⟩)
  (case g_FRESH=>k_is)
  (case rg_FRESH=>first|rfl|exact⟨_,rfl⟩)
  (case g_GUARDS=>k_is)
  (case lg_GUARDS=>k_is)
  (case vg_GUARDS=>exact(.cons (by first|rfl|exact⟨_,rfl⟩) (.cons (by first|rfl|exact⟨_,rfl⟩) (.cons (by first|rfl|exact⟨_,rfl⟩) .nil))))
  (case g_LETTERS=>k_is)
  (case rg_LETTERS=>first|rfl|exact⟨_,rfl⟩)
  (case g_LISTS=>k_is)
  (case lg_LISTS=>k_is)
  (case vg_LISTS=>exact(.cons (by first|rfl|exact⟨_,rfl⟩) (.cons (by first|rfl|exact⟨_,rfl⟩) .nil)))
  (case g_MOST_FIGURES=>k_is)
  (case rg_MOST_FIGURES=>first|rfl|exact⟨_,rfl⟩)
  (case g_MOST_LETTERS=>k_is)
  (case rg_MOST_LETTERS=>first|rfl|exact⟨_,rfl⟩)
  (case g_MOST_MARKS=>k_is)
  (case rg_MOST_MARKS=>first|rfl|exact⟨_,rfl⟩)
  (case g_MOST_PARAMETERS=>k_is)
  (case rg_MOST_PARAMETERS=>first|rfl|exact⟨_,rfl⟩)
  (case g_RUNNING=>k_is)
  (case rg_RUNNING=>first|rfl|exact⟨_,rfl⟩)
  (case g_MARKS=>k_is)
  (case ld_MARKS=>k_is)
  (case sd_MARKS=>first|rfl|decide)
  (case td_MARKS=>exact(.cons ⟨_,rfl⟩ rfl (by first|rfl|exact⟨_,rfl⟩) (λ_=>(.int _)) (.cons ⟨_,rfl⟩ rfl (by first|rfl|exact⟨_,rfl⟩) (λ_=>(.int _)) (.cons ⟨_,rfl⟩ rfl (by first|rfl|exact⟨_,rfl⟩) (λ_=>(.int _)) (.cons ⟨_,rfl⟩ rfl (by first|rfl|exact⟨_,rfl⟩) (λ_=>(.int _)) (.cons ⟨_,rfl⟩ rfl (by first|rfl|exact⟨_,rfl⟩) (λ_=>(.int _)) (.cons ⟨_,rfl⟩ rfl (by first|rfl|exact⟨_,rfl⟩) (λ_=>(.int _)) .nil)))))))
  (case g_WRITERS=>k_is)
  (case ld_WRITERS=>k_is)
  (case sd_WRITERS=>first|rfl|decide)
  (case td_WRITERS=>exact(.cons (v:= .ref _) ⟨_,rfl⟩ rfl rfl (λ_=> .nam (Mir.EY (by k_is))) (.cons (v:= .ref _) ⟨_,rfl⟩ rfl rfl (λ_=> .nam (Mir.EY (by k_is))) (.cons (v:= .ref _) ⟨_,rfl⟩ rfl rfl (λ_=> .nam (Mir.EY (by k_is))) (.cons (v:= .ref _) ⟨_,rfl⟩ rfl rfl (λ_=> .nam (Mir.EY (by k_is))) (.cons (v:= .ref _) ⟨_,rfl⟩ rfl rfl (λ_=> .nam (Mir.EY (by k_is))) (.cons (v:= .ref _) ⟨_,rfl⟩ rfl rfl (λ_=> .nam (Mir.EY (by k_is))) (.cons (v:= .ref _) ⟨_,rfl⟩ rfl rfl (λ_=> .nam (Mir.EY (by k_is))) (.cons (v:= .ref _) ⟨_,rfl⟩ rfl rfl (λ_=> .nam (Mir.EY (by k_is))) (.cons (v:= .ref _) ⟨_,rfl⟩ rfl rfl (λ_=> .nam (Mir.EY (by k_is))) (.cons (v:= .ref _) ⟨_,rfl⟩ rfl rfl (λ_=> .nam (Mir.EY (by k_is))) .nil)))))))))))
  (case z_KeyError=>k_is)
  (case z_abs=>k_is)
  (case z_all=>k_is)
  (case z_any=>k_is)
  (case z_bool=>k_is)
  (case z_int=>k_is)
  (case z_isinstance=>k_is)
  (case z_len=>k_is)
  (case z_list=>k_is)
  (case z_max=>k_is)
  (case z_min=>k_is)
  (case z_range=>k_is)
  (case z_repr=>k_is)
  (case z_sorted=>k_is)
  (case z_str=>k_is)
  (case z_tuple=>k_is)
  (case tl_tq_Book___init___rows=>k_is)
  (case tv_tq_Book___init___rows=>exact .nil)
